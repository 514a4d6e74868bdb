import PyProof.Rows.All
import Wide.All
import OpenK.AllK
import Wide.FinOn
import HandS.ForMost
import HandS.ForExc
import HandS.Deep
import HandS.TupAny
import HandS.IsInst
import HandS.Wide
import HandS.TryMany
import KE.KExcSuper
import HandS.ExcInit
import HandS.ExcSuper
import HandS.ExcField
import KE.SortData
import HandS.Conv
import HandS.Style
import PySem.Challenge.RW_canalworks_k47_gauges_of_boats
set_option Elab.async false
set_option linter.all false
set_option maxRecDepth 100000
set_option maxHeartbeats 4000000
/-! VL: a layer of values over the hand layer. A piece of Python with its reading as a plain function of data. -/
namespace VL
open PySem PySem.Spec PyProof.Rows L2

abbrev D := PyData

/-- an exception: its class's name, its fields -/
structure Err where
  cls : Str
  fs : List (Str × D)

inductive Res (α : Type) where
  | ok (a : α)
  | ex (e : Err)
  | no

namespace Res
variable {α β : Type}
def bind : Res α → (α → Res β) → Res β
  | ok a, f => f a
  | ex e, _ => ex e
  | no, _ => no
@[simp] theorem ok_bind (a : α) (f : α → Res β) : (ok a).bind f = f a := rfl
@[simp] theorem ex_bind (e : Err) (f : α → Res β) : (ex e : Res α).bind f = ex e := rfl
@[simp] theorem no_bind (f : α → Res β) : (no : Res α).bind f = no := rfl
end Res

/-! ### heaps -/
structure Sub (H H' : Hp) : Prop where
  ob : ∀ a o, H a = some o → (∀ ps, o ≠ .tbl ps) → H' a = some o
  tb : ∀ a ps, H a = some (.tbl ps) → TriplesOk ps.toList → ∃ qs, H' a = some (.tbl qs) ∧ TriplesOk qs.toList
  dm : ∀ a, H a ≠ none → H' a ≠ none
theorem Sub.refl (H : Hp) : Sub H H := ⟨fun _ _ h _ => h, fun _ ps h t => ⟨ps, h, t⟩, fun _ h => h⟩
theorem Sub.trans {H H1 H2 : Hp} (a : Sub H H1) (b : Sub H1 H2) : Sub H H2 :=
  ⟨fun c o h n => b.ob c o (a.ob c o h n) n, fun c ps h t => by
    obtain ⟨qs, h1, t1⟩ := a.tb c ps h t
    exact b.tb c qs h1 t1, fun c h => b.dm c (a.dm c h)⟩
theorem Sub.lst {H H' : Hp} (s : Sub H H') {a : Addr} {xs : List V} (h : H a = some (.lst xs)) : H' a = some (.lst xs) := s.ob a _ h fun _ z => by cases z
theorem Sub.tup {H H' : Hp} (s : Sub H H') {a : Addr} {xs : List V} (h : H a = some (.tup xs)) : H' a = some (.tup xs) := s.ob a _ h fun _ z => by cases z
theorem Sub.xd {H H' : Hp} (s : Sub H H') {a : Addr} {xs : List (Str × V)} (h : H a = some (.xd xs)) : H' a = some (.xd xs) := s.ob a _ h fun _ z => by cases z
theorem Sub.free {H H' : Hp} (s : Sub H H') {a : Addr} (h : H' a = none) : H a = none := by
  cases q : H a with
  | none => rfl
  | some o => exact absurd h (s.dm a (by rw [q]; simp))
theorem Sub.sqL {K : PySem.W.Frag} {H H' : Hp} {a : Addr} {xs : List V} (s : Sub H H') (h : SqL K H a xs) : SqL K H' a xs := by
  rcases h with (h | ⟨o, h⟩) | h
  · exact .inl (.inl (s.lst h))
  · exact .inl (.inr ⟨o, s.ob _ _ h fun _ z => by cases z⟩)
  · exact .inr h
theorem Sub.sqT {K : PySem.W.Frag} {H H' : Hp} {a : Addr} {xs : List V} (s : Sub H H') (h : SqT K H a xs) : SqT K H' a xs := by
  rcases h with (h | ⟨o, h⟩) | h
  · exact .inl (.inl (s.tup h))
  · exact .inl (.inr ⟨o, s.ob _ _ h fun _ z => by cases z⟩)
  · exact .inr h
mutual
theorem Sub.dp {K : PySem.W.Frag} {H H' : Hp} (s : Sub H H') : ∀ (d : D) (v : V), Dp K H v d → Dp K H' v d
  | .none, _, h => by cases h; exact .non
  | .bool b, _, h => by cases h; exact .bl b
  | .int i, _, h => by cases h; exact .int i
  | .str x, _, h => by cases h; exact .str x
  | .list ds, _, h => by
    cases h with
    | lst a b => exact .lst (s.sqL a) (Sub.dpAll s ds _ b)
  | .tuple ds, _, h => by
    cases h with
    | tup a b => exact .tup (s.sqT a) (Sub.dpAll s ds _ b)
  | .dict _, _, h => by cases h
theorem Sub.dpAll {K : PySem.W.Frag} {H H' : Hp} (s : Sub H H') : ∀ (ds : List D) (vs : List V), DpAll K H vs ds → DpAll K H' vs ds
  | [], _, h => by cases h; exact .nil
  | d :: ds, _, h => by
    cases h with
    | cons a b => exact .cons (Sub.dp s d _ a) (Sub.dpAll s ds _ b)
end
end VL
namespace L2
open PySem PySem.Spec PyProof.Rows
theorem DpAll.len {K : PySem.W.Frag} {H : Hp} : ∀ {xs : List V} {ds : List PyData}, DpAll K H xs ds → xs.length = ds.length
  | _, _, .nil => rfl
  | _, _, .cons _ t => by rw [List.length_cons, List.length_cons, DpAll.len t]
theorem DpAll.get {K : PySem.W.Frag} {H : Hp} : ∀ {xs : List V} {ds : List PyData} {i : Nat} {x : V}, DpAll K H xs ds → xs[i]? = some x → ∃ d, ds[i]? = some d ∧ Dp K H x d
  | _, _, _, _, .nil, e => by simp at e
  | _, _, 0, _, .cons r _, e => by simp at e; subst e; exact ⟨_, rfl, r⟩
  | _, _, i + 1, x, .cons _ t, e => by
    obtain ⟨d, h1, h2⟩ := DpAll.get (i := i) (x := x) t (by simpa using e)
    exact ⟨d, by simpa using h1, h2⟩
theorem DpAll.at {K : PySem.W.Frag} {H : Hp} : ∀ {xs : List V} {ds : List PyData} {i : Nat} {d : PyData}, DpAll K H xs ds → ds[i]? = some d → ∃ x, xs[i]? = some x ∧ Dp K H x d
  | _, _, _, _, .nil, e => by simp at e
  | _, _, 0, _, .cons r _, e => by simp at e; subst e; exact ⟨_, rfl, r⟩
  | _, _, i + 1, d, .cons _ t, e => by
    obtain ⟨x, h1, h2⟩ := DpAll.at (i := i) (d := d) t (by simpa using e)
    exact ⟨x, by simpa using h1, h2⟩
theorem DpAll.append {K : PySem.W.Frag} {H : Hp} : ∀ {xs ys : List V} {ds es : List PyData}, DpAll K H xs ds → DpAll K H ys es → DpAll K H (xs ++ ys) (ds ++ es)
  | _, _, _, _, .nil, s => s
  | _, _, _, _, .cons r t, s => .cons r (DpAll.append t s)
theorem DpAll.set {K : PySem.W.Frag} {H : Hp} {x : V} {d : PyData} (r : Dp K H x d) : ∀ {xs : List V} {ds : List PyData} (i : Nat), DpAll K H xs ds → DpAll K H (xs.set i x) (ds.set i d)
  | _, _, _, .nil => .nil
  | _, _, 0, .cons _ t => .cons r t
  | _, _, i + 1, .cons q t => .cons q (DpAll.set r i t)
theorem DpAll.take {K : PySem.W.Frag} {H : Hp} : ∀ {xs : List V} {ds : List PyData} (n : Nat), DpAll K H xs ds → DpAll K H (xs.take n) (ds.take n)
  | _, _, 0, _ => .nil
  | _, _, _ + 1, .nil => .nil
  | _, _, n + 1, .cons r t => .cons r (DpAll.take n t)
theorem DpAll.drop {K : PySem.W.Frag} {H : Hp} : ∀ {xs : List V} {ds : List PyData} (n : Nat), DpAll K H xs ds → DpAll K H (xs.drop n) (ds.drop n)
  | _, _, 0, r => r
  | _, _, _ + 1, .nil => .nil
  | _, _, n + 1, .cons _ t => DpAll.drop n t
theorem DpAll.flat {K : PySem.W.Frag} {H : Hp} {xs : List V} {ds : List PyData} (h : DpAll K H xs ds) : ∀ n : Nat, DpAll K H (List.replicate n xs).flatten (List.replicate n ds).flatten
  | 0 => .nil
  | n + 1 => by
    rw [List.replicate_succ, List.replicate_succ, List.flatten_cons, List.flatten_cons]
    exact h.append (DpAll.flat h n)

end L2
namespace VL
open PySem PySem.Spec PyProof.Rows L2
/-- from (F, H) to (F', H'): F the frozen data, H all that is tracked: what is new in F' is new in H' -/
structure Grow (F H F' H' : Hp) : Prop where
  f : Sub F F'
  h : Sub H H'
  fh : Sub F' H'
  ag : ∀ a, H a ≠ none → F' a = F a
theorem Grow.refl {F H : Hp} (s : Sub F H) : Grow F H F H := ⟨Sub.refl F, Sub.refl H, s, fun _ _ => rfl⟩
theorem Grow.trans {F H F1 H1 F2 H2 : Hp} (a : Grow F H F1 H1) (b : Grow F1 H1 F2 H2) : Grow F H F2 H2 :=
  ⟨a.f.trans b.f, a.h.trans b.h, b.fh, fun c h => (b.ag c (a.h.dm c h)).trans (a.ag c h)⟩
theorem upd_sub {H : Hp} {p : Addr} {o : HO} (hp : H p = none) : Sub H (upd H p o) :=
  ⟨fun a u h _ => by rw [upd_ne (ne_of_none h hp)]; exact h, fun a ps h t => ⟨ps, by rw [upd_ne (ne_of_none h hp)]; exact h, t⟩, fun a h z => by
    unfold upd at z
    split at z
    · cases z
    · exact h z⟩
theorem upd_both {F H : Hp} {p : Addr} {o : HO} (s : Sub F H) (hp : F p = none) (ho : ∀ ps, o ≠ .tbl ps) : Sub (upd F p o) (upd H p o) :=
  ⟨fun a u h n => by
    by_cases e : a = p
    · subst e; rw [upd_same] at h ⊢; exact h
    · rw [upd_ne e] at h ⊢; exact s.ob a u h n, fun a ps h t => by
    by_cases e : a = p
    · subst e; rw [upd_same] at h; exact absurd (Option.some.inj h) (ho ps)
    · rw [upd_ne e] at h
      obtain ⟨qs, h1, t1⟩ := s.tb a ps h t
      exact ⟨qs, by rw [upd_ne e]; exact h1, t1⟩, fun a h z => by
    by_cases e : a = p
    · subst e; rw [upd_same] at z; cases z
    · rw [upd_ne e] at h z; exact s.dm a h z⟩
/-- a new frozen object -/
theorem Grow.new {F H : Hp} {p : Addr} {o : HO} (s : Sub F H) (hp : H p = none) (ho : ∀ ps, o ≠ .tbl ps) : Grow F H (upd F p o) (upd H p o) :=
  ⟨upd_sub (s.free hp), upd_sub hp, upd_both s (s.free hp) ho, fun a h => upd_ne fun e => h (by rw [e]; exact hp)⟩
theorem ntl {xs : List V} : ∀ ps, HO.lst xs ≠ .tbl ps := fun _ z => by cases z
theorem ntt {xs : List V} : ∀ ps, HO.tup xs ≠ .tbl ps := fun _ z => by cases z

/-! ### slots -/
inductive LV where
  /-- frozen data -/
  | fz (d : D)
  /-- a list that this body alone holds and may change -/
  | ow (ds : List D)
  /-- the error that an except suite holds -/
  | er (e : Err)
abbrev Rho := List (Option LV)

structure Bd where
  R : Hp
  F : Hp
  xi : Option (Addr × Value × Option Addr) := none
  mg : Str → Option Value := fun _ => none
def FsR (K : PySem.W.Frag) (F : Hp) (fs : List (Str × V)) (es : List (Str × D)) : Prop := ∀ f d, es.lookup f = some d → ∃ v, fs.lookup f = some v ∧ Dp K F v d
theorem FsR.grow {K : PySem.W.Frag} {F F' : Hp} (s : Sub F F') {fs : List (Str × V)} {es : List (Str × D)} (h : FsR K F fs es) : FsR K F' fs es := fun f d e => by
  obtain ⟨v, h1, h2⟩ := h f d e
  exact ⟨v, h1, s.dp _ _ h2⟩

def Slot (K : PySem.W.Frag) (B : Bd) (F H : Hp) (v : V) : LV → Prop
  | .fz d => Dp K F v d
  | .ow ds => ∃ a xs, v = .ref a ∧ H a = some (.lst xs) ∧ F a = none ∧ B.R a = none ∧ DpAll K F xs ds
  | .er e => ∃ a C dd fs, B.xi = some (a, .ref C, some dd) ∧ v = .ref a ∧ B.mg e.cls = some (.ref C) ∧ F dd = some (.xd fs) ∧ FsR K F fs e.fs
theorem Slot.grow {K : PySem.W.Frag} {B : Bd} {F H F' H' : Hp} (g : Grow F H F' H') {v : V} : ∀ {lv : LV}, Slot K B F H v lv → Slot K B F' H' v lv
  | .fz d, h => g.f.dp d v h
  | .ow ds, ⟨a, xs, e, h1, h2, h3, h4⟩ => ⟨a, xs, e, g.h.lst h1, (g.ag a (by rw [h1]; simp)).trans h2, h3, g.f.dpAll ds xs h4⟩
  | .er e, ⟨a, C, dd, fs, h0, h1, h2, h3, h4⟩ => ⟨a, C, dd, fs, h0, h1, h2, g.f.xd h3, h4.grow g.f⟩

/-- slot i holds a list of its own -/
def Own (ρ : Rho) (i : Nat) : Prop := ∃ ds, ρ[i]? = some (some (.ow ds))

structure Sta (K : PySem.W.Frag) (B : Bd) (ρ : Rho) (σ : L2.St) (F H : Hp) : Prop where
  len : ρ.length = σ.length
  g : Grow B.F B.R F H
  sl : ∀ (i : Nat) (lv : LV), ρ[i]? = some (some lv) → ∃ v, σ[i]? = some (some v) ∧ Slot K B F H v lv
  dj : ∀ (i j : Nat) (v : V), Own ρ i → Own ρ j → σ[i]? = some (some v) → σ[j]? = some (some v) → i = j
theorem Sta.fh {K : PySem.W.Frag} {B : Bd} {ρ : Rho} {σ : L2.St} {F H : Hp} (S : Sta K B ρ σ F H) : Sub F H := S.g.fh
theorem Sta.grow {K : PySem.W.Frag} {B : Bd} {ρ : Rho} {σ : L2.St} {F H F' H' : Hp} (S : Sta K B ρ σ F H) (g : Grow F H F' H') : Sta K B ρ σ F' H' :=
  ⟨S.len, S.g.trans g, fun i lv e => by
    obtain ⟨v, h1, h2⟩ := S.sl i lv e
    exact ⟨v, h1, h2.grow g⟩, S.dj⟩

/-- slot i is stored -/
theorem Sta.set {K : PySem.W.Frag} {B : Bd} {ρ : Rho} {σ : L2.St} {F H : Hp} (S : Sta K B ρ σ F H) {i : Nat} {v : V} {d : D} (h : Dp K F v d) : Sta K B (ρ.set i (some (.fz d))) (σ.set i (some v)) F H := by
  refine ⟨by rw [List.length_set, List.length_set, S.len], S.g, fun j lv e => ?_, fun j k u oj ok ej ek => ?_⟩
  · rw [List.getElem?_set] at e
    by_cases hij : i = j
    · subst hij
      rw [if_pos rfl] at e
      split at e
      · cases e
        exact ⟨v, by rw [List.getElem?_set_self (by rw [← S.len]; assumption)], h⟩
      · cases e
    · rw [if_neg hij] at e
      obtain ⟨u, h1, h2⟩ := S.sl j lv e
      exact ⟨u, by rw [List.getElem?_set_ne hij]; exact h1, h2⟩
  · obtain ⟨dj, oj⟩ := oj
    obtain ⟨dk, ok⟩ := ok
    have nj : i ≠ j := fun z => by
      subst z
      rw [List.getElem?_set] at oj
      simp only [if_true] at oj
      split at oj <;> simp at oj
    have nk : i ≠ k := fun z => by
      subst z
      rw [List.getElem?_set] at ok
      simp only [if_true] at ok
      split at ok <;> simp at ok
    rw [List.getElem?_set_ne nj] at oj ej
    rw [List.getElem?_set_ne nk] at ok ek
    exact S.dj j k u ⟨dj, oj⟩ ⟨dk, ok⟩ ej ek
/-- slot i is given a new list of its own -/
theorem Sta.setO {K : PySem.W.Frag} {B : Bd} {ρ : Rho} {σ : L2.St} {F H : Hp} (S : Sta K B ρ σ F H) {i : Nat} {a : Addr} {xs : List V} {ds : List D} (hH : H a = some (.lst xs)) (hF : F a = none) (hR : B.R a = none) (h : DpAll K F xs ds)
    (nw : ∀ j, Own ρ j → σ[j]? ≠ some (some (.ref a))) : Sta K B (ρ.set i (some (.ow ds))) (σ.set i (some (.ref a))) F H := by
  refine ⟨by rw [List.length_set, List.length_set, S.len], S.g, fun j lv e => ?_, fun j k u oj ok ej ek => ?_⟩
  · rw [List.getElem?_set] at e
    by_cases hij : i = j
    · subst hij
      rw [if_pos rfl] at e
      split at e
      · cases e
        exact ⟨.ref a, by rw [List.getElem?_set_self (by rw [← S.len]; assumption)], ⟨a, xs, rfl, hH, hF, hR, h⟩⟩
      · cases e
    · rw [if_neg hij] at e
      obtain ⟨u, h1, h2⟩ := S.sl j lv e
      exact ⟨u, by rw [List.getElem?_set_ne hij]; exact h1, h2⟩
  · by_cases hj : i = j
    · by_cases hk : i = k
      · exact hj.symm.trans hk
      · exfalso
        subst hj
        obtain ⟨dk, ok⟩ := ok
        rw [List.getElem?_set_ne hk] at ok ek
        rw [List.getElem?_set] at ej
        simp only [if_true] at ej
        split at ej
        · cases ej
          exact nw k ⟨dk, ok⟩ ek
        · cases ej
    · by_cases hk : i = k
      · exfalso
        subst hk
        obtain ⟨dj, oj⟩ := oj
        rw [List.getElem?_set_ne hj] at oj ej
        rw [List.getElem?_set] at ek
        simp only [if_true] at ek
        split at ek
        · cases ek
          exact nw j ⟨dj, oj⟩ ej
        · cases ek
      · obtain ⟨dj, oj⟩ := oj
        obtain ⟨dk, ok⟩ := ok
        rw [List.getElem?_set_ne hj] at oj ej
        rw [List.getElem?_set_ne hk] at ok ek
        exact S.dj j k u ⟨dj, oj⟩ ⟨dk, ok⟩ ej ek
/-- the list of slot i is changed -/
theorem Sta.mut {K : PySem.W.Frag} {B : Bd} {ρ : Rho} {σ : L2.St} {F H : Hp} (S : Sta K B ρ σ F H) {i : Nat} {a : Addr} {xs ys : List V} {ds es : List D} (hi : ρ[i]? = some (some (.ow ds))) (hs : σ[i]? = some (some (.ref a))) (hH : H a = some (.lst xs))
    (h : DpAll K F ys es) : Sta K B (ρ.set i (some (.ow es))) σ F (upd H a (.lst ys)) := by
  obtain ⟨v, h1, h2⟩ := S.sl i _ hi
  rw [hs] at h1
  cases h1
  obtain ⟨a', xs', e, hH', hF, hR, _⟩ := h2
  cases e
  have hne : ∀ b, F b ≠ none → b ≠ a := fun b n z => n (by rw [z]; exact hF)
  have hnr : ∀ b, B.R b ≠ none → b ≠ a := fun b n z => n (by rw [z]; exact hR)
  have G : Grow B.F B.R F (upd H a (.lst ys)) := by
    refine ⟨S.g.f, ⟨fun b o e n => ?_, fun b ps e t => ?_, fun b e => ?_⟩, ⟨fun b o e n => ?_, fun b ps e t => ?_, fun b e => ?_⟩, S.g.ag⟩
    · rw [upd_ne (hnr b (by rw [e]; simp))]; exact S.g.h.ob b o e n
    · rw [upd_ne (hnr b (by rw [e]; simp))]; exact S.g.h.tb b ps e t
    · rw [upd_ne (hnr b e)]; exact S.g.h.dm b e
    · rw [upd_ne (hne b (by rw [e]; simp))]; exact S.g.fh.ob b o e n
    · rw [upd_ne (hne b (by rw [e]; simp))]; exact S.g.fh.tb b ps e t
    · rw [upd_ne (hne b e)]; exact S.g.fh.dm b e
  have own : ∀ j, Own (ρ.set i (some (.ow es))) j → Own ρ j := fun j ⟨dj, oj⟩ => by
    by_cases hij : i = j
    · subst hij; exact ⟨ds, hi⟩
    · rw [List.getElem?_set_ne hij] at oj; exact ⟨dj, oj⟩
  refine ⟨by rw [List.length_set, S.len], G, fun j lv e => ?_, fun j k u oj ok => S.dj j k u (own j oj) (own k ok)⟩
  by_cases hij : i = j
  · subst hij
    rw [List.getElem?_set] at e
    simp only [if_true] at e
    split at e
    · cases e
      exact ⟨.ref a, hs, ⟨a, ys, rfl, upd_same, hF, hR, h⟩⟩
    · cases e
  · rw [List.getElem?_set_ne hij] at e
    obtain ⟨u, e1, e2⟩ := S.sl j lv e
    refine ⟨u, e1, ?_⟩
    cases lv with
    | fz d => exact e2
    | er _ => exact e2
    | ow d2 =>
      obtain ⟨b, zs, rfl, f1, f2, f3, f4⟩ := e2
      refine ⟨b, zs, rfl, ?_, f2, f3, f4⟩
      rw [upd_ne fun z => hij (S.dj i j _ ⟨ds, hi⟩ ⟨d2, e⟩ hs (by rw [← z]; exact e1))]
      exact f1
/-- a list of its own is frozen -/
def frz (i : Nat) (ρ : Rho) : Rho := match ρ[i]? with
  | some (some (.ow ds)) => ρ.set i (some (.fz (.list ds)))
  | _ => ρ
theorem Sta.frz {K : PySem.W.Frag} {B : Bd} {ρ : Rho} {σ : L2.St} {F H : Hp} (S : Sta K B ρ σ F H) (i : Nat) : ∃ F', Sub F F' ∧ Sta K B (frz i ρ) σ F' H := by
  unfold VL.frz
  split
  · rename_i ds e
    obtain ⟨v, h1, h2⟩ := S.sl i _ e
    obtain ⟨a, xs, rfl, hH, hF, hR, h4⟩ := h2
    have s1 : Sub F (upd F a (.lst xs)) := upd_sub hF
    refine ⟨upd F a (.lst xs), s1, by rw [List.length_set, S.len], ⟨S.g.f.trans s1, S.g.h, ⟨fun b o q n => ?_, fun b ps q t => ?_, fun b q => ?_⟩, fun b hb => ?_⟩, fun j lv q => ?_, fun j k u oj ok => ?_⟩
    · by_cases hb : b = a
      · subst hb; rw [upd_same] at q; rw [← q]; exact hH
      · rw [upd_ne hb] at q; exact S.fh.ob b o q n
    · by_cases hb : b = a
      · subst hb; rw [upd_same] at q; cases q
      · rw [upd_ne hb] at q; exact S.fh.tb b ps q t
    · by_cases hb : b = a
      · subst hb; rw [hH]; simp
      · rw [upd_ne hb] at q; exact S.fh.dm b q
    · rw [upd_ne fun z => hb (by rw [z]; exact hR)]
      exact S.g.ag b hb
    · by_cases hij : i = j
      · subst hij
        rw [List.getElem?_set] at q
        simp only [if_true] at q
        split at q
        · cases q
          exact ⟨.ref a, h1, .lst (.of upd_same) (s1.dpAll _ _ h4)⟩
        · cases q
      · rw [List.getElem?_set_ne hij] at q
        obtain ⟨u, e1, e2⟩ := S.sl j lv q
        refine ⟨u, e1, ?_⟩
        cases lv with
        | fz d => exact s1.dp _ _ e2
        | er _ => obtain ⟨a, C, dd, fs, h0, h1, h2, h3, h4⟩ := e2; exact ⟨a, C, dd, fs, h0, h1, h2, s1.xd h3, h4.grow s1⟩
        | ow d2 =>
          obtain ⟨b, zs, rfl, f1, f2, f3, f4⟩ := e2
          refine ⟨b, zs, rfl, f1, ?_, f3, s1.dpAll _ _ f4⟩
          rw [upd_ne fun z => hij (S.dj i j _ ⟨ds, e⟩ ⟨d2, q⟩ h1 (by rw [← z]; exact e1))]
          exact f2
    · have own : ∀ j, Own (ρ.set i (some (.fz (.list ds)))) j → Own ρ j := fun j ⟨dj, oj⟩ => by
        by_cases hij : i = j
        · subst hij; exact ⟨ds, e⟩
        · rw [List.getElem?_set_ne hij] at oj; exact ⟨dj, oj⟩
      exact S.dj j k u (own j oj) (own k ok)
  · exact ⟨F, Sub.refl F, S⟩
end VL

set_option Elab.async false
set_option linter.all false
set_option maxRecDepth 100000
set_option maxHeartbeats 4000000
namespace VL
open PySem PySem.Spec PyProof.Rows L2

/-! ### what is read: data, or a list of one's own that is only looked at -/
def RdV (K : PySem.W.Frag) (F H : Hp) (v : V) : D → Prop
  | .list ds => ∃ a xs, v = .ref a ∧ SqL K H a xs ∧ DpAll K F xs ds
  | d => Dp K F v d
theorem RdV.of {K : PySem.W.Frag} {F H : Hp} {v : V} {d : D} (s : Sub F H) (h : Dp K F v d) : RdV K F H v d := by
  cases d with
  | list ds => cases h with
    | lst a b => exact ⟨_, _, rfl, s.sqL a, b⟩
  | _ => exact h
theorem RdV.dpH {K : PySem.W.Frag} {F H : Hp} {v : V} {d : D} (s : Sub F H) (h : RdV K F H v d) : Dp K H v d := by
  cases d with
  | list ds => obtain ⟨a, xs, rfl, h1, h2⟩ := h; exact .lst h1 (s.dpAll _ _ h2)
  | _ => exact s.dp _ _ h
theorem RdV.grow {K : PySem.W.Frag} {F H F' H' : Hp} {v : V} {d : D} (g : Grow F H F' H') (h : RdV K F H v d) : RdV K F' H' v d := by
  cases d with
  | list ds => obtain ⟨a, xs, rfl, h1, h2⟩ := h; exact ⟨a, xs, rfl, g.h.sqL h1, g.f.dpAll _ _ h2⟩
  | _ => exact g.f.dp _ _ h

/-! ### judgements -/
/-- an exception may leave here -/
def XOk (X : Cx) (W : WX) (σ : L2.St) (F H : Hp) (e : Err) : Prop :=
  ∀ (C d : Addr) (fs : List (Str × V)) (F' H' : Hp), Grow F H F' H' → X.mg e.cls = some (.ref C) → F' d = some (.xd fs) → FsR X.K F' fs e.fs → W (.ref C) (some d) σ H'
theorem XOk.grow {X : Cx} {W : WX} {σ : L2.St} {F H F' H' : Hp} {e : Err} (g : Grow F H F' H') (h : XOk X W σ F H e) : XOk X W σ F' H' e :=
  fun C d fs F2 H2 g2 => h C d fs F2 H2 (g.trans g2)
def EPo (X : Cx) (W : WX) (σ : L2.St) (F H : Hp) (Q : VK) : Res D → Prop
  | .ok d => ∀ v F' H', Grow F H F' H' → Dp X.K F' v d → Q v H'
  | .ex e => XOk X W σ F H e
  | .no => False
def EPr (X : Cx) (W : WX) (σ : L2.St) (F H : Hp) (Q : VK) : Res D → Prop
  | .ok d => ∀ v F' H', Grow F H F' H' → RdV X.K F' H' v d → Q v H'
  | .ex e => XOk X W σ F H e
  | .no => False
def EPl (X : Cx) (W : WX) (σ : L2.St) (F H : Hp) (Q : VK) : Res (List D) → Prop
  | .ok ds => ∀ a xs F' H', Grow F H F' H' → H' a = some (.lst xs) → F' a = none → H a = none → DpAll X.K F' xs ds → Q (.ref a) H'
  | .ex e => XOk X W σ F H e
  | .no => False
def EPt (X : Cx) (W : WX) (σ : L2.St) (F H : Hp) (Q : Bool → Hp → Prop) : Res Bool → Prop
  | .ok b => ∀ F' H', Grow F H F' H' → Q b H'
  | .ex e => XOk X W σ F H e
  | .no => False
def EPa (X : Cx) (W : WX) (σ : L2.St) (F H : Hp) (Q : List V → Hp → Prop) : Res (List D) → Prop
  | .ok ds => ∀ vs F' H', Grow F H F' H' → DpAll X.K F' vs ds → Q vs H'
  | .ex e => XOk X W σ F H e
  | .no => False
/-- an expression: frozen data -/
structure PVE (X : Cx) (B : Bd) (W : WX) (e : Expr) (f : Rho → Res D) : Prop where
  ex : ∃ te, PE X e te ∧ ∀ ρ σ F H Q, Sta X.K B ρ σ F H → EPo X W σ F H Q (f ρ) → te σ H Q
/-- an expression that is read -/
structure PVR (X : Cx) (B : Bd) (W : WX) (e : Expr) (f : Rho → Res D) : Prop where
  ex : ∃ te, PE X e te ∧ ∀ ρ σ F H Q, Sta X.K B ρ σ F H → EPr X W σ F H Q (f ρ) → te σ H Q
/-- an expression: a new list -/
structure PVO (X : Cx) (B : Bd) (W : WX) (e : Expr) (f : Rho → Res (List D)) : Prop where
  ex : ∃ te, PE X e te ∧ ∀ ρ σ F H Q, Sta X.K B ρ σ F H → EPl X W σ F H Q (f ρ) → te σ H Q
/-- a test -/
structure PVT (X : Cx) (B : Bd) (W : WX) (e : Expr) (f : Rho → Res Bool) : Prop where
  ex : ∃ te, PT X e te ∧ ∀ ρ σ F H Q, Sta X.K B ρ σ F H → EPt X W σ F H Q (f ρ) → te σ H Q
/-- a test within and, or -/
structure PVW (X : Cx) (B : Bd) (W : WX) (e : Expr) (f : Rho → Res Bool) : Prop where
  ex : ∃ te, PW X e te ∧ ∀ ρ σ F H Q, Sta X.K B ρ σ F H → EPt X W σ F H Q (f ρ) → te σ H Q
/-- arguments -/
structure PVA (X : Cx) (B : Bd) (W : WX) (es : List Expr) (f : Rho → Res (List D)) : Prop where
  len : ∀ ρ ds, f ρ = .ok ds → ds.length = es.length
  ex : ∃ te, PA X es te ∧ ∀ ρ σ F H Q, Sta X.K B ρ σ F H → EPa X W σ F H Q (f ρ) → te σ H Q

section
variable {X : Cx} {B : Bd} {W : WX} {a b c e : Expr} {es : List Expr} {fa fb fc f : Rho → Res D} {pos : Pos}

theorem PVE.rd (h : PVE X B W e f) : PVR X B W e f := by
  obtain ⟨te, h1, h2⟩ := h.ex
  refine ⟨te, h1, fun ρ σ F H Q S q => h2 ρ σ F H Q S ?_⟩
  revert q
  cases f ρ with
  | ok d => exact fun q v F' H' g r => q v F' H' g (.of g.fh r)
  | ex e => exact id
  | no => exact id
def lstD : Res (List D) → Res D
  | .ok ds => .ok (.list ds)
  | .ex e => .ex e
  | .no => .no
@[simp] theorem lstD_ok (ds : List D) : lstD (.ok ds) = .ok (.list ds) := rfl
@[simp] theorem lstD_ex (e : Err) : lstD (.ex e) = .ex e := rfl
@[simp] theorem lstD_no : lstD .no = .no := rfl
theorem lst_frz {σ : L2.St} {F H : Hp} {Q : VK} {ds : List D} (q : EPo X W σ F H Q (.ok (.list ds))) : EPl X W σ F H Q (.ok ds) := by
  intro a xs F' H' g hH hF hn r
  have s1 : Sub F' (upd F' a (.lst xs)) := upd_sub hF
  refine q (.ref a) (upd F' a (.lst xs)) H' ⟨g.f.trans s1, g.h, ⟨fun b o q n => ?_, fun b ps q t => ?_, fun b q => ?_⟩, fun b hb => ?_⟩ (.lst (.of upd_same) (s1.dpAll _ _ r))
  · by_cases hb : b = a
    · subst hb; rw [upd_same] at q; rw [← q]; exact hH
    · rw [upd_ne hb] at q; exact g.fh.ob b o q n
  · by_cases hb : b = a
    · subst hb; rw [upd_same] at q; cases q
    · rw [upd_ne hb] at q; exact g.fh.tb b ps q t
  · by_cases hb : b = a
    · subst hb; rw [hH]; simp
    · rw [upd_ne hb] at q; exact g.fh.dm b q
  · rw [upd_ne fun z => hb (by rw [z]; exact hn)]
    exact g.ag b hb
theorem PVO.v {f : Rho → Res (List D)} (h : PVO X B W e f) : PVE X B W e (fun ρ => lstD (f ρ)) := by
  obtain ⟨te, h1, h2⟩ := h.ex
  refine ⟨te, h1, fun ρ σ F H Q S q => h2 ρ σ F H Q S ?_⟩
  revert q
  cases f ρ with
  | ok ds => exact lst_frz
  | ex e => exact id
  | no => exact id

/-! ### names, constants -/
def var (i : Nat) (ρ : Rho) : Res D := match ρ[i]? with
  | some (some (.fz d)) => .ok d
  | _ => .no
def varR (i : Nat) (ρ : Rho) : Res D := match ρ[i]? with
  | some (some (.fz d)) => .ok d
  | some (some (.ow ds)) => .ok (.list ds)
  | _ => .no
theorem pv_var (i : Nat) {x : Str} (hN : X.N[i]? = some x := by rfl) (hv : Vis X.env.scope x := by first | exact Or.inl rfl | exact Or.inr (Or.inl rfl) | exact Or.inr (Or.inr rfl)) (hd : (x == ("__debug__" : Str)) = false := by decide)
    (hcd : (x == ("__classdict__" : Str)) = false := by decide) : PVE X B W (.Name x pos) (var i) := by
  refine ⟨tVar i, pe_var hN hv hd hcd, fun ρ σ F H Q S => ?_⟩
  unfold var
  split
  · rename_i d e
    intro q
    obtain ⟨v, h1, h2⟩ := S.sl i _ e
    exact ⟨v, h1, q v F H (.refl S.fh) h2⟩
  · exact False.elim
theorem pr_var (i : Nat) {x : Str} (hN : X.N[i]? = some x := by rfl) (hv : Vis X.env.scope x := by first | exact Or.inl rfl | exact Or.inr (Or.inl rfl) | exact Or.inr (Or.inr rfl)) (hd : (x == ("__debug__" : Str)) = false := by decide)
    (hcd : (x == ("__classdict__" : Str)) = false := by decide) : PVR X B W (.Name x pos) (varR i) := by
  refine ⟨tVar i, pe_var hN hv hd hcd, fun ρ σ F H Q S => ?_⟩
  unfold varR
  split
  · rename_i d e
    intro q
    obtain ⟨v, h1, h2⟩ := S.sl i _ e
    exact ⟨v, h1, q v F H (.refl S.fh) (.of S.fh h2)⟩
  · rename_i d e
    intro q
    obtain ⟨v, h1, h2⟩ := S.sl i _ e
    obtain ⟨a, xs, rfl, hH, hF, hR, h4⟩ := h2
    exact ⟨_, h1, q _ F H (.refl S.fh) ⟨a, xs, rfl, .of hH, h4⟩⟩
  · exact False.elim
theorem pv_c {te : TE} {d : D} (h : PE X e te) (ht : ∀ σ H Q, (∀ v, (∀ K F, Dp K F v d) → Q v H) → te σ H Q) : PVE X B W e (fun _ => .ok d) :=
  ⟨te, h, fun ρ σ F H Q S q => ht σ H Q fun v hv => q v F H (.refl S.fh) (hv _ _)⟩
theorem pv_int {i : Int} {j} : PVE X B W (.Constant (.int i) j pos) (fun _ => .ok (.int i)) := pv_c pe_int fun _ _ _ h => h _ fun _ _ => .int i
theorem pv_bl {k : Bool} {j} : PVE X B W (.Constant (.bool k) j pos) (fun _ => .ok (.bool k)) := pv_c pe_bl fun _ _ _ h => h _ fun _ _ => .bl k
theorem pv_non {j} : PVE X B W (.Constant .none j pos) (fun _ => .ok .none) := pv_c pe_non fun _ _ _ h => h _ fun _ _ => .non
theorem pv_str {x : Str} {j} : PVE X B W (.Constant (.str x) j pos) (fun _ => .ok (.str x)) := pv_c pe_str fun _ _ _ h => h _ fun _ _ => .str x
/-- a module's constant -/
theorem pv_gint {x : Str} {i : Int} {t : Tok} (hm : X.mg x = some (.int i t)) (hg : Gl X x := by rfl) (hd : (x == ("__debug__" : Str)) = false := by decide) : PVE X B W (.Name x pos) (fun _ => .ok (.int i)) :=
  pv_c (pe_glob (v := .int i) hg hm ⟨t, rfl⟩ hd) fun _ _ _ h => h _ fun _ _ => .int i
theorem pv_gstr {x : Str} {i : Str} {t : Tok} (hm : X.mg x = some (.str i t)) (hg : Gl X x := by rfl) (hd : (x == ("__debug__" : Str)) = false := by decide) : PVE X B W (.Name x pos) (fun _ => .ok (.str i)) :=
  pv_c (pe_glob (v := .str i) hg hm ⟨t, rfl⟩ hd) fun _ _ _ h => h _ fun _ _ => .str i

/-! ### operators by data -/
def Res.of {α : Type} : Option α → Res α
  | some a => .ok a
  | none => .no
@[simp] theorem Res.of_some {α : Type} (a : α) : Res.of (some a) = .ok a := rfl
@[simp] theorem Res.of_none {α : Type} : Res.of (none : Option α) = .no := rfl
/-- the operator's rule serves the function of data -/
def OpV (K : PySem.W.Frag) (r : R2) (g : D → D → Option D) : Prop := ∀ x y F H Q a b d, Sub F H → RdV K F H x a → RdV K F H y b → g a b = some d → (∀ v F' H', Grow F H F' H' → Dp K F' v d → Q v H') → r x y H Q
def OpB (K : PySem.W.Frag) (r : R2) (g : D → D → Option Bool) : Prop := ∀ x y F H Q a b k, Sub F H → RdV K F H x a → RdV K F H y b → g a b = some k → (∀ F' H', Grow F H F' H' → Q (.bl k) H') → r x y H Q
def bin (fa fb : Rho → Res D) (g : D → D → Option D) (ρ : Rho) : Res D := (fa ρ).bind fun x => (fb ρ).bind fun y => Res.of (g x y)
def binB (fa fb : Rho → Res D) (g : D → D → Option Bool) (ρ : Rho) : Res Bool := (fa ρ).bind fun x => (fb ρ).bind fun y => Res.of (g x y)
theorem two {ta tb : TE} {R : V → V → Hp → Prop} {β : Type} {h : D → D → Res β} {Z : Hp → Hp → Res β → Prop} {ρ : Rho} {σ : L2.St} {F H : Hp} (S : Sta X.K B ρ σ F H)
    (ha : ∀ ρ σ F H Q, Sta X.K B ρ σ F H → EPr X W σ F H Q (fa ρ) → ta σ H Q) (hb : ∀ ρ σ F H Q, Sta X.K B ρ σ F H → EPr X W σ F H Q (fb ρ) → tb σ H Q)
    (zx : ∀ F H e, Z F H (.ex e) → XOk X W σ F H e) (zn : ∀ F H, Z F H .no → False) (zg : ∀ F H F' H' r, Grow F H F' H' → Z F H r → Z F' H' r)
    (q : Z F H ((fa ρ).bind fun x => (fb ρ).bind fun y => h x y)) (hR : ∀ x y a b F' H', Grow F H F' H' → RdV X.K F' H' x a → RdV X.K F' H' y b → Z F' H' (h a b) → R x y H') :
    ta σ H fun x H1 => tb σ H1 fun y H2 => R x y H2 := by
  refine ha ρ σ F H _ S ?_
  cases ea : fa ρ with
  | no => rw [ea] at q; exact zn _ _ q
  | ex e => rw [ea] at q; exact zx _ _ _ q
  | ok da =>
    rw [ea] at q
    intro x F1 H1 g1 r1
    refine hb ρ σ F1 H1 _ (S.grow g1) ?_
    cases eb : fb ρ with
    | no => rw [eb] at q; exact zn _ _ q
    | ex e => rw [eb] at q; exact zx _ _ _ (zg _ _ _ _ _ g1 q)
    | ok db =>
      rw [eb] at q
      intro y F2 H2 g2 r2
      exact hR x y da db F2 H2 (g1.trans g2) (r1.grow g2) r2 (zg _ _ _ _ _ (g1.trans g2) q)
theorem EPo.grow {σ : L2.St} {F H F' H' : Hp} {Q : VK} {r : Res D} (g : Grow F H F' H') (h : EPo X W σ F H Q r) : EPo X W σ F' H' Q r := by
  cases r with
  | ok d => exact fun v F2 H2 g2 => h v F2 H2 (g.trans g2)
  | ex e => exact XOk.grow g h
  | no => exact h
theorem EPt.grow {σ : L2.St} {F H F' H' : Hp} {Q : Bool → Hp → Prop} {r : Res Bool} (g : Grow F H F' H') (h : EPt X W σ F H Q r) : EPt X W σ F' H' Q r := by
  cases r with
  | ok d => exact fun F2 H2 g2 => h F2 H2 (g.trans g2)
  | ex e => exact XOk.grow g h
  | no => exact h
theorem EPa.grow {σ : L2.St} {F H F' H' : Hp} {Q : List V → Hp → Prop} {r : Res (List D)} (g : Grow F H F' H') (h : EPa X W σ F H Q r) : EPa X W σ F' H' Q r := by
  cases r with
  | ok d => exact fun v F2 H2 g2 => h v F2 H2 (g.trans g2)
  | ex e => exact XOk.grow g h
  | no => exact h
theorem pv_bin {op : Operator} {r : R2} {g : D → D → Option D} (ho : OpR X (binaryOp op) r) (hv : OpV X.K r g) (ha : PVR X B W a fa) (hb : PVR X B W b fb) : PVE X B W (.BinOp a op b pos) (bin fa fb g) := by
  obtain ⟨ta, a1, a2⟩ := ha.ex
  obtain ⟨tb, b1, b2⟩ := hb.ex
  refine ⟨_, pe_op ho a1 b1, fun ρ σ F H Q S q => ?_⟩
  refine two (Z := fun F H r => EPo X W σ F H Q r) (R := fun x y H => r x y H Q) (h := fun x y => Res.of (g x y)) S a2 b2 (fun _ _ _ z => z) (fun _ _ z => z) (fun _ _ _ _ _ g z => z.grow g) q fun x y da db F' H' gr r1 r2 z => ?_
  cases e : g da db with
  | none => rw [e] at z; exact z.elim
  | some d => rw [e] at z; exact hv x y F' H' Q da db d gr.fh r1 r2 e z
/-- a comparison as a test, as a value -/
theorem pt_cmp {op : CmpOp} {r : R2} {g : D → D → Option Bool} (ho : OpR X (compareOp op) r) (hv : OpB X.K r g) (ha : PVR X B W a fa) (hb : PVR X B W b fb) (hm : behindInMarks op b = false) : PVT X B W (.Compare a [op] [b] pos) (binB fa fb g) := by
  obtain ⟨ta, a1, a2⟩ := ha.ex
  obtain ⟨tb, b1, b2⟩ := hb.ex
  refine ⟨_, pt_cmpR ho a1 b1 hm, fun ρ σ F H Q S q => ?_⟩
  refine two (Z := fun F H r => EPt X W σ F H Q r) (R := fun x y H => r x y H _) (h := fun x y => Res.of (g x y)) S a2 b2 (fun _ _ _ z => z) (fun _ _ z => z) (fun _ _ _ _ _ g z => z.grow g) q fun x y da db F' H' gr r1 r2 z => ?_
  cases e : g da db with
  | none => rw [e] at z; exact z.elim
  | some d => rw [e] at z; exact hv x y F' H' _ da db d gr.fh r1 r2 e fun F2 H2 g2 => ⟨d, rfl, z F2 H2 g2⟩
def vB (f : Rho → Res Bool) (ρ : Rho) : Res D := (f ρ).bind fun k => .ok (.bool k)
theorem pv_cmp {op : CmpOp} {r : R2} {g : D → D → Option Bool} (ho : OpR X (compareOp op) r) (hv : OpB X.K r g) (ha : PVR X B W a fa) (hb : PVR X B W b fb) (hm : behindInMarks op b = false) : PVE X B W (.Compare a [op] [b] pos) (vB (binB fa fb g)) := by
  obtain ⟨ta, a1, a2⟩ := ha.ex
  obtain ⟨tb, b1, b2⟩ := hb.ex
  refine ⟨_, pe_cmpR ho a1 b1 hm, fun ρ σ F H Q S q => ?_⟩
  refine two (Z := fun F H r => EPo X W σ F H Q (r.bind fun k => .ok (.bool k))) (R := fun x y H => r x y H _) (h := fun x y => Res.of (g x y)) S a2 b2 (fun _ _ _ z => z) (fun _ _ z => z) (fun _ _ _ _ _ g z => z.grow g) q fun x y da db F' H' gr r1 r2 z => ?_
  cases e : g da db with
  | none => rw [e] at z; exact z.elim
  | some d => rw [e] at z; exact hv x y F' H' _ da db d gr.fh r1 r2 e fun F2 H2 g2 => z _ F2 H2 g2 (.bl d)

/-! ### tests -/
theorem PVW.t {f : Rho → Res Bool} (h : PVW X B W e f) : PVT X B W e f := by
  obtain ⟨t, h1, h2⟩ := h.ex
  exact ⟨t, h1.pt, h2⟩
def andT (f g : Rho → Res Bool) (ρ : Rho) : Res Bool := (f ρ).bind fun k => if k = true then g ρ else .ok false
def orT (f g : Rho → Res Bool) (ρ : Rho) : Res Bool := (f ρ).bind fun k => if k = true then .ok true else g ρ
def notT (f : Rho → Res Bool) (ρ : Rho) : Res Bool := (f ρ).bind fun k => .ok (!k)
variable {f1 f2 : Rho → Res Bool} {rest : List Expr}
theorem pw_and1 (ha : PVT X B W a f1) : PVW X B W (.BoolOp .And [a] pos) f1 := by
  obtain ⟨t, h1, h2⟩ := ha.ex
  exact ⟨t, L2.pw_and1 h1, h2⟩
theorem pw_or1 (ha : PVT X B W a f1) : PVW X B W (.BoolOp .Or [a] pos) f1 := by
  obtain ⟨t, h1, h2⟩ := ha.ex
  exact ⟨t, L2.pw_or1 h1, h2⟩
theorem pw_and (ha : PVT X B W a f1) (hb : PVW X B W (.BoolOp .And (b :: rest) pos) f2) : PVW X B W (.BoolOp .And (a :: b :: rest) pos) (andT f1 f2) := by
  obtain ⟨t, h1, h2⟩ := ha.ex
  obtain ⟨u, k1, k2⟩ := hb.ex
  refine ⟨_, L2.pw_and h1 k1, fun ρ σ F H Q S q => h2 ρ σ F H _ S ?_⟩
  unfold andT at q
  cases e : f1 ρ with
  | no => rw [e] at q; exact q
  | ex e' => rw [e] at q; exact q
  | ok k =>
    rw [e] at q
    intro F1 H1 g1
    cases k with
    | true => rw [if_pos rfl]; exact k2 ρ σ F1 H1 Q (S.grow g1) (EPt.grow (W := W) (X := X) (σ := σ) g1 q)
    | false => rw [if_neg (by decide)]; exact q F1 H1 g1
theorem pw_or (ha : PVT X B W a f1) (hb : PVW X B W (.BoolOp .Or (b :: rest) pos) f2) : PVW X B W (.BoolOp .Or (a :: b :: rest) pos) (orT f1 f2) := by
  obtain ⟨t, h1, h2⟩ := ha.ex
  obtain ⟨u, k1, k2⟩ := hb.ex
  refine ⟨_, L2.pw_or h1 k1, fun ρ σ F H Q S q => h2 ρ σ F H _ S ?_⟩
  unfold orT at q
  cases e : f1 ρ with
  | no => rw [e] at q; exact q
  | ex e' => rw [e] at q; exact q
  | ok k =>
    rw [e] at q
    intro F1 H1 g1
    cases k with
    | true => rw [if_pos rfl]; exact q F1 H1 g1
    | false => rw [if_neg (by decide)]; exact k2 ρ σ F1 H1 Q (S.grow g1) (EPt.grow (W := W) (X := X) (σ := σ) g1 q)
theorem pt_not (ha : PVT X B W a f1) : PVT X B W (.UnaryOp .Not a pos) (notT f1) := by
  obtain ⟨t, h1, h2⟩ := ha.ex
  refine ⟨_, L2.pt_not h1, fun ρ σ F H Q S q => h2 ρ σ F H _ S ?_⟩
  unfold notT at q
  revert q
  cases f1 ρ <;> exact id
/-- a value that is a bool, as a test -/
def isB (f : Rho → Res D) (ρ : Rho) : Res Bool := (f ρ).bind fun d => match d with | .bool k => .ok k | _ => .no
theorem pt_val (h : PVE X B W e f) (he : ∀ whole, isTrue e X.env whole = (do let v ← whole; standAt e.pos; holding [v] (truthy v)) := by intro _; rfl) : PVT X B W e (isB f) := by
  obtain ⟨t, h1, h2⟩ := h.ex
  refine ⟨_, L2.pt_val h1 he, fun ρ σ F H Q S q => h2 ρ σ F H _ S ?_⟩
  unfold isB at q
  cases e : f ρ with
  | no => rw [e] at q; exact q
  | ex e' => rw [e] at q; exact q
  | ok d =>
    rw [e] at q
    cases d with
    | bool k =>
      intro v F' H' g r
      cases r
      exact ⟨k, rfl, q F' H' g⟩
    | _ => exact q.elim
/-- .. as values -/
def andV (f g : Rho → Res D) (ρ : Rho) : Res D := (f ρ).bind fun d => match d with | .bool true => g ρ | .bool false => .ok (.bool false) | _ => .no
def orV (f g : Rho → Res D) (ρ : Rho) : Res D := (f ρ).bind fun d => match d with | .bool true => .ok (.bool true) | .bool false => g ρ | _ => .no
def notV (f : Rho → Res D) (ρ : Rho) : Res D := (f ρ).bind fun d => match d with | .bool k => .ok (.bool (!k)) | _ => .no
theorem pv_one {op} (h : PVE X B W a fa) : PVE X B W (.BoolOp op [a] pos) fa := by
  obtain ⟨t, h1, h2⟩ := h.ex
  exact ⟨t, pe_one h1, h2⟩
theorem pv_and (ha : PVE X B W a fa) (hb : PVE X B W (.BoolOp .And (b :: rest) pos) fb) : PVE X B W (.BoolOp .And (a :: b :: rest) pos) (andV fa fb) := by
  obtain ⟨t, h1, h2⟩ := ha.ex
  obtain ⟨u, k1, k2⟩ := hb.ex
  refine ⟨_, pe_and h1 k1, fun ρ σ F H Q S q => h2 ρ σ F H _ S ?_⟩
  unfold andV at q
  cases e : fa ρ with
  | no => rw [e] at q; exact q
  | ex e' => rw [e] at q; exact q
  | ok d =>
    rw [e] at q
    intro v F1 H1 g1 r1
    cases d with
    | bool k =>
      cases r1
      refine ⟨k, rfl, ?_⟩
      cases k with
      | true => rw [if_pos rfl]; exact k2 ρ σ F1 H1 Q (S.grow g1) (EPo.grow (W := W) (X := X) (σ := σ) g1 q)
      | false => rw [if_neg (by decide)]; exact q _ F1 H1 g1 (.bl false)
    | _ => exact q.elim
theorem pv_or (ha : PVE X B W a fa) (hb : PVE X B W (.BoolOp .Or (b :: rest) pos) fb) : PVE X B W (.BoolOp .Or (a :: b :: rest) pos) (orV fa fb) := by
  obtain ⟨t, h1, h2⟩ := ha.ex
  obtain ⟨u, k1, k2⟩ := hb.ex
  refine ⟨_, pe_or h1 k1, fun ρ σ F H Q S q => h2 ρ σ F H _ S ?_⟩
  unfold orV at q
  cases e : fa ρ with
  | no => rw [e] at q; exact q
  | ex e' => rw [e] at q; exact q
  | ok d =>
    rw [e] at q
    intro v F1 H1 g1 r1
    cases d with
    | bool k =>
      cases r1
      refine ⟨k, rfl, ?_⟩
      cases k with
      | true => rw [if_pos rfl]; exact q _ F1 H1 g1 (.bl true)
      | false => rw [if_neg (by decide)]; exact k2 ρ σ F1 H1 Q (S.grow g1) (EPo.grow (W := W) (X := X) (σ := σ) g1 q)
    | _ => exact q.elim
theorem pv_not (ha : PVE X B W a fa) : PVE X B W (.UnaryOp .Not a pos) (notV fa) := by
  obtain ⟨t, h1, h2⟩ := ha.ex
  refine ⟨_, pe_not h1, fun ρ σ F H Q S q => h2 ρ σ F H _ S ?_⟩
  unfold notV at q
  cases e : fa ρ with
  | no => rw [e] at q; exact q
  | ex e' => rw [e] at q; exact q
  | ok d =>
    rw [e] at q
    intro v F1 H1 g1 r1
    cases d with
    | bool k => cases r1; exact ⟨k, rfl, q _ F1 H1 g1 (.bl _)⟩
    | _ => exact q.elim
def ifV (t : Rho → Res Bool) (f g : Rho → Res D) (ρ : Rho) : Res D := (t ρ).bind fun k => if k = true then f ρ else g ρ
theorem pv_if (hc : PVT X B W c f1) (ha : PVE X B W a fa) (hb : PVE X B W b fb) : PVE X B W (.IfExp c a b pos) (ifV f1 fa fb) := by
  obtain ⟨t, h1, h2⟩ := hc.ex
  obtain ⟨u, k1, k2⟩ := ha.ex
  obtain ⟨w, l1, l2⟩ := hb.ex
  refine ⟨_, pe_ifExp h1 k1 l1, fun ρ σ F H Q S q => h2 ρ σ F H _ S ?_⟩
  unfold ifV at q
  cases e : f1 ρ with
  | no => rw [e] at q; exact q
  | ex e' => rw [e] at q; exact q
  | ok k =>
    rw [e] at q
    intro F1 H1 g1
    cases k with
    | true => rw [if_pos rfl]; exact k2 ρ σ F1 H1 Q (S.grow g1) (EPo.grow (W := W) (X := X) (σ := σ) g1 q)
    | false => rw [if_neg (by decide)]; exact l2 ρ σ F1 H1 Q (S.grow g1) (EPo.grow (W := W) (X := X) (σ := σ) g1 q)

/-! ### arguments, displays -/
theorem pa_nil : PVA X B W [] (fun _ => .ok []) := ⟨fun ρ ds e => by cases e; rfl, _, L2.pa_nil, fun ρ σ F H Q S q => q [] F H (.refl S.fh) .nil⟩
def consA (f : Rho → Res D) (g : Rho → Res (List D)) (ρ : Rho) : Res (List D) := (f ρ).bind fun d => (g ρ).bind fun ds => .ok (d :: ds)
theorem pa_cons {g : Rho → Res (List D)} (ha : PVE X B W e f) (hr : PVA X B W es g) (hs : starEach (e :: es) X.env = (false, eval e X.env) :: starEach es X.env := by rfl) : PVA X B W (e :: es) (consA f g) := by
  obtain ⟨t, h1, h2⟩ := ha.ex
  obtain ⟨u, k1, k2⟩ := hr.ex
  refine ⟨fun ρ ds z => ?_, _, L2.pa_cons h1 k1 hs, fun ρ σ F H Q S q => h2 ρ σ F H _ S ?_⟩
  · unfold consA at z
    cases e : f ρ with
    | no => rw [e] at z; cases z
    | ex e' => rw [e] at z; cases z
    | ok d =>
      cases e2 : g ρ with
      | no => rw [e, e2] at z; cases z
      | ex e' => rw [e, e2] at z; cases z
      | ok ds' => rw [e, e2] at z; cases z; rw [List.length_cons, List.length_cons, hr.len ρ ds' e2]
  unfold consA at q
  cases e : f ρ with
  | no => rw [e] at q; exact q
  | ex e' => rw [e] at q; exact q
  | ok d =>
    rw [e] at q
    intro v F1 H1 g1 r1
    refine k2 ρ σ F1 H1 _ (S.grow g1) ?_
    cases e2 : g ρ with
    | no => rw [e2] at q; exact q
    | ex e' => rw [e2] at q; exact XOk.grow g1 q
    | ok ds =>
      rw [e2] at q
      intro vs F2 H2 g2 r2
      exact q (v :: vs) F2 H2 (g1.trans g2) (.cons (g2.f.dp _ _ r1) r2)
def tupV (g : Rho → Res (List D)) (ρ : Rho) : Res D := (g ρ).bind fun ds => if ds.length ≤ sizeLine then .ok (.tuple ds) else .no
def lstO (g : Rho → Res (List D)) (ρ : Rho) : Res (List D) := (g ρ).bind fun ds => if ds.length ≤ sizeLine then .ok ds else .no
theorem pv_tup {x1} {g : Rho → Res (List D)} (h : PVA X B W es g) : PVE X B W (.Tuple es x1 pos) (tupV g) := by
  obtain ⟨t, h1, h2⟩ := h.ex
  refine ⟨_, pe_tup h1, fun ρ σ F H Q S q => h2 ρ σ F H _ S ?_⟩
  unfold tupV at q
  cases e : g ρ with
  | no => rw [e] at q; exact q
  | ex e' => rw [e] at q; exact q
  | ok ds =>
    rw [e] at q
    intro vs F1 H1 g1 r1
    simp only [Res.ok_bind] at q
    by_cases hl : ds.length ≤ sizeLine
    · rw [if_pos hl] at q
      refine ⟨by rw [r1.len]; exact hl, fun p hp => ?_⟩
      have g2 := Grow.new (o := .tup vs) g1.fh hp ntt
      exact q _ _ _ (g1.trans g2) (.tup (.of upd_same) (g2.f.dpAll _ _ r1))
    · rw [if_neg hl] at q; exact q.elim
theorem pv_lst {g : Rho → Res (List D)} (h : PVA X B W es g) : PVO X B W (.List es pos) (lstO g) := by
  obtain ⟨t, h1, h2⟩ := h.ex
  refine ⟨_, pe_lst h1, fun ρ σ F H Q S q => h2 ρ σ F H _ S ?_⟩
  unfold lstO at q
  cases e : g ρ with
  | no => rw [e] at q; exact q
  | ex e' => rw [e] at q; exact q
  | ok ds =>
    rw [e] at q
    intro vs F1 H1 g1 r1
    simp only [Res.ok_bind] at q
    by_cases hl : ds.length ≤ sizeLine
    · rw [if_pos hl] at q
      refine ⟨by rw [r1.len]; exact hl, fun p hp => ?_⟩
      exact q p vs F1 (upd H1 p (.lst vs)) ⟨g1.f, g1.h.trans (upd_sub hp), g1.fh.trans (upd_sub hp), g1.ag⟩ upd_same (g1.fh.free hp) (g1.h.free hp) r1
    · rw [if_neg hl] at q; exact q.elim
end
end VL

set_option Elab.async false
set_option linter.all false
set_option maxRecDepth 100000
set_option maxHeartbeats 4000000
namespace VL
open PySem PySem.Spec PyProof.Rows L2

/-! ### operators -/
section
variable {X : Cx}
def rCatS (K : PySem.W.Frag) : R2 := fun x y H Q => ∃ l b xs zs, x = .ref l ∧ y = .ref b ∧ SqL K H l xs ∧ SqL K H b zs ∧ xs.length + zs.length ≤ sizeLine ∧ ∀ p, H p = none → Q (.ref p) (upd H p (.lst (xs ++ zs)))
theorem op_catS : OpR X (binaryOp .Add) (rCatS X.K) := by
  intro pins s σ H x y v u Q I rx ry h
  obtain ⟨l, b, xs, zs, rfl, rfl, hH, hB, hz, q⟩ := h
  cases rx
  cases ry
  obtain ⟨its, r, ⟨⟨cls, dd, data, sl⟩, n, ho, hc, _, hd⟩, z⟩ := I.list hH
  obtain ⟨its2, r2, ⟨⟨cls2, dd2, data2, sl2⟩, n2, ho2, hc2, _, hd2⟩, z2⟩ := I.list hB
  simp only at hc hd hc2 hd2
  subst hc hd hc2 hd2
  have l1 := r.length
  have l2 := r2.length
  refine concat_meets ⟨_, ho, rfl⟩ ⟨_, ho2, rfl⟩ noFill_list_add seq_list_add PySem.F.slot_list_add PySem.F.entry_list_add (PySem.F.args_list_add_2 _ _) (list_addW l b its.toArray its2.toArray n n2 dd dd2 sl sl2 (by simp; omega)) ⟨ho, ho2, ?_⟩
  have ea : its.toArray ++ its2.toArray = (its ++ its2).toArray := by simp
  rw [ea]
  exact ⟨.ref _, _, I.lnew (t' := s.toks) (r.append r2) (by rw [List.length_append]; omega), rfl, q _ I.fresh⟩
end
def dAdd : D → D → Option D
  | .int i, .int j => some (.int (i + j))
  | .str a, .str b => if a.length + b.length ≤ sizeLine then some (.str (a ++ b)) else none
  | .list xs, .list ys => if xs.length + ys.length ≤ sizeLine then some (.list (xs ++ ys)) else none
  | .tuple xs, .tuple ys => if xs.length + ys.length ≤ sizeLine then some (.tuple (xs ++ ys)) else none
  | _, _ => none
def dCat : D → D → Option (List D)
  | .list xs, .list ys => if xs.length + ys.length ≤ sizeLine then some (xs ++ ys) else none
  | _, _ => none
def dSub : D → D → Option D
  | .int i, .int j => some (.int (i - j))
  | _, _ => none
instance (i j : Int) : Decidable (CMulW i j) := by unfold CMulW; infer_instance
instance (i j : Int) : Decidable (CDivW i j) := by unfold CDivW; infer_instance
instance (i j : Int) : Decidable (CPow i j) := by unfold CPow; infer_instance
def dMul : D → D → Option D
  | .int i, .int j => if CMulW i j then some (.int (i * j)) else none
  | _, _ => none
def dDiv : D → D → Option D
  | .int i, .int j => if CDivW i j then some (.int (i / j)) else none
  | _, _ => none
def dMod : D → D → Option D
  | .int i, .int j => if 0 < j then some (.int (i % j)) else none
  | _, _ => none
def dPow : D → D → Option D
  | .int i, .int j => if CPow i j then some (.int (i ^ j.toNat)) else none
  | _, _ => none

section
variable {K : PySem.W.Frag}
theorem ov_int2 {C : Int → Int → Prop} [∀ i j, Decidable (C i j)] {h : Int → Int → Int} {g : D → D → Option D} (hg : ∀ a b d, g a b = some d → ∃ i j, a = .int i ∧ b = .int j ∧ C i j ∧ d = .int (h i j)) : OpV K (rI C fun i j => .int (h i j)) g := by
  intro x y F H Q a b d s ra rb e q
  obtain ⟨i, j, rfl, rfl, c, rfl⟩ := hg a b d e
  cases ra
  cases rb
  exact ⟨i, j, rfl, rfl, c, q _ F H (.refl s) (.int _)⟩
theorem ov_sub : OpV K (rI0 fun i j => .int (i - j)) dSub := by
  intro x y F H Q a b d s ra rb e q
  unfold dSub at e
  split at e
  · cases e; cases ra; cases rb
    exact ⟨_, _, rfl, rfl, q _ F H (.refl s) (.int _)⟩
  · cases e
theorem ov_mul : OpV K (rI CMulW fun i j => .int (i * j)) dMul := ov_int2 fun a b d e => by
  unfold dMul at e
  split at e
  · split at e
    · cases e; exact ⟨_, _, rfl, rfl, by assumption, rfl⟩
    · cases e
  · cases e
theorem ov_div : OpV K (rI CDivW fun i j => .int (i / j)) dDiv := ov_int2 fun a b d e => by
  unfold dDiv at e
  split at e
  · split at e
    · cases e; exact ⟨_, _, rfl, rfl, by assumption, rfl⟩
    · cases e
  · cases e
theorem ov_mod : OpV K (rI (fun _ j => 0 < j) fun i j => .int (i % j)) dMod := ov_int2 fun a b d e => by
  unfold dMod at e
  split at e
  · split at e
    · cases e; exact ⟨_, _, rfl, rfl, by assumption, rfl⟩
    · cases e
  · cases e
theorem ov_pow : OpV K (rI CPow fun i j => .int (i ^ j.toNat)) dPow := ov_int2 fun a b d e => by
  unfold dPow at e
  split at e
  · split at e
    · cases e; exact ⟨_, _, rfl, rfl, by assumption, rfl⟩
    · cases e
  · cases e
theorem dpa_nil_iff {H : Hp} {xs : List V} {ds : List D} (h : DpAll K H xs ds) : xs = [] ↔ ds = [] := by
  cases h <;> simp
/-- a + b -/
def rAddA (K : PySem.W.Frag) : R2 := fun x y H Q => rI0 (fun i j => .int (i + j)) x y H Q ∨ (∃ i j, x = .str i ∧ y = .str j ∧ i.length + j.length ≤ sizeLine ∧ Q (.str (i ++ j)) H) ∨ rCatS K x y H Q ∨ rCatA K x y H Q
theorem op_addA {X : Cx} : OpR X (binaryOp .Add) (rAddA X.K) := op_add.or (op_add_str.or (op_catS.or op_catA))
theorem ov_add : OpV K (rAddA K) dAdd := by
  intro x y F H Q a b d s ra rb e q
  unfold dAdd at e
  split at e
  · cases e; cases ra; cases rb
    exact .inl ⟨_, _, rfl, rfl, q _ F H (.refl s) (.int _)⟩
  · split at e
    · cases e; cases ra; cases rb
      exact .inr (.inl ⟨_, _, rfl, rfl, by assumption, q _ F H (.refl s) (.str _)⟩)
    · cases e
  · split at e
    · rename_i hl
      cases e
      obtain ⟨p1, xs, rfl, h1, r1⟩ := ra
      obtain ⟨p2, ys, rfl, h2, r2⟩ := rb
      refine .inr (.inr (.inl ⟨_, _, _, _, rfl, rfl, h1, h2, by rw [r1.len, r2.len]; exact hl, fun p hp => ?_⟩))
      have g2 := Grow.new (o := .lst (xs ++ ys)) s hp ntl
      exact q _ _ _ g2 (.lst (.of upd_same) (g2.f.dpAll _ _ (r1.append r2)))
    · cases e
  · split at e
    · rename_i hl
      cases e
      cases ra with
      | tup h1 r1 =>
        cases rb with
        | tup h2 r2 =>
          refine .inr (.inr (.inr ⟨_, _, _, _, rfl, rfl, s.sqT h1, s.sqT h2, by rw [r1.len, r2.len]; exact hl, fun h0 => ?_, fun h0 h0' => ?_, fun h0 h0' p hp => ?_⟩))
          · have e1 := (dpa_nil_iff r1).mp h0
            subst e1
            exact q _ F H (.refl s) (.tup h2 r2)
          · have e1 := (dpa_nil_iff r2).mp h0'
            subst e1
            rw [List.append_nil] at q
            exact q _ F H (.refl s) (.tup h1 r1)
          · exact q _ _ _ (Grow.new s hp ntt) (.tup (.of upd_same) ((Grow.new s hp ntt).f.dpAll _ _ (r1.append r2)))
    · cases e
  · cases e
end

/-! ### comparisons -/
def dLt : D → D → Option Bool
  | .int i, .int j => some (decide (i < j))
  | .str i, .str j => some (decide (i.cps.toList < j.cps.toList))
  | _, _ => none
def dLe : D → D → Option Bool
  | .int i, .int j => some (decide (i ≤ j))
  | _, _ => none
def dGt : D → D → Option Bool
  | .int i, .int j => some (decide (j < i))
  | _, _ => none
def dGe : D → D → Option Bool
  | .int i, .int j => some (decide (j ≤ i))
  | _, _ => none
def dEq (a b : D) : Option Bool := if SeqAt.shaped a = true ∧ SeqAt.shaped b = true then some (PyData.eqv a b) else none
def dNe (a b : D) : Option Bool := if SeqAt.shaped a = true ∧ SeqAt.shaped b = true then some (!PyData.eqv a b) else none
def dIsN : D → D → Option Bool
  | .none, .none => some true
  | _, .none => some false
  | _, _ => none
def dNotN : D → D → Option Bool
  | .none, .none => some false
  | _, .none => some true
  | _, _ => none
def rLtA : R2 := fun x y H Q => rI0 (fun i j => .bl (decide (i < j))) x y H Q ∨ (∃ i j, x = .str i ∧ y = .str j ∧ Q (.bl (decide (i.cps.toList < j.cps.toList))) H)
theorem op_ltA {X : Cx} : OpR X (compareOp .Lt) rLtA := op_lt.or op_lt_str
section
variable {K : PySem.W.Frag}
theorem ob_lt : OpB K rLtA dLt := by
  intro x y F H Q a b d s ra rb e q
  unfold dLt at e
  split at e
  · cases e; cases ra; cases rb
    exact .inl ⟨_, _, rfl, rfl, q F H (.refl s)⟩
  · cases e; cases ra; cases rb
    exact .inr ⟨_, _, rfl, rfl, q F H (.refl s)⟩
  · cases e
theorem ob_le : OpB K (rI0 fun i j => .bl (decide (i ≤ j))) dLe := by
  intro x y F H Q a b d s ra rb e q
  unfold dLe at e
  split at e
  · cases e; cases ra; cases rb
    exact ⟨_, _, rfl, rfl, q F H (.refl s)⟩
  · cases e
theorem ob_gt : OpB K (rI0 fun i j => .bl (decide (j < i))) dGt := by
  intro x y F H Q a b d s ra rb e q
  unfold dGt at e
  split at e
  · cases e; cases ra; cases rb
    exact ⟨_, _, rfl, rfl, q F H (.refl s)⟩
  · cases e
theorem ob_ge : OpB K (rI0 fun i j => .bl (decide (j ≤ i))) dGe := by
  intro x y F H Q a b d s ra rb e q
  unfold dGe at e
  split at e
  · cases e; cases ra; cases rb
    exact ⟨_, _, rfl, rfl, q F H (.refl s)⟩
  · cases e
theorem ob_eq : OpB K (rEqD K) dEq := by
  intro x y F H Q a b d s ra rb e q
  unfold dEq at e
  split at e
  · rename_i h
    cases e
    exact ⟨a, b, ra.dpH s, rb.dpH s, h.1, h.2, q F H (.refl s)⟩
  · cases e
theorem ob_ne : OpB K (rNeD K) dNe := by
  intro x y F H Q a b d s ra rb e q
  unfold dNe at e
  split at e
  · rename_i h
    cases e
    exact ⟨a, b, ra.dpH s, rb.dpH s, h.1, h.2, q F H (.refl s)⟩
  · cases e
theorem rdv_non {F H : Hp} {x : V} {a : D} (h : RdV K F H x a) : (x = .non) ↔ a = .none := by
  cases a with
  | list ds => obtain ⟨p, xs, rfl, _⟩ := h; simp
  | _ => cases h <;> simp
theorem ob_isN : OpB K (fun x y H Q => y = .non ∧ Q (.bl (decide (x = .non))) H) dIsN := by
  intro x y F H Q a b d s ra rb e q
  have hx := rdv_non ra
  have hb : b = .none := by cases b <;> cases a <;> simp [dIsN] at e <;> rfl
  subst hb
  cases rb
  refine ⟨rfl, ?_⟩
  have : decide (x = .non) = d := by
    cases a <;> simp [dIsN] at e <;> subst e <;> simp [hx]
  rw [this]
  exact q F H (.refl s)
theorem ob_notN : OpB K (fun x y H Q => y = .non ∧ Q (.bl (!decide (x = .non))) H) dNotN := by
  intro x y F H Q a b d s ra rb e q
  have hx := rdv_non ra
  have hb : b = .none := by cases b <;> cases a <;> simp [dNotN] at e <;> rfl
  subst hb
  cases rb
  refine ⟨rfl, ?_⟩
  have : (!decide (x = .non)) = d := by
    cases a <;> simp [dNotN] at e <;> subst e <;> simp [hx]
  rw [this]
  exact q F H (.refl s)
end

/-! ### in, not in: a list or a tuple of data of any depth; a text in a text -/
def inD (d : D) (ds : List D) : Bool := ds.any fun e => PyData.eqv e d
def inS (i j : Str) : Bool := !(Builtin.Str.occurrences j i 0 j.length 1).isEmpty
def dIn : D → D → Option Bool
  | d, .list ds => if SeqAt.shaped d = true ∧ SeqAt.shaped (.list ds) = true then some (inD d ds) else none
  | d, .tuple ds => if SeqAt.shaped d = true ∧ SeqAt.shaped (.tuple ds) = true then some (inD d ds) else none
  | .str i, .str j => some (inS i j)
  | _, _ => none
def dNotIn (a b : D) : Option Bool := (dIn a b).map (!·)
section
variable {X : Cx}
def rInT (K : PySem.W.Frag) : R2 := fun x y H Q => ∃ d ds, Dp K H x d ∧ Dp K H y (.tuple ds) ∧ SeqAt.shaped d = true ∧ SeqAt.shaped (.tuple ds) = true ∧ Q (.bl (inD d ds)) H
def rNotInT (K : PySem.W.Frag) : R2 := fun x y H Q => ∃ d ds, Dp K H x d ∧ Dp K H y (.tuple ds) ∧ SeqAt.shaped d = true ∧ SeqAt.shaped (.tuple ds) = true ∧ Q (.bl (!inD d ds)) H
theorem room_in {A : Around} {d : D} {ds : List D} (h : SeqAt.shaped d = true) (hu : A.units + 65 < cLine) : A.units + 1 + min (PyData.depthAll ds) d.depth < cLine := by
  have h1 := SeqAt.depth_of_shaped h
  have h2 : min (PyData.depthAll ds) d.depth ≤ d.depth := Nat.min_le_right _ _
  omega
theorem op_inT (hu : X.A.units + 65 < cLine) : OpR X (compareOp .In) (rInT X.K) := by
  intro pins s σ H x y v u Q I rx ry h
  obtain ⟨d, ds, hd, he, sd, se, q⟩ := h
  obtain ⟨as, r1⟩ := Dp.reads I d x v hd rx
  obtain ⟨bs, r2⟩ := Dp.reads I (.tuple ds) y u he ry
  exact SeqAt.in_tuple_reads r2 r1 (SeqAt.canLay_of_shaped se) (SeqAt.canLay_of_shaped sd) (room_in sd hu) ⟨.bl _, H, I, rfl, q⟩
theorem op_notInT (hu : X.A.units + 65 < cLine) : OpR X (compareOp .NotIn) (rNotInT X.K) := by
  intro pins s σ H x y v u Q I rx ry h
  obtain ⟨d, ds, hd, he, sd, se, q⟩ := h
  obtain ⟨as, r1⟩ := Dp.reads I d x v hd rx
  obtain ⟨bs, r2⟩ := Dp.reads I (.tuple ds) y u he ry
  exact SeqAt.notIn_tuple_reads r2 r1 (SeqAt.canLay_of_shaped se) (SeqAt.canLay_of_shaped sd) (room_in sd hu) ⟨.bl _, H, I, rfl, q⟩
def rInA (K : PySem.W.Frag) : R2 := fun x y H Q => rInD K x y H Q ∨ rInT K x y H Q ∨ (∃ i j, x = .str i ∧ y = .str j ∧ Q (.bl (!(Builtin.Str.occurrences j i 0 j.length 1).isEmpty)) H)
def rNotInA (K : PySem.W.Frag) : R2 := fun x y H Q => rNotInD K x y H Q ∨ rNotInT K x y H Q ∨ (∃ i j, x = .str i ∧ y = .str j ∧ Q (.bl (!(!(Builtin.Str.occurrences j i 0 j.length 1).isEmpty))) H)
theorem op_inA (hu : X.A.units + 65 < cLine) : OpR X (compareOp .In) (rInA X.K) := (op_inD hu).or ((op_inT hu).or op_in_str)
theorem op_notInA (hu : X.A.units + 65 < cLine) : OpR X (compareOp .NotIn) (rNotInA X.K) := (op_notInD hu).or ((op_notInT hu).or op_notIn_str)
variable {K : PySem.W.Frag}
theorem dIn_cases {a b : D} {k : Bool} (e : dIn a b = some k) :
    (∃ ds, b = .list ds ∧ SeqAt.shaped a = true ∧ SeqAt.shaped (.list ds) = true ∧ k = inD a ds) ∨ (∃ ds, b = .tuple ds ∧ SeqAt.shaped a = true ∧ SeqAt.shaped (.tuple ds) = true ∧ k = inD a ds) ∨ ∃ i j, a = .str i ∧ b = .str j ∧ k = inS i j := by
  unfold dIn at e
  split at e
  · split at e
    · rename_i h; cases e; exact .inl ⟨_, rfl, h.1, h.2, rfl⟩
    · cases e
  · split at e
    · rename_i h; cases e; exact .inr (.inl ⟨_, rfl, h.1, h.2, rfl⟩)
    · cases e
  · cases e; exact .inr (.inr ⟨_, _, rfl, rfl, rfl⟩)
  · cases e
theorem ob_in : OpB K (rInA K) dIn := by
  intro x y F H Q a b d s ra rb e q
  rcases dIn_cases e with ⟨ds, rfl, h1, h2, rfl⟩ | ⟨ds, rfl, h1, h2, rfl⟩ | ⟨i, j, rfl, rfl, rfl⟩
  · exact .inl ⟨a, ds, ra.dpH s, rb.dpH s, h1, h2, q F H (.refl s)⟩
  · exact .inr (.inl ⟨a, ds, ra.dpH s, rb.dpH s, h1, h2, q F H (.refl s)⟩)
  · cases ra; cases rb
    exact .inr (.inr ⟨_, _, rfl, rfl, q F H (.refl s)⟩)
theorem ob_notIn : OpB K (rNotInA K) dNotIn := by
  intro x y F H Q a b d s ra rb e q
  unfold dNotIn at e
  obtain ⟨k, e1, rfl⟩ := Option.map_eq_some_iff.mp e
  rcases dIn_cases e1 with ⟨ds, rfl, h1, h2, rfl⟩ | ⟨ds, rfl, h1, h2, rfl⟩ | ⟨i, j, rfl, rfl, rfl⟩
  · exact .inl ⟨a, ds, ra.dpH s, rb.dpH s, h1, h2, q F H (.refl s)⟩
  · exact .inr (.inl ⟨a, ds, ra.dpH s, rb.dpH s, h1, h2, q F H (.refl s)⟩)
  · cases ra; cases rb
    exact .inr (.inr ⟨_, _, rfl, rfl, q F H (.refl s)⟩)
end

/-! ### one operand; subscripts; slices -/
section
variable {X : Cx} {B : Bd} {W : WX} {a b c e : Expr} {es : List Expr} {fa fb fc f : Rho → Res D} {pos : Pos}
def dNeg : D → Option D
  | .int i => some (.int (-i))
  | _ => none
def un (fa : Rho → Res D) (g : D → Option D) (ρ : Rho) : Res D := (fa ρ).bind fun x => Res.of (g x)
theorem pv_neg (ha : PVR X B W a fa) : PVE X B W (.UnaryOp .USub a pos) (un fa dNeg) := by
  obtain ⟨ta, a1, a2⟩ := ha.ex
  refine ⟨_, pe_un un_neg a1, fun ρ σ F H Q S q => a2 ρ σ F H _ S ?_⟩
  unfold un at q
  cases e : fa ρ with
  | no => rw [e] at q; exact q
  | ex e' => rw [e] at q; exact q
  | ok d =>
    rw [e] at q
    intro v F1 H1 g1 r1
    cases d with
    | int i => cases r1; exact ⟨i, rfl, q _ F1 H1 g1 (.int _)⟩
    | _ => exact q.elim
def dIx : D → D → Option D
  | .list ds, .int i => atI ds i
  | .tuple ds, .int i => atI ds i
  | .str z, .int i => if z.length ≤ sizeLine then (atI z.cps.toList i).map fun c => .str ⟨#[c]⟩ else none
  | _, _ => none
theorem atI_dp {K : PySem.W.Frag} {H : Hp} {xs : List V} {ds : List D} (h : DpAll K H xs ds) {i : Int} {d : D} (e : atI ds i = some d) : ∃ v, atI xs i = some v ∧ Dp K H v d := by
  unfold atI at e ⊢
  rw [h.len]
  cases hj : ixN ds.length i with
  | none => rw [hj] at e; cases e
  | some j =>
    rw [hj] at e
    exact h.at e
theorem ov_ix {K : PySem.W.Frag} : OpV K (rIx K) dIx := by
  intro x y F H Q a b d s ra rb e q
  unfold dIx at e
  split at e
  · cases rb
    obtain ⟨p, xs, rfl, h1, r1⟩ := ra
    obtain ⟨v, h2, r2⟩ := atI_dp r1 e
    exact .inl ⟨p, xs, _, v, rfl, rfl, h1, h2, q v F H (.refl s) r2⟩
  · cases rb
    cases ra with
    | tup h1 r1 =>
      obtain ⟨v, h2, r2⟩ := atI_dp r1 e
      exact .inr (.inl ⟨_, _, _, v, rfl, rfl, s.sqT h1, h2, q v F H (.refl s) r2⟩)
  · cases ra; cases rb
    split at e
    · obtain ⟨c, e1, rfl⟩ := Option.map_eq_some_iff.mp e
      exact .inr (.inr ⟨_, _, c, rfl, rfl, by assumption, e1, q _ F H (.refl s) (.str _)⟩)
    · cases e
  · cases e
theorem pv_ix (ha : PVR X B W a fa) (hb : PVR X B W b fb) (hs : PlainIx b := by exact fun _ _ => rfl) : PVE X B W (.Subscript a b pos) (bin fa fb dIx) := by
  obtain ⟨ta, a1, a2⟩ := ha.ex
  obtain ⟨tb, b1, b2⟩ := hb.ex
  refine ⟨_, pe_ix ix_seq a1 b1 hs, fun ρ σ F H Q S q => ?_⟩
  refine two (Z := fun F H r => EPo X W σ F H Q r) (R := fun x y H => rIx X.K x y H Q) (h := fun x y => Res.of (dIx x y)) S a2 b2 (fun _ _ _ z => z) (fun _ _ z => z) (fun _ _ _ _ _ g z => z.grow g) q fun x y da db F' H' gr r1 r2 z => ?_
  cases e : dIx da db with
  | none => rw [e] at z; exact z.elim
  | some d => rw [e] at z; exact ov_ix x y F' H' Q da db d gr.fh r1 r2 e z

/-- an optional bound of a slice -/
structure PVP (X : Cx) (B : Bd) (W : WX) (e : Option Expr) (f : Rho → Res (Option Int)) : Prop where
  ex : ∃ te, PO X e te ∧ ∀ ρ σ F H (Q : Option Int → Hp → Prop), Sta X.K B ρ σ F H → (match f ρ with
    | .ok o => ∀ F' H', Grow F H F' H' → Q o H'
    | .ex e => XOk X W σ F H e
    | .no => False) → te σ H Q
theorem pp_no : PVP X B W none (fun _ => .ok none) := ⟨_, po_none, fun ρ σ F H Q S q => q F H (.refl S.fh)⟩
def asI (f : Rho → Res D) (ρ : Rho) : Res (Option Int) := (f ρ).bind fun d => match d with | .int i => .ok (some i) | _ => .no
theorem pp_some (h : PVR X B W e f) : PVP X B W (some e) (asI f) := by
  obtain ⟨t, h1, h2⟩ := h.ex
  refine ⟨_, po_some h1, fun ρ σ F H Q S q => h2 ρ σ F H _ S ?_⟩
  unfold asI at q
  cases e : f ρ with
  | no => rw [e] at q; exact q
  | ex e' => rw [e] at q; exact q
  | ok d =>
    rw [e] at q
    intro v F1 H1 g1 r1
    cases d with
    | int i => cases r1; exact ⟨i, rfl, q F1 H1 g1⟩
    | _ => exact q.elim
def cutD (ds : List D) (lo hi : Option Int) : List D := (ds.drop (HT.sIx ds.length 0 lo)).take (HT.sIx ds.length ds.length hi - HT.sIx ds.length 0 lo)
theorem cut_dp {K : PySem.W.Frag} {H : Hp} {xs : List V} {ds : List D} (h : DpAll K H xs ds) (lo hi : Option Int) : DpAll K H (cutV xs lo hi) (cutD ds lo hi) := by
  unfold cutV cutD
  rw [h.len]
  exact (h.drop _).take _
def dSl : D → Option Int → Option Int → Option D
  | .list ds, lo, hi => some (.list (cutD ds lo hi))
  | .tuple ds, lo, hi => some (.tuple (cutD ds lo hi))
  | _, _, _ => none
def slc (f : Rho → Res D) (l h : Rho → Res (Option Int)) (ρ : Rho) : Res D := (f ρ).bind fun d => (l ρ).bind fun lo => (h ρ).bind fun hi => Res.of (dSl d lo hi)
theorem cutD_whole {ds : List D} {lo hi : Option Int} (h : HT.sIx ds.length 0 lo = 0 ∧ HT.sIx ds.length ds.length hi = ds.length) : cutD ds lo hi = ds := by
  unfold cutD
  rw [h.1, h.2]
  simp
def rSlAll (K : PySem.W.Frag) : V → Option Int → Option Int → Hp → VK → Prop := fun x lo hi H Q => rSlL K x lo hi H Q ∨ rSlA K x lo hi H Q
theorem pv_slice {l h : Rho → Res (Option Int)} {lo hi : Option Expr} {p2 : Pos} (he : PVR X B W e f) (hl : PVP X B W lo l) (hh : PVP X B W hi h) : PVE X B W (.Subscript e (.Slice lo hi none p2) pos) (slc f l h) := by
  obtain ⟨t, h1, h2⟩ := he.ex
  obtain ⟨u, k1, k2⟩ := hl.ex
  obtain ⟨w, m1, m2⟩ := hh.ex
  refine ⟨_, pe_slice (r := rSlAll X.K) (sl_list.or sl_tupA) h1 k1 m1, fun ρ σ F H Q S q => h2 ρ σ F H _ S ?_⟩
  unfold slc at q
  cases e : f ρ with
  | no => rw [e] at q; exact q
  | ex e' => rw [e] at q; exact q
  | ok d =>
    rw [e] at q
    intro v F1 H1 g1 r1
    refine k2 ρ σ F1 H1 _ (S.grow g1) ?_
    cases e2 : l ρ with
    | no => rw [e2] at q; exact q
    | ex e' => rw [e2] at q; exact XOk.grow g1 q
    | ok lo =>
      rw [e2] at q
      intro F2 H2 g2
      refine m2 ρ σ F2 H2 _ (S.grow (g1.trans g2)) ?_
      cases e3 : h ρ with
      | no => rw [e3] at q; exact q
      | ex e' => rw [e3] at q; exact XOk.grow (g1.trans g2) q
      | ok hi =>
        rw [e3] at q
        intro F3 H3 g3
        have g := g1.trans (g2.trans g3)
        have r := r1.grow (g2.trans g3)
        cases d with
        | list ds =>
          obtain ⟨p, xs, rfl, h1, r⟩ := r
          refine .inl ⟨p, xs, rfl, h1, fun b hb => ?_⟩
          have g4 := Grow.new (o := .lst (cutV xs lo hi)) g.fh hb ntl
          exact q _ _ _ (g.trans g4) (.lst (.of upd_same) (g4.f.dpAll _ _ (cut_dp r lo hi)))
        | tuple ds =>
          cases r with
          | tup h1 r =>
            refine .inr ⟨_, _, rfl, g.fh.sqT h1, fun hw => ?_, fun hw b hb => ?_⟩
            · rw [r.len] at hw
              refine q _ _ _ g ?_
              show Dp X.K F3 _ (.tuple (cutD ds lo hi))
              rw [cutD_whole hw]
              exact .tup h1 r
            · refine q _ _ _ (g.trans (Grow.new g.fh hb ntt)) (.tup (.of upd_same) ((Grow.new g.fh hb ntt).f.dpAll _ _ (cut_dp r lo hi)))
        | _ => exact q.elim
end
end VL

set_option Elab.async false
set_option linter.all false
set_option maxRecDepth 100000
set_option maxHeartbeats 4000000
namespace VL
open PySem PySem.Spec PyProof.Rows L2

/-! ### built-ins of one argument -/
def C1V (K : PySem.W.Frag) (r : List V → Hp → VK → Prop) (g : D → Option D) : Prop := ∀ x F H Q a d, Sub F H → RdV K F H x a → g a = some d → (∀ v F' H', Grow F H F' H' → Dp K F' v d → Q v H') → r [x] H Q
def C1O (K : PySem.W.Frag) (r : List V → Hp → VK → Prop) (g : D → Option (List D)) : Prop := ∀ x F H Q a ds, Sub F H → RdV K F H x a → g a = some ds →
  (∀ p xs F' H', Grow F H F' H' → H' p = some (.lst xs) → F' p = none → H p = none → DpAll K F' xs ds → Q (.ref p) H') → r [x] H Q
def C2V (K : PySem.W.Frag) (r : List V → Hp → VK → Prop) (g : D → D → Option D) : Prop := ∀ x y F H Q a b d, Sub F H → RdV K F H x a → RdV K F H y b → g a b = some d → (∀ v F' H', Grow F H F' H' → Dp K F' v d → Q v H') → r [x, y] H Q
def unO (fa : Rho → Res D) (g : D → Option (List D)) (ρ : Rho) : Res (List D) := (fa ρ).bind fun x => Res.of (g x)
section
variable {X : Cx} {B : Bd} {W : WX} {a b c e : Expr} {es : List Expr} {fa fb fc f : Rho → Res D} {pos p : Pos} {r : List V → Hp → VK → Prop}
theorem pv_b1 {id : String} {x : Str} {g : D → Option D} (hc : CallR X (.builtin id) r) (cv : C1V X.K r g) (hm : X.mg x = none) (hv : bootBuiltins x = some (.builtin id)) (ha : PVR X B W a fa) (hg : Gl X x := by rfl) (hn : x ≠ "__name__" := by decide) (hdb : (x == ("__debug__" : Str)) = false := by decide)
    (he : starEach (a :: []) X.env = (false, eval a X.env) :: starEach [] X.env := by rfl) (hpl : (backTo pos (starEach [] X.env)).any (·.1) = false := by rfl) :
    PVE X B W (.Call (.Name x p) [a] [] pos) (un fa g) := by
  obtain ⟨ta, a1, a2⟩ := ha.ex
  refine ⟨_, pe_callB hc hg hm hv (L2.pa_cons a1 L2.pa_nil he) hn hdb he hpl, fun ρ σ F H Q S q => a2 ρ σ F H _ S ?_⟩
  unfold un at q
  cases e : fa ρ with
  | no => rw [e] at q; exact q
  | ex e' => rw [e] at q; exact q
  | ok d =>
    rw [e] at q
    intro v F1 H1 g1 r1
    simp only [Res.ok_bind] at q
    cases e2 : g d with
    | none => rw [e2] at q; exact q.elim
    | some d2 => rw [e2] at q; exact cv v F1 H1 Q d d2 g1.fh r1 e2 fun v F' H' g2 => q v F' H' (g1.trans g2)
theorem pv_t1 {id : String} {x : Str} {g : D → Option D} (hc : CallR X (.type id) r) (cv : C1V X.K r g) (hm : X.mg x = none) (hv : bootBuiltins x = some (.type id)) (ha : PVR X B W a fa) (hg : Gl X x := by rfl) (hn : x ≠ "__name__" := by decide) (hdb : (x == ("__debug__" : Str)) = false := by decide)
    (he : starEach (a :: []) X.env = (false, eval a X.env) :: starEach [] X.env := by rfl) (hpl : (backTo pos (starEach [] X.env)).any (·.1) = false := by rfl) :
    PVE X B W (.Call (.Name x p) [a] [] pos) (un fa g) := by
  obtain ⟨ta, a1, a2⟩ := ha.ex
  refine ⟨_, pe_callTy hc hg hm hv (L2.pa_cons a1 L2.pa_nil he) hn hdb he hpl, fun ρ σ F H Q S q => a2 ρ σ F H _ S ?_⟩
  unfold un at q
  cases e : fa ρ with
  | no => rw [e] at q; exact q
  | ex e' => rw [e] at q; exact q
  | ok d =>
    rw [e] at q
    intro v F1 H1 g1 r1
    simp only [Res.ok_bind] at q
    cases e2 : g d with
    | none => rw [e2] at q; exact q.elim
    | some d2 => rw [e2] at q; exact cv v F1 H1 Q d d2 g1.fh r1 e2 fun v F' H' g2 => q v F' H' (g1.trans g2)
theorem po_b1 {id : String} {x : Str} {g : D → Option (List D)} (hc : CallR X (.builtin id) r) (cv : C1O X.K r g) (hm : X.mg x = none) (hv : bootBuiltins x = some (.builtin id)) (ha : PVR X B W a fa) (hg : Gl X x := by rfl) (hn : x ≠ "__name__" := by decide) (hdb : (x == ("__debug__" : Str)) = false := by decide)
    (he : starEach (a :: []) X.env = (false, eval a X.env) :: starEach [] X.env := by rfl) (hpl : (backTo pos (starEach [] X.env)).any (·.1) = false := by rfl) :
    PVO X B W (.Call (.Name x p) [a] [] pos) (unO fa g) := by
  obtain ⟨ta, a1, a2⟩ := ha.ex
  refine ⟨_, pe_callB hc hg hm hv (L2.pa_cons a1 L2.pa_nil he) hn hdb he hpl, fun ρ σ F H Q S q => a2 ρ σ F H _ S ?_⟩
  unfold unO at q
  cases e : fa ρ with
  | no => rw [e] at q; exact q
  | ex e' => rw [e] at q; exact q
  | ok d =>
    rw [e] at q
    intro v F1 H1 g1 r1
    simp only [Res.ok_bind] at q
    cases e2 : g d with
    | none => rw [e2] at q; exact q.elim
    | some d2 => rw [e2] at q; exact cv v F1 H1 Q d d2 g1.fh r1 e2 fun p xs F' H' g2 h1 h2 h3 => q p xs F' H' (g1.trans g2) h1 h2 (g1.h.free h3)
theorem po_t1 {id : String} {x : Str} {g : D → Option (List D)} (hc : CallR X (.type id) r) (cv : C1O X.K r g) (hm : X.mg x = none) (hv : bootBuiltins x = some (.type id)) (ha : PVR X B W a fa) (hg : Gl X x := by rfl) (hn : x ≠ "__name__" := by decide) (hdb : (x == ("__debug__" : Str)) = false := by decide)
    (he : starEach (a :: []) X.env = (false, eval a X.env) :: starEach [] X.env := by rfl) (hpl : (backTo pos (starEach [] X.env)).any (·.1) = false := by rfl) :
    PVO X B W (.Call (.Name x p) [a] [] pos) (unO fa g) := by
  obtain ⟨ta, a1, a2⟩ := ha.ex
  refine ⟨_, pe_callTy hc hg hm hv (L2.pa_cons a1 L2.pa_nil he) hn hdb he hpl, fun ρ σ F H Q S q => a2 ρ σ F H _ S ?_⟩
  unfold unO at q
  cases e : fa ρ with
  | no => rw [e] at q; exact q
  | ex e' => rw [e] at q; exact q
  | ok d =>
    rw [e] at q
    intro v F1 H1 g1 r1
    simp only [Res.ok_bind] at q
    cases e2 : g d with
    | none => rw [e2] at q; exact q.elim
    | some d2 => rw [e2] at q; exact cv v F1 H1 Q d d2 g1.fh r1 e2 fun p xs F' H' g2 h1 h2 h3 => q p xs F' H' (g1.trans g2) h1 h2 (g1.h.free h3)
theorem pv_b2 {id : String} {x : Str} {g : D → D → Option D} (hc : CallR X (.builtin id) r) (cv : C2V X.K r g) (hm : X.mg x = none) (hv : bootBuiltins x = some (.builtin id)) (ha : PVR X B W a fa) (hb : PVR X B W b fb) (hg : Gl X x := by rfl) (hn : x ≠ "__name__" := by decide) (hdb : (x == ("__debug__" : Str)) = false := by decide)
    (he : starEach (a :: [b]) X.env = (false, eval a X.env) :: starEach [b] X.env := by rfl) (he2 : starEach (b :: []) X.env = (false, eval b X.env) :: starEach [] X.env := by rfl) (hpl : (backTo pos (starEach [b] X.env)).any (·.1) = false := by rfl) :
    PVE X B W (.Call (.Name x p) [a, b] [] pos) (bin fa fb g) := by
  obtain ⟨ta, a1, a2⟩ := ha.ex
  obtain ⟨tb, b1, b2⟩ := hb.ex
  refine ⟨_, pe_callB hc hg hm hv (L2.pa_cons a1 (L2.pa_cons b1 L2.pa_nil he2) he) hn hdb he hpl, fun ρ σ F H Q S q => ?_⟩
  refine two (Z := fun F H r => EPo X W σ F H Q r) (R := fun x y H => r [x, y] H Q) (h := fun x y => Res.of (g x y)) S a2 b2 (fun _ _ _ z => z) (fun _ _ z => z) (fun _ _ _ _ _ g z => z.grow g) q fun x y da db F' H' gr r1 r2 z => ?_
  cases e : g da db with
  | none => rw [e] at z; exact z.elim
  | some d => rw [e] at z; exact cv x y F' H' Q da db d gr.fh r1 r2 e z
end

/-- len -/
def dLen : D → Option D
  | .list ds => some (.int ds.length)
  | .tuple ds => some (.int ds.length)
  | .str z => if z.length ≤ sizeLine then some (.int z.length) else none
  | _ => none
def rLenA (K : PySem.W.Frag) : List V → Hp → VK → Prop := fun xs H Q => (∃ p ys, xs = [.ref p] ∧ (SqL K H p ys ∨ SqT K H p ys) ∧ Q (.int ys.length) H) ∨ (∃ z, xs = [.str z] ∧ z.length ≤ sizeLine ∧ Q (.int z.length) H)
section
variable {X : Cx} {K : PySem.W.Frag}
theorem call_lenA : CallR X (.builtin "len") (rLenA X.K) := call_len_seq.or call_len_str
theorem cv_len : C1V K (rLenA K) dLen := by
  intro x F H Q a d s ra e q
  unfold dLen at e
  split at e
  · cases e
    obtain ⟨p, xs, rfl, h1, r1⟩ := ra
    exact .inl ⟨p, xs, rfl, .inl h1, q _ F H (.refl s) (by rw [r1.len]; exact .int _)⟩
  · cases e
    cases ra with
    | tup h1 r1 => exact .inl ⟨_, _, rfl, .inr (s.sqT h1), q _ F H (.refl s) (by rw [r1.len]; exact .int _)⟩
  · cases ra
    split at e
    · cases e; exact .inr ⟨_, rfl, by assumption, q _ F H (.refl s) (.int _)⟩
    · cases e
  · cases e
/-- the ints of a list -/
def asInts : List D → Option (List Int)
  | [] => some []
  | .int i :: ds => (asInts ds).map (i :: ·)
  | _ :: _ => none
theorem asInts_map (ns : List Int) : asInts (ns.map .int) = some ns := by
  induction ns with
  | nil => rfl
  | cons n ns ih => show (asInts (ns.map .int)).map (n :: ·) = _; rw [ih]; rfl
theorem asInts_eq : ∀ {ds : List D} {ns : List Int}, asInts ds = some ns → ds = ns.map .int
  | [], ns, e => by cases e; rfl
  | d :: ds, ns, e => by
    cases d with
    | int i =>
      obtain ⟨ms, e1, rfl⟩ := Option.map_eq_some_iff.mp (show (asInts ds).map (i :: ·) = some ns from e)
      rw [asInts_eq e1]; rfl
    | _ => cases e
theorem dpa_ints {H : Hp} : ∀ {xs : List V} {ns : List Int}, DpAll K H xs (ns.map .int) → xs = ns.map V.int
  | _, [], h => by cases h; rfl
  | _, n :: ns, h => by
    cases h with
    | cons a b => cases a; rw [dpa_ints b]; rfl
theorem ints_dpa {H : Hp} : ∀ (ns : List Int), DpAll K H (ns.map V.int) (ns.map .int)
  | [] => .nil
  | n :: ns => .cons (.int n) (ints_dpa ns)
def dSum : D → Option D
  | .list ds => (asInts ds).map fun ns => .int ns.sum
  | _ => none
theorem cv_sum : C1V K (rSum K) dSum := by
  intro x F H Q a d s ra e q
  unfold dSum at e
  split at e
  · obtain ⟨ns, e1, rfl⟩ := Option.map_eq_some_iff.mp e
    cases asInts_eq e1
    obtain ⟨p, xs, rfl, h1, r1⟩ := ra
    cases dpa_ints r1
    exact ⟨p, ns, rfl, h1, q _ F H (.refl s) (.int _)⟩
  · cases e
def maxL : Int → List Int → Int
  | n, [] => n
  | n, m :: ms => maxL (if n < m then m else n) ms
def minL : Int → List Int → Int
  | n, [] => n
  | n, m :: ms => minL (if m < n then m else n) ms
theorem maxL_mem : ∀ (n : Int) (ms : List Int), maxL n ms ∈ n :: ms
  | n, [] => by simp [maxL]
  | n, m :: ms => by
    have := maxL_mem (if n < m then m else n) ms
    rw [maxL]
    split at this <;> split <;> simp_all
    all_goals (first | omega | (rcases this with h | h <;> simp [h]))
theorem maxL_le : ∀ (n : Int) (ms : List Int) (y : Int), y ∈ n :: ms → y ≤ maxL n ms
  | n, [], y, h => by simp at h; rw [h]; exact Int.le_refl _
  | n, m :: ms, y, h => by
    have a := maxL_le (if n < m then m else n) ms
    rw [maxL]
    rcases List.mem_cons.mp h with rfl | h
    · have := a _ List.mem_cons_self
      split at this <;> split <;> omega
    · rcases List.mem_cons.mp h with rfl | h
      · have := a _ List.mem_cons_self
        split at this <;> split <;> omega
      · exact a y (List.mem_cons_of_mem _ h)
theorem minL_mem : ∀ (n : Int) (ms : List Int), minL n ms ∈ n :: ms
  | n, [] => by simp [minL]
  | n, m :: ms => by
    have := minL_mem (if m < n then m else n) ms
    rw [minL]
    split at this <;> split <;> simp_all
    all_goals (first | omega | (rcases this with h | h <;> simp [h]))
theorem minL_le : ∀ (n : Int) (ms : List Int) (y : Int), y ∈ n :: ms → minL n ms ≤ y
  | n, [], y, h => by simp at h; rw [h]; exact Int.le_refl _
  | n, m :: ms, y, h => by
    have a := minL_le (if m < n then m else n) ms
    rw [minL]
    rcases List.mem_cons.mp h with rfl | h
    · have := a _ List.mem_cons_self
      split at this <;> split <;> omega
    · rcases List.mem_cons.mp h with rfl | h
      · have := a _ List.mem_cons_self
        split at this <;> split <;> omega
      · exact a y (List.mem_cons_of_mem _ h)
def dMax1 : D → Option D
  | .list ds => match asInts ds with
    | some (n :: ns) => some (.int (maxL n ns))
    | _ => none
  | _ => none
def dMin1 : D → Option D
  | .list ds => match asInts ds with
    | some (n :: ns) => some (.int (minL n ns))
    | _ => none
  | _ => none
theorem cv_max : C1V K (rMax K) dMax1 := by
  intro x F H Q a d s ra e q
  unfold dMax1 at e
  split at e
  · split at e
    · rename_i n ns e1
      cases e
      cases asInts_eq e1
      obtain ⟨p, xs, rfl, h1, r1⟩ := ra
      cases dpa_ints r1
      refine ⟨p, n :: ns, rfl, h1, by simp, fun m hm hy => ?_⟩
      have : m = maxL n ns := Int.le_antisymm (maxL_le n ns m hm) (hy _ (maxL_mem n ns))
      subst this
      exact q _ F H (.refl s) (.int _)
    · cases e
  · cases e
theorem cv_min : C1V K (rMin K) dMin1 := by
  intro x F H Q a d s ra e q
  unfold dMin1 at e
  split at e
  · split at e
    · rename_i n ns e1
      cases e
      cases asInts_eq e1
      obtain ⟨p, xs, rfl, h1, r1⟩ := ra
      cases dpa_ints r1
      refine ⟨p, n :: ns, rfl, h1, by simp, fun m hm hy => ?_⟩
      have : m = minL n ns := Int.le_antisymm (hy _ (minL_mem n ns)) (minL_le n ns m hm)
      subst this
      exact q _ F H (.refl s) (.int _)
    · cases e
  · cases e
def dMax2 : D → D → Option D
  | .int i, .int j => some (.int (if j > i then j else i))
  | _, _ => none
def dMin2 : D → D → Option D
  | .int i, .int j => some (.int (if j < i then j else i))
  | _, _ => none
theorem cv_max2 : C2V K (fun xs H Q => ∃ i j, xs = [.int i, .int j] ∧ Q (.int (if j > i then j else i)) H) dMax2 := by
  intro x y F H Q a b d s ra rb e q
  unfold dMax2 at e
  split at e
  · cases e; cases ra; cases rb
    exact ⟨_, _, rfl, q _ F H (.refl s) (.int _)⟩
  · cases e
theorem cv_min2 : C2V K (fun xs H Q => ∃ i j, xs = [.int i, .int j] ∧ Q (.int (if j < i then j else i)) H) dMin2 := by
  intro x y F H Q a b d s ra rb e q
  unfold dMin2 at e
  split at e
  · cases e; cases ra; cases rb
    exact ⟨_, _, rfl, q _ F H (.refl s) (.int _)⟩
  · cases e
def dAbs : D → Option D
  | .int i => some (.int (if i < 0 then -i else i))
  | _ => none
theorem cv_abs : C1V K (fun xs H Q => ∃ i, xs = [.int i] ∧ Q (.int (if i < 0 then -i else i)) H) dAbs := by
  intro x F H Q a d s ra e q
  unfold dAbs at e
  split at e
  · cases e; cases ra
    exact ⟨_, rfl, q _ F H (.refl s) (.int _)⟩
  · cases e
def dStr : D → Option D
  | .int i => if i.natAbs.log2 < 1920 then some (.str (toString i)) else none
  | _ => none
theorem cv_str : C1V K (fun xs H Q => ∃ i, xs = [.int i] ∧ i.natAbs.log2 < 1920 ∧ Q (.str (toString i)) H) dStr := by
  intro x F H Q a d s ra e q
  unfold dStr at e
  split at e
  · split at e
    · cases e; cases ra
      exact ⟨_, rfl, by assumption, q _ F H (.refl s) (.str _)⟩
    · cases e
  · cases e
/-- list(x), tuple(x) of a list or a tuple -/
def dList : D → Option (List D)
  | .list ds => some ds
  | .tuple ds => some ds
  | _ => none
theorem co_list : C1O K (fun xs H Q => ∃ p ys, xs = [.ref p] ∧ (SqL K H p ys ∨ SqT K H p ys) ∧ ∀ l, H l = none → Q (.ref l) (upd H l (.lst ys))) dList := by
  intro x F H Q a ds s ra e q
  unfold dList at e
  split at e
  · cases e
    obtain ⟨p, xs, rfl, h1, r1⟩ := ra
    exact ⟨p, xs, rfl, .inl h1, fun l hl => q l xs F _ ⟨Sub.refl F, upd_sub hl, s.trans (upd_sub hl), fun _ _ => rfl⟩ upd_same (s.free hl) hl r1⟩
  · cases e
    cases ra with
    | tup h1 r1 => exact ⟨_, _, rfl, .inr (s.sqT h1), fun l hl => q l _ F _ ⟨Sub.refl F, upd_sub hl, s.trans (upd_sub hl), fun _ _ => rfl⟩ upd_same (s.free hl) hl r1⟩
  · cases e
def dTup : D → Option D
  | .list ds => some (.tuple ds)
  | .tuple ds => some (.tuple ds)
  | _ => none
theorem cv_tup : C1V K (fun xs H Q => ∃ p ys, xs = [.ref p] ∧ ((SqL K H p ys ∧ ∀ l, H l = none → Q (.ref l) (upd H l (.tup ys))) ∨ (SqT K H p ys ∧ Q (.ref p) H))) dTup := by
  intro x F H Q a d s ra e q
  unfold dTup at e
  split at e
  · cases e
    obtain ⟨p, xs, rfl, h1, r1⟩ := ra
    exact ⟨p, xs, rfl, .inl ⟨h1, fun l hl => q _ _ _ (Grow.new s hl ntt) (.tup (.of upd_same) ((Grow.new s hl ntt).f.dpAll _ _ r1))⟩⟩
  · cases e
    cases ra with
    | tup h1 r1 => exact ⟨_, _, rfl, .inr ⟨s.sqT h1, q _ F H (.refl s) (.tup h1 r1)⟩⟩
  · cases e
end

/-! ### isinstance(x, T), T a built-in class -/
def tyName : D → String
  | .none => "NoneType"
  | .bool _ => "bool"
  | .int _ => "int"
  | .str _ => "str"
  | .list _ => "list"
  | .tuple _ => "tuple"
  | .dict _ => "dict"
def isTy (T : String) (d : D) : Bool := tyName d == T || (T == "int" && tyName d == "bool")
section
variable {X : Cx} {B : Bd} {W : WX} {a : Expr} {fa : Rho → Res D} {pos p p2 : Pos}
theorem tyX_of {K : PySem.W.Frag} {F H : Hp} {x : V} {d : D} (s : Sub F H) (h : RdV K F H x d) : TyX K H x (.type (tyName d)) := by
  cases d with
  | none => cases h; exact .base .non
  | bool b => cases h; exact .base (.bl b)
  | int i => cases h; exact .base (.int i)
  | str z => cases h; exact .base (.str z)
  | list ds =>
    obtain ⟨q, xs, rfl, h1, r1⟩ := h
    rcases h1 with (h1 | ⟨o, h1⟩) | ⟨o, its, n, h1, h2, _⟩
    · exact .base (.lst h1)
    · exact .base (.frz h1)
    · exact .kList h1 h2
  | tuple ds =>
    cases h with
    | tup h1 r1 =>
      rcases s.sqT h1 with (h1 | ⟨o, h1⟩) | ⟨o, its, n, h1, h2, _⟩
      · exact .base (.tup h1)
      · exact .fTuple h1
      · exact .kTuple h1 h2
  | dict _ => cases h
/-- what kitOne says of the written part's own look at built-in types -/
structure KitT (K : PySem.W.Frag) (T : String) : Prop where
  is : ∀ U, U ∈ ["NoneType", "bool", "int", "str", "list", "tuple"] → PySem.W.kitOne K (.type U) (.type T) = some (U == T || (T == "int" && U == "bool"))
theorem tyName_mem {K : PySem.W.Frag} {F H : Hp} {x : V} {d : D} (h : RdV K F H x d) : tyName d ∈ ["NoneType", "bool", "int", "str", "list", "tuple"] := by
  cases d with
  | dict _ => cases h
  | _ => simp [tyName]
def isiV (T : String) (fa : Rho → Res D) (ρ : Rho) : Res D := (fa ρ).bind fun d => .ok (.bool (isTy T d))
theorem pv_isi {T : String} {x : Str} (k : KitT X.K T) (hm : X.mg "isinstance" = none) (hmT : X.mg x = none) (hvT : bootBuiltins x = some (.type T)) (ha : PVR X B W a fa) (hg : Gl X "isinstance" := by rfl) (hgT : Gl X x := by rfl) (hn : x ≠ "__name__" := by decide) (hdb : (x == ("__debug__" : Str)) = false := by decide)
    (he : starEach (a :: [.Name x p2]) X.env = (false, eval a X.env) :: starEach [.Name x p2] X.env := by rfl) (hpl : (backTo pos (starEach [.Name x p2] X.env)).any (·.1) = false := by rfl) :
    PVE X B W (.Call (.Name "isinstance" p) [a, .Name x p2] [] pos) (isiV T fa) := by
  obtain ⟨ta, a1, a2⟩ := ha.ex
  refine ⟨_, pe_callB call_isi hg hm (by decide +kernel) (L2.pa_cons a1 (L2.pa_cons (pe_bltn (v := .ty T) hgT hmT hvT rfl hn hdb) L2.pa_nil) he) (by decide) (by decide) he hpl, fun ρ σ F H Q S q => a2 ρ σ F H _ S ?_⟩
  unfold isiV at q
  cases e : fa ρ with
  | no => rw [e] at q; exact q
  | ex e' => rw [e] at q; exact q
  | ok d =>
    rw [e] at q
    intro v F1 H1 g1 r1
    exact ⟨v, .ty T, _, _, _, rfl, .ty T, tyX_of g1.fh r1, k.is _ (tyName_mem r1), q _ F1 H1 g1 (.bl _)⟩
end
end VL

set_option Elab.async false
set_option linter.all false
set_option maxRecDepth 100000
set_option maxHeartbeats 4000000
namespace VL
open PySem PySem.Spec PyProof.Rows L2

/-! ### defs -/
/-- the promise: the def computes g -/
def spV (K : PySem.W.Frag) (mg : Str → Option Value) (g : List D → Res D) (n : Nat) : Sp := fun vs H Q E => ∃ F ds, Sub F H ∧ DpAll K F vs ds ∧ ds.length = n ∧
  match g ds with
  | .ok d => ∀ v F' H', Grow F H F' H' → Dp K F' v d → Q v H'
  | .ex e => ∀ (C d : Addr) (fs : List (Str × V)) (F' H' : Hp), Grow F H F' H' → mg e.cls = some (.ref C) → F' d = some (.xd fs) → FsR K F' fs e.fs → E (.ref C) (some d) H'
  | .no => False
theorem spV_len {K : PySem.W.Frag} {mg : Str → Option Value} {g : List D → Res D} {n : Nat} {vs : List V} {H : Hp} {Q : VK} {E : XK} (h : spV K mg g n vs H Q E) : vs.length = n := by
  obtain ⟨F, ds, _, r, l, _⟩ := h
  rw [r.len, l]
theorem spV_imp {K : PySem.W.Frag} {mg : Str → Option Value} {g g' : List D → Res D} {n : Nat} (h : ∀ ds, g' ds = .no ∨ g' ds = g ds) {vs : List V} {H : Hp} {Q : VK} {E : XK} (q : spV K mg g' n vs H Q E) : spV K mg g n vs H Q E := by
  obtain ⟨F, ds, s, r, l, q⟩ := q
  refine ⟨F, ds, s, r, l, ?_⟩
  rcases h ds with e | e
  · rw [e] at q; exact q.elim
  · rw [e] at q; exact q

section
variable {X : Cx} {B : Bd} {W : WX} {a b c e : Expr} {es : List Expr} {fa fb fc f : Rho → Res D} {pos p : Pos}
def callV (g : List D → Res D) (fa : Rho → Res (List D)) (ρ : Rho) : Res D := (fa ρ).bind g
theorem pv_call {x : Str} {k : Nat} {fn : Addr} {fd : FuncData} {ps : List Str} {g : List D → Res D} {fa : Rho → Res (List D)} (Fn : FnOk X.prog X.w X.K X.mg X.base (L2.CX X.prog X.w) k fn fd ps (spV X.K X.mg g ps.length)) (hr : Room k X.A)
    (hm : X.mg x = some (.ref fn)) (hk : PySem.W.keepIn X.K (.ref fn) = true) (hb : Binds X.K fd ps []) (tk : Takes X W) (ha : PVA X B W (e :: es) fa) (hl : (e :: es).length = ps.length := by rfl) (hg : Gl X x := by rfl)
    (hdb : (x == ("__debug__" : Str)) = false := by decide) (he : starEach (e :: es) X.env = (false, eval e X.env) :: starEach es X.env := by rfl) (hpl : (backTo pos (starEach es X.env)).any (·.1) = false := by rfl) :
    PVE X B W (.Call (.Name x p) (e :: es) [] pos) (callV g fa) := by
  obtain ⟨ta, a1, a2⟩ := ha.ex
  refine ⟨_, pe_callS Fn hr hg hm hk hb (fun σ => passAt tk σ) a1 hdb he hpl, fun ρ σ F H Q S q => a2 ρ σ F H _ S ?_⟩
  unfold callV at q
  cases e : fa ρ with
  | no => rw [e] at q; exact q
  | ex e' => rw [e] at q; exact q
  | ok ds =>
    rw [e] at q
    intro vs F1 H1 g1 r1
    simp only [Res.ok_bind] at q
    refine ⟨F1, ds, g1.fh, r1, (ha.len ρ ds e).trans hl, ?_⟩
    cases e2 : g ds with
    | no => rw [e2] at q; exact q
    | ex e' => rw [e2] at q; exact fun C d fs F' H' g2 h1 h2 h3 => q C d fs F' H' (g1.trans g2) h1 h2 h3
    | ok d => rw [e2] at q; exact fun v F' H' g2 r2 => q v F' H' (g1.trans g2) r2

/-! ### statements -/
inductive Out where
  | nx (ρ : Rho)
  | rt (d : D)
  | bk (ρ : Rho)
  | ct (ρ : Rho)
  | ex (e : Err) (ρ : Rho)
  | no
def Post (X : Cx) (B : Bd) (W : WX) (F : Hp) (Z : Ends) : Out → Prop
  | .nx ρ => ∀ σ F' H', Sub F F' → Sta X.K B ρ σ F' H' → Z.nx σ H'
  | .rt d => ∀ v ρ σ F' H', Sub F F' → Sta X.K B ρ σ F' H' → Dp X.K F' v d → Z.rt v H'
  | .bk ρ => ∀ σ F' H', Sub F F' → Sta X.K B ρ σ F' H' → Z.bk σ H'
  | .ct ρ => ∀ σ F' H', Sub F F' → Sta X.K B ρ σ F' H' → Z.ct σ H'
  | .ex e ρ => ∀ σ (C d : Addr) (fs : List (Str × V)) F' H', Sub F F' → Sta X.K B ρ σ F' H' → X.mg e.cls = some (.ref C) → F' d = some (.xd fs) → FsR X.K F' fs e.fs → W (.ref C) (some d) σ H'
  | .no => False
theorem Post.mono {F F1 : Hp} {Z : Ends} {o : Out} (s : Sub F F1) (h : Post X B W F Z o) : Post X B W F1 Z o := by
  cases o with
  | nx ρ => exact fun σ F' H' s' => h σ F' H' (s.trans s')
  | rt d => exact fun v ρ σ F' H' s' => h v ρ σ F' H' (s.trans s')
  | bk ρ => exact fun σ F' H' s' => h σ F' H' (s.trans s')
  | ct ρ => exact fun σ F' H' s' => h σ F' H' (s.trans s')
  | ex e ρ => exact fun σ C d fs F' H' s' => h σ C d fs F' H' (s.trans s')
  | no => exact h
structure PVS (X : Cx) (B : Bd) (W : WX) (st : Stmt) (g : Rho → Out) : Prop where
  ex : ∃ t, PS X st t ∧ ∀ ρ σ F H Z, Sta X.K B ρ σ F H → Post X B W F Z (g ρ) → t Z σ H
structure PVB (X : Cx) (B : Bd) (W : WX) (st : List Stmt) (g : Rho → Out) : Prop where
  ex : ∃ t, PSs X st t ∧ ∀ ρ σ F H Z, Sta X.K B ρ σ F H → Post X B W F Z (g ρ) → t Z σ H

/-- an expression's end as a statement's -/
def Res.out {α : Type} (ρ : Rho) : Res α → (α → Out) → Out
  | .ok a, k => k a
  | .ex e, _ => .ex e ρ
  | .no, _ => .no
@[simp] theorem Res.ok_out {α : Type} (ρ : Rho) (a : α) (k : α → Out) : Res.out ρ (.ok a) k = k a := rfl
@[simp] theorem Res.ex_out {α : Type} (ρ : Rho) (e : Err) (k : α → Out) : Res.out ρ (.ex e) k = .ex e ρ := rfl
@[simp] theorem Res.no_out {α : Type} (ρ : Rho) (k : α → Out) : Res.out ρ .no k = .no := rfl
theorem xok_of {F H : Hp} {Z : Ends} {e : Err} {ρ : Rho} {σ : L2.St} (S : Sta X.K B ρ σ F H) (h : Post X B W F Z (.ex e ρ)) : XOk X W σ F H e :=
  fun C d fs F' H' g h1 h2 h3 => h σ C d fs F' H' g.f (S.grow g) h1 h2 h3
def seqS (g h : Rho → Out) (ρ : Rho) : Out := match g ρ with
  | .nx ρ' => h ρ'
  | o => o
def nxS (ρ : Rho) : Out := .nx ρ
variable {st : Stmt} {sts : List Stmt} {g h : Rho → Out}
theorem ps_nil : PVB X B W [] nxS := ⟨_, pss_nil, fun ρ σ F H Z S q => q σ F H (Sub.refl F) S⟩
theorem ps_cons (h1 : PVS X B W st g) (h2 : PVB X B W sts h) : PVB X B W (st :: sts) (seqS g h) := by
  obtain ⟨t, a1, a2⟩ := h1.ex
  obtain ⟨u, b1, b2⟩ := h2.ex
  refine ⟨_, pss_cons a1 b1, fun ρ σ F H Z S q => a2 ρ σ F H _ S ?_⟩
  unfold seqS at q
  cases e : g ρ with
  | nx ρ' => rw [e] at q; exact fun σ' F' H' s S' => b2 ρ' σ' F' H' Z S' (q.mono s)
  | rt d => rw [e] at q; exact q
  | bk ρ' => rw [e] at q; exact q
  | ct ρ' => rw [e] at q; exact q
  | ex e' ρ' => rw [e] at q; exact q
  | no => rw [e] at q; exact q
theorem ps_one (h1 : PVS X B W st g) : PVB X B W [st] g := by
  obtain ⟨t, a1, a2⟩ := h1.ex
  exact ⟨t, pss_one a1, a2⟩
/-- ahead of a statement a list of one's own may be frozen -/
def frzS (i : Nat) (g : Rho → Out) (ρ : Rho) : Out := g (frz i ρ)
theorem ps_frz (i : Nat) (h1 : PVS X B W st g) : PVS X B W st (frzS i g) := by
  obtain ⟨t, a1, a2⟩ := h1.ex
  refine ⟨t, a1, fun ρ σ F H Z S q => ?_⟩
  obtain ⟨F', s, S'⟩ := S.frz i
  exact a2 (frz i ρ) σ F' H Z S' (q.mono s)
def brkS (ρ : Rho) : Out := .bk ρ
def cntS (ρ : Rho) : Out := .ct ρ
theorem ps_pass : PVS X B W (.Pass pos) nxS := ⟨_, L2.ps_pass, fun ρ σ F H Z S q => q σ F H (Sub.refl F) S⟩
theorem ps_brk : PVS X B W (.Break pos) brkS := ⟨_, ps_break, fun ρ σ F H Z S q => q σ F H (Sub.refl F) S⟩
theorem ps_cnt : PVS X B W (.Continue pos) cntS := ⟨_, ps_continue, fun ρ σ F H Z S q => q σ F H (Sub.refl F) S⟩
def retS (f : Rho → Res D) (ρ : Rho) : Out := Res.out ρ (f ρ) .rt
theorem ps_ret (he : PVE X B W e f) : PVS X B W (.Return (some e) pos) (retS f) := by
  obtain ⟨t, a1, a2⟩ := he.ex
  refine ⟨_, L2.ps_ret a1, fun ρ σ F H Z S q => a2 ρ σ F H _ S ?_⟩
  unfold retS at q
  cases e : f ρ with
  | no => rw [e] at q; exact q
  | ex e' => rw [e] at q; exact xok_of S q
  | ok d => rw [e] at q; exact fun v F' H' g r => q v ρ σ F' H' g.f (S.grow g) r
def retN (ρ : Rho) : Out := .rt .none
theorem ps_retN : PVS X B W (.Return none pos) retN := ⟨_, L2.ps_retN, fun ρ σ F H Z S q => q .non ρ σ F H (Sub.refl F) S .non⟩
def ifS (t : Rho → Res Bool) (g h : Rho → Out) (ρ : Rho) : Out := Res.out ρ (t ρ) fun k => if k = true then g ρ else h ρ
theorem ps_if {t : Rho → Res Bool} {sa sb : List Stmt} (hc : PVT X B W c t) (ha : PVB X B W sa g) (hb : PVB X B W sb h) : PVS X B W (.If c sa sb pos) (ifS t g h) := by
  obtain ⟨tc, c1, c2⟩ := hc.ex
  obtain ⟨ta, a1, a2⟩ := ha.ex
  obtain ⟨tb, b1, b2⟩ := hb.ex
  refine ⟨_, L2.ps_if c1 a1 b1, fun ρ σ F H Z S q => c2 ρ σ F H _ S ?_⟩
  unfold ifS at q
  cases e : t ρ with
  | no => rw [e] at q; exact q
  | ex e' => rw [e] at q; exact xok_of S q
  | ok k =>
    rw [e] at q
    intro F1 H1 g1
    cases k with
    | true => rw [if_pos rfl]; exact a2 ρ σ F1 H1 Z (S.grow g1) (Post.mono g1.f q)
    | false => rw [if_neg (by decide)]; exact b2 ρ σ F1 H1 Z (S.grow g1) (Post.mono g1.f q)
/-- an expression for its effect (none here) -/
def expS (f : Rho → Res D) (ρ : Rho) : Out := Res.out ρ (f ρ) fun _ => .nx ρ
theorem ps_expr (he : PVE X B W e f) (hs : swapsWith e none pos.line X.env = pure false := by rfl) : PVS X B W (.Expr e pos) (expS f) := by
  obtain ⟨t, a1, a2⟩ := he.ex
  refine ⟨_, L2.ps_expr a1 hs, fun ρ σ F H Z S q => a2 ρ σ F H _ S ?_⟩
  unfold expS at q
  cases e : f ρ with
  | no => rw [e] at q; exact q
  | ex e' => rw [e] at q; exact xok_of S q
  | ok d => rw [e] at q; exact fun v F' H' g r => q σ F' H' g.f (S.grow g)
/-- name = e -/
def asgS (i : Nat) (f : Rho → Res D) (ρ : Rho) : Out := Res.out ρ (f ρ) fun d => .nx (ρ.set i (some (.fz d)))
theorem ps_asg (i : Nat) {x : Str} {pos' : Pos} (he : PVE X B W e f) (hN : X.N.Nodup) (hi : X.N[i]? = some x := by rfl) (hx : Loc X.env.scope x := by first | exact Or.inl rfl | exact Or.inr rfl)
    (hs : swapsWith e (some (.Name x pos')) pos.line X.env = pure false := by rfl) (hf : X.fn x = true ∨ X.env.scope.names.lookup x = some .local := by first | exact .inl rfl | exact .inr rfl) : PVS X B W (.Assign [.Name x pos'] e pos) (asgS i f) := by
  obtain ⟨t, a1, a2⟩ := he.ex
  refine ⟨_, ps_set hN hi hx a1 hs hf, fun ρ σ F H Z S q => a2 ρ σ F H _ S ?_⟩
  unfold asgS at q
  cases e : f ρ with
  | no => rw [e] at q; exact q
  | ex e' => rw [e] at q; exact xok_of S q
  | ok d => rw [e] at q; exact fun v F' H' g r => q _ F' H' g.f ((S.grow g).set r)
theorem setO_post {i : Nat} {ρ : Rho} {σ : L2.St} {F H : Hp} {Z : Ends} {ds : List D} (S : Sta X.K B ρ σ F H) (q : Post X B W F Z (.nx (ρ.set i (some (.ow ds))))) : EPl X W σ F H (fun x H1 => Z.nx (σ.set i (some x)) H1) (.ok ds) := by
  intro a xs F' H' g hH hF hn r
  refine q _ F' H' g.f ((S.grow g).setO hH hF (S.g.h.free hn) r fun j ⟨dj, oj⟩ z => ?_)
  obtain ⟨v, h1, h2⟩ := S.sl j _ oj
  rw [z] at h1
  cases h1
  obtain ⟨b, ys, e1, h3, _⟩ := h2
  cases e1
  rw [hn] at h3
  cases h3
/-- name = a new list, held by this name alone -/
def asgO (i : Nat) (f : Rho → Res (List D)) (ρ : Rho) : Out := Res.out ρ (f ρ) fun ds => .nx (ρ.set i (some (.ow ds)))
theorem ps_asgO (i : Nat) {x : Str} {pos' : Pos} {f : Rho → Res (List D)} (he : PVO X B W e f) (hN : X.N.Nodup) (hi : X.N[i]? = some x := by rfl) (hx : Loc X.env.scope x := by first | exact Or.inl rfl | exact Or.inr rfl)
    (hs : swapsWith e (some (.Name x pos')) pos.line X.env = pure false := by rfl) (hf : X.fn x = true ∨ X.env.scope.names.lookup x = some .local := by first | exact .inl rfl | exact .inr rfl) : PVS X B W (.Assign [.Name x pos'] e pos) (asgO i f) := by
  obtain ⟨t, a1, a2⟩ := he.ex
  refine ⟨_, ps_set hN hi hx a1 hs hf, fun ρ σ F H Z S q => a2 ρ σ F H _ S ?_⟩
  unfold asgO at q
  cases e : f ρ with
  | no => rw [e] at q; exact q
  | ex e' => rw [e] at q; exact xok_of S q
  | ok ds =>
    rw [e] at q
    exact setO_post S q

/-! ### a def's body as a function of data -/
def startV (n : Nat) (ds : List D) : Rho := ds.map (fun d => some (.fz d)) ++ List.replicate (n - ds.length) none
def bodyV (n : Nat) (g : Rho → Out) (ds : List D) : Res D := match g (startV n ds) with
  | .nx _ => .ok .none
  | .rt d => .ok d
  | .ex e _ => .ex e
  | _ => .no
theorem sta_start {K : PySem.W.Frag} {F H : Hp} {vs : List V} {ds : List D} {N : List Str} (s : Sub F H) (r : DpAll K F vs ds) : Sta K { R := H, F := F } (startV N.length ds) (L2.start N vs) F H := by
  have own : ∀ i, ¬ Own (startV N.length ds) i := fun i ⟨d, e⟩ => by
    unfold startV at e
    rw [List.getElem?_append] at e
    split at e
    · rw [List.getElem?_map] at e
      cases q : ds[i]? <;> rw [q] at e <;> simp at e
    · rw [List.getElem?_replicate] at e
      split at e <;> simp at e
  refine ⟨?_, .refl s, fun i lv e => ?_, fun i j v oi => absurd oi (own i)⟩
  · unfold startV L2.start
    simp [r.len]
  · unfold startV at e
    rw [List.getElem?_append] at e
    split at e
    · rename_i hi
      rw [List.getElem?_map] at e
      cases q : ds[i]? with
      | none => rw [q] at e; simp at e
      | some d =>
        rw [q] at e
        simp only [Option.map_some, Option.some.injEq] at e
        subst e
        obtain ⟨v, h1, h2⟩ := r.at q
        refine ⟨v, ?_, h2⟩
        show (vs.map some ++ List.replicate (N.length - vs.length) none)[i]? = _
        rw [List.getElem?_append_left (by rw [List.length_map, r.len]; simpa using hi), List.getElem?_map, h1]
        rfl
    · rw [List.getElem?_replicate] at e
      split at e <;> simp at e
theorem fn_val {P : Program} {w : World} {K : PySem.W.Frag} {mg : Str → Option Value} {base : Heap} {x qual : Str} {st : Stmt} {f : Addr} {fd : FuncData} {N ps : List Str} {k : Nat} {g : Rho → Out} (Fu : Fun K x qual st f fd) (S : FnScope N ps (defScope st))
    (body : ∀ (cdv : Value) (A : Around) (outer : List Env) (s : Shared) (H : Hp) (E : XK) (B : Bd), Room k (A.deeper (envOfC qual (defScope st) s.heap.objs.size f cdv)) → Takes (cxOf (L2.CX P w) P w K mg base N qual (defScope st) f cdv A outer s H E) (fun cls d _ H => E cls d H) →
      PVB (cxOf (L2.CX P w) P w K mg base N qual (defScope st) f cdv A outer s H E) B (fun cls d _ H => E cls d H) (defBody st) g) : FnOk P w K mg base (L2.CX P w) (k + 1) f fd ps (spV K mg (bodyV N.length g) ps.length) := by
  refine Fu.okX S (fun vs H Q E h => spV_len h) fun cdv A outer s H vs Q E hr h => ?_
  obtain ⟨F, ds, sub, r, l, q⟩ := h
  obtain ⟨t, h1, h2⟩ := (body cdv A outer s H E { R := H, F := F } hr (takes_of rfl rfl rfl rfl)).ex
  refine ⟨t, h1, h2 (startV N.length ds) _ F H _ (sta_start sub r) ?_⟩
  unfold bodyV at q
  cases e : g (startV N.length ds) with
  | nx ρ => rw [e] at q; exact fun σ F' H' s' S' => q .non F' H' S'.g .non
  | rt d => rw [e] at q; exact fun v ρ σ F' H' s' S' r' => q v F' H' S'.g r'
  | ex er ρ => rw [e] at q; exact fun σ C d fs F' H' s' S' h1 h2 h3 => q C d fs F' H' S'.g h1 h2 h3
  | bk ρ => rw [e] at q; exact q.elim
  | ct ρ => rw [e] at q; exact q.elim
  | no => rw [e] at q; exact q.elim
end
end VL

set_option Elab.async false
set_option linter.all false
set_option maxRecDepth 100000
set_option maxHeartbeats 4000000
namespace VL
open PySem PySem.Spec PyProof.Rows L2

section
variable {X : Cx} {B : Bd} {W : WX} {a b c e : Expr} {es : List Expr} {fa fb fc f : Rho → Res D} {pos p : Pos} {st : Stmt} {sts : List Stmt} {g h : Rho → Out}
theorem Sta.own {K : PySem.W.Frag} {ρ : Rho} {σ : L2.St} {F H : Hp} {i : Nat} {ds : List D} (S : Sta K B ρ σ F H) (e : ρ[i]? = some (some (.ow ds))) : ∃ a xs, σ[i]? = some (some (.ref a)) ∧ H a = some (.lst xs) ∧ F a = none ∧ B.R a = none ∧ DpAll K F xs ds := by
  obtain ⟨v, h1, h2⟩ := S.sl i _ e
  obtain ⟨a, xs, rfl, h3⟩ := h2
  exact ⟨a, xs, h1, h3⟩
theorem sta_ow {K : PySem.W.Frag} {ρ : Rho} {σ : L2.St} {F H F' H' : Hp} {i : Nat} {ds : List D} {a : Addr} {xs : List V} (S : Sta K B ρ σ F H) (g : Grow F H F' H') (e : ρ[i]? = some (some (.ow ds))) (hs : σ[i]? = some (some (.ref a))) (hH : H a = some (.lst xs)) (r : DpAll K F xs ds) {v : V} {d : D} (hv : Dp K F' v d) {k : List V → List V} {k' : List D → List D}
    (hk : DpAll K F' (k xs) (k' ds)) : Sta K B (ρ.set i (some (.ow (k' ds)))) σ F' (upd H' a (.lst (k xs))) := (S.grow g).mut e hs (g.h.lst hH) hk

/-- name.append(e) -/
def appS (i : Nat) (f : Rho → Res D) (ρ : Rho) : Out := match ρ[i]? with
  | some (some (.ow ds)) => Res.out ρ (f ρ) fun d => if ds.length < sizeLine then .nx (ρ.set i (some (.ow (ds ++ [d])))) else .no
  | _ => .no
theorem ps_app (i : Nat) {x : Str} {p2 apos pos' : Pos} (he : PVE X B W e f) (hN : X.N[i]? = some x := by rfl) (hv : Vis X.env.scope x := by first | exact Or.inl rfl | exact Or.inr (Or.inl rfl) | exact Or.inr (Or.inr rfl)) (hd : (x == ("__debug__" : Str)) = false := by decide) (hcd : (x == ("__classdict__" : Str)) = false := by decide)
    (hbase : attributeBase (.Name x p2) "append" X.env (eval (.Name x p2) X.env) = eval (.Name x p2) X.env := by rfl)
    (hfew : ((backTo pos (starEach [e] X.env)).all (fun x => !x.1) && (backToKw pos (keywordEach [] X.env)).all (fun x => x.1.isSome)
      && decide (([e] : List Expr).length + ([] : List Keyword).length + (if ([] : List Keyword).isEmpty then 0 else 1) < 30)) = true := by rfl)
    (hline : (apos.endLine == pos.line) = true := by rfl) (hs : starEach [e] X.env = (false, eval e X.env) :: starEach [] X.env := by rfl) (hplain : (backTo pos (starEach [] X.env)).any (·.1) = false := by rfl)
    (hsw : swapsWith (.Call (.Attribute (.Name x p2) "append" apos) [e] [] pos) none pos'.line X.env = pure false := by rfl) :
    PVS X B W (.Expr (.Call (.Attribute (.Name x p2) "append" apos) [e] [] pos) pos') (appS i f) := by
  obtain ⟨t, a1, a2⟩ := he.ex
  refine ⟨_, L2.ps_expr (pe_bm PySem.F.plainAttrs_list PySem.F.slot_list_append PySem.F.type_list_append mt_append (pe_var hN hv hd hcd) (L2.pa_cons a1 L2.pa_nil hs) hbase hfew hline hs hplain) hsw, fun ρ σ F H Z S q => ?_⟩
  unfold appS at q
  split at q
  · rename_i ds er
    obtain ⟨a, xs, h1, h2, h3, h4, h5⟩ := S.own er
    refine ⟨_, h1, .inl ⟨rfl, _, .of h2⟩, a2 ρ σ F H _ S ?_⟩
    cases e : f ρ with
    | no => rw [e] at q; exact q
    | ex e' => rw [e] at q; exact xok_of S q
    | ok d =>
      rw [e] at q
      simp only [Res.ok_out] at q
      intro v F' H' g r
      by_cases hl : ds.length < sizeLine
      · rw [if_pos hl] at q
        refine ⟨a, xs, v, rfl, rfl, g.h.lst h2, by rw [h5.len]; exact hl, ?_⟩
        exact q σ F' _ g.f (sta_ow S g er h1 h2 h5 r (k := fun l => l ++ [v]) (k' := fun l => l ++ [d]) ((g.f.dpAll _ _ h5).append (.cons r .nil)))
      · rw [if_neg hl] at q; exact q.elim
  · exact q.elim
/-- name[j] = e -/
def setS (i : Nat) (fj f : Rho → Res D) (ρ : Rho) : Out := match ρ[i]? with
  | some (some (.ow ds)) => Res.out ρ (f ρ) fun d => Res.out ρ (fj ρ) fun j => match j with
    | .int z => (match ixN ds.length z with
      | some k => .nx (ρ.set i (some (.ow (ds.set k d))))
      | none => .no)
    | _ => .no
  | _ => .no
theorem ps_setI (i : Nat) {x : Str} {p2 spos : Pos} {j : Expr} {fj : Rho → Res D} (he : PVE X B W e f) (hj : PVE X B W j fj) (hN : X.N[i]? = some x := by rfl) (hv : Vis X.env.scope x := by first | exact Or.inl rfl | exact Or.inr (Or.inl rfl) | exact Or.inr (Or.inr rfl)) (hd : (x == ("__debug__" : Str)) = false := by decide) (hcd : (x == ("__classdict__" : Str)) = false := by decide)
    (ha : ∀ v, assign (.Subscript (.Name x p2) j spos) X.env v = (do
      let ov ← holding [v] (eval (.Name x p2) X.env)
      let iv ← holding [v, ov] (eval j X.env)
      standAt spos
      holding [v, ov, iv] (setItem ov iv v)
      release [v, ov, iv] []) := by intro _; rfl)
    (hs : swapsWithSole [.Subscript (.Name x p2) j spos] e pos.line X.env = pure false := by rfl) (hw : swappedStores [.Subscript (.Name x p2) j spos] e X.env = pure none := by rfl)
    (h1 : (assignEach [.Subscript (.Name x p2) j spos] X.env).map (·.2) = [assign (.Subscript (.Name x p2) j spos) X.env] := by rfl) :
    PVS X B W (.Assign [.Subscript (.Name x p2) j spos] e pos) (setS i fj f) := by
  obtain ⟨t, a1, a2⟩ := he.ex
  obtain ⟨u, b1, b2⟩ := hj.ex
  refine ⟨_, L2.ps_asg a1 (L2.pg_sub (pe_var hN hv hd hcd) b1 set_list ha) hs hw h1, fun ρ σ F H Z S q => a2 ρ σ F H _ S ?_⟩
  unfold setS at q
  split at q
  · rename_i ds er
    obtain ⟨a, xs, h1, h2, h3, h4, h5⟩ := S.own er
    cases e : f ρ with
    | no => rw [e] at q; exact q
    | ex e' => rw [e] at q; exact xok_of S q
    | ok d =>
      rw [e] at q
      simp only [Res.ok_out] at q
      intro v F1 H1 g1 r1
      refine ⟨_, h1, b2 ρ σ F1 H1 _ (S.grow g1) ?_⟩
      cases e2 : fj ρ with
      | no => rw [e2] at q; exact q
      | ex e' => rw [e2] at q; exact XOk.grow g1 (xok_of S q)
      | ok dj =>
        rw [e2] at q
        simp only [Res.ok_out] at q
        intro vj F2 H2 g2 r2
        cases dj with
        | int z =>
          cases r2
          simp only at q
          cases e3 : ixN ds.length z with
          | none => rw [e3] at q; exact q.elim
          | some k =>
            rw [e3] at q
            have g := g1.trans g2
            refine ⟨a, xs, z, k, rfl, rfl, g.h.lst h2, by rw [h5.len]; exact e3, ?_⟩
            exact q σ F2 _ g.f (sta_ow S g er h1 h2 h5 (g2.f.dp _ _ r1) (k := fun l => l.set k v) (k' := fun l => l.set k d) ((g.f.dpAll _ _ h5).set (g2.f.dp _ _ r1) k))
        | _ => exact q.elim
  · exact q.elim
/-- name op= e -/
def dAddI : D → D → Option D
  | .int i, .int j => some (.int (i + j))
  | .str a, .str b => if a.length + b.length ≤ sizeLine then some (.str (a ++ b)) else none
  | _, _ => none
def rAddI : R2 := fun x y H Q => rI0 (fun i j => .int (i + j)) x y H Q ∨ (∃ i j, x = .str i ∧ y = .str j ∧ i.length + j.length ≤ sizeLine ∧ Q (.str (i ++ j)) H)
theorem iop_addI : OpR X (inplaceOp .Add) rAddI := iop_add.or iop_add_str
theorem ov_addI {K : PySem.W.Frag} : OpV K rAddI dAddI := by
  intro x y F H Q a b d s ra rb e q
  unfold dAddI at e
  split at e
  · cases e; cases ra; cases rb
    exact .inl ⟨_, _, rfl, rfl, q _ F H (.refl s) (.int _)⟩
  · split at e
    · cases e; cases ra; cases rb
      exact .inr ⟨_, _, rfl, rfl, by assumption, q _ F H (.refl s) (.str _)⟩
    · cases e
  · cases e
def augS (i : Nat) (f : Rho → Res D) (g : D → D → Option D) (ρ : Rho) : Out := Res.out ρ ((var i ρ).bind fun x => (f ρ).bind fun y => Res.of (g x y)) fun d => .nx (ρ.set i (some (.fz d)))
theorem ps_aug (i : Nat) {x : Str} {pos' : Pos} {op : Operator} {r : R2} {g : D → D → Option D} (ho : OpR X (inplaceOp op) r) (hv : OpV X.K r g) (he : PVE X B W e f) (hN : X.N.Nodup) (hi : X.N[i]? = some x := by rfl) (hx : Loc X.env.scope x := by first | exact Or.inl rfl | exact Or.inr rfl)
    (hf : X.fn x = true ∨ X.env.scope.names.lookup x = some .local := by first | exact .inl rfl | exact .inr rfl) : PVS X B W (.AugAssign (.Name x pos') op e pos) (augS i f g) := by
  obtain ⟨t, a1, a2⟩ := he.ex
  refine ⟨_, L2.ps_aug (ti := r) hN hi hx a1 (fun pins s σ H x y v u Q I r1 r2 h => ho pins s σ H x y v u Q I r1 r2 h) hf, fun ρ σ F H Z S q => ?_⟩
  unfold augS var at q
  split at q
  · rename_i d er
    obtain ⟨v, h1, h2⟩ := S.sl i _ er
    refine ⟨v, h1, a2 ρ σ F H _ S ?_⟩
    simp only [Res.ok_bind] at q
    cases e : f ρ with
    | no => rw [e] at q; exact q
    | ex e' => rw [e] at q; exact xok_of S q
    | ok d2 =>
      rw [e] at q
      simp only [Res.ok_bind] at q
      intro w F1 H1 g1 r1
      cases e2 : g d d2 with
      | none => rw [e2] at q; exact q.elim
      | some d3 =>
        rw [e2] at q
        refine hv v w F1 H1 _ d d2 d3 g1.fh (.of g1.fh (g1.f.dp _ _ h2)) (.of g1.fh r1) e2 fun z F2 H2 g2 r2 => ?_
        have g := g1.trans g2
        exact q _ F2 H2 g.f ((S.grow g).set r2)
  · exact q.elim

/-! ### targets -/
/-- alike but for some slots -/
def Agr (is : List Nat) (σ σ' : L2.St) : Prop := σ'.length = σ.length ∧ ∀ j, j ∉ is → σ'[j]? = σ[j]?
def tgG (X : Cx) (B : Bd) (gt : D → Rho → Option Rho) (is : List Nat) : TG := fun v σ H Q => ∃ ρ F d ρ', Sta X.K B ρ σ F H ∧ Dp X.K F v d ∧ gt d ρ = some ρ' ∧ ∀ σ', Sta X.K B ρ' σ' F H → Agr is σ σ' → Q σ' H
def tgGs (X : Cx) (B : Bd) (gt : List D → Rho → Option Rho) (is : List Nat) : TGs := fun vs σ H Q => ∃ ρ F ds ρ', Sta X.K B ρ σ F H ∧ DpAll X.K F vs ds ∧ gt ds ρ = some ρ' ∧ ∀ σ', Sta X.K B ρ' σ' F H → Agr is σ σ' → Q σ' H
structure PVG (X : Cx) (B : Bd) (tg : Expr) (gt : D → Rho → Option Rho) (is : List Nat) : Prop where
  pg : PG X tg (tgG X B gt is)
structure PVGs (X : Cx) (B : Bd) (ts : List Expr) (gt : List D → Rho → Option Rho) (is : List Nat) : Prop where
  pg : PGs X ts (tgGs X B gt is)
theorem Agr.refl (is : List Nat) (σ : L2.St) : Agr is σ σ := ⟨rfl, fun _ _ => rfl⟩
theorem Agr.trans {is js : List Nat} {σ σ1 σ2 : L2.St} (a : Agr is σ σ1) (b : Agr js σ1 σ2) : Agr (is ++ js) σ σ2 :=
  ⟨b.1.trans a.1, fun j hj => (b.2 j fun z => hj (List.mem_append_right _ z)).trans (a.2 j fun z => hj (List.mem_append_left _ z))⟩
theorem PG.imp {tg : Expr} {t t' : TG} (h : PG X tg t) (q : ∀ v σ H Q, t' v σ H Q → t v σ H Q) : PG X tg t' := ⟨fun pins s σ H v u Q I r z => h.run pins s σ H v u Q I r (q v σ H Q z)⟩
theorem PGs.imp {tg : List Expr} {t t' : TGs} (h : PGs X tg t) (q : ∀ v σ H Q, t' v σ H Q → t v σ H Q) : PGs X tg t' := ⟨fun pins s σ H v u Q I r z => h.run pins s σ H v u Q I r (q v σ H Q z)⟩
def tgN (i : Nat) (d : D) (ρ : Rho) : Option Rho := some (ρ.set i (some (.fz d)))
theorem pg_name (i : Nat) {x : Str} (hN : X.N.Nodup) (hi : X.N[i]? = some x := by rfl) (hx : Loc X.env.scope x := by first | exact Or.inl rfl | exact Or.inr rfl) (hf : X.fn x = true ∨ X.env.scope.names.lookup x = some .local := by first | exact .inl rfl | exact .inr rfl) :
    PVG X B (.Name x pos) (tgN i) [i] := ⟨PG.imp (L2.pg_name hN hi hx hf) fun v σ H Q ⟨ρ, F, d, ρ', S, r, e, q⟩ => by
  cases e
  exact q _ (S.set r) ⟨by rw [List.length_set], fun j hj => by rw [List.getElem?_set_ne fun z => hj (by rw [z]; simp)]⟩⟩
def tgNil (ds : List D) (ρ : Rho) : Option Rho := match ds with
  | [] => some ρ
  | _ => none
def tgCons (t : D → Rho → Option Rho) (u : List D → Rho → Option Rho) (ds : List D) (ρ : Rho) : Option Rho := match ds with
  | d :: r => (t d ρ).bind (u r)
  | _ => none
theorem pgs_nil : PVGs X B [] tgNil [] := ⟨PGs.imp L2.pgs_nil fun vs σ H Q ⟨ρ, F, ds, ρ', S, r, e, q⟩ => by
  cases r with
  | nil => cases e; exact ⟨rfl, q σ S (.refl _ _)⟩
  | cons _ _ => cases e⟩
theorem pgs_cons {is js : List Nat} {t : D → Rho → Option Rho} {u : List D → Rho → Option Rho} (h1 : PVG X B e t is) (h2 : PVGs X B es u js) (hs : (assignEach (e :: es) X.env).map (·.2) = assign e X.env :: (assignEach es X.env).map (·.2) := by rfl) : PVGs X B (e :: es) (tgCons t u) (is ++ js) := by
  refine ⟨PGs.imp (L2.pgs_cons h1.pg h2.pg hs) fun vs σ H Q ⟨ρ, F, ds, ρ', S, r, e, q⟩ => ?_⟩
  cases r with
  | nil => cases e
  | cons r rs =>
    obtain ⟨ρ1, e1, e2⟩ := Option.bind_eq_some_iff.mp (show (t _ ρ).bind (u _) = some ρ' from e)
    exact ⟨_, _, rfl, ρ, F, _, ρ1, S, r, e1, fun σ1 S1 a1 => ⟨ρ1, F, _, ρ', S1, rs, e2, fun σ2 S2 a2 => q σ2 S2 (a1.trans a2)⟩⟩
def tgT (n : Nat) (u : List D → Rho → Option Rho) (d : D) (ρ : Rho) : Option Rho := match d with
  | .tuple ds => if ds.length = n then u ds ρ else none
  | _ => none
theorem pg_tup {is : List Nat} {k : Nat} {u : List D → Rho → Option Rho} (n : Nat) (hc : X.calm = true) (h : PVGs X B es u is) (hn : (assignEach es X.env).length = n := by rfl) (hst : (assignEach es X.env).findIdx? (·.1) = none := by rfl) : PVG X B (.Tuple es k pos) (tgT n u) is := by
  refine ⟨PG.imp (L2.pg_tup hc h.pg hn hst) fun v σ H Q ⟨ρ, F, d, ρ', S, r, e, q⟩ => ?_⟩
  cases d with
  | tuple ds =>
    cases r with
    | tup h1 r1 =>
      unfold tgT at e
      simp only at e
      split at e
      · rename_i hl
        exact ⟨_, _, rfl, S.fh.sqT h1, by rw [r1.len]; exact hl, ρ, F, ds, ρ', S, r1, e, q⟩
      · cases e
  | _ => cases e
/-- target = e -/
def asgG (t : D → Rho → Option Rho) (f : Rho → Res D) (ρ : Rho) : Out := Res.out ρ (f ρ) fun d => match t d ρ with
  | some ρ' => .nx ρ'
  | none => .no
theorem ps_asgG {is : List Nat} {tg : Expr} {t : D → Rho → Option Rho} (he : PVE X B W e f) (ht : PVG X B tg t is) (hs : swapsWithSole [tg] e pos.line X.env = pure false := by rfl) (hw : swappedStores [tg] e X.env = pure none := by rfl)
    (h1 : (assignEach [tg] X.env).map (·.2) = [assign tg X.env] := by rfl) : PVS X B W (.Assign [tg] e pos) (asgG t f) := by
  obtain ⟨u, a1, a2⟩ := he.ex
  refine ⟨_, L2.ps_asg a1 ht.pg hs hw h1, fun ρ σ F H Z S q => a2 ρ σ F H _ S ?_⟩
  unfold asgG at q
  cases e : f ρ with
  | no => rw [e] at q; exact q
  | ex e' => rw [e] at q; exact xok_of S q
  | ok d =>
    rw [e] at q
    simp only [Res.ok_out] at q
    intro v F1 H1 g1 r1
    cases e2 : t d ρ with
    | none => rw [e2] at q; exact q.elim
    | some ρ' => rw [e2] at q; exact ⟨ρ, F1, d, ρ', S.grow g1, r1, e2, fun σ' S' _ => q σ' F1 H1 g1.f S'⟩
/-- x, y = a, b -/
def parS (i j : Nat) (g : Rho → Res (List D)) (ρ : Rho) : Out := Res.out ρ (g ρ) fun ds => match ds with
  | [d, d'] => .nx ((ρ.set i (some (.fz d))).set j (some (.fz d')))
  | _ => .no
theorem ps_par (i j : Nat) {x y : Str} {g : Rho → Res (List D)} {px py pt : Pos} {kt k2 pt2} (hc : X.calm = true) (hN : X.N.Nodup) (hp : PVA X B W [a, b] g) (hi : X.N[i]? = some x := by rfl) (hj : X.N[j]? = some y := by rfl) (hij : i ≠ j := by decide)
    (hx : X.env.scope.names.lookup x = some .local := by rfl) (hy : X.env.scope.names.lookup y = some .local := by rfl)
    (hw : swappedStores [.Tuple [.Name x px, .Name y py] kt pt] (.Tuple [a, b] k2 pt2) X.env = pure (some [x, y]) := by rfl)
    (hs : swapsWithSole [.Tuple [.Name x px, .Name y py] kt pt] (.Tuple [a, b] k2 pt2) pos.line X.env = pure false := by rfl) :
    PVS X B W (.Assign [.Tuple [.Name x px, .Name y py] kt pt] (.Tuple [a, b] k2 pt2) pos) (parS i j g) := by
  obtain ⟨u, a1, a2⟩ := hp.ex
  refine ⟨_, L2.ps_par hc hN hi hj hij hx hy a1 hw hs, fun ρ σ F H Z S q => a2 ρ σ F H _ S ?_⟩
  unfold parS at q
  cases e : g ρ with
  | no => rw [e] at q; exact q
  | ex e' => rw [e] at q; exact xok_of S q
  | ok ds =>
    rw [e] at q
    simp only [Res.ok_out] at q
    intro vs F1 H1 g1 r1
    match ds, q, r1 with
    | [d, d'], q, .cons r (.cons r' .nil) => exact ⟨_, _, rfl, q _ F1 H1 g1.f (((S.grow g1).set r).set r')⟩

/-! ### what is walked -/
structure Yld (K : PySem.W.Frag) (J : It) (ds : List D) (F : Hp) : Prop where
  go : ∀ i F' H, Sub F F' → Sub F' H → i < ds.length → J.go i H
  yld : ∀ i F' H x H', Sub F F' → Sub F' H → i < ds.length → J.yld i H x H' → ∃ d F'', ds[i]? = some d ∧ Grow F' H F'' H' ∧ Dp K F'' x d
  stop : ∀ i F' H, Sub F F' → Sub F' H → ds.length ≤ i → J.stop i H
def EPi (X : Cx) (W : WX) (σ : L2.St) (F H : Hp) (R : It → Hp → Prop) : Res (List D) → Prop
  | .ok ds => ∀ J F' H', Grow F H F' H' → Yld X.K J ds F' → R J H'
  | .ex e => XOk X W σ F H e
  | .no => False
structure PVI (X : Cx) (B : Bd) (W : WX) (tg iter : Expr) (f : Rho → Res (List D)) : Prop where
  ex : ∃ wi, PI X tg iter wi ∧ ∀ ρ σ F H R, Sta X.K B ρ σ F H → EPi X W σ F H R (f ρ) → wi σ H R
def iAny (K : PySem.W.Frag) (tl : TE) : TI := fun σ H R => tl σ H fun x H1 => (∃ a xs, x = .ref a ∧ SqL K H1 a xs ∧ R (Itl K a) H1) ∨ (∃ a xs, x = .ref a ∧ SqT K H1 a xs ∧ R (Itt K a) H1) ∨ ∃ z, x = .str z ∧ R (Its z) H1
theorem pi_anyL {tg l : Expr} {tl : TE} (hl : PE X l tl) : PI X tg l (iAny X.K tl) := by
  refine ⟨fun pins s σ H R I h => ?_⟩
  refine thn (hl.run pins s σ H _ I h) fun v s1 ⟨x, H1, I1, r1, q1⟩ => ?_
  rcases q1 with ⟨a, xs, e, hq, q⟩ | ⟨a, xs, e, hq, q⟩ | ⟨z, e, q⟩
  · subst e
    cases r1
    obtain ⟨its, rv, p, hz⟩ := I1.list hq
    refine wpAny_pyIter_list p.isList ?_
    refine ⟨s1.heap.objs.size, [s1.heap.objs.size], _, _, H1, rfl, I1.kept (t' := s1.toks) fun b o e => Heap.get?_push_of_some _ e, turn_list a _, ⟨_, Heap.get?_push_size _ rfl, rfl, rfl⟩, fun b hb => ?_, q⟩
    have e : b = s1.heap.objs.size := by simpa using hb
    subst e
    exact I1.fpOk (Nat.le_refl _) (I1.hok.fresh (Nat.le_refl _))
  · subst e
    cases r1
    obtain ⟨its, rv, p, hz⟩ := I1.tuple hq
    refine wpAny_pyIter_tuple (show s1.heap.IsTuple a its.toArray from p) ?_
    refine ⟨s1.heap.objs.size, [s1.heap.objs.size], _, _, H1, rfl, I1.kept (t' := s1.toks) fun b o e => Heap.get?_push_of_some _ e, turn_tuple a _, ⟨_, Heap.get?_push_size _ rfl, rfl, rfl⟩, fun b hb => ?_, q⟩
    have e : b = s1.heap.objs.size := by simpa using hb
    subst e
    exact I1.fpOk (Nat.le_refl _) (I1.hok.fresh (Nat.le_refl _))
  · subst e
    obtain ⟨t, rfl⟩ := r1
    cases ha : z.cps.all (· < 128)
    · exact wpAny_pyIter_wide ha (pi_one (tk := s1.toks) I1 _ (turn_str _ z t "str_iterator" (.inr rfl)) ⟨_, Heap.get?_push_size _ rfl, rfl, rfl⟩ q)
    · exact wpAny_pyIter_ascii ha (pi_one (tk := s1.toks) I1 _ (turn_str _ z t "str_ascii_iterator" (.inl rfl)) ⟨_, Heap.get?_push_size _ rfl, rfl, rfl⟩ q)
def dIter : D → Option (List D)
  | .list ds => some ds
  | .tuple ds => some ds
  | .str z => some (z.cps.toList.map fun c => .str ⟨#[c]⟩)
  | _ => none
def itR (f : Rho → Res D) (ρ : Rho) : Res (List D) := (f ρ).bind fun d => Res.of (dIter d)
theorem yld_tup {K : PySem.W.Frag} {F : Hp} {a : Addr} {xs : List V} {ds : List D} (h : SqT K F a xs) (r : DpAll K F xs ds) : Yld K (Itt K a) ds F := by
  refine ⟨fun i F' H s t hi => ?_, fun i F' H x H' s t hi y => ?_, fun i F' H s t hi => ⟨xs, t.sqT (s.sqT h), by rw [r.len]; exact hi⟩⟩
  · obtain ⟨x, hx, _⟩ := r.at (List.getElem?_eq_getElem hi)
    exact ⟨xs, x, t.sqT (s.sqT h), hx⟩
  · obtain ⟨rfl, y⟩ := y
    have hx := y xs (t.sqT (s.sqT h))
    obtain ⟨d, h1, h2⟩ := r.get hx
    exact ⟨d, F', h1, .refl t, s.dp _ _ h2⟩
theorem yld_str {K : PySem.W.Frag} {F : Hp} {z : Str} : Yld K (Its z) (z.cps.toList.map fun c => .str ⟨#[c]⟩) F := by
  refine ⟨fun i F' H s t hi => by simpa [Its] using hi, fun i F' H x H' s t hi y => ?_, fun i F' H s t hi => by simpa [Its] using hi⟩
  obtain ⟨rfl, c, hc, rfl⟩ := y
  refine ⟨.str ⟨#[c]⟩, F', ?_, .refl t, .str _⟩
  rw [List.getElem?_map]
  simp [hc]
theorem pi_any {tg l : Expr} (hl : PVE X B W l f) : PVI X B W tg l (itR f) := by
  obtain ⟨t, h1, h2⟩ := hl.ex
  refine ⟨_, pi_anyL h1, fun ρ σ F H R S q => h2 ρ σ F H _ S ?_⟩
  unfold itR at q
  cases e : f ρ with
  | no => rw [e] at q; exact q
  | ex e' => rw [e] at q; exact q
  | ok d =>
    rw [e] at q
    intro v F1 H1 g1 r1
    cases d with
    | list ds =>
      cases r1 with
      | lst h3 r3 =>
        refine .inl ⟨_, _, rfl, g1.fh.sqL h3, q _ F1 H1 g1 ⟨fun i F' H s t hi => ?_, fun i F' H x H' s t hi y => ?_, fun i F' H s t hi => ⟨_, t.sqL (s.sqL h3), by rw [r3.len]; exact hi⟩⟩⟩
        · obtain ⟨x, hx, _⟩ := r3.at (List.getElem?_eq_getElem hi)
          exact ⟨_, x, t.sqL (s.sqL h3), hx⟩
        · obtain ⟨rfl, y⟩ := y
          have hx := y _ (t.sqL (s.sqL h3))
          obtain ⟨d, h1, h2⟩ := r3.get hx
          exact ⟨d, F', h1, .refl t, s.dp _ _ h2⟩
    | tuple ds =>
      cases r1 with
      | tup h3 r3 => exact .inr (.inl ⟨_, _, rfl, g1.fh.sqT h3, q _ F1 H1 g1 (yld_tup h3 r3)⟩)
    | str z => cases r1; exact .inr (.inr ⟨z, rfl, q _ F1 H1 g1 yld_str⟩)
    | _ => exact q.elim
/-- range -/
def rngD (lo : Int) (n : Nat) : List D := (List.range n).map fun i => .int (lo + (i : Nat))
theorem rngD_get {lo : Int} {n i : Nat} (h : i < n) : (rngD lo n)[i]? = some (.int (lo + (i : Nat))) := by
  unfold rngD
  rw [List.getElem?_map, List.getElem?_range h]
  rfl
theorem rngD_len {lo : Int} {n : Nat} : (rngD lo n).length = n := by unfold rngD; simp
theorem yld_rng {K : PySem.W.Frag} {F : Hp} {lo : Int} {n : Nat} : Yld K (Itr lo n) (rngD lo n) F := by
  refine ⟨fun i F' H s t hi => by rw [rngD_len] at hi; exact hi, fun i F' H x H' s t hi y => ?_, fun i F' H s t hi => by rw [rngD_len] at hi; exact hi⟩
  rw [rngD_len] at hi
  obtain ⟨rfl, rfl⟩ := y
  exact ⟨_, F', rngD_get hi, .refl t, .int _⟩
def InR (j : Int) : Prop := -(2 ^ 62) ≤ j ∧ j < 2 ^ 62
noncomputable instance (j : Int) : Decidable (InR j) := Classical.propDecidable _
noncomputable def rng1 (g : Rho → Res (List D)) (ρ : Rho) : Res (List D) := (g ρ).bind fun ds => match ds with
  | [.int j] => if InR j then .ok (rngD 0 j.toNat) else .no
  | _ => .no
noncomputable def rng2 (g : Rho → Res (List D)) (ρ : Rho) : Res (List D) := (g ρ).bind fun ds => match ds with
  | [.int i, .int j] => if InR i ∧ InR j then .ok (rngD i (j - i).toNat) else .no
  | _ => .no
theorem pi_rng1 {tg : Expr} {g : Rho → Res (List D)} (hm : X.mg "range" = none) (ha : PVA X B W [a] g) (hg : Gl X "range" := by rfl) (hs : starEach [a] X.env = [(false, eval a X.env)] := by rfl) : PVI X B W tg (.Call (.Name "range" p) [a] [] pos) (rng1 g) := by
  obtain ⟨t, h1, h2⟩ := ha.ex
  refine ⟨_, pi_range1 hg hm h1 hs, fun ρ σ F H R S q => h2 ρ σ F H _ S ?_⟩
  unfold rng1 at q
  cases e : g ρ with
  | no => rw [e] at q; exact q
  | ex e' => rw [e] at q; exact q
  | ok ds =>
    rw [e] at q
    simp only [Res.ok_bind] at q
    intro vs F1 H1 g1 r1
    split at q
    · split at q
      · rename_i hj
        cases r1 with
        | cons r rr =>
          cases rr
          cases r
          exact ⟨_, rfl, hj.1, hj.2, q _ F1 H1 g1 yld_rng⟩
      · exact q.elim
    · exact q.elim
theorem pi_rng2 {tg : Expr} {g : Rho → Res (List D)} (hm : X.mg "range" = none) (ha : PVA X B W [a, b] g) (hg : Gl X "range" := by rfl) (hs : starEach [a, b] X.env = [(false, eval a X.env), (false, eval b X.env)] := by rfl) (hs2 : starEach [b] X.env = [(false, eval b X.env)] := by rfl) :
    PVI X B W tg (.Call (.Name "range" p) [a, b] [] pos) (rng2 g) := by
  obtain ⟨t, h1, h2⟩ := ha.ex
  refine ⟨_, pi_range2 hg hm h1 hs hs2, fun ρ σ F H R S q => h2 ρ σ F H _ S ?_⟩
  unfold rng2 at q
  cases e : g ρ with
  | no => rw [e] at q; exact q
  | ex e' => rw [e] at q; exact q
  | ok ds =>
    rw [e] at q
    simp only [Res.ok_bind] at q
    intro vs F1 H1 g1 r1
    split at q
    · split at q
      · rename_i hj
        cases r1 with
        | cons r rr =>
          cases rr with
          | cons r2 rr =>
            cases rr
            cases r
            cases r2
            exact ⟨_, _, rfl, ⟨hj.1.1, hj.1.2, hj.2⟩, q _ F1 H1 g1 yld_rng⟩
      · exact q.elim
    · exact q.elim

/-! ### for -/
def forL (t : D → Rho → Option Rho) (g : Rho → Out) : List D → Rho → Out
  | [], ρ => .nx ρ
  | d :: ds, ρ => match t d ρ with
    | none => .no
    | some ρ1 => match g ρ1 with
      | .nx ρ' => forL t g ds ρ'
      | .ct ρ' => forL t g ds ρ'
      | .bk ρ' => .nx ρ'
      | .rt d => .rt d
      | .ex e ρ' => .ex e ρ'
      | .no => .no
def forS (fi : Rho → Res (List D)) (t : D → Rho → Option Rho) (g : Rho → Out) (ρ : Rho) : Out := Res.out ρ (fi ρ) fun ds => forL t g ds ρ
theorem ps_for {is : List Nat} {tg iter : Expr} {fi : Rho → Res (List D)} {t : D → Rho → Option Rho} {body : List Stmt} (hp : PassesOwn (model X.prog X.w) X.A X.env X.xe) (hc : X.calm = true) (hi : PVI X B W tg iter fi) (ht : PVG X B tg t is) (hb : PVB X B W body g)
    (hs : ∀ x, foldedSetIterable iter X.env x = pure x := by intro _; rfl) : PVS X B W (.For tg iter body [] pos) (forS fi t g) := by
  obtain ⟨wi, i1, i2⟩ := hi.ex
  obtain ⟨tb, b1, b2⟩ := hb.ex
  refine ⟨_, L2.ps_for hp hc i1 ht.pg b1 hs, fun ρ σ F H Z S q => i2 ρ σ F H _ S ?_⟩
  unfold forS at q
  cases e : fi ρ with
  | no => rw [e] at q; exact q
  | ex e' => rw [e] at q; exact xok_of S q
  | ok ds =>
    rw [e] at q
    simp only [Res.ok_out] at q
    intro J F1 H1 g1 Y
    refine ⟨fun i m σ H => m = ds.length - i ∧ i ≤ ds.length ∧ ∃ ρ F2, Sub F1 F2 ∧ Sta X.K B ρ σ F2 H ∧ Post X B W F2 Z (forL t g (ds.drop i) ρ), ⟨ds.length, by simp, Nat.zero_le _, ρ, F1, Sub.refl F1, S.grow g1, by simpa using q.mono g1.f⟩, ?_⟩
    rintro i m σ H ⟨rfl, hi, ρ, F2, s2, S2, q2⟩
    by_cases hlt : i < ds.length
    · refine .inr ⟨Y.go i F2 H s2 S2.fh hlt, fun σ' H' => i + 1 ≤ ds.length ∧ ∃ ρ F3, Sub F1 F3 ∧ Sta X.K B ρ σ' F3 H' ∧ Post X B W F3 Z (forL t g (ds.drop (i + 1)) ρ), fun σ' H' ⟨h1, h2⟩ => ⟨ds.length - (i + 1), by omega, rfl, h1, h2⟩, fun x H' y => ?_⟩
      obtain ⟨d, F3, e1, g3, r3⟩ := Y.yld i F2 H x H' s2 S2.fh hlt y
      have ed : ds.drop i = d :: ds.drop (i + 1) := by
        rw [List.drop_eq_getElem_cons hlt]
        rw [List.getElem?_eq_getElem hlt] at e1
        cases e1
        rfl
      rw [ed] at q2
      unfold forL at q2
      cases e2 : t d ρ with
      | none => rw [e2] at q2; exact q2.elim
      | some ρ1 =>
        rw [e2] at q2
        simp only at q2
        refine ⟨ρ, F3, d, ρ1, S2.grow g3, r3, e2, fun σ' S' _ => ?_⟩
        refine b2 ρ1 σ' F3 H' _ S' ?_
        cases e3 : g ρ1 with
        | nx ρ' => rw [e3] at q2; exact fun σ4 F4 H4 s4 S4 => ⟨hlt, ρ', F4, s2.trans (g3.f.trans s4), S4, Post.mono (g3.f.trans s4) q2⟩
        | ct ρ' => rw [e3] at q2; exact fun σ4 F4 H4 s4 S4 => ⟨hlt, ρ', F4, s2.trans (g3.f.trans s4), S4, Post.mono (g3.f.trans s4) q2⟩
        | bk ρ' => rw [e3] at q2; exact fun σ4 F4 H4 s4 S4 => q2 σ4 F4 H4 (g3.f.trans s4) S4
        | rt d => rw [e3] at q2; exact fun v ρ4 σ4 F4 H4 s4 S4 r4 => q2 v ρ4 σ4 F4 H4 (g3.f.trans s4) S4 r4
        | ex e' ρ' => rw [e3] at q2; exact fun σ4 C d fs F4 H4 s4 S4 => q2 σ4 C d fs F4 H4 (g3.f.trans s4) S4
        | no => rw [e3] at q2; exact q2.elim
    · have ei : i = ds.length := by omega
      subst ei
      refine .inl ⟨Y.stop _ F2 H s2 S2.fh (Nat.le_refl _), ?_⟩
      rw [List.drop_length] at q2
      exact q2 σ F2 H (Sub.refl F2) S2

/-! ### while -/
def whlN (c : Rho → Res Bool) (g : Rho → Out) : Nat → Rho → Out
  | 0, _ => .no
  | n + 1, ρ => Res.out ρ (c ρ) fun k => if k = true then (match g ρ with
      | .nx ρ' => whlN c g n ρ'
      | .ct ρ' => whlN c g n ρ'
      | .bk ρ' => .nx ρ'
      | .rt d => .rt d
      | .ex e ρ' => .ex e ρ'
      | .no => .no) else .nx ρ
theorem ps_whl {t : Expr} {body : List Stmt} {ft : Rho → Res Bool} (n : Nat) (hp : PassesOwn (model X.prog X.w) X.A X.env X.xe) (hc : PVT X B W t ft) (hb : PVB X B W body g) : PVS X B W (.While t body [] pos) (whlN ft g n) := by
  obtain ⟨tc, c1, c2⟩ := hc.ex
  obtain ⟨tb, b1, b2⟩ := hb.ex
  refine ⟨_, ps_while hp c1 b1, fun ρ σ F H Z S q => ?_⟩
  refine ⟨fun m σ H => ∃ ρ F2, Sta X.K B ρ σ F2 H ∧ Post X B W F2 Z (whlN ft g m ρ), ⟨n, ρ, F, S, q⟩, ?_⟩
  rintro m σ H ⟨ρ, F2, S2, q2⟩
  refine c2 ρ σ F2 H _ S2 ?_
  cases m with
  | zero => exact q2.elim
  | succ m =>
    unfold whlN at q2
    cases e : ft ρ with
    | no => rw [e] at q2; exact q2
    | ex e' => rw [e] at q2; exact xok_of S2 q2
    | ok k =>
      rw [e] at q2
      simp only [Res.ok_out] at q2
      intro F3 H3 g3
      cases k with
      | false => rw [if_neg (by decide)] at q2 ⊢; exact q2 σ F3 H3 g3.f (S2.grow g3)
      | true =>
        rw [if_pos rfl] at q2 ⊢
        refine ⟨fun σ' H' => ∃ ρ F4, Sta X.K B ρ σ' F4 H' ∧ Post X B W F4 Z (whlN ft g m ρ), fun σ' H' h => ⟨m, Nat.lt_succ_self m, h⟩, ?_⟩
        refine b2 ρ σ F3 H3 _ (S2.grow g3) ?_
        cases e3 : g ρ with
        | nx ρ' => rw [e3] at q2; exact fun σ4 F4 H4 s4 S4 => ⟨ρ', F4, S4, Post.mono (g3.f.trans s4) q2⟩
        | ct ρ' => rw [e3] at q2; exact fun σ4 F4 H4 s4 S4 => ⟨ρ', F4, S4, Post.mono (g3.f.trans s4) q2⟩
        | bk ρ' => rw [e3] at q2; exact fun σ4 F4 H4 s4 S4 => q2 σ4 F4 H4 (g3.f.trans s4) S4
        | rt d => rw [e3] at q2; exact fun v ρ4 σ4 F4 H4 s4 S4 r4 => q2 v ρ4 σ4 F4 H4 (g3.f.trans s4) S4 r4
        | ex e' ρ' => rw [e3] at q2; exact fun σ4 C d fs F4 H4 s4 S4 => q2 σ4 C d fs F4 H4 (g3.f.trans s4) S4
        | no => rw [e3] at q2; exact q2.elim
end
end VL

set_option Elab.async false
set_option linter.all false
set_option maxRecDepth 100000
set_option maxHeartbeats 4000000
namespace VL
open PySem PySem.Spec PyProof.Rows L2

/-! ### list comprehensions -/
section
variable {X : Cx} {B : Bd} {W : WX} {a b c e : Expr} {es : List Expr} {fa fb fc f : Rho → Res D} {pos p : Pos}
/-- the reading that an expression has from its function -/
def teO (X : Cx) (B : Bd) (W : WX) (f : Rho → Res D) : TE := fun σ H Q => ∃ ρ F, Sta X.K B ρ σ F H ∧ EPo X W σ F H Q (f ρ)
def teT (X : Cx) (B : Bd) (W : WX) (f : Rho → Res Bool) : TT := fun σ H Q => ∃ ρ F, Sta X.K B ρ σ F H ∧ EPt X W σ F H Q (f ρ)
theorem PVE.pe (h : PVE X B W e f) : PE X e (teO X B W f) := by
  obtain ⟨t, h1, h2⟩ := h.ex
  exact ⟨fun pins s σ H Q I ⟨ρ, F, S, q⟩ => h1.run pins s σ H Q I (h2 ρ σ F H Q S q)⟩
theorem PVT.pt {f : Rho → Res Bool} (h : PVT X B W e f) : PT X e (teT X B W f) := by
  obtain ⟨t, h1, h2⟩ := h.ex
  exact ⟨fun pins s σ H Q I ⟨ρ, F, S, q⟩ => h1.run pins s σ H Q I (h2 ρ σ F H Q S q)⟩
/-- the tests of a comprehension -/
structure PVTs (X : Cx) (B : Bd) (W : WX) (es : List Expr) (f : Rho → Res Bool) : Prop where
  pts : PTs X es (teT X B W f)
theorem pts_nil : PVTs X B W [] (fun _ => .ok true) := ⟨⟨fun pins s σ H Q I ⟨ρ, F, S, q⟩ => L2.pts_nil.run pins s σ H Q I (q F H (.refl S.fh))⟩⟩
theorem pts_one {f : Rho → Res Bool} (h : PVT X B W e f) : PVTs X B W [e] f := ⟨L2.pts_one h.pt⟩
def wipeR (ρ : Rho) : List Nat → Rho
  | [] => ρ
  | v :: vs => (wipeR ρ vs).set v none
theorem wipeR_length (ρ : Rho) : ∀ vs : List Nat, (wipeR ρ vs).length = ρ.length
  | [] => rfl
  | v :: vs => by unfold wipeR; rw [List.length_set, wipeR_length ρ vs]
theorem wipeR_some {ρ : Rho} {i : Nat} {x : LV} : ∀ {vs : List Nat}, (wipeR ρ vs)[i]? = some (some x) → ρ[i]? = some (some x) ∧ i ∉ vs
  | [], h => ⟨h, by simp⟩
  | v :: vs, h => by
    unfold wipeR at h
    by_cases hi : v = i
    · subst hi
      by_cases hv : v < (wipeR ρ vs).length
      · rw [List.getElem?_set_self hv] at h; cases h
      · rw [List.getElem?_eq_none (by simpa using hv)] at h; cases h
    · rw [List.getElem?_set_ne hi] at h
      obtain ⟨h1, h2⟩ := wipeR_some h
      exact ⟨h1, by simp only [List.mem_cons, not_or]; exact ⟨fun e => hi e.symm, h2⟩⟩
theorem wipe_get {σ : L2.St} {i : Nat} : ∀ {vs : List Nat}, i ∉ vs → (wipe σ vs)[i]? = σ[i]?
  | [], _ => rfl
  | v :: vs, h => by
    unfold wipe
    rw [List.getElem?_set_ne fun z => h (by rw [z]; simp)]
    exact wipe_get fun z => h (List.mem_cons_of_mem _ z)
theorem wipe_at {σ : L2.St} {i : Nat} : ∀ {vs : List Nat}, i ∈ vs → i < σ.length → (wipe σ vs)[i]? = some none
  | v :: vs, h, hl => by
    unfold wipe
    by_cases e : v = i
    · subst e
      rw [List.getElem?_set_self (by rw [wipe_length]; exact hl)]
    · rw [List.getElem?_set_ne e]
      exact wipe_at ((List.mem_cons.mp h).resolve_left fun z => e z.symm) hl
theorem wipe_agr {vs is : List Nat} {σ σ2 : L2.St} (h : Agr is (wipe σ vs) σ2) (hs : ∀ i ∈ is, i ∈ vs) : wipe σ2 vs = wipe σ vs := by
  have hl : σ2.length = σ.length := h.1.trans (wipe_length σ vs)
  refine List.ext_getElem? fun i => ?_
  by_cases hi : i ∈ vs
  · by_cases hlt : i < σ.length
    · rw [wipe_at hi (by rw [hl]; exact hlt), wipe_at hi hlt]
    · rw [List.getElem?_eq_none (by rw [wipe_length, hl]; omega), List.getElem?_eq_none (by rw [wipe_length]; omega)]
  · rw [wipe_get hi, h.2 i fun z => hi (hs i z)]
theorem Sta.wipe {K : PySem.W.Frag} {ρ : Rho} {σ : L2.St} {F H : Hp} (S : Sta K B ρ σ F H) (vs : List Nat) : Sta K B (wipeR ρ vs) (L2.wipe σ vs) F H := by
  refine ⟨by rw [wipeR_length, wipe_length, S.len], S.g, fun i lv e => ?_, fun i j v ⟨di, oi⟩ ⟨dj, oj⟩ ei ej => ?_⟩
  · obtain ⟨e1, hi⟩ := wipeR_some e
    obtain ⟨v, h1, h2⟩ := S.sl i lv e1
    exact ⟨v, by rw [wipe_get hi]; exact h1, h2⟩
  · exact S.dj i j v ⟨di, (wipeR_some oi).1⟩ ⟨dj, (wipeR_some oj).1⟩ (wipe_some ei).1 (wipe_some ej).1
theorem Grow.updT {F H F' H' : Hp} {p : Addr} {o u : HO} (g : Grow F H F' H') (hp : H p = none) (hf : F' p = none) (hu : H' p = some u) : Grow F H F' (upd H' p o) := by
  have n1 : ∀ a, H a ≠ none → a ≠ p := fun a h z => h (by rw [z]; exact hp)
  have n2 : ∀ a, F' a ≠ none → a ≠ p := fun a h z => h (by rw [z]; exact hf)
  refine ⟨g.f, ⟨fun a o' e n => ?_, fun a ps e t => ?_, fun a e => ?_⟩, ⟨fun a o' e n => ?_, fun a ps e t => ?_, fun a e => ?_⟩, g.ag⟩
  · rw [upd_ne (n1 a (by rw [e]; simp))]; exact g.h.ob a o' e n
  · rw [upd_ne (n1 a (by rw [e]; simp))]; exact g.h.tb a ps e t
  · rw [upd_ne (n1 a e)]; exact g.h.dm a e
  · rw [upd_ne (n2 a (by rw [e]; simp))]; exact g.fh.ob a o' e n
  · rw [upd_ne (n2 a (by rw [e]; simp))]; exact g.fh.tb a ps e t
  · rw [upd_ne (n2 a e)]; exact g.fh.dm a e

def noX {α : Type} : Res α → Res α
  | .ok a => .ok a
  | _ => .no
@[simp] theorem noX_ok {α : Type} (a : α) : noX (.ok a) = .ok a := rfl
def lcL (t : D → Rho → Option Rho) (c : Rho → Res Bool) (f : Rho → Res D) (ρ : Rho) : List D → Res (List D)
  | [] => .ok []
  | d :: ds => match t d ρ with
    | none => .no
    | some ρ1 => (noX (c ρ1)).bind fun k => if k = true then (noX (f ρ1)).bind fun y => (lcL t c f ρ ds).bind fun ys => .ok (y :: ys) else lcL t c f ρ ds
def lcV (fi : Rho → Res (List D)) (t : D → Rho → Option Rho) (c : Rho → Res Bool) (f : Rho → Res D) (vs : List Nat) (ρ : Rho) : Res (List D) :=
  (fi ρ).bind fun ds => if ds.length ≤ sizeLine then noX (lcL t c f (wipeR ρ vs) ds) else .no
theorem lcL_ok {t : D → Rho → Option Rho} {c : Rho → Res Bool} {f : Rho → Res D} {ρ : Rho} : ∀ {ds : List D} {ys : List D}, lcL t c f ρ ds = .ok ys → ys.length ≤ ds.length
  | [], ys, e => by cases e; exact Nat.le_refl _
  | d :: ds, ys, e => by
    unfold lcL at e
    split at e
    · cases e
    · rename_i ρ1 h1
      cases e1 : noX (c ρ1) with
      | no => rw [e1] at e; cases e
      | ex _ => rw [e1] at e; cases e
      | ok k =>
        rw [e1] at e
        simp only [Res.ok_bind] at e
        split at e
        · cases e2 : noX (f ρ1) with
          | no => rw [e2] at e; cases e
          | ex _ => rw [e2] at e; cases e
          | ok y =>
            rw [e2] at e
            simp only [Res.ok_bind] at e
            cases e3 : lcL t c f ρ ds with
            | no => rw [e3] at e; cases e
            | ex _ => rw [e3] at e; cases e
            | ok zs =>
              rw [e3] at e
              cases e
              have := lcL_ok e3
              simp; omega
        · have := lcL_ok e
          simp; omega
abbrev W0 : WX := fun _ _ _ _ => False
theorem lc_read {iter tg : Expr} {is : List Nat} {fi : Rho → Res (List D)} {t : D → Rho → Option Rho} {fc : Rho → Res Bool} {wi : TI} {vs : List Nat} (i2 : ∀ ρ σ F H R, Sta X.K B ρ σ F H → EPi X W σ F H R (fi ρ) → wi σ H R) (his : ∀ i ∈ is, i ∈ vs)
    {ρ : Rho} {σ : L2.St} {F H : Hp} {Q : VK} (S : Sta X.K B ρ σ F H) (q : EPl X W σ F H Q (lcV fi t fc f vs ρ)) : tLc wi (tgG X B t is) (teT X B W0 fc) (teO X B W0 f) vs σ H Q := by
  refine i2 ρ σ F H _ S ?_
  unfold lcV at q
  cases e : fi ρ with
  | no => rw [e] at q; exact q
  | ex e' => rw [e] at q; exact q
  | ok ds =>
    rw [e] at q
    simp only [Res.ok_bind] at q
    intro J F1 H1 g1 Y D hD
    by_cases hl : ds.length ≤ sizeLine
    · rw [if_pos hl] at q
      cases el : lcL t fc f (wipeR ρ vs) ds with
      | no => rw [el] at q; exact q.elim
      | ex e' => rw [el] at q; exact q.elim
      | ok ys =>
        rw [el] at q
        simp only [noX_ok] at q
        have S1 := S.grow g1
        refine ⟨fun i m H2 => m = ds.length - i ∧ i ≤ ds.length ∧ ∃ F2 acc out rest, Grow F1 H1 F2 H2 ∧ H2 D = some (.lst acc) ∧ F2 D = none ∧ DpAll X.K F2 acc out ∧ acc.length ≤ i ∧ lcL t fc f (wipeR ρ vs) (ds.drop i) = .ok rest ∧ out ++ rest = ys, ⟨ds.length, by simp, Nat.zero_le _, F1, [], [], ys, ?_, upd_same, g1.fh.free hD, .nil, Nat.le_refl _, by simpa using el, rfl⟩, ?_⟩
        · exact ⟨Sub.refl F1, upd_sub hD, g1.fh.trans (upd_sub hD), fun _ _ => rfl⟩
        · rintro i m H2 ⟨rfl, hi, F2, acc, out, rest, G2, hD2, fD, rd, hal, er, eo⟩
          have S2 := (S1.grow G2).wipe vs
          by_cases hlt : i < ds.length
          · refine .inr ⟨Y.go i F2 H2 G2.f G2.fh hlt, fun H' => i + 1 ≤ ds.length ∧ ∃ F2 acc out rest, Grow F1 H1 F2 H' ∧ H' D = some (.lst acc) ∧ F2 D = none ∧ DpAll X.K F2 acc out ∧ acc.length ≤ i + 1 ∧ lcL t fc f (wipeR ρ vs) (ds.drop (i + 1)) = .ok rest ∧ out ++ rest = ys,
              fun H' h => ⟨ds.length - (i + 1), by omega, rfl, h.1, h.2⟩, fun x H3 y => ?_⟩
            obtain ⟨d, F3, e1, g3, r3⟩ := Y.yld i F2 H2 x H3 G2.f G2.fh hlt y
            have ed : ds.drop i = d :: ds.drop (i + 1) := by
              rw [List.drop_eq_getElem_cons hlt]
              rw [List.getElem?_eq_getElem hlt] at e1
              cases e1
              rfl
            rw [ed] at er
            unfold lcL at er
            cases e2 : t d (wipeR ρ vs) with
            | none => rw [e2] at er; cases er
            | some ρ1 =>
              rw [e2] at er
              simp only at er
              refine ⟨wipeR ρ vs, F3, d, ρ1, S2.grow g3, r3, e2, fun σ2 S3 ag => ⟨wipe_agr ag his, ?_⟩⟩
              cases e3 : fc ρ1 with
              | no => rw [e3] at er; cases er
              | ex _ => rw [e3] at er; cases er
              | ok k =>
                rw [e3] at er
                simp only [noX_ok, Res.ok_bind] at er
                refine ⟨ρ1, F3, S3, ?_⟩
                rw [e3]
                intro F4 H4 g4
                have g34 := g3.trans g4
                cases k with
                | false =>
                  rw [if_neg (by decide)] at er ⊢
                  exact ⟨hlt, F4, acc, out, rest, G2.trans g34, g34.h.lst hD2, (g34.ag D (by rw [hD2]; simp)).trans fD, g34.f.dpAll _ _ rd, Nat.le_succ_of_le hal, er, eo⟩
                | true =>
                  rw [if_pos rfl] at er ⊢
                  cases e4 : f ρ1 with
                  | no => rw [e4] at er; cases er
                  | ex _ => rw [e4] at er; cases er
                  | ok z =>
                    rw [e4] at er
                    simp only [noX_ok, Res.ok_bind] at er
                    cases e5 : lcL t fc f (wipeR ρ vs) (ds.drop (i + 1)) with
                    | no => rw [e5] at er; cases er
                    | ex _ => rw [e5] at er; cases er
                    | ok rest' =>
                      rw [e5] at er
                      cases er
                      refine ⟨ρ1, F4, S3.grow g4, ?_⟩
                      rw [e4]
                      intro v F5 H5 g5 r5
                      have g := g34.trans g5
                      have hD5 := g.h.lst hD2
                      have fD5 : F5 D = none := (g.ag D (by rw [hD2]; simp)).trans fD
                      refine ⟨acc, hD5, by omega, hlt, F5, acc ++ [v], out ++ [z], rest', (G2.trans g).updT hD fD5 hD5, upd_same, fD5, (g.f.dpAll _ _ rd).append (.cons r5 .nil), by rw [List.length_append, List.length_singleton]; omega, rfl, by rw [← eo]; simp⟩
          · have ei : i = ds.length := by omega
            subst ei
            rw [List.drop_length] at er
            cases er
            refine .inl ⟨Y.stop _ F2 H2 G2.f G2.fh (Nat.le_refl _), ?_⟩
            rw [List.append_nil] at eo
            subst eo
            exact q D acc F2 H2 (g1.trans G2) hD2 fD (g1.h.free hD) rd
    · rw [if_neg hl] at q; exact q.elim
theorem po_lc {elt tg iter : Expr} {ifs : List Expr} {scope : Scope} (own : List (Str × Nat)) {is : List Nat} {fi : Rho → Res (List D)} {t : D → Rho → Option Rho} {fc : Rho → Res Bool} (hc : X.calm = true) (hN : X.N.Nodup) (hi : PVI X B W tg iter fi) (ok : BlkOk X.N X.env.scope scope own)
    (hg : ∀ (s : Shared) (H : Hp) (C : Addr) (cl : List (Str × Addr)) (fp : List Addr), PVG (X.blk s H scope (compEnvC scope cl C X.env) fp) B tg t is) (ht : ∀ (s : Shared) (H : Hp) (C : Addr) (cl : List (Str × Addr)) (fp : List Addr), PVTs (X.blk s H scope (compEnvC scope cl C X.env) fp) B W0 ifs fc)
    (he : ∀ (s : Shared) (H : Hp) (C : Addr) (cl : List (Str × Addr)) (fp : List Addr), PVE (X.blk s H scope (compEnvC scope cl C X.env) fp) B W0 elt f) (his : ∀ i ∈ is, i ∈ own.map (·.2) := by decide) (hs : ∀ x, foldedSetIterable iter X.env x = pure x := by intro _; rfl) :
    PVO X B W (.ListComp elt [⟨tg, iter, ifs, 0⟩] scope pos) (lcV fi t fc f (own.map (·.2))) := by
  obtain ⟨wi, i1, i2⟩ := hi.ex
  exact ⟨_, L2.pe_lc (g := tgG X B t is) (tt := teT X B W0 fc) (te := teO X B W0 f) hc hN i1 ok (fun s H C cl fp => (hg s H C cl fp).pg) (fun s H C cl fp => (ht s H C cl fp).pts) (fun s H C cl fp => (he s H C cl fp).pe) hs, fun ρ σ F H Q S q => lc_read (iter := iter) (tg := tg) i2 his S q⟩
/-- name = [.. for ..], the name a plain local -/
theorem ps_lcSet (i : Nat) {y : Str} {py spos : Pos} {elt tg iter : Expr} {ifs : List Expr} {scope : Scope} (own : List (Str × Nat)) {is : List Nat} {fi : Rho → Res (List D)} {t : D → Rho → Option Rho} {fc : Rho → Res Bool} (hc : X.calm = true) (hN : X.N.Nodup) (hi : PVI X B W tg iter fi) (ok : BlkOk X.N X.env.scope scope own)
    (hg : ∀ (s : Shared) (H : Hp) (C : Addr) (cl : List (Str × Addr)) (fp : List Addr), PVG (X.blk s H scope (compEnvC scope cl C X.env) fp) B tg t is) (ht : ∀ (s : Shared) (H : Hp) (C : Addr) (cl : List (Str × Addr)) (fp : List Addr), PVTs (X.blk s H scope (compEnvC scope cl C X.env) fp) B W0 ifs fc)
    (he : ∀ (s : Shared) (H : Hp) (C : Addr) (cl : List (Str × Addr)) (fp : List Addr), PVE (X.blk s H scope (compEnvC scope cl C X.env) fp) B W0 elt f) (his : ∀ i ∈ is, i ∈ own.map (·.2) := by decide) (hy : X.N[i]? = some y := by rfl) (hyl : X.env.scope.names.lookup y = some .local := by rfl)
    (hsw : swapsWith (.ListComp elt [⟨tg, iter, ifs, 0⟩] scope pos) (some (.Name y py)) spos.line X.env = pure true := by exact sw_true rfl rfl rfl (by decide +kernel)) (hs : ∀ x, foldedSetIterable iter X.env x = pure x := by intro _; rfl) :
    PVS X B W (.Assign [.Name y py] (.ListComp elt [⟨tg, iter, ifs, 0⟩] scope pos) spos) (asgS i fun ρ => lstD (lcV fi t fc f (own.map (·.2)) ρ)) := by
  obtain ⟨wi, i1, i2⟩ := hi.ex
  refine ⟨_, L2.ps_setLc (g := tgG X B t is) (tt := teT X B W0 fc) (te := teO X B W0 f) hc hN hy hyl hsw i1 ok (fun s H C cl fp => (hg s H C cl fp).pg) (fun s H C cl fp => (ht s H C cl fp).pts) (fun s H C cl fp => (he s H C cl fp).pe) hs, fun ρ σ F H Z S q => ?_⟩
  refine lc_read (X := X) (W := W) (iter := iter) (tg := tg) i2 his S ?_
  unfold asgS at q
  dsimp only at q
  cases e : lcV fi t fc f (own.map (·.2)) ρ with
  | no => rw [e] at q; exact q
  | ex e' => rw [e] at q; exact xok_of S q
  | ok ds =>
    rw [e] at q
    exact lst_frz fun v F' H' g r => q _ F' H' g.f ((S.grow g).set r)
theorem ps_lcSetO (i : Nat) {y : Str} {py spos : Pos} {elt tg iter : Expr} {ifs : List Expr} {scope : Scope} (own : List (Str × Nat)) {is : List Nat} {fi : Rho → Res (List D)} {t : D → Rho → Option Rho} {fc : Rho → Res Bool} (hc : X.calm = true) (hN : X.N.Nodup) (hi : PVI X B W tg iter fi) (ok : BlkOk X.N X.env.scope scope own)
    (hg : ∀ (s : Shared) (H : Hp) (C : Addr) (cl : List (Str × Addr)) (fp : List Addr), PVG (X.blk s H scope (compEnvC scope cl C X.env) fp) B tg t is) (ht : ∀ (s : Shared) (H : Hp) (C : Addr) (cl : List (Str × Addr)) (fp : List Addr), PVTs (X.blk s H scope (compEnvC scope cl C X.env) fp) B W0 ifs fc)
    (he : ∀ (s : Shared) (H : Hp) (C : Addr) (cl : List (Str × Addr)) (fp : List Addr), PVE (X.blk s H scope (compEnvC scope cl C X.env) fp) B W0 elt f) (his : ∀ i ∈ is, i ∈ own.map (·.2) := by decide) (hy : X.N[i]? = some y := by rfl) (hyl : X.env.scope.names.lookup y = some .local := by rfl)
    (hsw : swapsWith (.ListComp elt [⟨tg, iter, ifs, 0⟩] scope pos) (some (.Name y py)) spos.line X.env = pure true := by exact sw_true rfl rfl rfl (by decide +kernel)) (hs : ∀ x, foldedSetIterable iter X.env x = pure x := by intro _; rfl) :
    PVS X B W (.Assign [.Name y py] (.ListComp elt [⟨tg, iter, ifs, 0⟩] scope pos) spos) (asgO i (lcV fi t fc f (own.map (·.2)))) := by
  obtain ⟨wi, i1, i2⟩ := hi.ex
  refine ⟨_, L2.ps_setLc (g := tgG X B t is) (tt := teT X B W0 fc) (te := teO X B W0 f) hc hN hy hyl hsw i1 ok (fun s H C cl fp => (hg s H C cl fp).pg) (fun s H C cl fp => (ht s H C cl fp).pts) (fun s H C cl fp => (he s H C cl fp).pe) hs, fun ρ σ F H Z S q => ?_⟩
  refine lc_read (X := X) (W := W) (iter := iter) (tg := tg) i2 his S ?_
  unfold asgO at q
  cases e : lcV fi t fc f (own.map (·.2)) ρ with
  | no => rw [e] at q; exact q
  | ex e' => rw [e] at q; exact xok_of S q
  | ok ds =>
    rw [e] at q
    exact setO_post S q
end
end VL

set_option Elab.async false
set_option linter.all false
set_option maxRecDepth 100000
set_option maxHeartbeats 4000000
namespace VL
open PySem PySem.Spec PyProof.Rows L2 PySem.W

/-! ### an own error whose __init__ says super().__init__(f'..') and keeps its arguments -/
/-- self.f = f, .. -/
inductive FSt : List Str → List Stmt → Prop
  | nil : FSt [] []
  | cons {f : Str} {fs : List Str} {sts : List Stmt} {q1 q2 q3 q4 : Pos} (r : FSt fs sts) : FSt (f :: fs) (.Assign [.Attribute (.Name "self" q1) f q2] (.Name f q3) q4 :: sts)
/-- the parts of the text -/
inductive FPt (fs : List Str) : List Expr → Prop
  | nil : FPt fs []
  | con {x : Str} {j} {p : Pos} {es : List Expr} (h : x.length ≤ 1000) (r : FPt fs es) : FPt fs (.Constant (.str x) j p :: es)
  | fld {f : Str} {p p2 : Pos} {es : List Expr} (h : f ∈ fs) (r : FPt fs es) : FPt fs (.FormattedValue (.Name f p) (-1) none p2 :: es)
/-- what may be put into the text -/
def FmtV : Value → Prop
  | .str y _ => y.length ≤ 100000
  | .int i _ => i.natAbs.log2 < 1920
  | _ => False

structure ErrTxt (prog : Program) (K : Frag) (C fI : Addr) (fs : List Str) : Prop where
  cls : ∃ nm q N bs bm sn sub ab col dd k0 k1 k2 k3 k5, K.lookup C = some (excClassObj nm q C N bs bm true sn sub ab col dd k0 k1 k2 k3 k5 "ValueError.__new__") ∧ PySem.HandSPX.refsVE bm = true
  sa : findIn K (.ref C) "__setattr__" = some (some (.builtin "object.__setattr__"))
  noF : ∀ f ∈ fs, findIn K (.ref C) f = some none
  iC : findIn K (.ref C) "__init__" = some (some (.ref fI))
  tC : typeIn K (.ref fI) = some (.type "function")
  kC : keepIn K (.ref C) = true
  exC : subIn K (.ref C) (.type "BaseException") = some true
  veC : subIn K (.ref C) (.type "ValueError") = some true
  tyC : typeIn K (.ref C) = some (.type "type")
  mr : mroIn K C (.ref C) = some true
  opq : nsIn K cStatics "thirdparty.any" = some none
  sup : ks_superIn K C C "__init__" = some (some (.builtin "ValueError.__init__"))
  fn : ∃ (oc : Value) (od : Option Addr) (name qual : Str) (params : Arguments) (v1 v2 : Expr) (vr : List Expr) (p0 p1 p2 p3 p4 p5 : Pos) (sts : List Stmt) (scope : Scope) (doc pm : Value) (an : Option Addr) (cda : Addr) (ct : Value) (cc : Addr) (osl : Array (Option Value))
      (ccl : Value) (cdd : Option Addr) (vs : Array Value) (ccs : Array (Option Value)) (file : Str) (tf : Tok) (cl : Value) (cld : Option Addr) (csl : Array (Option Value)) (ar : Arg),
    K.lookup fI = some ⟨oc, od, .func (ksFn name qual params (.Expr (.Call (.Attribute (.Call (.Name "super" p0) [] [] p1) "__init__" p2) [.JoinedStr (v1 :: v2 :: vr) p3] [] p4) p5 :: sts) scope .none .none doc pm an (.ref cda) ct cc), osl⟩ ∧
    codeIn K (.ref cda) qual = true ∧ FPt fs (v1 :: v2 :: vr) ∧ vr.length ≤ 20 ∧ (p2.endLine == p4.line) = true ∧ FSt fs sts ∧
    K.lookup cda = some ⟨ccl, cdd, .fields vs, ccs⟩ ∧ vs[2]? = some (.str file tf) ∧ ((prog.main.file : Str) == file) = true ∧
    K.lookup cc = some ⟨cl, cld, .cell (some (.ref C)), csl⟩ ∧ (params.posonlyargs ++ params.args).head? = some ar ∧ ar.arg = "self" ∧
    scope.kind = .function ∧ scope.isCoroutine = false ∧ scope.isGenerator = false ∧ (∀ x ∈ scope.names, x.2 ≠ .cell) ∧
    scope.names.lookup ("super" : Str) = some .globalImplicit ∧ scope.names.lookup ("__class__" : Str) = some .free ∧ (∀ y ∈ ("self" : Str) :: fs, scope.names.lookup y = some .local) ∧
    (∀ us : List Value, us.length = (("self" : Str) :: fs).length → bindArgs (ksFn name qual params (.Expr (.Call (.Attribute (.Call (.Name "super" p0) [] [] p1) "__init__" p2) [.JoinedStr (v1 :: v2 :: vr) p3] [] p4) p5 :: sts) scope .none .none doc pm an (.ref cda) ct cc) ⟨us, []⟩ = pure ((("self" : Str) :: fs).zip us))
  top : (prog.main.scope.names.lookup ("super" : Str)).isSome = false
  dbg : ∀ f ∈ fs, (f == ("__debug__" : Str)) = false
  few : 0 < fs.length ∧ fs.length ≤ 10
  nd : (("self" : Str) :: fs).Nodup

section
variable {prog : Program} {w : World} {A : Around} {E : Value → Shared → Prop}

theorem joins_parts {fs : List Str} {env : Env} {m : Str → Option Value} (hk : env.scope.kind = .function) (hl : ∀ f ∈ fs, env.kindOf f = some .local) (hd : ∀ f ∈ fs, (f == ("__debug__" : Str)) = false) (hm : ∀ f ∈ fs, ∃ v, m f = some v ∧ FmtV v) {es : List Expr} (h : FPt fs es) :
    ∀ (acc : Str) (s : Shared) (R : Str → Shared → Prop), s.heap.Ns env.locals m → acc.length + 200000 * es.length ≤ 10000000 → (∀ out tk, out.length ≤ 10000000 → R out { s with toks := tk }) → Joins (model prog w) A E (evalEach es env) acc R s := by
  have z : sizeLine = 16777216 := sizeLine_eq
  induction h with
  | nil => intro acc s R hn hz hR; exact hR acc s.toks (by simpa using hz)
  | @con x j p es hx r ih =>
    intro acc s R hn hz hR
    rw [List.length_cons] at hz
    show wpAny _ _ _ _ _ _
    refine Calls.Constant_str ⟨x, _, rfl, by rw [Str.length_append]; omega, ih (acc ++ x) _ R hn (by rw [Str.length_append]; omega) fun out tk ho => hR out tk ho⟩
  | @fld f p p2 es hf r ih =>
    intro acc s R hn hz hR
    rw [List.length_cons] at hz
    obtain ⟨v, hv, fv⟩ := hm f hf
    show wpAny _ _ _ _ _ _
    refine wpAny_FormattedValue_plain (wpAny_Name (wpAny_loadName_local hk (hl f hf) hn hv ?_) (hd f hf))
    cases v with
    | str y t =>
      have fy : y.length ≤ 100000 := fv
      have key : ∀ tk t', ∃ y' t'', Value.str y t' = .str y' t'' ∧ (acc ++ y').length ≤ sizeLine ∧ Joins (model prog w) A E (evalEach es env) (acc ++ y') R { s with toks := tk } := fun tk t' =>
        ⟨y, _, rfl, by rw [Str.length_append]; omega, ih (acc ++ y) { s with toks := tk } R hn (by rw [Str.length_append]; omega) fun out tk ho => hR out tk ho⟩
      exact wpAny_formatField_str (key s.toks t) (key _ _) (by omega)
    | int i t =>
      have fi : i.natAbs.log2 < 1920 := fv
      have hlen : (toString i : Str).length ≤ 1921 := int_text_len_1921 fi
      exact wpAny_formatField_int fi ⟨_, _, rfl, by rw [Str.length_append]; omega, ih _ _ R hn (by rw [Str.length_append]; omega) fun out tk ho => hR out tk ho⟩
    | _ => exact fv.elim

/-- the method-wrapper of ValueError.__init__ called -/
theorem call_bwV {h : Heap} {g : Array GenState} {d : Drawn} {t : Nat} {os : OsState} {nm q : Str} {C N : Addr} {bs bm : List Value} {hdct : Bool} {sn : List Str} {sub : List Value} {ab : Bool} {col : Option Bool} {dd : Option Addr} {k0 k1 k2 k3 k5 : Option Value}
    {u e t0 : Addr} {rest : List Value} {Q : Value → Shared → Prop}
    (hC : h.get? C = some (excClassObj nm q C N bs bm hdct sn sub ab col dd k0 k1 k2 k3 k5 "ValueError.__new__")) (he : h.get? e = some (PySem.HandSPX.excO C t0)) (hu : h.get? u = some (kxs_mw "ValueError.__init__" e)) (hrest : rest.length ≤ sizeLine)
    (hq : ∀ h' t1, (∀ b o, b ≠ e → h.get? b = some o → h'.get? b = some o) → h'.get? e = some (PySem.HandSPX.excO C t1) → Q .none ⟨h', g, d, t, os⟩) :
    wpAny (model prog w) A (call (.ref u) rest) Q E ⟨h, g, d, t, os⟩ := by
  refine wpAny_call (codeAny_of_tree ?_)
  show wpAny _ A.in1 (callAny (.ref u) ⟨rest, []⟩) _ _ _
  simp only [callAny]
  refine wpAny_bind (wpAny_load hu ?_)
  simp only [kxs_mw, show (Value.type "method-wrapper" == Value.type "method" || Value.type "method-wrapper" == Value.type "builtin_function_or_method" || Value.type "method-wrapper" == Value.type "method-wrapper") = true by decide, if_true]
  refine W.KFB.if_so (by decide) ?_
  refine wpAny_bind (PySem.ESX.check_bound F.excBase_ValueError hC he rfl ?_)
  refine wpAny_bind (wpAny_pure (wpAny_pure ?_))
  refine ⟨Code.quiet_builtin _ (by decide +kernel), codeAny_builtin F.excBase_ValueError.initEntry ?_⟩
  rw [Around.under_plainId F.excBase_ValueError.init.plain _]
  wp_walk
  refine hq _ h.objs.size (fun b o hb ho => ?_) ?_
  · rw [Heap.get?_update_other _ _ (Ne.symm hb)]
    exact Heap.get?_push_of_some _ ho
  · rw [Heap.get?_update_self _ (Heap.get?_push_of_some _ he) rfl]
    rfl

/-- the fields stored: an object with a dict -/
theorem fields_old {K : Frag} {fs : List Str} {C x dx L t1 : Addr} {env : Env} {m : Str → Option Value} {cd : ClassData} (hcd : clsIn K C = some cd) (hmr : PySem.HandSPX.refsVE cd.mro = true) (hh : cd.hasDict = true)
    (sa : findIn K (.ref C) "__setattr__" = some (some (.builtin "object.__setattr__"))) (hk : env.scope.kind = .function) (hL : env.locals = L) (hself : env.kindOf "self" = some .local) (hms : m "self" = some (.ref x)) {sts : List Stmt} (h : FSt fs sts) :
    ∀ (vs : List Value) (mA : Str → Option Value) (nl : List Str) (s : Shared) (Q : Flow → Shared → Prop), vs.length = fs.length → (∀ p ∈ fs.zip vs, m p.1 = some p.2) → (∀ f ∈ fs, findIn K (.ref C) f = some none) → (∀ f ∈ fs, env.kindOf f = some .local) → (∀ f ∈ fs, (f == ("__debug__" : Str)) = false) →
      K.In s.heap → s.heap.Ns L m → L ≠ dx → s.heap.get? x = some { cls := .ref C, dict := some dx, data := .fields #[.ref t1, .none, .none, .none, .bool false, .none] } → x ≠ dx → s.heap.Ns1 dx mA → Within mA nl → nl.length + fs.length ≤ 1000 → K.lookup dx = none →
      (∀ h' tk, (∀ b o, b ≠ dx → s.heap.get? b = some o → h'.get? b = some o) → h'.Ns1 dx ((fs.zip vs).foldl (fun m0 p y => if y = p.1 then some p.2 else m0 y) mA) → Q .next { s with heap := h', toks := tk }) →
      wpAny (model prog w) A (execs sts env) Q E s := by
  induction h with
  | nil =>
    intro vs mA nl s Q hl hv hno hkd hdb X hn hLd hx hxd hns hw hz hdx hQ
    have : vs = [] := by simpa using hl
    subst this
    exact wpAny_execs_nil (hQ s.heap s.toks (fun _ _ _ e => e) hns)
  | @cons f fs sts q1 q2 q3 q4 r ih =>
    intro vs mA nl s Q hl hv hno hkd hdb X hn hLd hx hxd hns hw hz hdx hQ
    match vs, hl with
    | v :: vs, hl =>
      refine wpAny_execs_cons (plainObj_wpAny_Assign_Attribute ?_ (by rfl))
      refine wpAny_Name (wpAny_loadName_local hk (hkd f List.mem_cons_self) (by rw [hL]; exact hn) (hv (f, v) List.mem_cons_self) ?_) (hdb f List.mem_cons_self)
      refine wpAny_Name (wpAny_loadName_local hk hself (by rw [hL]; exact hn) hms ?_) (by decide)
      obtain ⟨oD, _, _, hoD, _, _⟩ := hns.count hw
      obtain ⟨hp, g, d, t, os⟩ := s
      refine set_plain X (ox := { cls := .ref C, dict := some dx, data := .fields #[.ref t1, .none, .none, .none, .bool false, .none] }) (od := some oD) ⟨hx, rfl, rfl, hoD⟩ sa ?_
      refine PySem.OEX.osa_old X hx hns hw (by rw [List.length_cons] at hz; omega) hcd hmr hh (hno f List.mem_cons_self) (fun h' tk' k hn' => ?_)
      have X' : K.In h' := fun a o e => k a o (fun z => by rw [z, hdx] at e; cases e) (X a o e)
      have hnL : h'.Ns L m := hn.at fun o q => k L o hLd q
      refine ih vs _ (f :: nl) ⟨h', g, d, tk', os⟩ Q (by simpa using hl) (fun p hp => hv p (List.mem_cons_of_mem _ hp)) (fun f' hf => hno f' (List.mem_cons_of_mem _ hf)) (fun f' hf => hkd f' (List.mem_cons_of_mem _ hf)) (fun f' hf => hdb f' (List.mem_cons_of_mem _ hf)) X' hnL hLd (k x _ hxd hx) hxd hn' (Within.cons f v hw) (by rw [List.length_cons] at hz ⊢; omega) hdx fun h2 tk2 k2 hn2 => ?_
      exact hQ h2 tk2 (fun b o hb e => k2 b o hb (k b o hb e)) hn2
end
end VL

set_option Elab.async false
set_option linter.all false
set_option maxRecDepth 100000
set_option maxHeartbeats 4000000
namespace VL
open PySem PySem.Spec PyProof.Rows L2 PySem.W
section
variable {prog : Program} {w : World} {A : Around} {E : Value → Shared → Prop} {R : Result → Shared → Prop}
/-- the dict's map behind the stores -/
def fmap (fs : List Str) (vs : List Value) : Str → Option Value := (fs.zip vs).foldl (fun m0 p y => if y = p.1 then some p.2 else m0 y) (fun _ => none)
theorem err_init {K : Frag} {C fI : Addr} {fs : List Str} {s : Shared} {mg mb : Str → Option Value} (T : ErrTxt prog K C fI fs) {x t0 : Addr} {vs : List Value} (X : K.In s.heap) (hlim : s.heap.NoLimit)
    (hmg : s.heap.Ns mainGlobals mg) (hms : mg "super" = none) (hmb : s.heap.Ns builtinsNs mb) (hbb : mb "super" = bootBuiltins "super") (hx : s.heap.get? x = some (PySem.HandSPX.excO C t0)) (hnx : K.lookup x = none)
    (hroom : A.depth < recursionLimit) (hl : vs.length = fs.length) (hf : ∀ v ∈ vs, FmtV v)
    (hq : ∀ h' tk dx t1, (∀ b o, b ≠ x → s.heap.get? b = some o → h'.get? b = some o) → h'.get? x = some { cls := .ref C, dict := some dx, data := .fields #[.ref t1, .none, .none, .none, .bool false, .none] } → s.heap.objs.size ≤ dx → dx ≠ x →
      h'.Ns1 dx (fmap fs vs) → R (.ok (.ret .none)) { s with heap := h', toks := tk }) :
    codeAny (model prog w) A (.call (.ref fI) ⟨.ref x :: vs, []⟩) R s := by
  obtain ⟨oc, od, name, qual, params, v1, v2, vr, p0, p1, p2, p3, p4, p5, sts, scope, doc, pm, an, cda, ct, cc, osl, ccl, cdd, cvs, ccs, file, tf, cl, cld, csl, ar, lk, hcd, hpt, hvr, hline, hst, hcode, hvs2, hfile, hcell, hhead, harg, hk, hco, hgen, hnoc, hks, hkc, hlocs, hbind⟩ := T.fn
  obtain ⟨nm, q, N, bs, bm, sn, sub, ab, col, dd, k0, k1, k2, k3, k5, hC, hbm⟩ := T.cls
  have hcl : clsIn K C = some { name := nm, bases := bs, mro := .ref C :: bm, ns := N, qualname := q, hasDict := true, slotNames := sn, subclasses := sub, abstract := ab, collection := col, hasDel := false } := by unfold clsIn; rw [hC] <;> rfl
  have hbl : (Value.ref x :: vs).length = (("self" : Str) :: fs).length := by simp [hl]
  have hz : ((("self" : Str) :: fs).zip (Value.ref x :: vs)) = (("self" : Str), Value.ref x) :: fs.zip vs := rfl
  -- the frame's map
  have look : ∀ (l : List (Str × Value)), (l.map (·.1)).Nodup → ∀ y v, (y, v) ∈ l → l.reverse.lookup y = some v := by
    intro l
    induction l with
    | nil => intro _ y v h; cases h
    | cons p l ih =>
      intro nd y v h
      rw [List.map_cons, List.nodup_cons] at nd
      rw [List.reverse_cons, List.lookup_append]
      rcases List.mem_cons.mp h with e | h
      · subst e
        have : l.reverse.lookup y = none := by
          rw [List.lookup_eq_none_iff]
          intro p hp
          simp only [bne_iff_ne, ne_eq]
          intro z
          exact nd.1 (by rw [z]; exact List.mem_map_of_mem (f := (·.1)) (List.mem_reverse.mp hp))
        rw [this]
        simp [List.lookup]
      · rw [ih nd.2 y v h]
        rfl
  have zmap : ((("self" : Str) :: fs).zip (Value.ref x :: vs)).map (·.1) = ("self" : Str) :: fs := by
    rw [List.map_fst_zip]
    omega
  have nd : (((("self" : Str) :: fs).zip (Value.ref x :: vs)).map (·.1)).Nodup := by rw [zmap]; exact T.nd
  refine ks_codeAny_call_defAt (body := _) (binds := (("self" : Str) :: fs).zip (Value.ref x :: vs)) hroom (X _ _ lk) rfl hlim (codeRec_of X hcd) rfl (BindsTo.of_eq (hbind _ hbl)) hnoc (fun y hy => hlocs y.1 (List.of_mem_zip hy).1) (fun h₁ hns kp => ?_) hco hgen hk
  have hself : ((("self" : Str) :: fs).zip (Value.ref x :: vs)).reverse.lookup ("self" : Str) = some (.ref x) := look _ nd _ _ (by rw [hz]; exact List.mem_cons_self)
  have hfl : ∀ p ∈ fs.zip vs, ((("self" : Str) :: fs).zip (Value.ref x :: vs)).reverse.lookup p.1 = some p.2 := fun p hp => look _ nd _ _ (by rw [hz]; exact List.mem_cons_of_mem _ hp)
  generalize hm : (fun y => ((("self" : Str) :: fs).zip (Value.ref x :: vs)).reverse.lookup y) = m at hns
  have hsM : m "self" = some (.ref x) := by rw [← hm]; exact hself
  have hfM : ∀ p ∈ fs.zip vs, m p.1 = some p.2 := fun p hp => by rw [← hm]; exact hfl p hp
  clear hself hfl hm
  have X1 : K.In h₁ := X.keeps kp
  have hxs : x < s.heap.objs.size := Heap.lt_size hx
  obtain ⟨h0, g, d, t, os⟩ := s
  simp only at hxs hns kp X1 hx hmg hmb ⊢
  generalize hL : h0.objs.size = L at hns hxs
  generalize henv : callEnv (ksFn name qual params (.Expr (.Call (.Attribute (.Call (.Name "super" p0) [] [] p1) "__init__" p2) [.JoinedStr (v1 :: v2 :: vr) p3] [] p4) p5 :: sts) scope .none .none doc pm an (.ref cda) ct cc) L fI = env
  have e_sc : env.scope = scope := by rw [← henv]; rfl
  have e_lc : env.locals = L := by rw [← henv]; rfl
  have e_gl : env.globals = mainGlobals := by rw [← henv]; rfl
  have e_bl : env.builtins = builtinsNs := by rw [← henv]; rfl
  have e_fu : env.func = some fI := by rw [← henv]; rfl
  have e_co : env.code = .ref cda := by rw [← henv]; rfl
  have e_ce : env.cells.lookup ("__class__" : Str) = some cc := by rw [← henv]; rfl
  have e_k : env.scope.kind = .function := by rw [e_sc]; exact hk
  have e_ks : env.kindOf "super" = some .globalImplicit := by unfold Env.kindOf; rw [e_sc]; exact hks
  have e_kc : env.kindOf "__class__" = some .free := by unfold Env.kindOf; rw [e_sc]; exact hkc
  have e_l : ∀ y ∈ ("self" : Str) :: fs, env.kindOf y = some .local := fun y hy => by unfold Env.kindOf; rw [e_sc]; exact hlocs y hy
  have e_int : interactive env = false := by simp [interactive, e_k]
  have hx1 : h₁.get? x = some (PySem.HandSPX.excO C t0) := kp _ _ hx
  have hbase : ∀ (Q : Value → Shared → Prop), (∀ h' so, (∀ b o, h₁.get? b = some o → h'.get? b = some o) → h'.get? so = some (ks_superObj C x C) → Q (.ref so) ⟨h', g, d, t + ((("self" : Str) :: fs).zip (Value.ref x :: vs)).length, os⟩) →
      _root_.PySem.wpAt (model prog w) (A.deeper env) (.func (.Expr (.Call (.Attribute (.Call (.Name "super" p0) [] [] p1) "__init__" p2) [.JoinedStr (v1 :: v2 :: vr) p3] [] p4) p5 :: sts) env) (attributeBase (.Call (.Name "super" p0) [] [] p1) "__init__" env (eval (.Call (.Name "super" p0) [] [] p1) env)) Q
        (fun e s' => wpAny (model prog w) (A.deeper env) (leaving env e) (fun _ s'' => R (.error e) s'') (fun e' s'' => R (.error e') s'') s') ⟨h₁, g, d, t + ((("self" : Str) :: fs).zip (Value.ref x :: vs)).length, os⟩ := by
    intro Q hQ
    refine ks_wpAt_super_base (env := env) e_ks e_kc (by decide) e_fu (X1 _ _ lk) rfl hhead e_co (X1 _ _ hcode) rfl hvs2 hfile T.top ?_
    refine ks_loadName_global e_k e_ks (Calls.loadGlobal_builtin (by rw [e_gl]; exact hmg.at fun o q => kp _ o q) hms (by rw [e_bl]; exact hmb.at fun o q => kp _ o q) (hbb.trans (show bootBuiltins "super" = some (.type "super") by decide +kernel)) ⟨rfl, ?_⟩)
    refine wpAny_loadName_free e_k e_kc e_ce ⟨_, X1 _ _ hcell, rfl⟩ ?_
    rw [harg]
    refine wpAny_loadName_local e_k (e_l _ List.mem_cons_self) (by rw [e_lc]; exact hns) hsM ?_
    have hD1 := X1 _ _ hC
    refine ks_wpAny_isType_cls hD1 rfl ⟨rfl, ?_⟩
    refine ks_wpAny_call_super hD1 rfl hx1 rfl (fun c e => by cases e) (looks_mroIn X1 T.mr) (fun h' e k => hQ h' _ k e)
  refine ks_wpAt_execs_cons (ks_wpAt_Expr_any ?_ e_int ?_)
  · rw [arm_eval_Call]
    refine PySem.wpAt_bind (hbase _ fun h2 so k2 hso => PySem.wpAt_of_wpAny (wpAny_bind (wpAny_standAt ?_)))
    have hform : methodCallForm (([.JoinedStr (v1 :: v2 :: vr) p3] : List Expr).length + ([] : List Keyword).length) (backTo p4 (starEach [.JoinedStr (v1 :: v2 :: vr) p3] env)) (backToKw p4 (keywordEach [] env)) = true := by rfl
    have hpos : methodCallPos true (.Call (.Name "super" p0) [] [] p1) env p2 p4 = pure p4 := by unfold methodCallPos; simp [hline]
    unfold methodCall
    rw [hform]
    refine wpAny_bind (wpAny_holding ?_)
    show wpAny _ _ (getMethod (.ref so) "__init__" _) _ _ _
    have X2 : K.In h2 := X1.keeps k2
    have hx2 := k2 _ _ hx1
    refine kxs_getMethod kxs_ValueError hso (looks_opaque X2 T.opq) (l₀ := .ref C :: bm) ?_ rfl X2 ?_ ?_ ?_ (by decide) ?_
    · exact fun A Q E s k q => wpAny_bind ((looks_clsIn X2 hcl) A _ E s k (wpAny_pure q))
    · have hs := T.sup
      unfold ks_superIn at hs
      rw [hcl] at hs
      exact hs
    · exact InstAt.type (ox := PySem.HandSPX.excO C t0) (od := none) ⟨hx2, rfl, rfl, trivial⟩ |>.andThen (looks_subIn X2 T.veC)
    · exact ks_ne X2 (ox := PySem.HandSPX.excO C t0) (odx := none) ⟨hx2, rfl, rfl, trivial⟩ hcl
    · refine wpAny_bind (wpAny_of_eq hpos ?_)
      show wpAny _ _ (callWith p4 (.ref h2.objs.size) [] (backTo p4 (starEach (.JoinedStr (v1 :: v2 :: vr) p3 :: []) env)) []) _ _ _
      have he : starEach (.JoinedStr (v1 :: v2 :: vr) p3 :: []) env = (false, eval (.JoinedStr (v1 :: v2 :: vr) p3) env) :: starEach [] env := by rfl
      rw [he]
      refine kxs_callWith (i := "ValueError.__init__") (x := x) rfl (Calls.evalArgs_plain ?_)
      show wpAny _ _ (spliced ((false, eval (.JoinedStr (v1 :: v2 :: vr) p3) env) :: backTo p4 (starEach [] env))) _ _ _
      have hmw : (h2.push (kxs_mw "ValueError.__init__" x)).get? h2.objs.size = some (kxs_mw "ValueError.__init__" x) := Heap.get?_push_size _ rfl
      have k3 : ∀ b o, h2.get? b = some o → (h2.push (kxs_mw "ValueError.__init__" x)).get? b = some o := fun b o e => Heap.get?_push_of_some _ e
      refine Calls.spliced_cons (wpAny_JoinedStr (joins_parts (fs := fs) (m := m) e_k (fun f hf => e_l f (List.mem_cons_of_mem _ hf)) T.dbg (fun f hf' => ?_) hpt Str.empty _ _ ?_ ?_ fun out tk ho => ⟨by rw [sizeLine_eq]; omega, Calls.spliced_nil ⟨hmw, ?_⟩⟩))
      · obtain ⟨i, hi, ei⟩ := List.getElem_of_mem hf'
        have hiv : i < vs.length := by rw [hl]; exact hi
        have hmem : (f, vs[i]) ∈ fs.zip vs := by
          rw [List.mem_iff_getElem]
          exact ⟨i, by rw [List.length_zip]; omega, by rw [List.getElem_zip, ei]⟩
        exact ⟨vs[i], hfM _ hmem, hf _ (List.getElem_mem hiv)⟩
      · rw [e_lc]; exact hns.at fun o q => k3 _ _ (k2 _ _ q)
      · show 0 + 200000 * (vr.length + 1 + 1) ≤ 10000000; omega
      · refine call_bwV (k3 _ _ (k2 _ _ (X1 _ _ hC))) (k3 _ _ hx2) hmw (by show 1 ≤ sizeLine; rw [sizeLine_eq]; omega) fun h4 t1 k4 hx4 => ?_
        refine PySem.wpAt_of_wpAny ?_
        have k04 : ∀ b o, b ≠ x → h0.get? b = some o → h4.get? b = some o := fun b o hb e => k4 b o hb (k3 _ _ (k2 _ _ (kp _ _ e)))
        have X4 : K.In h4 := fun b o e => k04 b o (fun z => by rw [z, hnx] at e; cases e) (X b o e)
        have hxL : x ≠ L := Nat.ne_of_lt hxs
        have hns4 : h4.Ns L m := hns.at fun o q => k4 L o (Ne.symm hxL) (k3 _ _ (k2 _ _ q))
        cases hst with
        | nil => exact absurd T.few.1 (by simp)
        | @cons f fs' sts' q1 q2 q3 q4 r =>
          obtain ⟨v, vs', rfl⟩ : ∃ v vs', vs = v :: vs' := by
            cases vs with
            | nil => simp at hl
            | cons v vs' => exact ⟨v, vs', rfl⟩
          refine wpAny_execs_cons (plainObj_wpAny_Assign_Attribute ?_ (by rfl))
          refine wpAny_Name (wpAny_loadName_local e_k (e_l f (List.mem_cons_of_mem _ List.mem_cons_self)) (by rw [e_lc]; exact hns4) (hfM (f, v) (show (f, v) ∈ (f, v) :: fs'.zip vs' from List.mem_cons_self)) ?_) (T.dbg f List.mem_cons_self)
          refine wpAny_Name (wpAny_loadName_local e_k (e_l _ List.mem_cons_self) (by rw [e_lc]; exact hns4) hsM ?_) (by decide)
          refine set_plain X4 (ox := PySem.HandSPX.excO C t1) (od := none) ⟨hx4, rfl, rfl, trivial⟩ T.sa ?_
          refine PySem.HandSPX.exc_osa X4 hx4 hcl (show PySem.HandSPX.refsVE (.ref C :: bm) = true from hbm) rfl (T.noF f List.mem_cons_self) (fun h5 tk5 dx k5 dn dne hx5 hn5 => ?_)
          have lt4 : L < h4.objs.size := hns4.lt
          have dn : h4.objs.size ≤ dx := dn
          have X5 : K.In h5 := fun b o e => k5 b o (fun z => by rw [z, hnx] at e; cases e) (X4 b o e)
          have hdx : K.lookup dx = none := by
            cases z : K.lookup dx with
            | none => rfl
            | some o => exact absurd (Heap.lt_size (X4 _ _ z)) (Nat.not_lt.mpr dn)
          have hLd : L ≠ dx := Nat.ne_of_lt (Nat.lt_of_lt_of_le lt4 dn)
          refine fields_old hcl (show PySem.HandSPX.refsVE (.ref C :: bm) = true from hbm) rfl T.sa e_k e_lc (e_l _ List.mem_cons_self) hsM r vs' _ [f] ⟨h5, g, d, tk5, os⟩ _ (by simpa using hl) (fun p hp => hfM p (List.mem_cons_of_mem _ hp)) (fun f' hf' => T.noF f' (List.mem_cons_of_mem _ hf')) (fun f' hf' => e_l f' (List.mem_cons_of_mem _ (List.mem_cons_of_mem _ hf'))) (fun f' hf' => T.dbg f' (List.mem_cons_of_mem _ hf'))
            X5 (hns4.at fun o q => k5 L o (Ne.symm hxL) q) hLd hx5 (Ne.symm dne) hn5 (fun y hy => ?_) (by have := T.few.2; rw [List.length_cons] at this; simp; omega) hdx fun h6 tk6 k6 hn6 => ?_
          · by_cases e : y = f
            · rw [e]; simp
            · rw [if_neg e] at hy; exact absurd rfl hy
          · exact hq h6 tk6 dx t1 (fun b o hb e => k6 b o (Nat.ne_of_lt (Nat.lt_of_lt_of_le (Nat.lt_trans (by rw [← hL]; exact Heap.lt_size e) lt4) dn)) (k5 b o hb (k04 b o hb e))) (k6 x _ (Ne.symm dne) hx5) (Nat.le_of_lt (Nat.lt_of_lt_of_le (by rw [hL]; exact lt4) dn)) dne hn6
  · rfl

structure ErrMade (fs : List Str) (vs : List Value) (h h' : Heap) (e C d : Addr) : Prop where
  keep : ∀ b o, h.get? b = some o → h'.get? b = some o
  new : h.objs.size ≤ e
  obj : ∃ oe xs, h'.get? e = some oe ∧ oe.cls = .ref C ∧ oe.dict = some d ∧ oe.data = .fields xs ∧ xs[1]? = some .none
  dbig : h.objs.size ≤ d
  dne : d ≠ e
  ns : h'.Ns1 d (fmap fs vs)
theorem err_made {K : Frag} {C fI : Addr} {fs : List Str} {s : Shared} {mg mb : Str → Option Value} (T : ErrTxt prog K C fI fs) {vs : List Value} (X : K.In s.heap) (hlim : s.heap.NoLimit)
    (hmg : s.heap.Ns mainGlobals mg) (hms : mg "super" = none) (hmb : s.heap.Ns builtinsNs mb) (hbb : mb "super" = bootBuiltins "super") (hroom : A.depth + 1 < recursionLimit) (hl : vs.length = fs.length) (hf : ∀ v ∈ vs, FmtV v)
    (hq : ∀ h' tk e d, ErrMade fs vs s.heap h' e C d → R (.ok (.ret (.ref e))) { s with heap := h', toks := tk }) :
    codeAny (model prog w) A (.call (.ref C) ⟨vs, []⟩) R s := by
  obtain ⟨nm, q, N, bs, bm, sn, sub, ab, col, dd, k0, k1, k2, k3, k5, hC, hbm⟩ := T.cls
  obtain ⟨hp, g, dr, tk, os⟩ := s
  have k : ∀ b o, hp.get? b = some o → ((hp.push (kdv_tup vs)).push (PySem.HandSPX.excO C hp.objs.size)).get? b = some o := fun b o e => Heap.get?_push_of_some _ (Heap.get?_push_of_some _ e)
  have hget : ((hp.push (kdv_tup vs)).push (PySem.HandSPX.excO C hp.objs.size)).get? (hp.objs.size + 1) = some (PySem.HandSPX.excO C hp.objs.size) := by heap_get
  have hnx : K.lookup (hp.objs.size + 1) = none := by
    cases e : K.lookup (hp.objs.size + 1) with
    | none => rfl
    | some o =>
      have z : hp.get? (hp.objs.size + 1) = some o := X _ _ e
      exact absurd (Nat.lt_of_succ_lt (Heap.lt_size z)) (Nat.lt_irrefl _)
  have hrest : vs.length ≤ sizeLine := by
    have := T.few.2
    rw [sizeLine_eq]; omega
  refine PySem.HandSPX.call_own F.excBase_ValueError (fun X => PySem.HandSPX.refsVE_contains X bm hbm) (X _ _ hC) (looks_findIn X T.iC) (fun self => bind_fn X self T.tC) hrest ?_
  refine err_init (s := ⟨(hp.push (kdv_tup vs)).push (PySem.HandSPX.excO C hp.objs.size), g, dr, tk, os⟩) T (X.keeps k) (hlim.keeps k) (hmg.at fun o e => k _ o e) hms (hmb.at fun o e => k _ o e) hbb hget hnx ?_ hl hf fun h' tk' dx t1 k' hx dn dne hns => ?_
  · show A.depth + 1 < recursionLimit
    exact hroom
  · have old : ∀ b o, hp.get? b = some o → h'.get? b = some o := fun b o e => k' b o (Nat.ne_of_lt (Nat.lt_succ_of_lt (Heap.lt_size e))) (k b o e)
    have z : hp.objs.size + 1 + 1 ≤ dx := by
      first
        | (simpa only [Heap.size_push] using dn)
        | exact dn
        | (have q := dn; rw [Heap.size_push, Heap.size_push] at q; exact q)
    exact ⟨rfl, hq h' tk' (hp.objs.size + 1) dx ⟨old, Nat.le_succ _, ⟨_, _, hx, rfl, rfl, rfl, rfl⟩, Nat.le_trans (Nat.le_trans (Nat.le_succ _) (Nat.le_succ _)) z, dne, hns⟩⟩
end

/-! ### raise C(e, ..) over data -/
def fmtD : D → Bool
  | .str y => decide (y.length ≤ 100000)
  | .int i => decide (i.natAbs.log2 < 1920)
  | _ => false
theorem fmt_of {K : PySem.W.Frag} {F : Hp} {v : V} {u : Value} {d : D} (h : Dp K F v d) (r : RelV v u) (f : fmtD d = true) : FmtV u := by
  cases d with
  | str y => cases h; obtain ⟨t, rfl⟩ := r; exact show y.length ≤ 100000 from of_decide_eq_true f
  | int i => cases h; obtain ⟨t, rfl⟩ := r; exact show i.natAbs.log2 < 1920 from of_decide_eq_true f
  | _ => cases f
theorem fmts_of {K : PySem.W.Frag} {F : Hp} : ∀ {vs : List V} {us : List Value} {ds : List D}, DpAll K F vs ds → Vals vs us → ds.all fmtD = true → ∀ u ∈ us, FmtV u
  | _, _, _, .nil, .nil, _ => fun u hu => by cases hu
  | _, _, _, .cons h t, .cons r rt, f => fun u hu => by
    rw [List.all_cons, Bool.and_eq_true] at f
    rcases List.mem_cons.mp hu with rfl | hu
    · exact fmt_of h r f.1
    · exact fmts_of t rt f.2 u hu
theorem relO_fmap (fs : List Str) : ∀ (vs : List V) (us : List Value) (acc : List (Str × V)) (mA : Str → Option Value), Vals vs us → (∀ f, RelO (acc.lookup f) (mA f)) →
    ∀ f, RelO (((fs.zip vs).reverse ++ acc).lookup f) ((fs.zip us).foldl (fun m0 p y => if y = p.1 then some p.2 else m0 y) mA f) := by
  induction fs with
  | nil => intro vs us acc mA r h f; simpa using h f
  | cons g fs ih =>
    intro vs us acc mA r h f
    cases r with
    | nil => simpa using h f
    | @cons v u vs us r1 r2 =>
      rw [List.zip_cons_cons, List.zip_cons_cons, List.reverse_cons, List.foldl_cons, List.append_assoc]
      exact ih vs us ((g, v) :: acc) _ r2 (relO_put r1 h) f
section
variable {X : Cx} {B : Bd} {W : WX} {e : Expr} {es : List Expr} {pos p : Pos}
def errFs (fs : List Str) (vs : List V) : List (Str × V) := (fs.zip vs).reverse
/-- C(e, ..) made to be raised -/
def tMkE (C : Addr) (fs : List Str) (ok : List V → Prop) (ta : TA) : L2.St → Hp → XK → Prop := fun σ H Q => ta σ H fun vs H1 => ok vs ∧ ∀ d, H1 d = none → Q (.ref C) (some d) (upd H1 d (.xd (errFs fs vs)))
theorem pmk_err {C fI : Addr} {fs : List Str} {x : Str} {k : Nat} {ta : TA} {ok : List V → Prop} (T : ErrTxt X.prog X.K C fI fs) (hm : X.mg x = some (.ref C)) (hms : X.mg "super" = none) (hr : Room k X.A) (ha : PA X (e :: es) ta)
    (hok : ∀ vs us, ok vs → Vals vs us → us.length = fs.length ∧ ∀ u ∈ us, FmtV u) (hg : Gl X x := by rfl) (hdb : (x == ("__debug__" : Str)) = false := by decide)
    (he : starEach (e :: es) X.env = (false, eval e X.env) :: starEach es X.env := by rfl) (hpl : (backTo pos (starEach es X.env)).any (·.1) = false := by rfl) :
    PMk X (.Call (.Name x p) (e :: es) [] pos) (tMkE C fs ok ta) := by
  intro pins s σ H Q I h
  refine wpAny_Call_Name_kw (ld_glob I hg hm ?_ hdb)
  refine PySem.W.callWith_K (h₀ := X.base) I.ok.mod.kin T.kC (thn (ha.run pos pins s σ H _ I h) fun us s1 hh => ?_) he hpl
  obtain ⟨vs, H1, I1, r1, okv, q1⟩ := hh
  refine ⟨I1.kIn, ?_⟩
  obtain ⟨hlen, hfm⟩ := hok vs us okv r1
  show wpAny _ _ (call (.ref C) us) _ _ _
  have hlim := I1.nolimit
  obtain ⟨mb, hb1, hb2⟩ := I1.mod.blt
  have hmg := I1.mod.glob.keeps I1.bk
  have hmb := hb1.keeps I1.bk
  obtain ⟨hp, g, dr, tk, os⟩ := s1
  refine wpAny_call (err_made T I1.kIn hlim hmg hms hmb (hb2 _ (by decide)) (by have := hr.dp; omega) hlen hfm fun h' tk' e d M => ?_)
  show MkP X pins σ Q (.ref e) ⟨h', g, dr, tk', os⟩
  obtain ⟨oe, fv, hoe, hc, hd, hdat, h1⟩ := M.obj
  have hns := M.ns
  obtain ⟨G', g1, g2⟩ := restrict h' fun b => decide (b ≠ e)
  have gk : ∀ b, b ≠ e → G'.get? b = h'.get? b := fun b hb => g1 b (decide_eq_true hb)
  have ge : G'.get? e = none := g2 e (by simp)
  have old : ∀ b o, hp.get? b = some o → G'.get? b = some o := fun b o q => (gk b (Nat.ne_of_lt (Nat.lt_of_lt_of_le (Heap.lt_size q) M.new))).trans (M.keep b o q)
  have ob : ObjOk X.prog X.w (upd H1 d (.xd (errFs fs vs))) G' d (.xd (errFs fs vs)) :=
    ⟨_, hns.at (fun o q => (gk d M.dne).trans q), fun f => by
      have z := relO_fmap fs vs us [] (fun _ => none) r1 (fun _ => True.intro) f
      rw [List.append_nil] at z
      exact z⟩
  have J : Inv X pins σ (upd H1 d (.xd (errFs fs vs))) ⟨G', g, dr, tk', os⟩ := I1.laid (t' := tk') old M.dbig ob
  refine ⟨e, oe, fv, ⟨G', g, dr, tk', os⟩, _, .ref C, some d, rfl, J, fun b o q => ?_, ge, hoe, ⟨hc, hd⟩, hdat, h1, ?_, rfl, I1.bare, raises_own T.exC T.tyC, q1 d (I1.hok.fresh M.dbig)⟩
  · by_cases hb : b = e
    · have q' : G'.get? b = some o := q
      rw [hb, ge] at q'; cases q'
    · exact (gk b hb).symm.trans q
  · rw [upd_ne (Ne.symm M.dne)]
    exact I1.hok.fresh M.new
def raiS (cls : Str) (fs : List Str) (fa : Rho → Res (List D)) (ρ : Rho) : Out := Res.out ρ (fa ρ) fun ds => if ds.all fmtD = true then .ex ⟨cls, (fs.zip ds).reverse⟩ ρ else .no
theorem fs_rel {K : PySem.W.Frag} {F : Hp} (fs : List Str) : ∀ {vs : List V} {ds : List D} (acc : List (Str × V)) (acd : List (Str × D)), DpAll K F vs ds → FsR K F acc acd → FsR K F ((fs.zip vs).reverse ++ acc) ((fs.zip ds).reverse ++ acd) := by
  induction fs with
  | nil => intro vs ds acc acd r h; simpa using h
  | cons g fs ih =>
    intro vs ds acc acd r h
    cases r with
    | nil => simpa using h
    | @cons v vs d ds r1 r2 =>
      rw [List.zip_cons_cons, List.zip_cons_cons, List.reverse_cons, List.reverse_cons, List.append_assoc, List.append_assoc]
      refine ih ((g, v) :: acc) ((g, d) :: acd) r2 fun f d' e => ?_
      by_cases hf : f = g
      · subst hf
        simp [List.lookup] at e ⊢
        subst e
        exact r1
      · have hb : (f == g) = false := by simpa using hf
        simp [List.lookup, hb] at e ⊢
        exact h f d' e
theorem ps_rai {C fI : Addr} {fs : List Str} {x : Str} {k : Nat} {pos2 : Pos} {fa : Rho → Res (List D)} (hc : X.calm = true) (T : ErrTxt X.prog X.K C fI fs) (hm : X.mg x = some (.ref C)) (hms : X.mg "super" = none) (hr : Room k X.A) (tk : Takes X W) (ha : PVA X B W (e :: es) fa)
    (hl : (e :: es).length = fs.length := by rfl) (hg : Gl X x := by rfl) (hdb : (x == ("__debug__" : Str)) = false := by decide)
    (he : starEach (e :: es) X.env = (false, eval e X.env) :: starEach es X.env := by rfl) (hpl : (backTo pos (starEach es X.env)).any (·.1) = false := by rfl) :
    PVS X B W (.Raise (some (.Call (.Name x p) (e :: es) [] pos)) none pos2) (raiS x fs fa) := by
  obtain ⟨t, h1, h2⟩ := ha.ex
  refine ⟨_, L2.ps_raise hc tk (pmk_err (ok := fun vs => ∃ F ds, DpAll X.K F vs ds ∧ ds.length = fs.length ∧ ds.all fmtD = true) T hm hms hr h1 (fun vs us ⟨F, ds, r, l, f⟩ rv => ⟨by rw [← rv.length, r.len, l], fmts_of r rv f⟩) hg hdb he hpl), fun ρ σ F H Z S q => h2 ρ σ F H _ S ?_⟩
  unfold raiS at q
  cases e : fa ρ with
  | no => rw [e] at q; exact q
  | ex e' => rw [e] at q; exact xok_of S q
  | ok ds =>
    rw [e] at q
    simp only [Res.ok_out] at q
    intro vs F1 H1 g1 r1
    by_cases hf : ds.all fmtD = true
    · rw [if_pos hf] at q
      refine ⟨⟨F1, ds, r1, (ha.len ρ ds e).trans hl, hf⟩, fun d hd => ?_⟩
      have g2 := Grow.new (o := .xd (errFs fs vs)) g1.fh hd (fun _ z => by cases z)
      refine q σ C d (errFs fs vs) _ _ (g1.trans g2).f (S.grow (g1.trans g2)) hm upd_same ?_
      have z := fs_rel (K := X.K) (F := upd F1 d (.xd (errFs fs vs))) fs [] [] (g2.f.dpAll _ _ r1) (fun f d e => by cases e)
      rw [List.append_nil, List.append_nil] at z
      exact z
    · rw [if_neg hf] at q; exact q.elim
end
end VL

set_option Elab.async false
set_option linter.all false
set_option maxRecDepth 100000
set_option maxHeartbeats 4000000
namespace VL
open PySem PySem.Spec PyProof.Rows L2

/-! ### try .. except X as n .., several clauses -/
/-- behind a clause with a name: the name is gone -/
def endG (D : Ends) (i : Nat) : Ends := { nx := fun σ' H' => D.nx (σ'.set i none) H', rt := D.rt, bk := fun σ' H' => D.bk (σ'.set i none) H', ct := fun σ' H' => D.ct (σ'.set i none) H' }
abbrev Cls3 := Value × Nat × (Addr → Value → Option Addr → TS)
def wAsM (K : PySem.W.Frag) (Wout : WX) (D : Ends) : List Cls3 → WX
  | [] => Wout
  | (c, i, ts) :: r => fun cls d σ H => ∃ b, PySem.W.exmOne K cls c = some b ∧ (b = true → ∀ a, H a = none → ts a cls d (endG D i) (σ.set i (some (.ref a))) H) ∧ (b = false → wAsM K Wout D r cls d σ H)
inductive HdsA (X : Cx) : List ExceptHandler → List Cls3 → Prop
  | nil : HdsA X [] []
  | cons {x n : Str} {c : Value} {i : Nat} {ts : Addr → Value → Option Addr → TS} {b₀ : Stmt} {suite : List Stmt} {np pos' : Pos} {hds : List ExceptHandler} {l : List Cls3} (hc : Names X x c) (hi : X.N[i]? = some n) (hln : X.env.kindOf n = some .local)
      (hsu : ∀ (a : Addr) (oe : Obj) (cls : Value) (d : Option Addr) (pn : List (Addr × Obj)), Zc cls d oe → (∃ vs, oe.data = .fields vs) → PSs (X.suite a ((a, oe) :: pn)) (b₀ :: suite) (ts a cls d)) (r : HdsA X hds l) :
      HdsA X (.ExceptHandler (some (.Name x np)) (some n) (b₀ :: suite) pos' :: hds) ((c, i, ts) :: l)
section
variable {X : Cx} {body : List Stmt} {h₀ : ExceptHandler} {hds : List ExceptHandler} {l : List Cls3} {pos : Pos} {tb : WX → TS} {Wout : WX}
theorem ps_try_asM (hs : X.stack = X.env :: X.outer) (hf : X.env.frame = some X.env.locals) (hN : X.N.Nodup) (tk : Takes X Wout)
    (hb : ∀ (W : WX) (pn : List (Addr × Obj)) (xe : Value → Shared → Prop), Takes (X.tr pn xe) W → PassesOwn (model X.prog X.w) X.A X.env xe → PSs (X.tr pn xe) body (tb W))
    (hh : HdsA X (h₀ :: hds) l) : PS X (.Try body (h₀ :: hds) [] [] pos) (fun D σ H => tb (wAsM X.K Wout D l) D σ H) := by
  refine ⟨fun pins s σ H D I h => ?_⟩
  have ok := I.ok
  have hfr : X.A.frames = some (X.env :: X.outer) := by rw [ok.frames, hs]
  refine wpAny_Try_except ?_
  refine wpAny_mono ((hb (wAsM X.K Wout D l) (X.pn ++ pins) (fun e s₁ => wpAny (model X.prog X.w) X.A (noteFrame e X.env) (fun _ s₂ => wpAny (model X.prog X.w) X.A (setFlight e none) (fun _ s₃ =>
    wpAny (model X.prog X.w) X.A (handleBy e X.env (h₀ :: hds)) (SP X pins D) X.xe s₃) X.xe s₂) X.xe s₁) (fun u s' xx => ?_) PassesOwn.looking).run [] s σ H D (I.toTry _) h) (fun f s1 hsp => ?_) (fun e s1 he => he)
  · obtain ⟨a, B, sI, pins', σ', H', cls, d, rfl, J', nb, up, sky, na, os, ag, w⟩ := xx
    have J : Inv X pins σ' H' sI := J'.ofTry ok
    have sky' : Sky B (X.env :: X.outer) a (Zc cls d) X.env.locals s'.heap := by rw [← hs]; exact sky
    show wpAny (model X.prog X.w) X.A (noteFrame (.ref a) X.env) _ _ _
    refine Sky.land Zc.steady hfr hf sky' fun h3 fl3 up3 => ?_
    have J3 : Inv X pins σ' H' { s' with heap := h3 } := J.landed nb fl3.1 (up.trans up3) os ag
    obtain ⟨oe3, vs3, he3, hz3, hd3⟩ := fl3.there
    have notFr : ∀ {h : Heap} {o : Obj} {vs : Array Value}, h.FunFrames B (X.env :: X.outer) → h.get? a = some o → o.data = .fields vs → a ∉ frs (X.env :: X.outer) := fun {h o vs} ff e dd hm => by
      obtain ⟨_, o', e', hnf⟩ := ff.mem hm
      rw [e] at e'; cases e'
      exact hnf _ dd
    have nfr := notFr fl3.2.2.1 he3 hd3
    have nL : a ≠ X.env.locals := fun z => nfr (List.mem_filterMap.mpr ⟨X.env, List.mem_cons_self, by rw [hf, z]⟩)
    have nF : a ∉ X.fs := fun hm => by
      obtain ⟨e, he, q⟩ := List.mem_filterMap.mp hm
      exact nfr (List.mem_filterMap.mpr ⟨e, List.mem_cons_of_mem _ he, q⟩)
    have S3 := J3.suite he3 hd3 na nL nF
    have go : ∀ {hds' : List ExceptHandler} {l' : List Cls3}, HdsA X hds' l' → wAsM X.K Wout D l' cls d σ' H' →
        wpAny (model X.prog X.w) X.A (handleBy (.ref a) X.env hds') (SP X pins D) X.xe { s' with heap := h3 } := by
      intro hds' l' hk
      induction hk with
      | nil =>
        intro w
        refine wpAny_handleBy_nil ?_
        obtain ⟨k1, k2, k3, oe, vs, T, oT, ts', he, hz, hd, h1, hr⟩ := id fl3
        unfold PySem.passOn
        refine wpAny_bind (wpAny_field he hd h1 ?_)
        rw [if_neg (show ¬ ((Value.ref T == Value.none) = true) from by simp)]
        have fin : wpAny (model X.prog X.w) X.A (setFlight (.ref a) X.env.frame) (fun _ s4 => wpAny (model X.prog X.w) X.A (throw (.ref a) : Sem Flow) (SP X pins D) X.xe s4) X.xe { s' with heap := h3 } := by
          rw [hf]
          refine HandSPX.setFlight_upZ fl3 fun h4 hh4 up4 => wpAny_throw (tk _ _ ?_)
          exact ⟨a, B, sI, pins, σ', H', cls, d, rfl, J, nb, (up.trans up3).trans up4, .inr (.inr (by rw [hs]; exact hh4)), na, os, ag, w⟩
        first
          | exact wpAny_bind (wpAny_pure (wpAny_bind fin))
          | exact wpAny_bind fin
      | @cons x n c i ts b₀ suite np pos' hds2 l2 hc hi hln hsu r ih =>
        intro w
        obtain ⟨b, hb1, hyes, hno⟩ := w
        refine wpAny_handleBy_cons (codeAny_handlers_test ?_) (by intro q; cases q)
        have LT : PySem.W.Looks (model X.prog X.w) h3 (typeOf (.ref a)) cls := fun A Q E s k q => wpAny_typeOf_ref (k _ _ he3) (by rw [hz3.1]; exact q)
        have LM := PySem.W.exm_one (M := model X.prog X.w) (J3.kIn) LT hb1
        have test : ∀ {Q : Value → Shared → Prop} {E : Value → Shared → Prop}, Q c { s' with heap := h3 } → wpAny (model X.prog X.w) (X.A.mark (some (.ref a))) (eval (.Name x np) X.env) Q E { s' with heap := h3 } := fun {Q E} q => by
          obtain ⟨hg, hdbg, hm | ⟨hm, hv, hnn⟩⟩ := hc
          · exact ld_glob (X := X.suite a ((a, oe3) :: (X.pn ++ pins))) S3 hg hm q hdbg
          · exact ld_blt (X := X.suite a ((a, oe3) :: (X.pn ++ pins))) S3 hg hm hv q hnn hdbg
        refine test (LM.here ?_)
        cases b with
        | true =>
          refine codeAny_handlers_suite_as ?_
          refine HandSPX.lands_againZ fl3 fun h4 fl4 up4 => ?_
          have J4 : Inv X pins σ' H' { s' with heap := h4 } := J.landed nb fl4.1 ((up.trans up3).trans up4) os ag
          obtain ⟨oe4, vs4, he4, hz4, hd4⟩ := fl4.there
          have S4 := J4.suite he4 hd4 na nL nF
          refine store_ok (X := X.suite a ((a, oe4) :: (X.pn ++ pins))) (v := .ref a) S4 hN hi (.inl hln) rfl (fun s5 S5 => ?_) (.inr hln)
          refine wpAny_mono ((hsu a oe4 cls d (X.pn ++ pins) hz4 ⟨_, hd4⟩).run [] s5 _ H' _ S5 (hyes rfl a na)) (fun f s6 hsp => ?_) (fun _ _ z => False.elim z)
          have end_ : ∀ {σ6 : L2.St} {H6 : Hp} {Q : Shared → Prop}, Inv (X.suite a ((a, oe4) :: (X.pn ++ pins))) [] σ6 H6 s6 → (∀ s7, Inv X pins (σ6.set i none) H6 s7 → Q s7) →
              wpAny (model X.prog X.w) X.A (do bindName X.env n .none; unbindBehindTheSuite X.env n pos') (fun _ s7 => Q s7) X.xe s6 := fun {σ6 H6 Q} S6 hq => gone_ok (S6.unsuite ok) hN hi hln hq
          cases f with
          | next =>
            obtain ⟨σ6, H6, S6, q6⟩ := hsp
            exact end_ S6 fun s7 J7 => ⟨_, _, J7, q6⟩
          | brk =>
            obtain ⟨σ6, H6, S6, q6⟩ := hsp
            exact end_ S6 fun s7 J7 => ⟨_, _, J7, q6⟩
          | cont =>
            obtain ⟨σ6, H6, S6, q6⟩ := hsp
            exact end_ S6 fun s7 J7 => ⟨_, _, J7, q6⟩
          | ret u =>
            obtain ⟨v6, σ6, H6, S6, r6, q6⟩ := hsp
            exact end_ S6 fun s7 J7 => ⟨_, _, _, J7, r6, q6⟩
        | false =>
          show wpAny _ X.A (handleBy (.ref a) X.env hds2) _ _ _
          exact ih (hno rfl)
    exact go hh w
  · cases f with
    | next =>
      obtain ⟨σ', H', J', q⟩ := hsp
      exact wpAny_execs_nil ⟨σ', H', J'.ofTry ok, q⟩
    | brk =>
      obtain ⟨σ', H', J', q⟩ := hsp
      exact ⟨σ', H', J'.ofTry ok, q⟩
    | cont =>
      obtain ⟨σ', H', J', q⟩ := hsp
      exact ⟨σ', H', J'.ofTry ok, q⟩
    | ret u =>
      obtain ⟨v, σ', H', J', r, q⟩ := hsp
      exact ⟨v, σ', H', J'.ofTry ok, r, q⟩
end

/-! ### .. by data -/
def clrE (ρ : Rho) : Rho := ρ.map fun o => match o with
  | some (.er _) => none
  | o => o
section
variable {X : Cx} {B : Bd} {W : WX} {f : Rho → Res D} {g : Rho → Out}
theorem clrE_some {ρ : Rho} {i : Nat} {lv : LV} (h : (clrE ρ)[i]? = some (some lv)) : ρ[i]? = some (some lv) ∧ ∀ e, lv ≠ .er e := by
  unfold clrE at h
  rw [List.getElem?_map] at h
  cases q : ρ[i]? with
  | none => rw [q] at h; cases h
  | some o =>
    rw [q] at h
    cases o with
    | none => cases h
    | some u =>
      cases u with
      | er e => cases h
      | fz d => cases h; exact ⟨rfl, fun e z => by cases z⟩
      | ow d => cases h; exact ⟨rfl, fun e z => by cases z⟩
theorem Sta.clr {K : PySem.W.Frag} {ρ : Rho} {σ : L2.St} {F H : Hp} (S : Sta K B ρ σ F H) (x : Option (Addr × Value × Option Addr)) (m : Str → Option Value) : Sta K { B with xi := x, mg := m } (clrE ρ) σ F H := by
  refine ⟨by unfold clrE; rw [List.length_map, S.len], S.g, fun i lv e => ?_, fun i j v ⟨di, oi⟩ ⟨dj, oj⟩ ei ej => S.dj i j v ⟨di, (clrE_some oi).1⟩ ⟨dj, (clrE_some oj).1⟩ ei ej⟩
  obtain ⟨e1, n⟩ := clrE_some e
  obtain ⟨v, h1, h2⟩ := S.sl i lv e1
  refine ⟨v, h1, ?_⟩
  cases lv with
  | er e' => exact absurd rfl (n e')
  | fz d => exact h2
  | ow d => exact h2
theorem Sta.setE {K : PySem.W.Frag} {ρ : Rho} {σ : L2.St} {F H : Hp} (S : Sta K B ρ σ F H) {i : Nat} {v : V} {e : Err} (h : Slot K B F H v (.er e)) : Sta K B (ρ.set i (some (.er e))) (σ.set i (some v)) F H := by
  have nw : ∀ j, Own (ρ.set i (some (.er e))) j → i ≠ j ∧ Own ρ j := fun j ⟨dj, oj⟩ => by
    have : i ≠ j := fun z => by
      subst z
      rw [List.getElem?_set] at oj
      simp only [if_true] at oj
      split at oj <;> simp at oj
    rw [List.getElem?_set_ne this] at oj
    exact ⟨this, dj, oj⟩
  refine ⟨by rw [List.length_set, List.length_set, S.len], S.g, fun j lv q => ?_, fun j k u oj ok ej ek => ?_⟩
  · rw [List.getElem?_set] at q
    by_cases hij : i = j
    · subst hij
      rw [if_pos rfl] at q
      split at q
      · cases q
        exact ⟨v, by rw [List.getElem?_set_self (by rw [← S.len]; assumption)], h⟩
      · cases q
    · rw [if_neg hij] at q
      obtain ⟨u, h1, h2⟩ := S.sl j lv q
      exact ⟨u, by rw [List.getElem?_set_ne hij]; exact h1, h2⟩
  · obtain ⟨nj, oj⟩ := nw j oj
    obtain ⟨nk, ok⟩ := nw k ok
    rw [List.getElem?_set_ne nj] at ej
    rw [List.getElem?_set_ne nk] at ek
    exact S.dj j k u oj ok ej ek
theorem Sta.setN {K : PySem.W.Frag} {ρ : Rho} {σ : L2.St} {F H : Hp} (S : Sta K B ρ σ F H) (i : Nat) : Sta K B (ρ.set i none) (σ.set i none) F H := by
  have nw : ∀ {j : Nat} {lv : LV}, (ρ.set i none)[j]? = some (some lv) → i ≠ j ∧ ρ[j]? = some (some lv) := fun {j lv} q => by
    have : i ≠ j := fun z => by
      subst z
      rw [List.getElem?_set] at q
      simp only [if_true] at q
      split at q <;> simp at q
    rw [List.getElem?_set_ne this] at q
    exact ⟨this, q⟩
  refine ⟨by rw [List.length_set, List.length_set, S.len], S.g, fun j lv q => ?_, fun j k u ⟨dj, oj⟩ ⟨dk, ok⟩ ej ek => ?_⟩
  · obtain ⟨n, q⟩ := nw q
    obtain ⟨u, h1, h2⟩ := S.sl j lv q
    exact ⟨u, by rw [List.getElem?_set_ne n]; exact h1, h2⟩
  · obtain ⟨nj, oj⟩ := nw oj
    obtain ⟨nk, ok⟩ := nw ok
    rw [List.getElem?_set_ne nj] at ej
    rw [List.getElem?_set_ne nk] at ek
    exact S.dj j k u ⟨dj, oj⟩ ⟨dk, ok⟩ ej ek
/-- the suite of a clause -/
def sxB (X : Cx) (B : Bd) (a : Addr) (cls : Value) (d : Option Addr) : Bd := { B with xi := some (a, cls, d), mg := X.mg }
def tsO (X : Cx) (B : Bd) (W : WX) (g : Rho → Out) : TS := fun Z σ H => ∃ ρ F, Sta X.K B ρ σ F H ∧ Post X B W F Z (g ρ)
theorem PVB.pss {st : List Stmt} (h : PVB X B W st g) : PSs X st (tsO X B W g) := by
  obtain ⟨t, h1, h2⟩ := h.ex
  exact ⟨fun pins s σ H Z I ⟨ρ, F, S, q⟩ => h1.run pins s σ H Z I (h2 ρ σ F H Z S q)⟩
/-- behind the suite -/
def behS (i : Nat) : Out → Out
  | .nx ρ => .nx ((clrE ρ).set i none)
  | .bk ρ => .bk ((clrE ρ).set i none)
  | .ct ρ => .ct ((clrE ρ).set i none)
  | .rt d => .rt d
  | _ => .no
/-- the clauses: the names of the classes that each takes, its slot, its suite -/
abbrev Hd3 := List Str × Nat × (Rho → Out)
def hdlS : List Hd3 → Err → Rho → Out
  | [], e, ρ => .ex e ρ
  | (ns, i, g) :: r, e, ρ => if ns.contains e.cls = true then behS i (g ((clrE ρ).set i (some (.er e)))) else hdlS r e ρ
structure PVH (X : Cx) (B : Bd) (W : WX) (all : List Str) (hds : List ExceptHandler) (hs : List Hd3) : Prop where
  ex : ∃ l, HdsA X hds l ∧ ∀ (e : Err) (ρ : Rho) (σ : L2.St) (C d : Addr) (fs : List (Str × V)) (F H : Hp) (Z : Ends), Sta X.K B ρ σ F H → X.mg e.cls = some (.ref C) → F d = some (.xd fs) → FsR X.K F fs e.fs → all.contains e.cls = true → Post X B W F Z (hdlS hs e ρ) →
    wAsM X.K W Z l (.ref C) (some d) σ H
theorem ph_nil {all : List Str} : PVH X B W all [] [] := ⟨[], .nil, fun e ρ σ C d fs F H Z S h1 h2 h3 h4 q => q σ C d fs F H (Sub.refl F) S h1 h2 h3⟩
theorem ph_cons {all ns : List Str} {x n : Str} {c : Value} {b₀ : Stmt} {suite : List Stmt} {np pos' : Pos} {hds : List ExceptHandler} {hs : List Hd3} (i : Nat) (hm : X.mg x = some c) (ex : ∀ nm C, all.contains nm = true → X.mg nm = some (.ref C) → PySem.W.exmOne X.K (.ref C) c = some (ns.contains nm))
    (hsu : ∀ (a : Addr) (oe : Obj) (cls : Value) (d : Option Addr) (pn : List (Addr × Obj)), Zc cls d oe → (∃ vs, oe.data = .fields vs) → PVB (X.suite a ((a, oe) :: pn)) (sxB X B a cls d) W0 (b₀ :: suite) g) (r : PVH X B W all hds hs)
    (hi : X.N[i]? = some n := by rfl) (hln : X.env.kindOf n = some .local := by rfl) (hg : Gl X x := by rfl) (hdb : (x == ("__debug__" : Str)) = false := by decide) :
    PVH X B W all (.ExceptHandler (some (.Name x np)) (some n) (b₀ :: suite) pos' :: hds) ((ns, i, g) :: hs) := by
  obtain ⟨l, l1, l2⟩ := r.ex
  refine ⟨(c, i, fun a cls d => tsO X (sxB X B a cls d) W0 g) :: l, .cons ⟨hg, hdb, .inl hm⟩ hi hln (fun a oe cls d pn hz hv => (hsu a oe cls d pn hz hv).pss) l1, fun e ρ σ C d fs F H Z S h1 h2 h3 h4 q => ?_⟩
  refine ⟨_, ex _ _ h4 h1, fun hb a ha => ?_, fun hb => ?_⟩
  · unfold hdlS at q
    rw [if_pos hb] at q
    refine ⟨_, F, (S.clr (some (a, .ref C, some d)) X.mg).setE ⟨a, C, d, fs, rfl, rfl, h1, h2, h3⟩, ?_⟩
    cases e2 : g ((clrE ρ).set i (some (.er e))) with
    | nx ρ' => rw [e2] at q; exact fun σ' F' H' s S' => q _ F' H' s ((S'.clr B.xi B.mg).setN i)
    | bk ρ' => rw [e2] at q; exact fun σ' F' H' s S' => q _ F' H' s ((S'.clr B.xi B.mg).setN i)
    | ct ρ' => rw [e2] at q; exact fun σ' F' H' s S' => q _ F' H' s ((S'.clr B.xi B.mg).setN i)
    | rt dd => rw [e2] at q; exact fun v ρ' σ' F' H' s S' r => q v _ σ' F' H' s (S'.clr B.xi B.mg) r
    | ex _ _ => rw [e2] at q; exact q.elim
    | no => rw [e2] at q; exact q.elim
  · unfold hdlS at q
    rw [if_neg (by rw [hb]; decide)] at q
    exact l2 e ρ σ C d fs F H Z S h1 h2 h3 h4 q
def tryS (all : List Str) (g : Rho → Out) (hs : List Hd3) (ρ : Rho) : Out := match g ρ with
  | .ex e ρ' => if all.contains e.cls = true then hdlS hs e ρ' else .no
  | o => o
theorem ps_try {all : List Str} {body : List Stmt} {h₀ : ExceptHandler} {hds : List ExceptHandler} {hs : List Hd3} {pos : Pos} (hN : X.N.Nodup) (tk : Takes X W)
    (hb : ∀ (W : WX) (pn : List (Addr × Obj)) (xe : Value → Shared → Prop), Takes (X.tr pn xe) W → PassesOwn (model X.prog X.w) X.A X.env xe → PVB (X.tr pn xe) B W body g) (hh : PVH X B W all (h₀ :: hds) hs)
    (hst : X.stack = X.env :: X.outer := by rfl) (hf : X.env.frame = some X.env.locals := by rfl) : PVS X B W (.Try body (h₀ :: hds) [] [] pos) (tryS all g hs) := by
  obtain ⟨l, l1, l2⟩ := hh.ex
  refine ⟨_, ps_try_asM (tb := fun W => tsO X B W g) hst hf hN tk (fun W pn xe t p => (hb W pn xe t p).pss) l1, fun ρ σ F H Z S q => ⟨ρ, F, S, ?_⟩⟩
  unfold tryS at q
  cases e : g ρ with
  | nx ρ' => rw [e] at q; exact q
  | bk ρ' => rw [e] at q; exact q
  | ct ρ' => rw [e] at q; exact q
  | rt d => rw [e] at q; exact q
  | no => rw [e] at q; exact q.elim
  | ex er ρ' =>
    rw [e] at q
    simp only at q
    split at q
    · rename_i hc
      exact fun σ' C d fs F' H' s S' h1 h2 h3 => l2 er ρ' σ' C d fs F' H' Z S' h1 h2 h3 hc (Post.mono s q)
    · exact q.elim
/-- n.f of the error that the suite holds -/
def xfV (nm : Str) (fl : Str) (i : Nat) (ρ : Rho) : Res D := match ρ[i]? with
  | some (some (.er e)) => if e.cls = nm then Res.of (e.fs.lookup fl) else .no
  | _ => .no
theorem pv_xf {a C : Addr} {oe : Obj} {cls : Value} {d : Option Addr} {pn : List (Addr × Obj)} {x nm fl : Str} {pos p2 : Pos} (i : Nat) (T : XfC X.K C) (hm : X.mg nm = some (.ref C)) (hno : PySem.W.findIn X.K (.ref C) fl = some none) (hz : Zc cls d oe) (hf : ∃ vs, oe.data = .fields vs)
    (hN : X.N[i]? = some x := by rfl) (hv : Vis X.env.scope x := by first | exact Or.inl rfl | exact Or.inr (Or.inl rfl) | exact Or.inr (Or.inr rfl)) (hd : (x == ("__debug__" : Str)) = false := by decide) (hcd : (x == ("__classdict__" : Str)) = false := by decide)
    (hb : attributeBase (.Name x p2) fl X.env (eval (.Name x p2) X.env) = eval (.Name x p2) X.env := by rfl) : PVE (X.suite a ((a, oe) :: pn)) (sxB X B a cls d) W (.Attribute (.Name x p2) fl pos) (xfV nm fl i) := by
  refine ⟨_, pe_xf T hno hz hf (pe_var (X := X.suite a ((a, oe) :: pn)) hN hv hd hcd) hb, fun ρ σ F H Q S q => ?_⟩
  unfold xfV at q
  split at q
  · rename_i e er
    split at q
    · rename_i hc
      obtain ⟨v, h1, h2⟩ := S.sl i _ er
      obtain ⟨a', C', dd, fs, hxi, rfl, h4, h5, h6⟩ := h2
      have e1 : (a, cls, d) = (a', Value.ref C', some dd) := Option.some.inj hxi
      cases e1
      have h4' : X.mg e.cls = some (.ref C') := h4
      rw [hc, hm] at h4'
      cases h4'
      cases e2 : e.fs.lookup fl with
      | none => rw [e2] at q; exact q.elim
      | some dv =>
        rw [e2] at q
        obtain ⟨w, k1, k2⟩ := h6 fl dv e2
        exact ⟨_, h1, rfl, rfl, dd, fs, w, rfl, S.fh.xd h5, k1, q w F H (.refl S.fh) k2⟩
    · exact q.elim
  · exact q.elim
end
end VL

set_option Elab.async false
set_option linter.all false
set_option maxRecDepth 100000
set_option maxHeartbeats 4000000
namespace VL
open PySem PySem.Spec PyProof.Rows L2

section
variable {X : Cx} {B : Bd} {W : WX} {a b c e : Expr} {es : List Expr} {fa fb fc f : Rho → Res D} {pos p : Pos}

/-! ### chains of comparisons -/
structure PCh (X : Cx) (ops : List CmpOp) (bs : List Expr) (t : V → L2.St → Hp → (Bool → Hp → Prop) → Prop) : Prop where
  tst : ∀ (pos : Pos) (pins : List (Addr × Obj)) (s : Shared) (σ : L2.St) (H : Hp) (x : V) (v : Value) (Q : Bool → Hp → Prop), Inv X pins σ H s → RelV x v → t x σ H Q → wpAny (model X.prog X.w) X.A (testChain pos v ops (evalEach bs X.env)) (TP X pins σ Q) X.xe s
  val : ∀ (pos : Pos) (pins : List (Addr × Obj)) (s : Shared) (σ : L2.St) (H : Hp) (x : V) (v : Value) (Q : Bool → Hp → Prop), Inv X pins σ H s → RelV x v → t x σ H Q → wpAny (model X.prog X.w) X.A (compareChain pos v ops (evalEach bs X.env)) (EP X pins σ fun y H => ∃ k, y = .bl k ∧ Q k H) X.xe s
theorem pch_last {op : CmpOp} {r : R2} {tb : TE} (ho : OpR X (compareOp op) r) (hb : PE X b tb) : PCh X [op] [b] (fun x σ H Q => tb σ H fun y H1 => r x y H1 fun z H2 => ∃ k, z = .bl k ∧ Q k H2) := by
  refine ⟨fun pos pins s σ H x v Q I rx h => ?_, fun pos pins s σ H x v Q I rx h => ?_⟩
  · refine test_last (thn (hb.run pins s σ H _ I h) fun u s1 ⟨y, H1, I1, r1, q1⟩ => thn (ho pins s1 σ H1 x y v u _ I1 rx r1 q1) fun d s2 ⟨z, H2, I2, r2, k, ez, q2⟩ => ?_)
    subst ez
    cases r2
    exact wpAny_truthy_bool ⟨H2, I2, q2⟩
  · exact chain_last (thn (hb.run pins s σ H _ I h) fun u s1 ⟨y, H1, I1, r1, q1⟩ => ho pins s1 σ H1 x y v u _ I1 rx r1 q1)
theorem pch_cons {op op' : CmpOp} {ops : List CmpOp} {b b' : Expr} {bs : List Expr} {r : R2} {tb : TE} {t : V → L2.St → Hp → (Bool → Hp → Prop) → Prop} (ho : OpR X (compareOp op) r) (hb : PE X b tb) (hr : PCh X (op' :: ops) (b' :: bs) t) :
    PCh X (op :: op' :: ops) (b :: b' :: bs) (fun x σ H Q => tb σ H fun y H1 => r x y H1 fun z H2 => ∃ k, z = .bl k ∧ if k = true then t y σ H2 Q else Q false H2) := by
  refine ⟨fun pos pins s σ H x v Q I rx h => ?_, fun pos pins s σ H x v Q I rx h => ?_⟩
  · refine test_link (thn (hb.run pins s σ H _ I h) fun u s1 ⟨y, H1, I1, r1, q1⟩ => thn (ho pins s1 σ H1 x y v u _ I1 rx r1 q1) fun d s2 ⟨z, H2, I2, r2, k, ez, q2⟩ => ?_)
    subst ez
    cases r2
    refine wpAny_truthy_bool ?_
    cases k with
    | true => exact ite_tt (hr.tst pos pins s2 σ H2 y u Q I2 r1 q2)
    | false => exact ite_ff ⟨H2, I2, q2⟩
  · refine chain_link (thn (hb.run pins s σ H _ I h) fun u s1 ⟨y, H1, I1, r1, q1⟩ => thn (ho pins s1 σ H1 x y v u _ I1 rx r1 q1) fun d s2 ⟨z, H2, I2, r2, k, ez, q2⟩ => ?_)
    subst ez
    cases r2
    refine wpAny_truthy_bool ?_
    cases k with
    | true => exact ite_tt (hr.val pos pins s2 σ H2 y u Q I2 r1 q2)
    | false => exact ite_ff ⟨.bl false, H2, I2, rfl, false, rfl, q2⟩
structure PVL (X : Cx) (B : Bd) (W : WX) (ops : List CmpOp) (bs : List Expr) (f : D → Rho → Res Bool) : Prop where
  ex : ∃ t, PCh X ops bs t ∧ ∀ ρ σ F H v d Q, Sta X.K B ρ σ F H → RdV X.K F H v d → EPt X W σ F H Q (f d ρ) → t v σ H Q
def lkL (fb : Rho → Res D) (g : D → D → Option Bool) (d : D) (ρ : Rho) : Res Bool := (fb ρ).bind fun y => Res.of (g d y)
def lkC (fb : Rho → Res D) (g : D → D → Option Bool) (h : D → Rho → Res Bool) (d : D) (ρ : Rho) : Res Bool := (fb ρ).bind fun y => (Res.of (g d y)).bind fun k => if k = true then h y ρ else .ok false
theorem lk_last {op : CmpOp} {r : R2} {g : D → D → Option Bool} (ho : OpR X (compareOp op) r) (hv : OpB X.K r g) (hb : PVR X B W b fb) : PVL X B W [op] [b] (lkL fb g) := by
  obtain ⟨tb, b1, b2⟩ := hb.ex
  refine ⟨_, pch_last ho b1, fun ρ σ F H v d Q S r0 q => b2 ρ σ F H _ S ?_⟩
  unfold lkL at q
  cases e : fb ρ with
  | no => rw [e] at q; exact q
  | ex e' => rw [e] at q; exact q
  | ok db =>
    rw [e] at q
    simp only [Res.ok_bind] at q
    intro y F1 H1 g1 r1
    cases e2 : g d db with
    | none => rw [e2] at q; exact q.elim
    | some k => rw [e2] at q; exact hv v y F1 H1 _ d db k g1.fh (r0.grow g1) r1 e2 fun F2 H2 g2 => ⟨k, rfl, q F2 H2 (g1.trans g2)⟩
theorem lk_cons {op op' : CmpOp} {ops : List CmpOp} {b' : Expr} {bs : List Expr} {r : R2} {g : D → D → Option Bool} {h : D → Rho → Res Bool} (ho : OpR X (compareOp op) r) (hv : OpB X.K r g) (hb : PVR X B W b fb) (hr : PVL X B W (op' :: ops) (b' :: bs) h) :
    PVL X B W (op :: op' :: ops) (b :: b' :: bs) (lkC fb g h) := by
  obtain ⟨tb, b1, b2⟩ := hb.ex
  obtain ⟨t, c1, c2⟩ := hr.ex
  refine ⟨_, pch_cons ho b1 c1, fun ρ σ F H v d Q S r0 q => b2 ρ σ F H _ S ?_⟩
  unfold lkC at q
  cases e : fb ρ with
  | no => rw [e] at q; exact q
  | ex e' => rw [e] at q; exact q
  | ok db =>
    rw [e] at q
    simp only [Res.ok_bind] at q
    intro y F1 H1 g1 r1
    cases e2 : g d db with
    | none => rw [e2] at q; exact q.elim
    | some k =>
      rw [e2] at q
      simp only [Res.of_some, Res.ok_bind] at q
      refine hv v y F1 H1 _ d db k g1.fh (r0.grow g1) r1 e2 fun F2 H2 g2 => ⟨k, rfl, ?_⟩
      cases k with
      | true => rw [if_pos rfl] at q ⊢; exact c2 ρ σ F2 H2 y db Q (S.grow (g1.trans g2)) (r1.grow g2) (EPt.grow (W := W) (X := X) (σ := σ) (g1.trans g2) q)
      | false => rw [if_neg (by decide)] at q ⊢; exact q F2 H2 (g1.trans g2)
def chnT (fa : Rho → Res D) (h : D → Rho → Res Bool) (ρ : Rho) : Res Bool := (fa ρ).bind fun x => h x ρ
theorem pt_chn {op₁ op₂ : CmpOp} {ops : List CmpOp} {r₁ r₂ : Expr} {rs : List Expr} {h : D → Rho → Res Bool} (ha : PVR X B W a fa) (hr : PVL X B W (op₁ :: op₂ :: ops) (r₁ :: r₂ :: rs) h)
    (hm : lastMarks (op₁ :: op₂ :: ops) (r₁ :: r₂ :: rs) = false := by with_unfolding_all rfl) : PVT X B W (.Compare a (op₁ :: op₂ :: ops) (r₁ :: r₂ :: rs) pos) (chnT fa h) := by
  obtain ⟨ta, a1, a2⟩ := ha.ex
  obtain ⟨t, c1, c2⟩ := hr.ex
  refine ⟨fun σ H Q => ta σ H fun x H1 => t x σ H1 Q, ⟨fun pins s σ H Q I z => isTrue_chain (thn (a1.run pins s σ H _ I z) fun v s1 ⟨x, H1, I1, r1, q1⟩ => c1.tst pos pins s1 σ H1 x v Q I1 r1 q1) hm⟩, fun ρ σ F H Q S q => a2 ρ σ F H _ S ?_⟩
  unfold chnT at q
  cases e : fa ρ with
  | no => rw [e] at q; exact q
  | ex e' => rw [e] at q; exact q
  | ok d => rw [e] at q; exact fun v F1 H1 g1 r1 => c2 ρ σ F1 H1 v d Q (S.grow g1) r1 (EPt.grow (W := W) (X := X) (σ := σ) g1 q)
theorem pv_chn {op₁ op₂ : CmpOp} {ops : List CmpOp} {r₁ r₂ : Expr} {rs : List Expr} {h : D → Rho → Res Bool} (ha : PVR X B W a fa) (hr : PVL X B W (op₁ :: op₂ :: ops) (r₁ :: r₂ :: rs) h)
    (hm : lastMarks (op₁ :: op₂ :: ops) (r₁ :: r₂ :: rs) = false := by with_unfolding_all rfl) : PVE X B W (.Compare a (op₁ :: op₂ :: ops) (r₁ :: r₂ :: rs) pos) (vB (chnT fa h)) := by
  obtain ⟨ta, a1, a2⟩ := ha.ex
  obtain ⟨t, c1, c2⟩ := hr.ex
  refine ⟨fun σ H Q => ta σ H fun x H1 => t x σ H1 fun k H2 => Q (.bl k) H2, ⟨fun pins s σ H Q I z => Compare_chain (thn (a1.run pins s σ H _ I z) fun v s1 ⟨x, H1, I1, r1, q1⟩ => thn (c1.val pos pins s1 σ H1 x v _ I1 r1 q1) fun u s2 ⟨y, H2, I2, r2, k, ey, q2⟩ => ⟨y, H2, I2, r2, by rw [ey]; exact q2⟩) hm⟩, fun ρ σ F H Q S q => a2 ρ σ F H _ S ?_⟩
  unfold vB chnT at q
  cases e : fa ρ with
  | no => rw [e] at q; exact q
  | ex e' => rw [e] at q; exact q
  | ok d =>
    rw [e] at q
    simp only [Res.ok_bind] at q
    intro v F1 H1 g1 r1
    refine c2 ρ σ F1 H1 v d _ (S.grow g1) r1 ?_
    cases e2 : h d ρ with
    | no => rw [e2] at q; exact q
    | ex e' => rw [e2] at q; exact XOk.grow g1 q
    | ok k => rw [e2] at q; exact fun F2 H2 g2 => q _ F2 H2 (g1.trans g2) (.bl k)

/-! ### new lists -/
theorem po_cat (ha : PVR X B W a fa) (hb : PVR X B W b fb) : PVO X B W (.BinOp a .Add b pos) (fun ρ => (fa ρ).bind fun x => (fb ρ).bind fun y => Res.of (dCat x y)) := by
  obtain ⟨ta, a1, a2⟩ := ha.ex
  obtain ⟨tb, b1, b2⟩ := hb.ex
  refine ⟨_, pe_op op_catS a1 b1, fun ρ σ F H Q S q => ?_⟩
  have grow : ∀ (F H F' H' : Hp) (r : Res (List D)), Grow F H F' H' → EPl X W σ F H Q r → EPl X W σ F' H' Q r := fun F H F' H' r g z => by
    cases r with
    | ok ds => exact fun a xs F2 H2 g2 h1 h2 h3 => z a xs F2 H2 (g.trans g2) h1 h2 (g.h.free h3)
    | ex e => exact XOk.grow g z
    | no => exact z
  refine two (Z := fun F H r => EPl X W σ F H Q r) (R := fun x y H => rCatS X.K x y H Q) (h := fun x y => Res.of (dCat x y)) S a2 b2 (fun _ _ _ z => z) (fun _ _ z => z) grow q fun x y da db F' H' gr r1 r2 z => ?_
  cases e : dCat da db with
  | none => rw [e] at z; exact z.elim
  | some ds =>
    rw [e] at z
    unfold dCat at e
    split at e
    · split at e
      · rename_i hl
        cases e
        obtain ⟨p1, xs, rfl, h1, r1⟩ := r1
        obtain ⟨p2, ys, rfl, h2, r2⟩ := r2
        exact ⟨p1, p2, xs, ys, rfl, rfl, h1, h2, by rw [r1.len, r2.len]; exact hl, fun p hp => z p _ F' _ ⟨Sub.refl F', upd_sub hp, gr.fh.trans (upd_sub hp), fun _ _ => rfl⟩ upd_same (gr.fh.free hp) hp (r1.append r2)⟩
      · cases e
    · cases e
def repO (f : Rho → Res (List D)) (fb : Rho → Res D) (ρ : Rho) : Res (List D) := (f ρ).bind fun ds => (fb ρ).bind fun y => match y with
  | .int k => if -(2 ^ 63) ≤ k ∧ k < 2 ^ 63 ∧ ds.length * k.toNat ≤ sizeLine then .ok (List.replicate k.toNat ds).flatten else .no
  | _ => .no
/-- [..] * n -/
theorem po_rep {f : Rho → Res (List D)} (ha : PVO X B W a f) (hb : PVR X B W b fb) : PVO X B W (.BinOp a .Mult b pos) (repO f fb) := by
  obtain ⟨ta, a1, a2⟩ := ha.ex
  obtain ⟨tb, b1, b2⟩ := hb.ex
  refine ⟨_, pe_op op_rep a1 b1, fun ρ σ F H Q S q => a2 ρ σ F H _ S ?_⟩
  unfold repO at q
  cases e : f ρ with
  | no => rw [e] at q; exact q
  | ex e' => rw [e] at q; exact q
  | ok ds =>
    rw [e] at q
    simp only [Res.ok_bind] at q
    intro p xs F1 H1 g1 h1 h2 h3 r1
    refine b2 ρ σ F1 H1 _ (S.grow g1) ?_
    cases e2 : fb ρ with
    | no => rw [e2] at q; exact q
    | ex e' => rw [e2] at q; exact XOk.grow g1 q
    | ok y =>
      rw [e2] at q
      simp only [Res.ok_bind] at q
      intro v F2 H2 g2 r2
      cases y with
      | int k =>
        simp only at q
        split at q
        · rename_i hk
          cases r2
          have g := g1.trans g2
          refine ⟨p, k, xs, rfl, rfl, g2.h.lst h1, hk.1, hk.2.1, by rw [r1.len]; exact hk.2.2, fun p' hp => ?_⟩
          exact q p' _ F2 _ ⟨g.f, g.h.trans (upd_sub hp), g.fh.trans (upd_sub hp), g.ag⟩ upd_same (g.fh.free hp) (g.h.free hp) ((g2.f.dpAll _ _ r1).flat k.toNat)
        · exact q.elim
      | _ => exact q.elim
/-- list(range(..)) -/
theorem rgV_dp {K : PySem.W.Frag} {F : Hp} (i j : Int) : DpAll K F (rgV i j) (rngD i (j - i).toNat) := by
  unfold rgV rngD
  induction (List.range (j - i).toNat) with
  | nil => exact .nil
  | cons k l ih => exact .cons (.int _) ih
instance (a b : Int) : Decidable (RgOk a b) := by unfold RgOk; infer_instance
def lrg1 (f : Rho → Res D) (ρ : Rho) : Res (List D) := (f ρ).bind fun d => match d with
  | .int n => if RgOk 0 n then .ok (rngD 0 n.toNat) else .no
  | _ => .no

theorem EPl.of_rg {σ : L2.St} {F H F1 H1 : Hp} {Q : VK} {i j : Int} (g1 : Grow F H F1 H1) (q : EPl X W σ F H Q (.ok (rngD i (j - i).toNat))) : ∀ p, H1 p = none → Q (.ref p) (upd H1 p (.lst (rgV i j))) := fun p hp =>
  q p _ F1 _ ⟨g1.f, g1.h.trans (upd_sub hp), g1.fh.trans (upd_sub hp), g1.ag⟩ upd_same (g1.fh.free hp) (g1.h.free hp) (rgV_dp i j)
theorem po_lrg1 {p2 pos2 : Pos} (hc : X.calm = true) (hm : X.mg "list" = none) (hm2 : X.mg "range" = none) (ha : PVR X B W a fa) (hg : Gl X "list" := by rfl) (hg2 : Gl X "range" := by rfl)
    (na : starEach [a] X.env = (false, eval a X.env) :: starEach [] X.env := by rfl) (na2 : starEach [.Call (.Name "range" p2) [a] [] pos2] X.env = (false, eval (.Call (.Name "range" p2) [a] [] pos2) X.env) :: starEach [] X.env := by rfl) :
    PVO X B W (.Call (.Name "list" p) [.Call (.Name "range" p2) [a] [] pos2] [] pos) (lrg1 fa) := by
  obtain ⟨ta, a1, a2⟩ := ha.ex
  refine ⟨_, pe_listRg hc hg hm (prg_1 hg2 hm2 a1 na) na2, fun ρ σ F H Q S q => a2 ρ σ F H _ S ?_⟩
  unfold lrg1 at q
  cases e : fa ρ with
  | no => rw [e] at q; exact q
  | ex e' => rw [e] at q; exact q
  | ok d =>
    rw [e] at q
    simp only [Res.ok_bind] at q
    intro v F1 H1 g1 r1
    cases d with
    | int n =>
      simp only at q
      split at q
      · rename_i hk
        cases r1
        refine ⟨n, rfl, hk, EPl.of_rg (i := 0) (j := n) g1 (by rw [Int.sub_zero]; exact q)⟩
      · exact q.elim
    | _ => exact q.elim
def lrg2 (f g : Rho → Res D) (ρ : Rho) : Res (List D) := (f ρ).bind fun d => (g ρ).bind fun e => match d, e with
  | .int i, .int j => if RgOk i j then .ok (rngD i (j - i).toNat) else .no
  | _, _ => .no
theorem po_lrg2 {p2 pos2 : Pos} (hc : X.calm = true) (hm : X.mg "list" = none) (hm2 : X.mg "range" = none) (ha : PVR X B W a fa) (hb : PVR X B W b fb) (hg : Gl X "list" := by rfl) (hg2 : Gl X "range" := by rfl)
    (na : starEach [a, b] X.env = (false, eval a X.env) :: starEach [b] X.env := by rfl) (nb : starEach [b] X.env = (false, eval b X.env) :: starEach [] X.env := by rfl) (hp : (backTo pos2 (starEach [b] X.env)).any (·.1) = false := by rfl)
    (na2 : starEach [.Call (.Name "range" p2) [a, b] [] pos2] X.env = (false, eval (.Call (.Name "range" p2) [a, b] [] pos2) X.env) :: starEach [] X.env := by rfl) :
    PVO X B W (.Call (.Name "list" p) [.Call (.Name "range" p2) [a, b] [] pos2] [] pos) (lrg2 fa fb) := by
  obtain ⟨ta, a1, a2⟩ := ha.ex
  obtain ⟨tb, b1, b2⟩ := hb.ex
  refine ⟨_, pe_listRg hc hg hm (prg_2 hg2 hm2 a1 b1 na nb hp) na2, fun ρ σ F H Q S q => a2 ρ σ F H _ S ?_⟩
  unfold lrg2 at q
  cases e : fa ρ with
  | no => rw [e] at q; exact q
  | ex e' => rw [e] at q; exact q
  | ok d =>
    rw [e] at q
    simp only [Res.ok_bind] at q
    intro v F1 H1 g1 r1
    refine b2 ρ σ F1 H1 _ (S.grow g1) ?_
    cases e2 : fb ρ with
    | no => rw [e2] at q; exact q
    | ex e' => rw [e2] at q; exact XOk.grow g1 q
    | ok d2 =>
      rw [e2] at q
      simp only [Res.ok_bind] at q
      intro v2 F2 H2 g2 r2
      cases d with
      | int i =>
        cases d2 with
        | int j =>
          simp only at q
          split at q
          · rename_i hk
            cases r1
            cases r2
            exact ⟨i, j, rfl, rfl, hk, EPl.of_rg (g1.trans g2) q⟩
          · exact q.elim
        | _ => exact q.elim
      | _ => exact q.elim
def sl1O (f : Rho → Res D) (l h : Rho → Res (Option Int)) (ρ : Rho) : Res (List D) := (f ρ).bind fun d => (l ρ).bind fun lo => (h ρ).bind fun hi => match d with
  | .list ds => .ok (cutD ds lo hi)
  | _ => .no
theorem po_slice {l h : Rho → Res (Option Int)} {lo hi : Option Expr} {p2 : Pos} (he : PVR X B W e f) (hl : PVP X B W lo l) (hh : PVP X B W hi h) : PVO X B W (.Subscript e (.Slice lo hi none p2) pos) (sl1O f l h) := by
  obtain ⟨t, h1, h2⟩ := he.ex
  obtain ⟨u, k1, k2⟩ := hl.ex
  obtain ⟨w, m1, m2⟩ := hh.ex
  refine ⟨_, pe_slice sl_list h1 k1 m1, fun ρ σ F H Q S q => h2 ρ σ F H _ S ?_⟩
  unfold sl1O at q
  cases e : f ρ with
  | no => rw [e] at q; exact q
  | ex e' => rw [e] at q; exact q
  | ok d =>
    rw [e] at q
    intro v F1 H1 g1 r1
    refine k2 ρ σ F1 H1 _ (S.grow g1) ?_
    cases e2 : l ρ with
    | no => rw [e2] at q; exact q
    | ex e' => rw [e2] at q; exact XOk.grow g1 q
    | ok lo =>
      rw [e2] at q
      intro F2 H2 g2
      refine m2 ρ σ F2 H2 _ (S.grow (g1.trans g2)) ?_
      cases e3 : h ρ with
      | no => rw [e3] at q; exact q
      | ex e' => rw [e3] at q; exact XOk.grow (g1.trans g2) q
      | ok hi =>
        rw [e3] at q
        intro F3 H3 g3
        have g := g1.trans (g2.trans g3)
        have r := r1.grow (g2.trans g3)
        cases d with
        | list ds =>
          obtain ⟨p, xs, rfl, h1, r⟩ := r
          exact ⟨p, xs, rfl, h1, fun b hb => q b _ F3 _ ⟨g.f, g.h.trans (upd_sub hb), g.fh.trans (upd_sub hb), g.ag⟩ upd_same (g.fh.free hb) (g.h.free hb) (cut_dp r lo hi)⟩
        | _ => exact q.elim
end

/-! ### sorted(x), x a list of alike data -/
def alikeB (ds : List D) : Bool := ds.all fun d => ds.all fun e => PySem.W.alike d e
def tupB : D → Bool
  | .tuple (_ :: _) => true
  | _ => false
def othB : D → Bool
  | .none => false
  | .tuple _ => false
  | _ => true
def sortB (ds : List D) : Bool := alikeB ds && (ds.all tupB || ds.all othB) && ds.all fun d => decide (d.depth ≤ 64)
theorem sortB_ok {ds : List D} (h : sortB ds = true) : PySem.W.AllAlike ds ∧ PySem.W.Sortable ds ∧ ∀ d ∈ ds, d.depth ≤ 64 := by
  unfold sortB at h
  rw [Bool.and_eq_true, Bool.and_eq_true] at h
  obtain ⟨⟨h1, h2⟩, h3⟩ := h
  refine ⟨fun d hd e he => ?_, ?_, fun d hd => ?_⟩
  · unfold alikeB at h1
    exact List.all_eq_true.mp (List.all_eq_true.mp h1 d hd) e he
  · rcases Bool.or_eq_true_iff.mp h2 with h2 | h2
    · refine .inl fun d hd => ?_
      have z := List.all_eq_true.mp h2 d hd
      cases d with
      | tuple xs => cases xs with
        | nil => cases z
        | cons x r => exact ⟨x, r, rfl⟩
      | _ => cases z
    · refine .inr fun d hd => ?_
      have z := List.all_eq_true.mp h2 d hd
      cases d <;> simp [othB] at z ⊢
  · have z := List.all_eq_true.mp h3 d hd
    exact of_decide_eq_true z
def srtD (ds : List D) : List D := ds.mergeSort (PySem.W.dataLe false fun d => d)
def dSort : D → Option (List D)
  | .list ds => if sortB ds = true ∧ ds.length ≤ sizeLine then some (srtD ds) else none
  | _ => none
def rSortD (K : PySem.W.Frag) : List V → Hp → VK → Prop := fun vs H Q => ∃ (a : Addr) (xs : List V) (ds : List D), vs = [V.ref a] ∧ SqL K H a xs ∧ DpAll K H xs ds ∧ sortB ds = true ∧ ds.length ≤ sizeLine ∧
  ∀ p, H p = none → Q (.ref p) (upd H p (.lst (((xs.zip ds).mergeSort (PySem.W.dataLe false (·.2))).map (·.1))))
theorem each_zip {β : Type} : ∀ {us : List Value} {xs : List V} {ds : List D}, Vals xs us → xs.length = ds.length → PySem.W.EachIs (fun (v : Value) (b : V × D) => RelV b.1 v) us (xs.zip ds)
  | _, _, [], .nil, _ => .nil
  | _, _, d :: ds, .cons r t, h => .cons r (each_zip (β := β) t (by simpa using h))
theorem each_vals : ∀ {out : List Value} {bs : List (V × D)}, PySem.W.EachIs (fun (v : Value) (b : V × D) => RelV b.1 v) out bs → Vals (bs.map (·.1)) out
  | _, _, .nil => .nil
  | _, _, .cons r t => .cons r (each_vals t)
theorem each_reads {h : Heap} : ∀ {us : List Value} {xs : List V} {ds : List D} {as : List Addr}, ReadsAll h us ds as → xs.length = ds.length → PySem.W.EachIs (fun (v : Value) (b : V × D) => ∃ as, Reads h v b.2 as) us (xs.zip ds)
  | _, [], _, _, .nil, _ => .nil
  | _, x :: xs, _, _, .cons r t, h => .cons ⟨_, r⟩ (each_reads t (by simpa using h))
section
variable {X : Cx}
theorem cr_sortD {k : Nat} (hr : Room k X.A) : CallR X (.builtin "sorted") (rSortD X.K) := by
  intro pins s σ H vs us Q I r h
  obtain ⟨a, xs, ds, rfl, hs, hd, hb, hl, q⟩ := h
  obtain ⟨its, rv, pl, _⟩ := I.list hs
  rw [Vals.ref1 r]
  obtain ⟨hal, hso, hde⟩ := sortB_ok hb
  obtain ⟨as, hrd⟩ := Dp.readsAll I ds xs its hd rv
  have hlen := hd.len
  have m2 : (xs.zip ds).map (·.2) = ds := List.map_snd_zip (by omega)
  refine PySem.W.sorted_data (enc := fun b : V × D => b.2) (R := fun (v : Value) (b : V × D) => RelV b.1 v) pl.isList (each_zip (β := Unit) rv hlen) (each_reads hrd hlen) (by rw [m2]; exact hal) (by rw [m2]; exact hso) (by rw [List.length_zip]; omega) (fun b hb => ?_) fun out h1 h2 => ?_
  · have z := hde b.2 (by rw [← m2]; exact List.mem_map_of_mem hb)
    have := hr.un
    omega
  · have hv := each_vals h2
    have e1 : ((xs.zip ds).mergeSort (PySem.W.dataLe false fun b : V × D => b.2)).length = ds.length := by rw [List.length_mergeSort, List.length_zip]; omega
    obtain ⟨ep, he'⟩ := PyProof.Rows.sortedAll_at s.heap its (List.toArray out)
    refine ⟨.ref _, upd H (s.heap.objs.size + 1) (.lst _), I.laid (t' := s.toks) (fun _ _ => PyProof.Rows.sortedAll_old) (Nat.le_succ _) ⟨?_, out, ep, hv, ?_⟩, rfl, q _ (I.hok.fresh (Nat.le_succ _))⟩
    · rw [List.length_map, e1]; exact hl
    · simpa using he'
theorem dpa_zip {K : PySem.W.Frag} {F : Hp} : ∀ {xs : List V} {ds : List D}, DpAll K F xs ds → ∀ b ∈ xs.zip ds, Dp K F b.1 b.2
  | _, _, .nil => fun b hb => by cases hb
  | _, _, .cons r t => fun b hb => by
    rcases List.mem_cons.mp (show b ∈ _ :: _ from hb) with rfl | hb
    · exact r
    · exact dpa_zip t b hb
theorem zip_dpa {K : PySem.W.Frag} {F : Hp} : ∀ (bs : List (V × D)), (∀ b ∈ bs, Dp K F b.1 b.2) → DpAll K F (bs.map (·.1)) (bs.map (·.2))
  | [], _ => .nil
  | b :: bs, h => .cons (h b List.mem_cons_self) (zip_dpa bs fun c hc => h c (List.mem_cons_of_mem _ hc))
theorem co_sort {K : PySem.W.Frag} : C1O K (rSortD K) dSort := by
  intro x F H Q a ds s ra e q
  unfold dSort at e
  split at e
  · rename_i ds0
    split at e
    · rename_i hk
      cases e
      obtain ⟨p, xs, rfl, h1, r1⟩ := ra
      refine ⟨p, xs, ds0, rfl, h1, s.dpAll _ _ r1, hk.1, hk.2, fun l hl => ?_⟩
      refine q l _ F _ ⟨Sub.refl F, upd_sub hl, s.trans (upd_sub hl), fun _ _ => rfl⟩ upd_same (s.free hl) hl ?_
      have z := zip_dpa (K := K) (F := F) ((xs.zip ds0).mergeSort (PySem.W.dataLe false (·.2))) fun b hb => dpa_zip r1 b (List.mem_mergeSort.mp hb)
      have e2 : ((xs.zip ds0).mergeSort (PySem.W.dataLe false (·.2))).map (·.2) = srtD ds0 := by
        have m2 : (xs.zip ds0).map (·.2) = ds0 := List.map_snd_zip (by rw [r1.len]; omega)
        have e3 := PySem.W.sort_maps (r := PySem.W.dataLe false fun b : V × D => b.2) (s := PySem.W.dataLe false fun d => d) (fun b : V × D => b.2) (l := xs.zip ds0) (fun _ _ _ _ => rfl)
        rw [m2] at e3
        exact e3
      rw [e2] at z
      exact z
    · cases e
  · cases e
end
end VL

set_option Elab.async false
set_option linter.all false
set_option maxRecDepth 100000
set_option maxHeartbeats 4000000
namespace VL
open PySem PySem.Spec PyProof.Rows L2

abbrev kI (i : Int) : Rho → Res D := fun _ => .ok (.int i)
abbrev kB (b : Bool) : Rho → Res D := fun _ => .ok (.bool b)
abbrev kS (x : Str) : Rho → Res D := fun _ => .ok (.str x)
abbrev kN : Rho → Res D := fun _ => .ok .none
abbrev nilA : Rho → Res (List D) := fun _ => .ok []
abbrev tT : Rho → Res Bool := fun _ => .ok true
abbrev noO : Rho → Res (Option Int) := fun _ => .ok none
abbrev catO (fa fb : Rho → Res D) : Rho → Res (List D) := fun ρ => (fa ρ).bind fun x => (fb ρ).bind fun y => Res.of (dCat x y)
abbrev vO (f : Rho → Res (List D)) : Rho → Res D := fun ρ => lstD (f ρ)

theorem bt_len : bootBuiltins "len" = some (.builtin "len") := by decide +kernel
theorem bt_sum : bootBuiltins "sum" = some (.builtin "sum") := by decide +kernel
theorem bt_max : bootBuiltins "max" = some (.builtin "max") := by decide +kernel
theorem bt_min : bootBuiltins "min" = some (.builtin "min") := by decide +kernel
theorem bt_abs : bootBuiltins "abs" = some (.builtin "abs") := by decide +kernel
theorem bt_isinstance : bootBuiltins "isinstance" = some (.builtin "isinstance") := by decide +kernel
theorem bt_sorted : bootBuiltins "sorted" = some (.builtin "sorted") := by decide +kernel
theorem bt_any : bootBuiltins "any" = some (.builtin "any") := by decide +kernel
theorem bt_all : bootBuiltins "all" = some (.builtin "all") := by decide +kernel
theorem bt_int : bootBuiltins "int" = some (.type "int") := by decide +kernel
theorem bt_bool : bootBuiltins "bool" = some (.type "bool") := by decide +kernel
theorem bt_str : bootBuiltins "str" = some (.type "str") := by decide +kernel
theorem bt_list : bootBuiltins "list" = some (.type "list") := by decide +kernel
theorem bt_tuple : bootBuiltins "tuple" = some (.type "tuple") := by decide +kernel
theorem bt_dict : bootBuiltins "dict" = some (.type "dict") := by decide +kernel
theorem bt_set : bootBuiltins "set" = some (.type "set") := by decide +kernel
theorem units65 {k : Nat} {A : Around} (r : Room k A) : A.units + 65 < cLine := by have := r.un; omega

section
variable {X : Cx} {B : Bd} {W : WX} {a b c e : Expr} {es : List Expr} {fa fb fc f : Rho → Res D} {pos : Pos}
/-- x, y, z = a, b, c -/
def parS3 (i j l : Nat) (g : Rho → Res (List D)) (ρ : Rho) : Out := Res.out ρ (g ρ) fun ds => match ds with
  | [d, d', d2] => .nx (((ρ.set i (some (.fz d))).set j (some (.fz d'))).set l (some (.fz d2)))
  | _ => .no
theorem ps_par3 (i j l : Nat) {x y z : Str} {g : Rho → Res (List D)} {px py pz pt : Pos} {kt k2 pt2} (hc : X.calm = true) (hN : X.N.Nodup) (hp : PVA X B W [a, b, c] g) (hi : X.N[i]? = some x := by rfl) (hj : X.N[j]? = some y := by rfl) (hl : X.N[l]? = some z := by rfl)
    (hij : i ≠ j := by decide) (hil : i ≠ l := by decide) (hjl : j ≠ l := by decide)
    (hx : X.env.scope.names.lookup x = some .local := by rfl) (hy : X.env.scope.names.lookup y = some .local := by rfl) (hz : X.env.scope.names.lookup z = some .local := by rfl)
    (hw : swappedStores [.Tuple [.Name x px, .Name y py, .Name z pz] kt pt] (.Tuple [a, b, c] k2 pt2) X.env = pure (some [x, y, z]) := by rfl)
    (hs : swapsWithSole [.Tuple [.Name x px, .Name y py, .Name z pz] kt pt] (.Tuple [a, b, c] k2 pt2) pos.line X.env = pure false := by rfl) :
    PVS X B W (.Assign [.Tuple [.Name x px, .Name y py, .Name z pz] kt pt] (.Tuple [a, b, c] k2 pt2) pos) (parS3 i j l g) := by
  obtain ⟨u, a1, a2⟩ := hp.ex
  refine ⟨_, L2.ps_par3 hc hN hi hj hl hij hil hjl hx hy hz a1 hw hs, fun ρ σ F H Z S q => a2 ρ σ F H _ S ?_⟩
  unfold parS3 at q
  cases e : g ρ with
  | no => rw [e] at q; exact q
  | ex e' => rw [e] at q; exact xok_of S q
  | ok ds =>
    rw [e] at q
    simp only [Res.ok_out] at q
    intro vs F1 H1 g1 r1
    match ds, q, r1 with
    | [d, d', d2], q, .cons r (.cons r' (.cons r2 .nil)) => exact ⟨_, _, _, rfl, q _ F1 H1 g1.f ((((S.grow g1).set r).set r').set r2)⟩
end
section
variable {K : PySem.W.Frag}
theorem kit_of {T : String} (h : ∀ U, U ∈ ["NoneType", "bool", "int", "str", "list", "tuple"] → L2.kitB U T = some (U == T || (T == "int" && U == "bool"))) : KitT K T := ⟨fun U hU => kit_ty (h U hU)⟩
theorem kit_int : KitT K "int" := kit_of (by decide +kernel)
theorem kit_bool : KitT K "bool" := kit_of (by decide +kernel)
theorem kit_str : KitT K "str" := kit_of (by decide +kernel)
theorem kit_list : KitT K "list" := kit_of (by decide +kernel)
theorem kit_tuple : KitT K "tuple" := kit_of (by decide +kernel)
end
section
variable {P : Program} {w : World} {K : PySem.W.Frag} {mg : Str → Option Value} {base : Heap}
theorem fn_no {x qual : Str} {st : Stmt} {f : Addr} {fd : FuncData} {N ps : List Str} {k n : Nat} (Fu : Fun K x qual st f fd) (S : FnScope N ps (defScope st)) (hn : n = ps.length) : FnOk P w K mg base (L2.CX P w) (k + 1) f fd ps (spV K mg (fun _ => .no) n) := by
  refine Fu.okX S (fun vs H Q E h => by rw [spV_len h, hn]) fun cdv A outer s H vs Q E hr h => ?_
  obtain ⟨F, ds, _, _, _, q⟩ := h
  exact q.elim
end
/-! ### the end -/
section
variable {K : PySem.W.Frag}
theorem exm_of {C S : Addr} {b : Bool} (h1 : PySem.W.subIn K (.ref S) (.type "BaseException") = some true) (h2 : PySem.W.isClsIn K S = true) (h3 : PySem.W.typeIn K (.ref S) = some (.type "type")) (h4 : PySem.W.subIn K (.ref C) (.ref S) = some b) : PySem.W.exmOne K (.ref C) (.ref S) = some b := by
  unfold PySem.W.exmOne
  rw [h1]
  unfold PySem.W.isClsIn at h2
  simp [PySem.W.kitCls, h2, h3, h4]
theorem exm_eq {mg : Str → Option Value} {x : Str} {C C' : Addr} {c : Value} {b : Option Bool} (h1 : mg x = some (.ref C')) (h2 : mg x = some (.ref C)) (h : PySem.W.exmOne K (.ref C') c = b) : PySem.W.exmOne K (.ref C) c = b := by
  rw [h1] at h2
  cases h2
  exact h
theorem sup_of {C E N : Addr} {nm q : Str} {bs bm : List Value} {sn : List Str} {sub : List Value} {ab : Bool} {col : Option Bool} {dd : Option Addr} {m0 m1 m2 m3 m5 : Option Value} {t : String} {r : Option Value}
    (l : K.lookup C = some (excClassObj nm q C N bs bm true sn sub ab col dd m0 m1 m2 m3 m5 t)) {ce : ClassData} {c1 : Value} {d1 : Option Addr} {s1 : Array (Option Value)} (h1 : K.lookup E = some ⟨c1, d1, .cls ce, s1⟩) (h2 : ce.mro = bm) (h3 : PySem.W.findIn K (.ref E) "__init__" = some r) : PySem.W.ks_superIn K C C "__init__" = some r := by
  have h3' : (match K.lookup E with | some ⟨_, _, .cls cd, _⟩ => PySem.W.alongIn K "__init__" cd.mro | _ => none) = some r := h3
  rw [h1] at h3'
  have h4 : PySem.W.alongIn K "__init__" bm = some r := by rw [← h2]; exact h3'
  rw [← h4]
  unfold PySem.W.ks_superIn PySem.W.clsIn
  rw [l]
  show (Option.bind (some _) _) = _
  simp [excClassObj]
/-- the law's promise: true for every script -/
def spL (K : PySem.W.Frag) (g : List D → Res D) : Sp := fun vs H Q E => ∃ (a : Addr) (ns : List Int), vs = [.ref a] ∧ SqL K H a (ns.map V.int) ∧ g [.list (ns.map .int)] = .ok (.bool true) ∧ ∀ H', Q (.bl true) H'
theorem spL_V {mg : Str → Option Value} {g : List D → Res D} {vs : List V} {H : Hp} {Q : VK} {E : XK} (h : spL K g vs H Q E) : spV K mg g 1 vs H Q E := by
  obtain ⟨a, ns, rfl, hS, e, q⟩ := h
  refine ⟨H, [.list (ns.map .int)], .refl H, .cons (.lst hS (ints_dpa ns)) .nil, rfl, ?_⟩
  rw [e]
  intro v F' H' g r
  cases r
  exact q H'
theorem spL_ok {g : List D → Res D} (h : ∀ ns : List Int, ns.length ≤ 63 → g [.list (ns.map .int)] = .ok (.bool true)) {a : Addr} {ns : List Int} {H : Hp} (hl : ns.length ≤ 63) (hS : SqL K H a (ns.map V.int)) : spL K g [.ref a] H (fun v _ => v = .bl true) fun _ _ _ => False :=
  ⟨a, ns, rfl, hS, h ns hl, fun _ => rfl⟩
theorem no_cx {P : Program} {w : World} {o : List Env} {H : Hp} {s s' : Shared} {e : Value} (h : L2.CX P w o H s (fun _ _ _ => False) e s') : False := by
  obtain ⟨_, _, _, _, _, _, _, _, _, _, _, _, z⟩ := h
  exact z
end
end VL

set_option Elab.async false
set_option linter.all false
set_option maxRecDepth 100000
set_option maxHeartbeats 4000000
namespace VL
open PySem PySem.Spec PyProof.Rows L2

theorem sz_le {n : Nat} (h : n ≤ 1000000) : n ≤ sizeLine := Nat.le_trans h (by decide)
theorem sz_lt {n : Nat} (h : n < 1000000) : n < sizeLine := Nat.lt_of_lt_of_le h (by decide)
theorem sz0 : (0 ≤ sizeLine) = True := eq_true (by decide)
theorem sz1 : (1 ≤ sizeLine) = True := eq_true (by decide)
theorem sz2 : (2 ≤ sizeLine) = True := eq_true (by decide)
theorem sz3 : (3 ≤ sizeLine) = True := eq_true (by decide)
theorem sz4 : (4 ≤ sizeLine) = True := eq_true (by decide)
theorem sz5 : (5 ≤ sizeLine) = True := eq_true (by decide)
theorem sz6 : (6 ≤ sizeLine) = True := eq_true (by decide)
theorem sz7 : (7 ≤ sizeLine) = True := eq_true (by decide)
theorem sz8 : (8 ≤ sizeLine) = True := eq_true (by decide)
theorem sz9 : (9 ≤ sizeLine) = True := eq_true (by decide)

/-! ### products: their widths -/
def Wd (n : Nat) (i : Int) : Prop := i.natAbs < 2 ^ n
theorem Wd.mono {n m : Nat} {i : Int} (h : Wd n i) (k : n ≤ m) : Wd m i := Nat.lt_of_lt_of_le h (Nat.pow_le_pow_right (by decide) k)
theorem Wd.mul {n m : Nat} {i j : Int} (h : Wd n i) (k : Wd m j) : Wd (n + m) (i * j) := by
  unfold Wd at *
  rw [Int.natAbs_mul, Nat.pow_add]
  exact Nat.mul_lt_mul'' h k
theorem Wd.add {n m : Nat} {i j : Int} (h : Wd n i) (k : Wd m j) : Wd (n + m + 1) (i + j) := by
  unfold Wd at *
  have h1 : 2 ^ n ≤ 2 ^ (n + m) := Nat.pow_le_pow_right (by decide) (by omega)
  have h2 : 2 ^ m ≤ 2 ^ (n + m) := Nat.pow_le_pow_right (by decide) (by omega)
  rw [Nat.pow_succ]
  omega
theorem Wd.neg {n : Nat} {i : Int} (h : Wd n i) : Wd n (-i) := by unfold Wd at *; omega
theorem Wd.sub {n m : Nat} {i j : Int} (h : Wd n i) (k : Wd m j) : Wd (n + m + 1) (i - j) := by
  have := h.add k.neg
  rwa [← Int.sub_eq_add_neg] at this
theorem Wd.of {i : Int} (h1 : -1000000000000 ≤ i) (h2 : i ≤ 1000000000000) : Wd 40 i := by
  unfold Wd
  have : (2 : Nat) ^ 40 = 1099511627776 := by decide
  omega
theorem Wd.log {n : Nat} {i : Int} (h : Wd n i) : i.natAbs.log2 ≤ n := by
  by_cases c : i.natAbs = 0
  · rw [c]; simp
  · exact Nat.le_of_lt ((Nat.log2_lt c).mpr h)
theorem mulW {n m : Nat} {i j : Int} (h : Wd n i) (k : Wd m j) (q : n + m < 1000000 := by decide) : CMulW i j := by
  have := h.log
  have := k.log
  unfold CMulW
  omega
theorem dMul_w {n m : Nat} {i j : Int} (h : Wd n i) (k : Wd m j) (q : n + m < 1000000 := by decide) : dMul (.int i) (.int j) = some (.int (i * j)) := if_pos (mulW h k q)
theorem divW {n : Nat} {i j : Int} (h : 0 < j) (k : Wd n j) (q : n < 9000 := by decide) : CDivW i j := ⟨h, Nat.lt_of_le_of_lt k.log q⟩
theorem dDiv_w {n : Nat} {i j : Int} (h : 0 < j) (k : Wd n j) (q : n < 9000 := by decide) : dDiv (.int i) (.int j) = some (.int (i / j)) := if_pos (divW h k q)
theorem dMod_p {i j : Int} (h : 0 < j) : dMod (.int i) (.int j) = some (.int (i % j)) := if_pos h
/-- small numbers -/
theorem dMul_s {i j : Int} (h1 : -1000000000000 ≤ i) (h2 : i ≤ 1000000000000) (h3 : -1000000000000 ≤ j) (h4 : j ≤ 1000000000000) : dMul (.int i) (.int j) = some (.int (i * j)) := dMul_w (.of h1 h2) (.of h3 h4)
theorem dDiv_s {i j : Int} (h : 0 < j) (h4 : j ≤ 1000000000000) : dDiv (.int i) (.int j) = some (.int (i / j)) := dDiv_w h (.of (by omega) h4)

/-! ### places -/
theorem atI_nat {α : Type} {xs : List α} {n : Nat} (h : n < xs.length) : atI xs (n : Int) = xs[n]? := by
  unfold atI ixN
  rw [if_pos (by omega), if_pos (by omega)]
  simp
theorem atI_get {α : Type} {xs : List α} {i : Int} {n : Nat} {x : α} (h : i = n) (e : xs[n]? = some x) : atI xs i = some x := by
  subst h
  rw [atI_nat (List.getElem?_eq_some_iff.mp e).1, e]
theorem atI_last {α : Type} {xs : List α} {x : α} (e : xs.getLast? = some x) : atI xs (-1) = some x := by
  have hl : 0 < xs.length := by
    cases xs with
    | nil => simp at e
    | cons a l => simp
  unfold atI ixN
  rw [if_neg (by omega), if_pos (by omega)]
  have e2 : ((-1 : Int) + (xs.length : Nat)).toNat = xs.length - 1 := by omega
  simp only [Option.bind_some, e2]
  rw [← List.getLast?_eq_getElem?]
  exact e
theorem dIx_l {xs : List D} {i : Int} {n : Nat} {x : D} (h : i = n) (e : xs[n]? = some x) : dIx (.list xs) (.int i) = some x := atI_get h e
theorem dIx_t {xs : List D} {i : Int} {n : Nat} {x : D} (h : i = n) (e : xs[n]? = some x) : dIx (.tuple xs) (.int i) = some x := atI_get h e
theorem dIx_ll {xs : List D} {x : D} (e : xs.getLast? = some x) : dIx (.list xs) (.int (-1)) = some x := atI_last e
theorem dIx_tl {xs : List D} {x : D} (e : xs.getLast? = some x) : dIx (.tuple xs) (.int (-1)) = some x := atI_last e
/-- places of a display -/
theorem dIx_t0 {a : D} {l : List D} : dIx (.tuple (a :: l)) (.int 0) = some a := dIx_t (n := 0) rfl rfl
theorem dIx_t1 {a b : D} {l : List D} : dIx (.tuple (a :: b :: l)) (.int 1) = some b := dIx_t (n := 1) rfl rfl
theorem dIx_t2 {a b c : D} {l : List D} : dIx (.tuple (a :: b :: c :: l)) (.int 2) = some c := dIx_t (n := 2) rfl rfl
theorem dIx_t3 {a b c d : D} {l : List D} : dIx (.tuple (a :: b :: c :: d :: l)) (.int 3) = some d := dIx_t (n := 3) rfl rfl
theorem dIx_l0 {a : D} {l : List D} : dIx (.list (a :: l)) (.int 0) = some a := dIx_l (n := 0) rfl rfl
theorem dIx_l1 {a b : D} {l : List D} : dIx (.list (a :: b :: l)) (.int 1) = some b := dIx_l (n := 1) rfl rfl
theorem dIx_l2 {a b c : D} {l : List D} : dIx (.list (a :: b :: c :: l)) (.int 2) = some c := dIx_l (n := 2) rfl rfl
theorem dIx_l3 {a b c d : D} {l : List D} : dIx (.list (a :: b :: c :: d :: l)) (.int 3) = some d := dIx_l (n := 3) rfl rfl
theorem dIx_l4 {a b c d e : D} {l : List D} : dIx (.list (a :: b :: c :: d :: e :: l)) (.int 4) = some e := dIx_l (n := 4) rfl rfl
theorem dIx_l5 {a b c d e f : D} {l : List D} : dIx (.list (a :: b :: c :: d :: e :: f :: l)) (.int 5) = some f := dIx_l (n := 5) rfl rfl
theorem dIx_l6 {a b c d e f g : D} {l : List D} : dIx (.list (a :: b :: c :: d :: e :: f :: g :: l)) (.int 6) = some g := dIx_l (n := 6) rfl rfl
theorem dIx_l7 {a b c d e f g h : D} {l : List D} : dIx (.list (a :: b :: c :: d :: e :: f :: g :: h :: l)) (.int 7) = some h := dIx_l (n := 7) rfl rfl
theorem dIx_l8 {a b c d e f g h i : D} {l : List D} : dIx (.list (a :: b :: c :: d :: e :: f :: g :: h :: i :: l)) (.int 8) = some i := dIx_l (n := 8) rfl rfl

/-! ### loops -/
theorem forL_inv {t : D → Rho → Option Rho} {g : Rho → Out} (P : Nat → Rho → Prop) : ∀ (ds : List D) (k : Nat) (ρ : Rho), P k ρ →
    (∀ i d ρ, ds[i]? = some d → P (k + i) ρ → ∃ ρ1 ρ2, t d ρ = some ρ1 ∧ (g ρ1 = .nx ρ2 ∨ g ρ1 = .ct ρ2) ∧ P (k + i + 1) ρ2) → ∃ ρ', forL t g ds ρ = .nx ρ' ∧ P (k + ds.length) ρ'
  | [], k, ρ, h0, _ => ⟨ρ, rfl, h0⟩
  | d :: ds, k, ρ, h0, hs => by
    obtain ⟨ρ1, ρ2, h1, h2, h3⟩ := hs 0 d ρ rfl h0
    obtain ⟨ρ', h4, h5⟩ := forL_inv P ds (k + 1) ρ2 h3 fun i d' ρ3 e p => by
      have := hs (i + 1) d' ρ3 (by simpa using e) (by rw [show k + (i + 1) = k + 1 + i by omega]; exact p)
      rw [show k + (i + 1) + 1 = k + 1 + i + 1 by omega] at this
      exact this
    refine ⟨ρ', ?_, by rw [List.length_cons, show k + (ds.length + 1) = k + 1 + ds.length by omega]; exact h5⟩
    unfold forL
    rw [h1]
    rcases h2 with h2 | h2
    · simp only [h2]; exact h4
    · simp only [h2]; exact h4
theorem for_all {t : D → Rho → Option Rho} {g : Rho → Out} {fi : Rho → Res (List D)} (P : Nat → Rho → Prop) {ρ : Rho} {ds : List D} (hi : fi ρ = .ok ds) (h0 : P 0 ρ)
    (hs : ∀ i d ρ, ds[i]? = some d → P i ρ → ∃ ρ1 ρ2, t d ρ = some ρ1 ∧ (g ρ1 = .nx ρ2 ∨ g ρ1 = .ct ρ2) ∧ P (i + 1) ρ2) : ∃ ρ', forS fi t g ρ = .nx ρ' ∧ P ds.length ρ' := by
  unfold forS
  rw [hi]
  obtain ⟨ρ', h1, h2⟩ := forL_inv P ds 0 ρ h0 fun i d ρ e p => by rw [Nat.zero_add] at *; exact hs i d ρ e p
  exact ⟨ρ', h1, by rw [Nat.zero_add] at h2; exact h2⟩
/-- up to the k-th turn, which ends otherwise -/
def Out.stop : Out → Option Out
  | .nx _ => none
  | .ct _ => none
  | .bk ρ => some (.nx ρ)
  | o => some o
theorem forL_stop {t : D → Rho → Option Rho} {g : Rho → Out} (P : Nat → Rho → Prop) : ∀ (ds : List D) (k m : Nat) (ρ : Rho) (d : D) (o : Out), P k ρ → ds[m]? = some d →
    (∀ i d ρ, i < m → ds[i]? = some d → P (k + i) ρ → ∃ ρ1 ρ2, t d ρ = some ρ1 ∧ (g ρ1 = .nx ρ2 ∨ g ρ1 = .ct ρ2) ∧ P (k + i + 1) ρ2) →
    (∀ ρ, P (k + m) ρ → ∃ ρ1, t d ρ = some ρ1 ∧ (g ρ1).stop = some o) → forL t g ds ρ = o
  | d0 :: ds, k, 0, ρ, d, o, h0, e, _, he => by
    cases e
    obtain ⟨ρ1, h1, h2⟩ := he ρ h0
    unfold forL
    rw [h1]
    cases q : g ρ1 with
    | nx _ => rw [q] at h2; cases h2
    | ct _ => rw [q] at h2; cases h2
    | bk _ => rw [q] at h2; cases h2; simp only [q]
    | rt _ => rw [q] at h2; cases h2; simp only [q]
    | ex _ _ => rw [q] at h2; cases h2; simp only [q]
    | no => rw [q] at h2; cases h2; simp only [q]
  | d0 :: ds, k, m + 1, ρ, d, o, h0, e, hs, he => by
    obtain ⟨ρ1, ρ2, h1, h2, h3⟩ := hs 0 d0 ρ (by omega) rfl h0
    have h4 := forL_stop P ds (k + 1) m ρ2 d o h3 (by simpa using e) (fun i d' ρ3 hi e p => by
      have := hs (i + 1) d' ρ3 (by omega) (by simpa using e) (by rw [show k + (i + 1) = k + 1 + i by omega]; exact p)
      rw [show k + (i + 1) + 1 = k + 1 + i + 1 by omega] at this
      exact this) (fun ρ3 p => he ρ3 (by rw [show k + (m + 1) = k + 1 + m by omega]; exact p))
    unfold forL
    rw [h1]
    rcases h2 with h2 | h2
    · simp only [h2]; exact h4
    · simp only [h2]; exact h4
  | [], _, _, _, _, _, _, e, _, _ => by simp at e
theorem for_stop {t : D → Rho → Option Rho} {g : Rho → Out} {fi : Rho → Res (List D)} (P : Nat → Rho → Prop) {ρ : Rho} {ds : List D} {m : Nat} {d : D} {o : Out} (hi : fi ρ = .ok ds) (h0 : P 0 ρ) (hm : ds[m]? = some d)
    (hs : ∀ i d ρ, i < m → ds[i]? = some d → P i ρ → ∃ ρ1 ρ2, t d ρ = some ρ1 ∧ (g ρ1 = .nx ρ2 ∨ g ρ1 = .ct ρ2) ∧ P (i + 1) ρ2) (he : ∀ ρ, P m ρ → ∃ ρ1, t d ρ = some ρ1 ∧ (g ρ1).stop = some o) : forS fi t g ρ = o := by
  unfold forS
  rw [hi]
  exact forL_stop P ds 0 m ρ d o h0 hm (fun i d ρ hi e p => by rw [Nat.zero_add] at *; exact hs i d ρ hi e p) fun ρ p => by rw [Nat.zero_add] at p; exact he ρ p
/-- what the turn leaves -/
def OutQ (o : Out) (Q : Rho → Prop) : Prop := match o with
  | .nx ρ => Q ρ
  | .ct ρ => Q ρ
  | _ => False
theorem OutQ_nx {ρ : Rho} {Q : Rho → Prop} : OutQ (.nx ρ) Q = Q ρ := rfl
theorem OutQ_ct {ρ : Rho} {Q : Rho → Prop} : OutQ (.ct ρ) Q = Q ρ := rfl
theorem OutQ.ex {o : Out} {Q : Rho → Prop} (h : OutQ o Q) : ∃ ρ, (o = .nx ρ ∨ o = .ct ρ) ∧ Q ρ := by
  cases o with
  | nx ρ => exact ⟨ρ, .inl rfl, h⟩
  | ct ρ => exact ⟨ρ, .inr rfl, h⟩
  | _ => exact h.elim
theorem fors {t : D → Rho → Option Rho} {g : Rho → Out} {fi : Rho → Res (List D)} (P : Nat → Rho → Prop) {ρ : Rho} {ds : List D} (hi : fi ρ = .ok ds) (h0 : P 0 ρ)
    (hs : ∀ i d ρ, ds[i]? = some d → P i ρ → ∃ ρ1, t d ρ = some ρ1 ∧ OutQ (g ρ1) (P (i + 1))) : ∃ ρ', forS fi t g ρ = .nx ρ' ∧ P ds.length ρ' :=
  for_all P hi h0 fun i d ρ e p => by
    obtain ⟨ρ1, h1, h2⟩ := hs i d ρ e p
    obtain ⟨ρ2, h3, h4⟩ := h2.ex
    exact ⟨ρ1, ρ2, h1, h3, h4⟩
theorem fors_stop {t : D → Rho → Option Rho} {g : Rho → Out} {fi : Rho → Res (List D)} (P : Nat → Rho → Prop) (m : Nat) (d : D) (o : Out) {ρ : Rho} {ds : List D} (hi : fi ρ = .ok ds) (h0 : P 0 ρ) (hm : ds[m]? = some d)
    (hs : ∀ i d ρ, i < m → ds[i]? = some d → P i ρ → ∃ ρ1, t d ρ = some ρ1 ∧ OutQ (g ρ1) (P (i + 1))) (he : ∀ ρ, P m ρ → ∃ ρ1, t d ρ = some ρ1 ∧ (g ρ1).stop = some o) : forS fi t g ρ = o :=
  for_stop P hi h0 hm (fun i d ρ hl e p => by
    obtain ⟨ρ1, h1, h2⟩ := hs i d ρ hl e p
    obtain ⟨ρ2, h3, h4⟩ := h2.ex
    exact ⟨ρ1, ρ2, h1, h3, h4⟩) he
theorem rngD_get' {lo : Int} {n i : Nat} {d : D} (h : (rngD lo n)[i]? = some d) : i < n ∧ d = .int (lo + (i : Nat)) := by
  have hi : i < n := by
    have := (List.getElem?_eq_some_iff.mp h).1
    rwa [rngD_len] at this
  rw [rngD_get hi] at h
  exact ⟨hi, (Option.some.inj h).symm⟩
theorem p62 : (2 : Int) ^ 62 = 4611686018427387904 := by decide
theorem inR {j : Int} (h1 : -1000000000000 ≤ j) (h2 : j ≤ 1000000000000) : InR j := by
  unfold InR
  rw [p62]
  omega
theorem rng1_of {g : Rho → Res (List D)} {ρ : Rho} {j : Int} (n : Nat) (e : g ρ = .ok [.int j]) (h : j = n) (hn : n ≤ 1000000) : rng1 g ρ = .ok (rngD 0 n) := by
  have h2 : j.toNat = n := by omega
  unfold rng1
  rw [e]
  simp only [Res.ok_bind]
  rw [if_pos (inR (by omega) (by omega)), h2]
theorem rng2_of {g : Rho → Res (List D)} {ρ : Rho} {i j : Int} (n : Nat) (e : g ρ = .ok [.int i, .int j]) (h : (j - i).toNat = n) (h1 : -1000000000000 ≤ i) (h2 : i ≤ 1000000000000) (h3 : -1000000000000 ≤ j) (h4 : j ≤ 1000000000000) : rng2 g ρ = .ok (rngD i n) := by
  subst h
  unfold rng2
  rw [e]
  simp only [Res.ok_bind]
  rw [if_pos ⟨inR h1 h2, inR h3 h4⟩]
theorem seq_nx {g h : Rho → Out} {ρ ρ' : Rho} (e : g ρ = .nx ρ') : seqS g h ρ = h ρ' := by unfold seqS; rw [e]
theorem seq_rt {g h : Rho → Out} {ρ : Rho} {d : D} (e : g ρ = .rt d) : seqS g h ρ = .rt d := by unfold seqS; rw [e]
theorem seq_ex {g h : Rho → Out} {ρ ρ' : Rho} {e' : Err} (e : g ρ = .ex e' ρ') : seqS g h ρ = .ex e' ρ' := by unfold seqS; rw [e]
/-- comprehensions without tests -/
theorem lcL_map {t : D → Rho → Option Rho} {f : Rho → Res D} {ρ : Rho} (h : D → D) : ∀ (ds : List D), (∀ d ∈ ds, ∃ ρ1, t d ρ = some ρ1 ∧ f ρ1 = .ok (h d)) → lcL t tT f ρ ds = .ok (ds.map h)
  | [], _ => rfl
  | d :: ds, hs => by
    obtain ⟨ρ1, h1, h2⟩ := hs d List.mem_cons_self
    unfold lcL
    rw [h1]
    simp only [noX_ok, Res.ok_bind, if_true, h2, lcL_map h ds fun d' hd => hs d' (List.mem_cons_of_mem _ hd), List.map_cons]
theorem lcL_filt {t : D → Rho → Option Rho} {c : Rho → Res Bool} {f : Rho → Res D} {ρ : Rho} (p : D → Bool) (h : D → D) : ∀ (ds : List D), (∀ d ∈ ds, ∃ ρ1, t d ρ = some ρ1 ∧ c ρ1 = .ok (p d) ∧ (p d = true → f ρ1 = .ok (h d))) → lcL t c f ρ ds = .ok ((ds.filter p).map h)
  | [], _ => rfl
  | d :: ds, hs => by
    obtain ⟨ρ1, h1, h2, h3⟩ := hs d List.mem_cons_self
    have ih := lcL_filt p h ds fun d' hd => hs d' (List.mem_cons_of_mem _ hd)
    unfold lcL
    rw [h1]
    cases q : p d with
    | true => simp only [h2, noX_ok, Res.ok_bind, q, if_true, h3 q, ih, List.filter_cons_of_pos q, List.map_cons]
    | false => simp only [h2, noX_ok, Res.ok_bind, q, Bool.false_eq_true, if_false, ih, List.filter_cons, List.map_cons]
theorem lcV_map {fi : Rho → Res (List D)} {t : D → Rho → Option Rho} {f : Rho → Res D} {vs : List Nat} {ρ : Rho} {ds : List D} (h : D → D) (hi : fi ρ = .ok ds) (hl : ds.length ≤ 1000000) (hs : ∀ d ∈ ds, ∃ ρ1, t d (wipeR ρ vs) = some ρ1 ∧ f ρ1 = .ok (h d)) : lcV fi t tT f vs ρ = .ok (ds.map h) := by
  unfold lcV
  rw [hi]
  simp only [Res.ok_bind, if_pos (sz_le hl), lcL_map h ds hs, noX_ok]
theorem lcV_filt {fi : Rho → Res (List D)} {t : D → Rho → Option Rho} {c : Rho → Res Bool} {f : Rho → Res D} {vs : List Nat} {ρ : Rho} {ds : List D} (p : D → Bool) (h : D → D) (hi : fi ρ = .ok ds) (hl : ds.length ≤ 1000000) (hs : ∀ d ∈ ds, ∃ ρ1, t d (wipeR ρ vs) = some ρ1 ∧ c ρ1 = .ok (p d) ∧ (p d = true → f ρ1 = .ok (h d))) :
    lcV fi t c f vs ρ = .ok ((ds.filter p).map h) := by
  unfold lcV
  rw [hi]
  simp only [Res.ok_bind, if_pos (sz_le hl), lcL_filt p h ds hs, noX_ok]
/-! ### equations -/
theorem dAdd_ii {a b : Int} : dAdd (.int a) (.int b) = some (.int (a + b)) := rfl
theorem dAdd_ll {a b : List D} (h : a.length + b.length ≤ 1000000) : dAdd (.list a) (.list b) = some (.list (a ++ b)) := if_pos (sz_le h)
theorem dCat_ll {a b : List D} (h : a.length + b.length ≤ 1000000) : dCat (.list a) (.list b) = some (a ++ b) := if_pos (sz_le h)
theorem dSub_ii {a b : Int} : dSub (.int a) (.int b) = some (.int (a - b)) := rfl
theorem dNeg_i {a : Int} : dNeg (.int a) = some (.int (-a)) := rfl
theorem dLt_ii {a b : Int} : dLt (.int a) (.int b) = some (decide (a < b)) := rfl
theorem dLe_ii {a b : Int} : dLe (.int a) (.int b) = some (decide (a ≤ b)) := rfl
theorem dGt_ii {a b : Int} : dGt (.int a) (.int b) = some (decide (b < a)) := rfl
theorem dGe_ii {a b : Int} : dGe (.int a) (.int b) = some (decide (b ≤ a)) := rfl
theorem dIsN_n : dIsN .none .none = some true := rfl
theorem dIsN_i {a : Int} : dIsN (.int a) .none = some false := rfl
theorem dIsN_b {a : Bool} : dIsN (.bool a) .none = some false := rfl
theorem dIsN_s {a : Str} : dIsN (.str a) .none = some false := rfl
theorem dIsN_l {a : List D} : dIsN (.list a) .none = some false := rfl
theorem dIsN_t {a : List D} : dIsN (.tuple a) .none = some false := rfl
theorem dNotN_n : dNotN .none .none = some false := rfl
theorem dNotN_i {a : Int} : dNotN (.int a) .none = some true := rfl
theorem dNotN_s {a : Str} : dNotN (.str a) .none = some true := rfl
theorem dNotN_l {a : List D} : dNotN (.list a) .none = some true := rfl
theorem dNotN_t {a : List D} : dNotN (.tuple a) .none = some true := rfl
theorem dLen_l {a : List D} : dLen (.list a) = some (.int a.length) := rfl
theorem dLen_t {a : List D} : dLen (.tuple a) = some (.int a.length) := rfl
theorem dAbs_i {a : Int} : dAbs (.int a) = some (.int (if a < 0 then -a else a)) := rfl
theorem dMax2_ii {i j : Int} : dMax2 (.int i) (.int j) = some (.int (if j > i then j else i)) := rfl
theorem dMin2_ii {i j : Int} : dMin2 (.int i) (.int j) = some (.int (if j < i then j else i)) := rfl
theorem dList_l {a : List D} : dList (.list a) = some a := rfl
theorem dList_t {a : List D} : dList (.tuple a) = some a := rfl
theorem dTup_l {a : List D} : dTup (.list a) = some (.tuple a) := rfl
theorem dTup_t {a : List D} : dTup (.tuple a) = some (.tuple a) := rfl
theorem dAddI_ii {a b : Int} : dAddI (.int a) (.int b) = some (.int (a + b)) := rfl
theorem dIter_l {a : List D} : dIter (.list a) = some a := rfl
theorem dIter_t {a : List D} : dIter (.tuple a) = some a := rfl
theorem tyName_n : tyName .none = "NoneType" := rfl
theorem tyName_i {a : Int} : tyName (.int a) = "int" := rfl
theorem tyName_b {a : Bool} : tyName (.bool a) = "bool" := rfl
theorem tyName_s {a : Str} : tyName (.str a) = "str" := rfl
theorem tyName_l {a : List D} : tyName (.list a) = "list" := rfl
theorem tyName_t {a : List D} : tyName (.tuple a) = "tuple" := rfl
theorem ty_ii : ("int" == "int") = true := by decide
theorem ty_bb : ("bool" == "bool") = true := by decide
theorem ty_ib : ("int" == "bool") = false := by decide
theorem ty_bi : ("bool" == "int") = false := by decide
theorem ty_si : ("str" == "int") = false := by decide
theorem ty_sb : ("str" == "bool") = false := by decide
theorem ty_ni : ("NoneType" == "int") = false := by decide
theorem ty_nb : ("NoneType" == "bool") = false := by decide
theorem ty_is : ("int" == "str") = false := by decide
theorem ty_ss : ("str" == "str") = true := by decide
theorem ty_ti : ("tuple" == "int") = false := by decide
theorem ty_tb : ("tuple" == "bool") = false := by decide
theorem ty_ts : ("tuple" == "str") = false := by decide
theorem ty_tt : ("tuple" == "tuple") = true := by decide
theorem ty_tl : ("tuple" == "list") = false := by decide
theorem ty_li : ("list" == "int") = false := by decide
theorem ty_lb : ("list" == "bool") = false := by decide
theorem ty_ls : ("list" == "str") = false := by decide
theorem ty_lt : ("list" == "tuple") = false := by decide
theorem ty_ll : ("list" == "list") = true := by decide
/-! ### evaluation, each step only when its parts are known -/
section
variable {ρ ρ' : Rho} {g h : Rho → Out} {t t2 : Rho → Res Bool} {f f2 : Rho → Res D} {fs : Rho → Res (List D)} {d d2 d3 : D} {ds : List D} {e : Err} {k : Bool} {i j l : Nat} {op : D → D → Option D} {ob : D → D → Option Bool} {ou : D → Option D} {oo : D → Option (List D)}
def contS (o : Out) (h : Rho → Out) : Out := match o with
  | .nx ρ => h ρ
  | o => o
theorem seqS_e : seqS g h ρ = contS (g ρ) h := rfl
theorem contS_nx : contS (.nx ρ) h = h ρ := rfl
theorem contS_rt : contS (.rt d) h = .rt d := rfl
theorem contS_ex : contS (.ex e ρ) h = .ex e ρ := rfl
theorem contS_ct : contS (.ct ρ) h = .ct ρ := rfl
theorem contS_bk : contS (.bk ρ) h = .bk ρ := rfl
def iteS (r : Res Bool) (g h : Rho → Out) (ρ : Rho) : Out := Res.out ρ r fun k => if k = true then g ρ else h ρ
theorem ifS_e : ifS t g h ρ = iteS (t ρ) g h ρ := rfl
theorem iteS_t : iteS (.ok true) g h ρ = g ρ := rfl
theorem iteS_f : iteS (.ok false) g h ρ = h ρ := rfl
theorem iteS_x : iteS (.ex e) g h ρ = .ex e ρ := rfl
def retR (r : Res D) (ρ : Rho) : Out := Res.out ρ r .rt
theorem retS_e : retS f ρ = retR (f ρ) ρ := rfl
theorem retR_ok : retR (.ok d) ρ = .rt d := rfl
theorem retR_ex : retR (.ex e) ρ = .ex e ρ := rfl
def expR (r : Res D) (ρ : Rho) : Out := Res.out ρ r fun _ => .nx ρ
theorem expS_e : expS f ρ = expR (f ρ) ρ := rfl
theorem expR_ok : expR (.ok d) ρ = .nx ρ := rfl
theorem expR_ex : expR (.ex e) ρ = .ex e ρ := rfl
def asgR (i : Nat) (r : Res D) (ρ : Rho) : Out := Res.out ρ r fun d => .nx (ρ.set i (some (.fz d)))
theorem asgS_e : asgS i f ρ = asgR i (f ρ) ρ := rfl
theorem asgR_ok : asgR i (.ok d) ρ = .nx (ρ.set i (some (.fz d))) := rfl
theorem asgR_ex : asgR i (.ex e) ρ = .ex e ρ := rfl
def asgOR (i : Nat) (r : Res (List D)) (ρ : Rho) : Out := Res.out ρ r fun ds => .nx (ρ.set i (some (.ow ds)))
theorem asgO_e : asgO i fs ρ = asgOR i (fs ρ) ρ := rfl
theorem asgOR_ok : asgOR i (.ok ds) ρ = .nx (ρ.set i (some (.ow ds))) := rfl
theorem asgOR_ex : asgOR i (.ex e) ρ = .ex e ρ := rfl
def outO (o : Option Rho) : Out := match o with
  | some ρ => .nx ρ
  | none => .no
theorem outO_some : outO (some ρ) = .nx ρ := rfl
def asgGR (tg : D → Rho → Option Rho) (r : Res D) (ρ : Rho) : Out := Res.out ρ r fun d => outO (tg d ρ)
theorem asgG_e {tg : D → Rho → Option Rho} : asgG tg f ρ = asgGR tg (f ρ) ρ := by
  unfold asgG asgGR outO
  cases f ρ <;> rfl
theorem asgGR_ok {tg : D → Rho → Option Rho} : asgGR tg (.ok d) ρ = outO (tg d ρ) := rfl
theorem asgGR_ex {tg : D → Rho → Option Rho} : asgGR tg (.ex e) ρ = .ex e ρ := rfl
theorem tgN_e : tgN i d ρ = some (ρ.set i (some (.fz d))) := rfl
theorem tgT_e {n : Nat} {u : List D → Rho → Option Rho} (hl : ds.length = n) : tgT n u (.tuple ds) ρ = u ds ρ := if_pos hl
theorem tgT_2 {u : List D → Rho → Option Rho} : tgT 2 u (.tuple [d, d2]) ρ = u [d, d2] ρ := rfl
theorem tgT_3 {u : List D → Rho → Option Rho} : tgT 3 u (.tuple [d, d2, d3]) ρ = u [d, d2, d3] ρ := rfl
theorem tgT_4 {d4 : D} {u : List D → Rho → Option Rho} : tgT 4 u (.tuple [d, d2, d3, d4]) ρ = u [d, d2, d3, d4] ρ := rfl
def tgB (o : Option Rho) (u : List D → Rho → Option Rho) (ds : List D) : Option Rho := o.bind (u ds)
theorem tgCons_e {tg : D → Rho → Option Rho} {u : List D → Rho → Option Rho} : tgCons tg u (d :: ds) ρ = tgB (tg d ρ) u ds := rfl
theorem tgB_e {u : List D → Rho → Option Rho} : tgB (some ρ) u ds = u ds ρ := rfl
theorem tgNil_e : tgNil [] ρ = some ρ := rfl
def parR (i j : Nat) (r : Res (List D)) (ρ : Rho) : Out := Res.out ρ r fun ds => match ds with
  | [d, d'] => .nx ((ρ.set i (some (.fz d))).set j (some (.fz d')))
  | _ => .no
theorem parS_e : parS i j fs ρ = parR i j (fs ρ) ρ := rfl
theorem parR_ok : parR i j (.ok [d, d2]) ρ = .nx ((ρ.set i (some (.fz d))).set j (some (.fz d2))) := rfl
theorem parR_ex : parR i j (.ex e) ρ = .ex e ρ := rfl
def parR3 (i j l : Nat) (r : Res (List D)) (ρ : Rho) : Out := Res.out ρ r fun ds => match ds with
  | [d, d', d2] => .nx (((ρ.set i (some (.fz d))).set j (some (.fz d'))).set l (some (.fz d2)))
  | _ => .no
theorem parS3_e : parS3 i j l fs ρ = parR3 i j l (fs ρ) ρ := rfl
theorem parR3_ok : parR3 i j l (.ok [d, d2, d3]) ρ = .nx (((ρ.set i (some (.fz d))).set j (some (.fz d2))).set l (some (.fz d3))) := rfl
def augR (i : Nat) (a b : Res D) (op : D → D → Option D) (ρ : Rho) : Out := Res.out ρ (a.bind fun x => b.bind fun y => Res.of (op x y)) fun d => .nx (ρ.set i (some (.fz d)))
theorem augS_e : augS i f op ρ = augR i (var i ρ) (f ρ) op ρ := rfl
def augN (i : Nat) (o : Option D) (ρ : Rho) : Out := Res.out ρ (Res.of o) fun d => .nx (ρ.set i (some (.fz d)))
theorem augR_ok : augR i (.ok d) (.ok d2) op ρ = augN i (op d d2) ρ := rfl
theorem augN_ok : augN i (some d) ρ = .nx (ρ.set i (some (.fz d))) := rfl
def appR (i : Nat) (o : Option (Option LV)) (r : Res D) (ρ : Rho) : Out := match o with
  | some (some (.ow ds)) => Res.out ρ r fun d => if ds.length < sizeLine then .nx (ρ.set i (some (.ow (ds ++ [d])))) else .no
  | _ => .no
theorem appS_e : appS i f ρ = appR i ρ[i]? (f ρ) ρ := rfl
theorem appR_ok (hl : ds.length < 1000000) : appR i (some (some (.ow ds))) (.ok d) ρ = .nx (ρ.set i (some (.ow (ds ++ [d])))) := if_pos (sz_lt hl)
theorem appR_0 : appR i (some (some (.ow []))) (.ok d) ρ = .nx (ρ.set i (some (.ow [d]))) := appR_ok (by simp)
def frzG (i : Nat) (o : Option (Option LV)) (g : Rho → Out) (ρ : Rho) : Out := g (match o with
  | some (some (.ow ds)) => ρ.set i (some (.fz (.list ds)))
  | _ => ρ)
theorem frzS_e : frzS i g ρ = frzG i ρ[i]? g ρ := rfl
theorem frzG_ow : frzG i (some (some (.ow ds))) g ρ = g (ρ.set i (some (.fz (.list ds)))) := rfl
theorem frzG_fz : frzG i (some (some (.fz d))) g ρ = g ρ := rfl
theorem frzG_none : frzG i (some none) g ρ = g ρ := rfl
def varG (o : Option (Option LV)) : Res D := match o with
  | some (some (.fz d)) => .ok d
  | _ => .no
theorem var_e : var i ρ = varG ρ[i]? := rfl
theorem varG_fz : varG (some (some (.fz d))) = .ok d := rfl
def varGR (o : Option (Option LV)) : Res D := match o with
  | some (some (.fz d)) => .ok d
  | some (some (.ow ds)) => .ok (.list ds)
  | _ => .no
theorem varR_e : varR i ρ = varGR ρ[i]? := rfl
theorem varGR_fz : varGR (some (some (.fz d))) = .ok d := rfl
theorem varGR_ow : varGR (some (some (.ow ds))) = .ok (.list ds) := rfl
def binR (a b : Res D) (op : D → D → Option D) : Res D := a.bind fun x => b.bind fun y => Res.of (op x y)
theorem bin_e : bin f f2 op ρ = binR (f ρ) (f2 ρ) op := rfl
theorem binR_ok : binR (.ok d) (.ok d2) op = Res.of (op d d2) := rfl
theorem binR_ex {r : Res D} : binR (.ex e) r op = .ex e := rfl
theorem binR_ex2 : binR (.ok d) (.ex e) op = .ex e := rfl
def binBR (a b : Res D) (op : D → D → Option Bool) : Res Bool := a.bind fun x => b.bind fun y => Res.of (op x y)
theorem binB_e : binB f f2 ob ρ = binBR (f ρ) (f2 ρ) ob := rfl
theorem binBR_ok : binBR (.ok d) (.ok d2) ob = Res.of (ob d d2) := rfl
theorem binBR_ex {r : Res D} : binBR (.ex e) r ob = .ex e := rfl
def unR (a : Res D) (op : D → Option D) : Res D := a.bind fun x => Res.of (op x)
theorem un_e : un f ou ρ = unR (f ρ) ou := rfl
theorem unR_ok : unR (.ok d) ou = Res.of (ou d) := rfl
theorem unR_ex : unR (.ex e) ou = .ex e := rfl
def unOR (a : Res D) (op : D → Option (List D)) : Res (List D) := a.bind fun x => Res.of (op x)
theorem unO_e : unO f oo ρ = unOR (f ρ) oo := rfl
theorem unOR_ok : unOR (.ok d) oo = Res.of (oo d) := rfl
theorem unOR_ex : unOR (.ex e) oo = .ex e := rfl
def callR (F : List D → Res D) (r : Res (List D)) : Res D := r.bind F
theorem callV_e {F : List D → Res D} : callV F fs ρ = callR F (fs ρ) := rfl
theorem callR_ok {F : List D → Res D} : callR F (.ok ds) = F ds := rfl
theorem callR_ex {F : List D → Res D} : callR F (.ex e) = .ex e := rfl
def consR (a : Res D) (b : Res (List D)) : Res (List D) := a.bind fun d => b.bind fun ds => .ok (d :: ds)
theorem consA_e : consA f fs ρ = consR (f ρ) (fs ρ) := rfl
theorem consR_ok : consR (.ok d) (.ok ds) = .ok (d :: ds) := rfl
theorem consR_ex {r : Res (List D)} : consR (.ex e) r = .ex e := rfl
theorem consR_ex2 : consR (.ok d) (.ex e) = .ex e := rfl
def tupR (r : Res (List D)) : Res D := r.bind fun ds => if ds.length ≤ sizeLine then .ok (.tuple ds) else .no
theorem tupV_e : tupV fs ρ = tupR (fs ρ) := rfl
theorem tupR_ok (hl : ds.length ≤ 1000000) : tupR (.ok ds) = .ok (.tuple ds) := if_pos (sz_le hl)
theorem tupR_0 : tupR (.ok []) = .ok (.tuple []) := tupR_ok (by simp)
theorem tupR_1 : tupR (.ok [d]) = .ok (.tuple [d]) := tupR_ok (by simp)
theorem tupR_2 : tupR (.ok [d, d2]) = .ok (.tuple [d, d2]) := tupR_ok (by simp)
theorem tupR_3 : tupR (.ok [d, d2, d3]) = .ok (.tuple [d, d2, d3]) := tupR_ok (by simp)
theorem tupR_4 {d4 : D} : tupR (.ok [d, d2, d3, d4]) = .ok (.tuple [d, d2, d3, d4]) := tupR_ok (by simp)
theorem tupR_5 {d4 d5 : D} : tupR (.ok [d, d2, d3, d4, d5]) = .ok (.tuple [d, d2, d3, d4, d5]) := tupR_ok (by simp)
theorem tupR_ex : tupR (.ex e) = .ex e := rfl
def lstR (r : Res (List D)) : Res (List D) := r.bind fun ds => if ds.length ≤ sizeLine then .ok ds else .no
theorem lstO_e : lstO fs ρ = lstR (fs ρ) := rfl
theorem lstR_ok (hl : ds.length ≤ 1000000) : lstR (.ok ds) = .ok ds := if_pos (sz_le hl)
theorem lstR_0 : lstR (.ok []) = .ok [] := lstR_ok (by simp)
theorem lstR_1 : lstR (.ok [d]) = .ok [d] := lstR_ok (by simp)
theorem lstR_2 : lstR (.ok [d, d2]) = .ok [d, d2] := lstR_ok (by simp)
theorem lstR_3 : lstR (.ok [d, d2, d3]) = .ok [d, d2, d3] := lstR_ok (by simp)
theorem lstR_4 {d4 : D} : lstR (.ok [d, d2, d3, d4]) = .ok [d, d2, d3, d4] := lstR_ok (by simp)
theorem lstR_5 {d4 d5 : D} : lstR (.ok [d, d2, d3, d4, d5]) = .ok [d, d2, d3, d4, d5] := lstR_ok (by simp)
theorem lstR_6 {d4 d5 d6 : D} : lstR (.ok [d, d2, d3, d4, d5, d6]) = .ok [d, d2, d3, d4, d5, d6] := lstR_ok (by simp)
theorem lstR_7 {d4 d5 d6 d7 : D} : lstR (.ok [d, d2, d3, d4, d5, d6, d7]) = .ok [d, d2, d3, d4, d5, d6, d7] := lstR_ok (by simp)
theorem lstR_8 {d4 d5 d6 d7 d8 : D} : lstR (.ok [d, d2, d3, d4, d5, d6, d7, d8]) = .ok [d, d2, d3, d4, d5, d6, d7, d8] := lstR_ok (by simp)
theorem lstR_9 {d4 d5 d6 d7 d8 d9 : D} : lstR (.ok [d, d2, d3, d4, d5, d6, d7, d8, d9]) = .ok [d, d2, d3, d4, d5, d6, d7, d8, d9] := lstR_ok (by simp)
theorem lstR_10 {d4 d5 d6 d7 d8 d9 d10 : D} : lstR (.ok [d, d2, d3, d4, d5, d6, d7, d8, d9, d10]) = .ok [d, d2, d3, d4, d5, d6, d7, d8, d9, d10] := lstR_ok (by simp)
theorem lstR_11 {d4 d5 d6 d7 d8 d9 d10 d11 : D} : lstR (.ok [d, d2, d3, d4, d5, d6, d7, d8, d9, d10, d11]) = .ok [d, d2, d3, d4, d5, d6, d7, d8, d9, d10, d11] := lstR_ok (by simp)
theorem lstR_ex : lstR (.ex e) = .ex e := rfl
def iteV (r : Res Bool) (f f2 : Rho → Res D) (ρ : Rho) : Res D := r.bind fun k => if k = true then f ρ else f2 ρ
theorem ifV_e : ifV t f f2 ρ = iteV (t ρ) f f2 ρ := rfl
theorem iteV_t : iteV (.ok true) f f2 ρ = f ρ := rfl
theorem iteV_f : iteV (.ok false) f f2 ρ = f2 ρ := rfl
def andVR (r : Res D) (g : Rho → Res D) (ρ : Rho) : Res D := r.bind fun d => match d with | .bool true => g ρ | .bool false => .ok (.bool false) | _ => .no
theorem andV_e : andV f f2 ρ = andVR (f ρ) f2 ρ := rfl
theorem andVR_t : andVR (.ok (.bool true)) f ρ = f ρ := rfl
theorem andVR_f : andVR (.ok (.bool false)) f ρ = .ok (.bool false) := rfl
def orVR (r : Res D) (g : Rho → Res D) (ρ : Rho) : Res D := r.bind fun d => match d with | .bool true => .ok (.bool true) | .bool false => g ρ | _ => .no
theorem orV_e : orV f f2 ρ = orVR (f ρ) f2 ρ := rfl
theorem orVR_t : orVR (.ok (.bool true)) f ρ = .ok (.bool true) := rfl
theorem orVR_f : orVR (.ok (.bool false)) f ρ = f ρ := rfl
def notVR (r : Res D) : Res D := r.bind fun d => match d with | .bool k => .ok (.bool (!k)) | _ => .no
theorem notV_e : notV f ρ = notVR (f ρ) := rfl
theorem notVR_ok : notVR (.ok (.bool k)) = .ok (.bool (!k)) := rfl
def vBR (r : Res Bool) : Res D := r.bind fun k => .ok (.bool k)
theorem vB_e : vB t ρ = vBR (t ρ) := rfl
theorem vBR_ok : vBR (.ok k) = .ok (.bool k) := rfl
def isBR (r : Res D) : Res Bool := r.bind fun d => match d with | .bool k => .ok k | _ => .no
theorem isB_e : isB f ρ = isBR (f ρ) := rfl
theorem isBR_ok : isBR (.ok (.bool k)) = .ok k := rfl
theorem isBR_ex : isBR (.ex e) = .ex e := rfl
def isiR (T : String) (r : Res D) : Res D := r.bind fun d => .ok (.bool (isTy T d))
theorem isiV_e {T : String} : isiV T f ρ = isiR T (f ρ) := rfl
theorem isiR_ok {T : String} : isiR T (.ok d) = .ok (.bool (isTy T d)) := rfl
def andTR (r : Res Bool) (t : Rho → Res Bool) (ρ : Rho) : Res Bool := r.bind fun k => if k = true then t ρ else .ok false
theorem andT_e : andT t t2 ρ = andTR (t ρ) t2 ρ := rfl
theorem andTR_t : andTR (.ok true) t ρ = t ρ := rfl
theorem andTR_f : andTR (.ok false) t ρ = .ok false := rfl
def orTR (r : Res Bool) (t : Rho → Res Bool) (ρ : Rho) : Res Bool := r.bind fun k => if k = true then .ok true else t ρ
theorem orT_e : orT t t2 ρ = orTR (t ρ) t2 ρ := rfl
theorem orTR_t : orTR (.ok true) t ρ = .ok true := rfl
theorem orTR_f : orTR (.ok false) t ρ = t ρ := rfl
def notTR (r : Res Bool) : Res Bool := r.bind fun k => .ok (!k)
theorem notT_e : notT t ρ = notTR (t ρ) := rfl
theorem notTR_ok : notTR (.ok k) = .ok (!k) := rfl
theorem notTR_ex : notTR (.ex e) = .ex e := rfl
def chnR (r : Res D) (h : D → Rho → Res Bool) (ρ : Rho) : Res Bool := r.bind fun x => h x ρ
theorem chnT_e {h : D → Rho → Res Bool} : chnT f h ρ = chnR (f ρ) h ρ := rfl
theorem chnR_ok {h : D → Rho → Res Bool} : chnR (.ok d) h ρ = h d ρ := rfl
def lkCR (d : D) (r : Res D) (g : D → D → Option Bool) (h : D → Rho → Res Bool) (ρ : Rho) : Res Bool := r.bind fun y => (Res.of (g d y)).bind fun k => if k = true then h y ρ else .ok false
theorem lkC_e {h : D → Rho → Res Bool} : lkC f ob h d ρ = lkCR d (f ρ) ob h ρ := rfl
def lkCN (o : Option Bool) (y : D) (h : D → Rho → Res Bool) (ρ : Rho) : Res Bool := (Res.of o).bind fun k => if k = true then h y ρ else .ok false
theorem lkCR_ok {h : D → Rho → Res Bool} : lkCR d (.ok d2) ob h ρ = lkCN (ob d d2) d2 h ρ := rfl
theorem lkCN_t {h : D → Rho → Res Bool} : lkCN (some true) d h ρ = h d ρ := rfl
theorem lkCN_f {h : D → Rho → Res Bool} : lkCN (some false) d h ρ = .ok false := rfl
theorem lkL_e : lkL f ob d ρ = binBR (.ok d) (f ρ) ob := rfl
def asIR (r : Res D) : Res (Option Int) := r.bind fun d => match d with | .int i => .ok (some i) | _ => .no
theorem asI_e : asI f ρ = asIR (f ρ) := rfl
theorem asIR_ok {z : Int} : asIR (.ok (.int z)) = .ok (some z) := rfl
def slcR (r : Res D) (a b : Res (Option Int)) : Res D := r.bind fun d => a.bind fun lo => b.bind fun hi => Res.of (dSl d lo hi)
theorem slc_e {a b : Rho → Res (Option Int)} : slc f a b ρ = slcR (f ρ) (a ρ) (b ρ) := rfl
theorem slcR_l {a b : Option Int} : slcR (.ok (.list ds)) (.ok a) (.ok b) = .ok (.list (cutD ds a b)) := rfl
theorem slcR_t {a b : Option Int} : slcR (.ok (.tuple ds)) (.ok a) (.ok b) = .ok (.tuple (cutD ds a b)) := rfl
def raiR (cls : Str) (fl : List Str) (r : Res (List D)) (ρ : Rho) : Out := Res.out ρ r fun ds => if ds.all fmtD = true then .ex ⟨cls, (fl.zip ds).reverse⟩ ρ else .no
theorem raiS_e {cls : Str} {fl : List Str} : raiS cls fl fs ρ = raiR cls fl (fs ρ) ρ := rfl
def catR (a b : Res D) : Res (List D) := a.bind fun x => b.bind fun y => Res.of (dCat x y)
theorem catO_e : catO f f2 ρ = catR (f ρ) (f2 ρ) := rfl
theorem vO_e : vO fs ρ = lstD (fs ρ) := rfl
theorem catR_ok : catR (.ok d) (.ok d2) = Res.of (dCat d d2) := rfl
theorem itR_e : itR f ρ = unOR (f ρ) dIter := rfl
def outR (r : Out) : Res D := match r with
  | .nx _ => .ok .none
  | .rt d => .ok d
  | .ex e _ => .ex e
  | _ => .no
theorem bodyV_e {n : Nat} : bodyV n g ds = outR (g (startV n ds)) := rfl
theorem outR_nx : outR (.nx ρ) = .ok .none := rfl
theorem outR_rt : outR (.rt d) = .ok d := rfl
theorem outR_ex : outR (.ex e ρ) = .ex e := rfl
theorem nxS_e : nxS ρ = .nx ρ := rfl
theorem brkS_e : brkS ρ = .bk ρ := rfl
theorem cntS_e : cntS ρ = .ct ρ := rfl
theorem retN_e : retN ρ = .rt .none := rfl
theorem stop_rt : Out.stop (.rt d) = some (.rt d) := rfl
theorem stop_ex : Out.stop (.ex e ρ) = some (.ex e ρ) := rfl
theorem stop_bk : Out.stop (.bk ρ) = some (.nx ρ) := rfl
end
end VL

local macro_rules
  | `(tactic| simp! [$ls,*] $[$loc:location]?) => `(tactic| simp only [
      VL.seqS_e, VL.contS_nx, VL.contS_rt, VL.contS_ex, VL.contS_ct, VL.contS_bk, VL.ifS_e, VL.iteS_t, VL.iteS_f, VL.iteS_x, VL.retS_e, VL.retR_ok, VL.retR_ex, VL.expS_e, VL.expR_ok, VL.expR_ex,
      VL.asgS_e, VL.asgR_ok, VL.asgR_ex, VL.asgO_e, VL.asgOR_ok, VL.asgOR_ex, VL.outO_some, VL.asgG_e, VL.asgGR_ok, VL.asgGR_ex, VL.tgN_e, VL.tgT_2, VL.tgT_3, VL.tgT_4, VL.tgCons_e, VL.tgB_e,
      VL.tgNil_e, VL.parS_e, VL.parR_ok, VL.parR_ex, VL.parS3_e, VL.parR3_ok, VL.augS_e, VL.augR_ok, VL.augN_ok, VL.appS_e, VL.appR_0, VL.frzS_e, VL.frzG_ow, VL.frzG_fz, VL.frzG_none, VL.var_e,
      VL.varG_fz, VL.varR_e, VL.varGR_fz, VL.varGR_ow, VL.bin_e, VL.binR_ok, VL.binR_ex, VL.binR_ex2, VL.binB_e, VL.binBR_ok, VL.binBR_ex, VL.un_e, VL.unR_ok, VL.unR_ex, VL.unO_e, VL.unOR_ok,
      VL.unOR_ex, VL.callV_e, VL.callR_ok, VL.callR_ex, VL.consA_e, VL.consR_ok, VL.consR_ex, VL.consR_ex2, VL.tupV_e, VL.tupR_0, VL.tupR_1, VL.tupR_2, VL.tupR_3, VL.tupR_4, VL.tupR_5, VL.tupR_ex,
      VL.lstO_e, VL.lstR_0, VL.lstR_1, VL.lstR_2, VL.lstR_3, VL.lstR_4, VL.lstR_5, VL.lstR_6, VL.lstR_7, VL.lstR_8, VL.lstR_9, VL.lstR_10, VL.lstR_11, VL.lstR_ex, VL.ifV_e, VL.iteV_t, VL.iteV_f,
      VL.andV_e, VL.andVR_t, VL.andVR_f, VL.orV_e, VL.orVR_t, VL.orVR_f, VL.notV_e, VL.notVR_ok, VL.vB_e, VL.vBR_ok, VL.isB_e, VL.isBR_ok, VL.isBR_ex, VL.isiV_e, VL.isiR_ok, VL.andT_e, VL.andTR_t,
      VL.andTR_f, VL.orT_e, VL.orTR_t, VL.orTR_f, VL.notT_e, VL.notTR_ok, VL.notTR_ex, VL.chnT_e, VL.chnR_ok, VL.lkC_e, VL.lkCR_ok, VL.lkCN_t, VL.lkCN_f, VL.lkL_e, VL.asI_e, VL.asIR_ok, VL.slc_e,
      VL.slcR_l, VL.slcR_t, VL.catO_e, VL.vO_e, VL.catR_ok, VL.itR_e, VL.bodyV_e, VL.outR_nx, VL.outR_rt, VL.outR_ex, VL.nxS_e, VL.brkS_e, VL.cntS_e, VL.retN_e, VL.stop_rt, VL.stop_ex, VL.stop_bk,
      VL.dAdd_ii, VL.dSub_ii, VL.dNeg_i, VL.dLt_ii, VL.dLe_ii, VL.dGt_ii, VL.dGe_ii, VL.dIsN_n, VL.dIsN_i, VL.dIsN_b, VL.dIsN_s, VL.dIsN_l, VL.dIsN_t, VL.dNotN_n, VL.dNotN_i, VL.dNotN_s, VL.dNotN_l,
      VL.dNotN_t, VL.dLen_l, VL.dLen_t, VL.dAbs_i, VL.dMax2_ii, VL.dMin2_ii, VL.dList_l, VL.dList_t, VL.dTup_l, VL.dTup_t, VL.dAddI_ii, VL.dIter_l, VL.dIter_t, VL.isTy, VL.tyName_n, VL.tyName_i,
      VL.tyName_b, VL.tyName_s, VL.tyName_l, VL.tyName_t, VL.ty_ii, VL.ty_bb, VL.ty_ib, VL.ty_bi, VL.ty_si, VL.ty_sb, VL.ty_ni, VL.ty_nb, VL.ty_is, VL.ty_ss, VL.ty_ti, VL.ty_tb, VL.ty_ts, VL.ty_tt,
      VL.ty_tl, VL.ty_li, VL.ty_lb, VL.ty_ls, VL.ty_lt, VL.ty_ll, VL.dIx_t0, VL.dIx_t1, VL.dIx_t2, VL.dIx_t3, VL.dIx_l0, VL.dIx_l1, VL.dIx_l2, VL.dIx_l3, VL.dIx_l4, VL.dIx_l5, VL.dIx_l6, VL.dIx_l7,
      VL.dIx_l8, VL.Res.of_some, VL.Res.of_none, VL.lstD_ok, VL.lstD_ex, VL.Res.ok_out, VL.Res.ex_out, VL.Res.no_out, VL.Res.ok_bind, VL.Res.ex_bind, VL.Res.no_bind, VL.startV, List.getElem?_cons_zero,
      List.getElem?_cons_succ, List.getElem?_nil, List.set_cons_zero, List.set_cons_succ, List.set_nil, List.length_cons, List.length_nil, List.map_cons, List.map_nil, List.cons_append, List.nil_append,
      List.length_map, List.length_range, List.replicate_succ, List.replicate_zero, Nat.zero_add, Int.natCast_zero, Option.map_some, Option.map_none, if_true, if_false, ite_true, ite_false, Bool.false_eq_true,
      Bool.true_eq_false, decide_true, decide_false, decide_eq_true_eq, decide_eq_false_iff_not, Bool.not_true, Bool.not_false, Bool.not_eq_true', Bool.and_true, Bool.true_and, Bool.and_false,
      Bool.false_and, Bool.or_true, Bool.true_or, Bool.or_false, Bool.false_or, and_true, true_and, and_false, false_and, and_self, or_true, true_or, or_false, false_or, or_self, ne_eq, not_true,
      not_false_iff, not_true_eq_false, not_false_eq_true, beq_self_eq_true, VL.OutQ_nx, VL.OutQ_ct, Nat.reduceAdd, Nat.reduceSub, Nat.reduceMul, reduceIte, $ls,*] $[$loc]?)
set_option Elab.async false
set_option linter.all false
set_option maxRecDepth 100000
namespace VL
open PySem PySem.Spec PyProof.Rows L2
noncomputable section
/-! ### is_number -/
def g_is_number_0 : Rho → Out := (retS (andV (isiV "int" (var 0)) (andV (notV (isiV "bool" (var 0))) (andV (vB (binB (var 1) (var 0) dLe)) (vB (binB (var 0) (var 2) dLe))))))
def G_is_number : Rho → Out := g_is_number_0
def F_is_number : List D → Res D := bodyV 3 G_is_number
/-! ### _law_cell -/
def g__law_cell_0 : Rho → Out := (ifS (binB (var 1) (un (var 0) dLen) dLt) (retS (bin (var 0) (var 1) dIx)) nxS)
def g__law_cell_1 : Rho → Out := (retS (kI 0))
def G__law_cell : Rho → Out := (seqS g__law_cell_0 g__law_cell_1)
def F__law_cell : List D → Res D := bodyV 2 G__law_cell
/-! ### _law_draw -/
def g__law_draw_0 : Rho → Out := (asgS 3 (callV F__law_cell (consA (var 0) (consA (var 1) nilA))))
def g__law_draw_1 : Rho → Out := (ifS (binB (var 3) (kI 0) dLt) (asgS 3 (un (var 3) dNeg)) nxS)
def g__law_draw_2 : Rho → Out := (asgO 4 (lstO nilA))
def g__law_draw_3a_1b : Rho → Out := (seqS (appS 4 (bin (var 3) (var 5) dMod)) (asgS 3 (bin (var 3) (var 5) dDiv)))
def g__law_draw_3 : Rho → Out := (ifS (binB (var 3) (bin (kI 10) (kI 18) dPow) dGe) (seqS (asgS 3 (bin (var 3) (bin (kI 10) (kI 18) dPow) dSub)) (seqS (forS (itR (var 2)) (tgN 5) g__law_draw_3a_1b) (frzS 4 (retS (var 4))))) nxS)
def g__law_draw_4 : Rho → Out := (asgS 6 (bin (bin (bin (var 3) (kI 1) dAdd) (bin (kI 31) (var 1) dMul) dAdd) (kI 2147483647) dMod))
def g__law_draw_5b : Rho → Out := (seqS (asgS 6 (bin (bin (bin (bin (var 6) (kI 48271) dMul) (kI 11) dAdd) (var 7) dAdd) (kI 2147483647) dMod)) (seqS (asgS 6 (bin (bin (bin (var 6) (kI 69621) dMul) (kI 3) dAdd) (kI 2147483647) dMod)) (appS 4 (bin (bin (var 6) (kI 7) dDiv) (bin (var 2) (var 7) dIx) dMod))))
def g__law_draw_5 : Rho → Out := (forS (rng1 (consA (un (var 2) dLen) nilA)) (tgN 7) g__law_draw_5b)
def g__law_draw_6 : Rho → Out := (frzS 4 (retS (var 4)))
def G__law_draw : Rho → Out := (seqS g__law_draw_0 (seqS g__law_draw_1 (seqS g__law_draw_2 (seqS g__law_draw_3 (seqS g__law_draw_4 (seqS g__law_draw_5 g__law_draw_6))))))
def F__law_draw : List D → Res D := bodyV 8 G__law_draw
/-! ### _law_strictly -/
def g__law_strictly_0 (S : List D → Res D) : Rho → Out := (ifS (binB (var 0) kN dIsN) (retS (vB (binB (var 1) kN dIsN))) nxS)
def g__law_strictly_1 (S : List D → Res D) : Rho → Out := (ifS (isB (isiV "bool" (var 0))) (retS (andV (isiV "int" (var 1)) (vB (binB (var 1) (var 0) dEq)))) nxS)
def g__law_strictly_2 (S : List D → Res D) : Rho → Out := (ifS (isB (isiV "int" (var 0))) (retS (andV (isiV "int" (var 1)) (andV (notV (isiV "bool" (var 1))) (vB (binB (var 1) (var 0) dEq))))) nxS)
def g__law_strictly_3 (S : List D → Res D) : Rho → Out := (ifS (isB (isiV "str" (var 0))) (retS (andV (isiV "str" (var 1)) (vB (binB (var 1) (var 0) dEq)))) nxS)
def g__law_strictly_4 (S : List D → Res D) : Rho → Out := (ifS (orT (binB (isiV "tuple" (var 0)) (isiV "tuple" (var 1)) dNe) (binB (isiV "list" (var 0)) (isiV "list" (var 1)) dNe)) (retS (kB false)) nxS)
def g__law_strictly_5a_1b (S : List D → Res D) : Rho → Out := (ifS (notT (isB (callV S (consA (bin (var 0) (var 2) dIx) (consA (bin (var 1) (var 2) dIx) nilA))))) (retS (kB false)) nxS)
def g__law_strictly_5 (S : List D → Res D) : Rho → Out := (ifS (orT (isB (isiV "tuple" (var 0))) (isB (isiV "list" (var 0)))) (seqS (ifS (binB (un (var 1) dLen) (un (var 0) dLen) dNe) (retS (kB false)) nxS) (seqS (forS (rng1 (consA (un (var 0) dLen) nilA)) (tgN 2) (g__law_strictly_5a_1b S)) (retS (kB true)))) nxS)
def g__law_strictly_6 (S : List D → Res D) : Rho → Out := (retS (vB (binB (var 1) (var 0) dEq)))
def G__law_strictly (S : List D → Res D) : Rho → Out := (seqS (g__law_strictly_0 S) (seqS (g__law_strictly_1 S) (seqS (g__law_strictly_2 S) (seqS (g__law_strictly_3 S) (seqS (g__law_strictly_4 S) (seqS (g__law_strictly_5 S) (g__law_strictly_6 S)))))))
def F__law_strictly : Nat → List D → Res D
  | 0 => fun _ => .no
  | n + 1 => bodyV 3 (G__law_strictly (F__law_strictly n))
/-! ### gcd_of -/
def g_gcd_of_0b : Rho → Out := (parS 0 1 (consA (var 1) (consA (bin (var 0) (var 1) dMod) nilA)))
def g_gcd_of_0 : Rho → Out := (whlN (binB (var 1) (kI 0) dNe) g_gcd_of_0b 10000)
def g_gcd_of_1 : Rho → Out := (retS (var 0))
def G_gcd_of : Rho → Out := (seqS g_gcd_of_0 g_gcd_of_1)
def F_gcd_of : List D → Res D := bodyV 2 G_gcd_of
/-! ### ratio -/
def g_ratio_0 : Rho → Out := (asgS 2 (callV F_gcd_of (consA (var 0) (consA (var 1) nilA))))
def g_ratio_1 : Rho → Out := (retS (tupV (consA (bin (var 0) (var 2) dDiv) (consA (bin (var 1) (var 2) dDiv) nilA))))
def G_ratio : Rho → Out := (seqS g_ratio_0 g_ratio_1)
def F_ratio : List D → Res D := bodyV 3 G_ratio
/-! ### less -/
def g_less_0 : Rho → Out := (retS (vB (binB (bin (bin (var 0) (kI 0) dIx) (bin (var 1) (kI 1) dIx) dMul) (bin (bin (var 1) (kI 0) dIx) (bin (var 0) (kI 1) dIx) dMul) dLt)))
def G_less : Rho → Out := g_less_0
def F_less : List D → Res D := bodyV 2 G_less
/-! ### _law_gcd -/
def g__law_gcd_0b : Rho → Out := (seqS (ifS (binB (var 1) (kI 0) dEq) (retS (var 0)) nxS) (parS 0 1 (consA (var 1) (consA (bin (var 0) (var 1) dMod) nilA))))
def g__law_gcd_0 : Rho → Out := (forS (rng1 (consA (kI 200) nilA)) (tgN 2) g__law_gcd_0b)
def g__law_gcd_1 : Rho → Out := (retS (var 0))
def G__law_gcd : Rho → Out := (seqS g__law_gcd_0 g__law_gcd_1)
def F__law_gcd : List D → Res D := bodyV 3 G__law_gcd
/-! ### _law_ratio -/
def g__law_ratio_0 : Rho → Out := (asgS 2 (callV F__law_gcd (consA (var 0) (consA (var 1) nilA))))
def g__law_ratio_1 : Rho → Out := (retS (tupV (consA (bin (var 0) (var 2) dDiv) (consA (bin (var 1) (var 2) dDiv) nilA))))
def G__law_ratio : Rho → Out := (seqS g__law_ratio_0 g__law_ratio_1)
def F__law_ratio : List D → Res D := bodyV 3 G__law_ratio
end
end VL

set_option Elab.async false
set_option linter.all false
set_option maxRecDepth 100000
set_option maxHeartbeats 4000000
namespace VL
open PySem PySem.Spec PyProof.Rows L2

/-! ### is_number -/
theorem num_i {a lo hi : Int} : F_is_number [.int a, .int lo, .int hi] = .ok (.bool (decide (lo ≤ a ∧ a ≤ hi))) := by
  unfold F_is_number G_is_number g_is_number_0
  by_cases h1 : lo ≤ a <;> by_cases h2 : a ≤ hi <;> simp! [h1, h2]
theorem num_yes {a lo hi : Int} (h : lo ≤ a ∧ a ≤ hi) : F_is_number [.int a, .int lo, .int hi] = .ok (.bool true) := by rw [num_i, decide_eq_true h]
theorem num_no {a lo hi : Int} (h : ¬ (lo ≤ a ∧ a ≤ hi)) : F_is_number [.int a, .int lo, .int hi] = .ok (.bool false) := by rw [num_i, decide_eq_false h]
theorem num_b {b : Bool} {x y : D} : F_is_number [.bool b, x, y] = .ok (.bool false) := by
  unfold F_is_number G_is_number g_is_number_0
  simp! []

/-! ### _law_strictly -/
def okD : Nat → D → Prop
  | 0, .list _ => False
  | 0, .tuple _ => False
  | n + 1, .list ds => ds.length < 1000000 ∧ ∀ e ∈ ds, okD n e
  | n + 1, .tuple ds => ds.length < 1000000 ∧ ∀ e ∈ ds, okD n e
  | _, .dict _ => False
  | _, .str x => PyData.strOk x = true
  | _, _ => True
theorem dEq_b {a b : Bool} : dEq (.bool a) (.bool b) = some (a == b) := by
  unfold dEq
  rw [if_pos ⟨by decide +revert, by decide +revert⟩]
  simp [PyData.eqv]
theorem sh_int {a : Int} : SeqAt.shaped (.int a) = true := by simp [SeqAt.shaped, PyData.canLay0, PyData.depth]
theorem sh_bool {a : Bool} : SeqAt.shaped (.bool a) = true := by simp [SeqAt.shaped, PyData.canLay0, PyData.depth]
theorem sh_non : SeqAt.shaped .none = true := by simp [SeqAt.shaped, PyData.canLay0, PyData.depth]
theorem sh_str {x : Str} (h : PyData.strOk x = true) : SeqAt.shaped (.str x) = true := by simp [SeqAt.shaped, PyData.canLay0, PyData.depth, h]
theorem dEq_i {a b : Int} : dEq (.int a) (.int b) = some (decide (a = b)) := by
  unfold dEq
  rw [if_pos ⟨sh_int, sh_int⟩]
  simp [PyData.eqv]
  exact rfl
theorem dNe_i {a b : Int} : dNe (.int a) (.int b) = some (decide (a ≠ b)) := by
  unfold dNe
  rw [if_pos ⟨sh_int, sh_int⟩]
  simp only [PyData.eqv]
  by_cases h : a = b
  · subst h; simp
  · simp [h]
theorem dNe_b {a b : Bool} : dNe (.bool a) (.bool b) = some (!(a == b)) := by
  unfold dNe
  rw [if_pos ⟨sh_bool, sh_bool⟩]
  simp [PyData.eqv]
theorem dEq_s {x : Str} (h : PyData.strOk x = true) : dEq (.str x) (.str x) = some true := by
  unfold dEq
  rw [if_pos ⟨sh_str h, sh_str h⟩]
  simp [PyData.eqv]
theorem strict_loop (S : List D → Res D) {v : D} {ds : List D} (hv : v = .tuple ds ∨ v = .list ds) (hS : ∀ e ∈ ds, S [e, e] = .ok (.bool true)) (hl : ds.length < 1000000) (x : Option LV) :
    ∃ y, forS (rng1 (consA (un (var 0) dLen) nilA)) (tgN 2) (g__law_strictly_5a_1b S) [some (.fz v), some (.fz v), x] = .nx [some (.fz v), some (.fz v), y] := by
  have hlen : dLen v = some (.int ds.length) := by rcases hv with rfl | rfl <;> rfl
  obtain ⟨ρ', h1, y, rfl⟩ := fors (t := tgN 2) (g := g__law_strictly_5a_1b S) (fi := rng1 (consA (un (var 0) dLen) nilA)) (fun _ ρ => ∃ y, ρ = [some (.fz v), some (.fz v), y]) (ρ := [some (.fz v), some (.fz v), x])
    (rng1_of ds.length (by simp! [hlen]) rfl (by omega)) ⟨x, rfl⟩ (by
      rintro i d ρ hi ⟨y, rfl⟩
      obtain ⟨hi2, rfl⟩ := rngD_get' hi
      obtain ⟨e, he⟩ : ∃ e, ds[i]? = some e := ⟨_, List.getElem?_eq_getElem hi2⟩
      have hx : dIx v (.int (0 + (i : Nat))) = some e := by
        rcases hv with rfl | rfl
        · exact dIx_t (n := i) (by omega) he
        · exact dIx_l (n := i) (by omega) he
      refine ⟨_, rfl, ?_⟩
      unfold g__law_strictly_5a_1b
      simp! [hx, hS e (List.mem_of_getElem? he)]
      exact ⟨_, rfl⟩)
  exact ⟨y, h1⟩
theorem strict_seq (n : Nat) {v : D} {ds : List D} (hv : v = .tuple ds ∨ v = .list ds) (hS : ∀ e ∈ ds, F__law_strictly n [e, e] = .ok (.bool true)) (hl : ds.length < 1000000) : F__law_strictly (n + 1) [v, v] = .ok (.bool true) := by
  obtain ⟨y, hy⟩ := strict_loop (F__law_strictly n) hv hS hl none
  unfold F__law_strictly G__law_strictly
  unfold g__law_strictly_0 g__law_strictly_1 g__law_strictly_2 g__law_strictly_3 g__law_strictly_4 g__law_strictly_5
  rcases hv with rfl | rfl <;> simp! [dNe_b, dNe_i, hy]
theorem strict_leaf (n : Nat) (d : D) (h : okD 0 d) : F__law_strictly (n + 1) [d, d] = .ok (.bool true) := by
  unfold F__law_strictly G__law_strictly
  cases d with
  | none =>
    unfold g__law_strictly_0
    simp! []
  | bool b =>
    unfold g__law_strictly_0 g__law_strictly_1
    simp! [dEq_b]
  | int i =>
    unfold g__law_strictly_0 g__law_strictly_1 g__law_strictly_2
    simp! [dEq_i]
  | str x =>
    have hx : PyData.strOk x = true := h
    unfold g__law_strictly_0 g__law_strictly_1 g__law_strictly_2 g__law_strictly_3
    simp! [dEq_s hx]
  | list ds => exact h.elim
  | tuple ds => exact h.elim
  | dict _ => exact h.elim
theorem strict_refl : ∀ (n : Nat) (d : D), okD n d → F__law_strictly (n + 1) [d, d] = .ok (.bool true)
  | 0, d, h => strict_leaf 0 d h
  | n + 1, .none, h => strict_leaf _ _ h
  | n + 1, .bool _, h => strict_leaf _ _ h
  | n + 1, .int _, h => strict_leaf _ _ h
  | n + 1, .str _, h => strict_leaf _ _ h
  | n + 1, .list ds, h => strict_seq _ (.inr rfl) (fun e he => strict_refl n e (h.2 e he)) h.1
  | n + 1, .tuple ds, h => strict_seq _ (.inl rfl) (fun e he => strict_refl n e (h.2 e he)) h.1
  | n + 1, .dict _, h => h.elim

/-! ### _law_cell, _law_draw -/
theorem cell_ok {ns : List Int} {k : Int} (h0 : 0 ≤ k) : ∃ c : Int, F__law_cell [.list (ns.map .int), .int k] = .ok (.int c) := by
  unfold F__law_cell G__law_cell g__law_cell_0 g__law_cell_1
  by_cases h : k < (ns.length : Int)
  · obtain ⟨c, hc⟩ : ∃ c, ns[k.toNat]? = some c := ⟨_, List.getElem?_eq_getElem (by omega)⟩
    refine ⟨c, ?_⟩
    have hx : dIx (.list (ns.map .int)) (.int k) = some (.int c) := dIx_l (n := k.toNat) (by omega) (by rw [List.getElem?_map, hc]; rfl)
    simp! [h, hx]
  · refine ⟨0, ?_⟩
    simp! [h]
/-- each of the numbers is within its size -/
def Fits : List Int → List Int → Prop
  | [], [] => True
  | d :: ds, s :: ss => 0 ≤ d ∧ d < s ∧ Fits ds ss
  | _, _ => False
theorem Fits.snoc : ∀ {ds ss : List Int} {d s : Int}, Fits ds ss → 0 ≤ d → d < s → Fits (ds ++ [d]) (ss ++ [s])
  | [], [], _, _, _, h1, h2 => ⟨h1, h2, trivial⟩
  | _ :: _, _ :: _, _, _, h, h1, h2 => ⟨h.1, h.2.1, Fits.snoc h.2.2 h1 h2⟩
theorem Fits.len : ∀ {ds ss : List Int}, Fits ds ss → ds.length = ss.length
  | [], [], _ => rfl
  | _ :: _, _ :: _, h => by rw [List.length_cons, List.length_cons, h.2.2.len]
theorem take_succ' {α : Type} {l : List α} {i : Nat} {x : α} (h : l[i]? = some x) : l.take (i + 1) = l.take i ++ [x] := by
  rw [List.take_succ, h]
  rfl
theorem pow1018 : dPow (.int 10) (.int 18) = some (.int 1000000000000000000) := by
  show (if CPow 10 18 then some (PyData.int ((10 : Int) ^ (18 : Int).toNat)) else none) = _
  rw [if_pos ⟨by decide, by decide, by decide⟩]
  rfl
theorem draw_ok {ns : List Int} {k : Int} {ss : List Int} (h0 : 0 ≤ k) (h1 : k ≤ 1000000) (hl : ss.length ≤ 1000) (hs : ∀ s ∈ ss, 0 < s ∧ s ≤ 1000000000) :
    ∃ ds : List Int, F__law_draw [.list (ns.map .int), .int k, .list (ss.map .int)] = .ok (.list (ds.map .int)) ∧ Fits ds ss := by
  obtain ⟨c, hc⟩ := cell_ok (ns := ns) h0
  unfold F__law_draw G__law_draw
  -- the cell's size
  obtain ⟨c1, hc1⟩ : ∃ c1 : Int, ∀ x4 x5 x6 x7, seqS g__law_draw_0 (seqS g__law_draw_1 (seqS g__law_draw_2 (seqS g__law_draw_3 (seqS g__law_draw_4 (seqS g__law_draw_5 g__law_draw_6))))) [some (.fz (.list (ns.map .int))), some (.fz (.int k)), some (.fz (.list (ss.map .int))), none, x4, x5, x6, x7] =
      seqS g__law_draw_3 (seqS g__law_draw_4 (seqS g__law_draw_5 g__law_draw_6)) [some (.fz (.list (ns.map .int))), some (.fz (.int k)), some (.fz (.list (ss.map .int))), some (.fz (.int c1)), some (.ow []), x5, x6, x7] := by
    by_cases hn : c < 0
    · refine ⟨-c, fun x4 x5 x6 x7 => ?_⟩
      rw [seq_nx (ρ' := [some (.fz (.list (ns.map .int))), some (.fz (.int k)), some (.fz (.list (ss.map .int))), some (.fz (.int c)), x4, x5, x6, x7]) (by unfold g__law_draw_0; simp! [hc])]
      rw [seq_nx (ρ' := [some (.fz (.list (ns.map .int))), some (.fz (.int k)), some (.fz (.list (ss.map .int))), some (.fz (.int (-c))), x4, x5, x6, x7]) (by unfold g__law_draw_1; simp! [hn])]
      rw [seq_nx (by unfold g__law_draw_2; simp! []; rfl)]
    · refine ⟨c, fun x4 x5 x6 x7 => ?_⟩
      rw [seq_nx (ρ' := [some (.fz (.list (ns.map .int))), some (.fz (.int k)), some (.fz (.list (ss.map .int))), some (.fz (.int c)), x4, x5, x6, x7]) (by unfold g__law_draw_0; simp! [hc])]
      rw [seq_nx (ρ' := [some (.fz (.list (ns.map .int))), some (.fz (.int k)), some (.fz (.list (ss.map .int))), some (.fz (.int c)), x4, x5, x6, x7]) (by unfold g__law_draw_1; simp! [hn])]
      rw [seq_nx (by unfold g__law_draw_2; simp! []; rfl)]
  have hstart : startV 8 [PyData.list (ns.map .int), .int k, .list (ss.map .int)] = [some (.fz (.list (ns.map .int))), some (.fz (.int k)), some (.fz (.list (ss.map .int))), none, none, none, none, none] := rfl
  unfold bodyV
  rw [hstart, hc1]
  by_cases hb : (1000000000000000000 : Int) ≤ c1
  · -- the numbers one by one
    obtain ⟨ρ', h2, ds, q, x5, hf, rfl⟩ := fors (t := tgN 5) (g := g__law_draw_3a_1b) (fi := itR (var 2)) (ρ := [some (.fz (.list (ns.map .int))), some (.fz (.int k)), some (.fz (.list (ss.map .int))), some (.fz (.int (c1 - 1000000000000000000))), some (.ow []), none, none, none])
      (fun i ρ => ∃ (ds : List Int) (q : Int) (x5 : Option LV), Fits ds (ss.take i) ∧ ρ = [some (.fz (.list (ns.map .int))), some (.fz (.int k)), some (.fz (.list (ss.map .int))), some (.fz (.int q)), some (.ow (ds.map .int)), x5, none, none])
      (ds := ss.map .int) (by simp! []) ⟨[], _, _, trivial, rfl⟩ (by
        rintro i d ρ hi ⟨ds, q, x5, hf, rfl⟩
        rw [List.getElem?_map] at hi
        obtain ⟨s, hs1, rfl⟩ := Option.map_eq_some_iff.mp hi
        have hs2 := hs s (List.mem_of_getElem? hs1)
        have hlen := hf.len
        rw [List.length_take] at hlen
        refine ⟨_, rfl, ?_⟩
        unfold g__law_draw_3a_1b
        simp! [dMod_p hs2.1, dDiv_s hs2.1 (by omega : s ≤ 1000000000000), appR_ok (ds := ds.map .int) (by rw [List.length_map]; omega)]
        refine ⟨ds ++ [q % s], q / s, _, ?_, by rw [List.map_append]; rfl⟩
        rw [take_succ' hs1]
        exact hf.snoc (Int.emod_nonneg _ (by omega)) (Int.emod_lt_of_pos _ hs2.1))
    refine ⟨ds, ?_, by rw [List.length_map, List.take_length] at hf; exact hf⟩
    rw [seq_rt (d := .list (ds.map .int)) (by unfold g__law_draw_3; simp! [pow1018, hb, h2])]
  · obtain ⟨m, hm⟩ : ∃ m : Int, seqS g__law_draw_3 (seqS g__law_draw_4 (seqS g__law_draw_5 g__law_draw_6)) [some (.fz (.list (ns.map .int))), some (.fz (.int k)), some (.fz (.list (ss.map .int))), some (.fz (.int c1)), some (.ow []), none, none, none] =
        seqS g__law_draw_5 g__law_draw_6 [some (.fz (.list (ns.map .int))), some (.fz (.int k)), some (.fz (.list (ss.map .int))), some (.fz (.int c1)), some (.ow []), none, some (.fz (.int (m % 2147483647))), none] := by
      refine ⟨c1 + 1 + 31 * k, ?_⟩
      rw [seq_nx (by unfold g__law_draw_3; simp! [pow1018, hb]; rfl)]
      rw [seq_nx (by unfold g__law_draw_4; simp! [dMul_s (i := 31) (j := k) (by omega) (by omega) (by omega) (by omega), dMod_p (show (0 : Int) < 2147483647 by omega)]; rfl)]
    rw [hm]
    obtain ⟨ρ', h2, ds, q, x7, hf, rfl⟩ := fors (t := tgN 7) (g := g__law_draw_5b) (fi := rng1 (consA (un (var 2) dLen) nilA)) (ρ := [some (.fz (.list (ns.map .int))), some (.fz (.int k)), some (.fz (.list (ss.map .int))), some (.fz (.int c1)), some (.ow []), none, some (.fz (.int (m % 2147483647))), none])
      (fun i ρ => ∃ (ds : List Int) (q : Int) (x7 : Option LV), Fits ds (ss.take i) ∧ ρ = [some (.fz (.list (ns.map .int))), some (.fz (.int k)), some (.fz (.list (ss.map .int))), some (.fz (.int c1)), some (.ow (ds.map .int)), none, some (.fz (.int (q % 2147483647))), x7])
      (rng1_of ss.length (by simp! []) rfl (by omega)) ⟨[], _, _, trivial, rfl⟩ (by
        rintro i d ρ hi ⟨ds, q, x7, hf, rfl⟩
        obtain ⟨hi2, rfl⟩ := rngD_get' hi
        obtain ⟨s, hs1⟩ : ∃ s, ss[i]? = some s := ⟨_, List.getElem?_eq_getElem hi2⟩
        have hs2 := hs s (List.mem_of_getElem? hs1)
        have hlen := hf.len
        rw [List.length_take] at hlen
        have hx : dIx (.list (ss.map .int)) (.int (0 + (i : Nat))) = some (.int s) := dIx_l (n := i) (by omega) (by rw [List.getElem?_map, hs1]; rfl)
        have b1 := Int.emod_nonneg q (show (2147483647 : Int) ≠ 0 by omega)
        have b2 := Int.emod_lt_of_pos q (show (0 : Int) < 2147483647 by omega)
        have e1 := dMul_s (i := q % 2147483647) (j := 48271) (by omega) (by omega) (by omega) (by omega)
        have b3 := Int.emod_nonneg (q % 2147483647 * 48271 + 11 + (0 + (i : Nat))) (show (2147483647 : Int) ≠ 0 by omega)
        have b4 := Int.emod_lt_of_pos (q % 2147483647 * 48271 + 11 + (0 + (i : Nat))) (show (0 : Int) < 2147483647 by omega)
        have e2 := dMul_s (i := (q % 2147483647 * 48271 + 11 + (0 + (i : Nat))) % 2147483647) (j := 69621) (by omega) (by omega) (by omega) (by omega)
        refine ⟨_, rfl, ?_⟩
        unfold g__law_draw_5b
        simp! [hx, dMod_p hs2.1, dMod_p (show (0 : Int) < 2147483647 by omega), e1, e2, dDiv_s (show (0 : Int) < 7 by omega) (by omega), appR_ok (ds := ds.map .int) (by rw [List.length_map]; omega)]
        refine ⟨ds ++ [_], _, _, ?_, by rw [List.map_append]; rfl⟩
        rw [take_succ' hs1]
        exact hf.snoc (Int.emod_nonneg _ (by omega)) (Int.emod_lt_of_pos _ hs2.1))
    refine ⟨ds, ?_, by rw [rngD_len, List.take_length] at hf; exact hf⟩
    rw [seq_nx (by unfold g__law_draw_5; exact h2)]
    unfold g__law_draw_6
    simp! []

/-! ### gcd, ratio -/
theorem natMod (a b : Nat) : ((a : Int) % (b : Int)) = ((a % b : Nat) : Int) := (Int.natCast_emod a b).symm
theorem half_mod {b r : Nat} (h : 0 < r) (h2 : r < b) : 2 * (b % r) < b := by
  have h3 : b % r < r := Nat.mod_lt _ h
  have h4 : b % r ≤ b - r := by
    have e := Nat.mod_add_div b r
    have q : 1 ≤ b / r := Nat.div_pos (Nat.le_of_lt h2) h
    have := Nat.mul_le_mul (Nat.le_refl r) q
    omega
  omega
/-- Euclid's loop, whichever form: c the test, g the turn -/
theorem whl_gcd : ∀ (n a b fuel : Nat), b < 2 ^ n → 2 * n + 1 ≤ fuel → whlN (binB (var 1) (kI 0) dNe) g_gcd_of_0b fuel [some (.fz (.int a)), some (.fz (.int b))] = .nx [some (.fz (.int (Nat.gcd a b))), some (.fz (.int 0))] := by
  have zero : ∀ (a fuel : Nat), 1 ≤ fuel → whlN (binB (var 1) (kI 0) dNe) g_gcd_of_0b fuel [some (.fz (.int a)), some (.fz (.int 0))] = .nx [some (.fz (.int (Nat.gcd a 0))), some (.fz (.int 0))] := by
    intro a fuel hf
    obtain ⟨f, rfl⟩ : ∃ f, fuel = f + 1 := ⟨fuel - 1, by omega⟩
    unfold whlN
    simp! [dNe_i, Nat.gcd_zero_right]
  have one : ∀ (a b fuel : Nat), 0 < b → whlN (binB (var 1) (kI 0) dNe) g_gcd_of_0b (fuel + 1) [some (.fz (.int a)), some (.fz (.int b))] = whlN (binB (var 1) (kI 0) dNe) g_gcd_of_0b fuel [some (.fz (.int b)), some (.fz (.int ((a % b : Nat) : Int)))] := by
    intro a b fuel hb
    have hne : ¬ ((b : Int) = 0) := by omega
    rw [whlN]
    unfold g_gcd_of_0b
    simp! [dNe_i, hne, dMod_p (show (0 : Int) < (b : Int) by omega), natMod]
  intro n
  induction n with
  | zero =>
    intro a b fuel hb hf
    have : b = 0 := by simpa using hb
    subst this
    exact zero a fuel (by omega)
  | succ n ih =>
    intro a b fuel hb hf
    by_cases h0 : b = 0
    · subst h0; exact zero a fuel (by omega)
    · obtain ⟨f, rfl⟩ : ∃ f, fuel = f + 2 := ⟨fuel - 2, by omega⟩
      rw [one a b (f + 1) (by omega)]
      by_cases h1 : a % b = 0
      · rw [h1, show ((0 : Nat) : Int) = 0 from rfl, zero b (f + 1) (by omega), Nat.gcd_zero_right]
        have : Nat.gcd a b = b := by rw [Nat.gcd_comm, Nat.gcd_rec, h1]; simp
        rw [this]
      · have h2 : a % b < b := Nat.mod_lt _ (by omega)
        rw [one b (a % b) f (by omega)]
        have h3 := half_mod (by omega) h2
        rw [ih (a % b) (b % (a % b)) f (by rw [Nat.pow_succ] at hb; omega) (by omega)]
        have e1 : Nat.gcd (a % b) (b % (a % b)) = Nat.gcd a b := by
          rw [Nat.gcd_comm (a % b), ← Nat.gcd_rec, ← Nat.gcd_rec, Nat.gcd_comm]
        rw [e1]
theorem law_gcd_loop : ∀ (n a b : Nat) (ds : List D) (x : Option LV), b < 2 ^ n → 2 * n + 1 ≤ ds.length → forL (tgN 2) g__law_gcd_0b ds [some (.fz (.int a)), some (.fz (.int b)), x] = .rt (.int (Nat.gcd a b)) := by
  have zero : ∀ (a : Nat) (ds : List D) (x : Option LV), 1 ≤ ds.length → forL (tgN 2) g__law_gcd_0b ds [some (.fz (.int a)), some (.fz (.int 0)), x] = .rt (.int (Nat.gcd a 0)) := by
    intro a ds x hf
    cases ds with
    | nil => simp at hf
    | cons d ds =>
      unfold forL g__law_gcd_0b
      simp! [dEq_i, Nat.gcd_zero_right]
  have one : ∀ (a b : Nat) (d : D) (ds : List D) (x : Option LV), 0 < b → forL (tgN 2) g__law_gcd_0b (d :: ds) [some (.fz (.int a)), some (.fz (.int b)), x] = forL (tgN 2) g__law_gcd_0b ds [some (.fz (.int b)), some (.fz (.int ((a % b : Nat) : Int))), some (.fz d)] := by
    intro a b d ds x hb
    have hne : ¬ ((b : Int) = 0) := by omega
    rw [forL]
    have e : g__law_gcd_0b [some (.fz (.int a)), some (.fz (.int b)), some (.fz d)] = .nx [some (.fz (.int b)), some (.fz (.int ((a % b : Nat) : Int))), some (.fz d)] := by
      unfold g__law_gcd_0b
      simp! [dEq_i, hne, dMod_p (show (0 : Int) < (b : Int) by omega), natMod]
    simp! [e]
  intro n
  induction n with
  | zero =>
    intro a b ds x hb hf
    have : b = 0 := by simpa using hb
    subst this
    exact zero a ds x (by omega)
  | succ n ih =>
    intro a b ds x hb hf
    by_cases h0 : b = 0
    · subst h0; exact zero a ds x (by omega)
    · match ds, hf with
      | d1 :: d2 :: ds, hf =>
        simp only [List.length_cons] at hf
        rw [one a b d1 _ x (by omega)]
        by_cases h1 : a % b = 0
        · rw [h1, show ((0 : Nat) : Int) = 0 from rfl, zero b _ _ (by simp), Nat.gcd_zero_right]
          have : Nat.gcd a b = b := by rw [Nat.gcd_comm, Nat.gcd_rec, h1]; simp
          rw [this]
        · have h2 : a % b < b := Nat.mod_lt _ (by omega)
          rw [one b (a % b) d2 ds _ (by omega)]
          have h3 := half_mod (by omega) h2
          rw [ih (a % b) (b % (a % b)) ds _ (by rw [Nat.pow_succ] at hb; omega) (by omega)]
          have e1 : Nat.gcd (a % b) (b % (a % b)) = Nat.gcd a b := by
            rw [Nat.gcd_comm (a % b), ← Nat.gcd_rec, ← Nat.gcd_rec, Nat.gcd_comm]
          rw [e1]
def gcdI (a b : Int) : Int := (Nat.gcd a.toNat b.toNat : Nat)
theorem gcd_ok {a b : Int} (ha : 0 ≤ a) (hb : 0 ≤ b) (h : b < 2 ^ 90) : F_gcd_of [.int a, .int b] = .ok (.int (gcdI a b)) := by
  obtain ⟨a, rfl⟩ := Int.eq_ofNat_of_zero_le ha
  obtain ⟨b, rfl⟩ := Int.eq_ofNat_of_zero_le hb
  have h' : b < 2 ^ 90 := by
    have e : ((2 : Int) ^ 90) = ((2 ^ 90 : Nat) : Int) := by decide
    omega
  unfold F_gcd_of G_gcd_of bodyV
  have hs : startV 2 [PyData.int a, .int b] = [some (.fz (.int a)), some (.fz (.int b))] := rfl
  rw [hs, seq_nx (by unfold g_gcd_of_0; exact whl_gcd 90 a b 10000 h' (by omega))]
  unfold g_gcd_of_1
  simp! []
  rfl
theorem lgcd_ok {a b : Int} (ha : 0 ≤ a) (hb : 0 ≤ b) (h : b < 2 ^ 90) : F__law_gcd [.int a, .int b] = .ok (.int (gcdI a b)) := by
  obtain ⟨a, rfl⟩ := Int.eq_ofNat_of_zero_le ha
  obtain ⟨b, rfl⟩ := Int.eq_ofNat_of_zero_le hb
  have h' : b < 2 ^ 90 := by
    have e : ((2 : Int) ^ 90) = ((2 ^ 90 : Nat) : Int) := by decide
    omega
  unfold F__law_gcd G__law_gcd bodyV
  have hs : startV 3 [PyData.int a, .int b] = [some (.fz (.int a)), some (.fz (.int b)), none] := rfl
  have hr : rng1 (consA (kI 200) nilA) [some (.fz (.int a)), some (.fz (.int b)), none] = .ok (rngD 0 200) := rng1_of (j := 200) 200 (by simp! []) rfl (by decide)
  rw [hs, seq_rt (d := .int (gcdI a b)) (by unfold g__law_gcd_0 forS; rw [hr]; exact law_gcd_loop 90 a b _ none h' (by rw [rngD_len]; decide))]
theorem gcdI_pos {a b : Int} (hb : 0 < b) : 0 < gcdI a b := by
  unfold gcdI
  have := Nat.gcd_pos_of_pos_right a.toNat (show 0 < b.toNat by omega)
  omega
theorem gcdI_le {a b : Int} (hb : 0 < b) : gcdI a b ≤ b := by
  unfold gcdI
  have := Nat.gcd_le_right a.toNat (show 0 < b.toNat by omega)
  omega
/-- a share in its least terms -/
def rat (t b : Int) : D := .tuple [.int (t / gcdI t b), .int (b / gcdI t b)]
theorem ratio_ok {t b : Int} (ht : 0 ≤ t) (hb : 0 < b) (h : b ≤ 1000000000000) : F_ratio [.int t, .int b] = .ok (rat t b) := by
  have h1 := gcdI_pos (a := t) hb
  have h2 := gcdI_le (a := t) hb
  have e : ((2 : Int) ^ 90) = 1237940039285380274899124224 := by decide
  unfold F_ratio G_ratio g_ratio_0 g_ratio_1
  simp! [gcd_ok ht (Int.le_of_lt hb) (by omega), dDiv_s h1 (by omega)]
  rfl
theorem lratio_ok {t b : Int} (ht : 0 ≤ t) (hb : 0 < b) (h : b ≤ 1000000000000) : F__law_ratio [.int t, .int b] = .ok (rat t b) := by
  have h1 := gcdI_pos (a := t) hb
  have h2 := gcdI_le (a := t) hb
  have e : ((2 : Int) ^ 90) = 1237940039285380274899124224 := by decide
  unfold F__law_ratio G__law_ratio g__law_ratio_0 g__law_ratio_1
  simp! [lgcd_ok ht (Int.le_of_lt hb) (by omega), dDiv_s h1 (by omega)]
  rfl
theorem rat_zero {b : Int} (hb : 0 < b) : rat 0 b = .tuple [.int 0, .int 1] := by
  unfold rat
  have e : gcdI 0 b = b := by
    unfold gcdI
    simp
    omega
  rw [e, Int.zero_ediv, Int.ediv_self (by omega)]
theorem less_ok {a b c d : Int} (h1 : -1000000000000 ≤ a) (h2 : a ≤ 1000000000000) (h3 : -1000000000000 ≤ b) (h4 : b ≤ 1000000000000) (h5 : -1000000000000 ≤ c) (h6 : c ≤ 1000000000000) (h7 : -1000000000000 ≤ d) (h8 : d ≤ 1000000000000) :
   F_less [.tuple [.int a, .int b], .tuple [.int c, .int d]] = .ok (.bool (decide (a * d < c * b))) := by
  unfold F_less G_less g_less_0
  simp! [dMul_s h1 h2 h7 h8, dMul_s h5 h6 h3 h4]
/-- in least terms: the cross products tell the same -/
theorem gcdI_dvd_l {a b : Int} (ha : 0 ≤ a) : gcdI a b ∣ a := by
  unfold gcdI
  obtain ⟨k, hk⟩ := Nat.gcd_dvd_left a.toNat b.toNat
  exact ⟨(k : Int), by rw [← Int.natCast_mul, ← hk]; omega⟩
theorem gcdI_dvd_r {a b : Int} (hb : 0 ≤ b) : gcdI a b ∣ b := by
  unfold gcdI
  obtain ⟨k, hk⟩ := Nat.gcd_dvd_right a.toNat b.toNat
  exact ⟨(k : Int), by rw [← Int.natCast_mul, ← hk]; omega⟩

/-! ### the program's errors -/
def planE (w : Str) (i : Int) : Err := ⟨"PlanError", [("place", .int i), ("what", .str w)]⟩
theorem fmt2 {w : Str} {i : Int} (hw : w.length ≤ 1000) (h1 : -1000000000000 ≤ i) (h2 : i ≤ 1000000000000) : ([PyData.str w, PyData.int i].all fmtD) = true := by
  have h3 := (Wd.of h1 h2).log
  simp [fmtD]
  omega
theorem rai2 {fa : Rho → Res (List D)} {ρ : Rho} {w : Str} {i : Int} (e : fa ρ = .ok [.str w, .int i]) (hw : w.length ≤ 1000) (h1 : -1000000000000 ≤ i) (h2 : i ≤ 1000000000000) : raiS "PlanError" ["what", "place"] fa ρ = .ex (planE w i) ρ := by
  unfold raiS
  rw [e]
  simp only [Res.ok_out]
  rw [if_pos (fmt2 hw h1 h2)]
  rfl
theorem planC : (["PlanError"] : List Str).contains "PlanError" = true := by decide
theorem told_rt {g : Rho → Out} {h : List Hd3} {ρ : Rho} {d : D} (e : g ρ = .rt d) : tryS ["PlanError"] g h ρ = .rt d := by unfold tryS; rw [e]
theorem told_ex {g : Rho → Out} {s : Nat} {ρ ρ' : Rho} {w : Str} {i : Int} (e : g ρ = .ex (planE w i) ρ') (hs : s < ρ'.length) :
    tryS ["PlanError"] g [(["PlanError"], s, retS (tupV (consA (xfV "PlanError" "what" s) (consA (xfV "PlanError" "place" s) nilA))))] ρ = .rt (.tuple [.str w, .int i]) := by
  have hx : ((clrE ρ').set s (some (.er (planE w i))))[s]? = some (some (.er (planE w i))) := List.getElem?_set_self (by unfold clrE; rw [List.length_map]; exact hs)
  have h1 : xfV "PlanError" "what" s ((clrE ρ').set s (some (.er (planE w i)))) = .ok (.str w) := by
    unfold xfV
    rw [hx]
    rfl
  have h2 : xfV "PlanError" "place" s ((clrE ρ').set s (some (.er (planE w i)))) = .ok (.int i) := by
    unfold xfV
    rw [hx]
    rfl
  unfold tryS
  rw [e]
  show (if (["PlanError"] : List Str).contains "PlanError" = true then hdlS _ _ _ else _) = _
  rw [if_pos planC]
  show (if (["PlanError"] : List Str).contains "PlanError" = true then behS _ _ else _) = _
  rw [if_pos planC]
  simp! [h1, h2]
  rfl

/-! ### lists of rows -/
theorem first_of {α : Type} (p : α → Bool) : ∀ l : List α, ((∀ x ∈ l, p x = false) ∧ l.filter p = []) ∨ ∃ (m : Nat) (x : α) (r : List α), l[m]? = some x ∧ p x = true ∧ (∀ i y, i < m → l[i]? = some y → p y = false) ∧ l.filter p = x :: r
  | [] => .inl ⟨fun x h => by simp at h, rfl⟩
  | a :: l => by
    cases q : p a with
    | true => exact .inr ⟨0, a, l.filter p, rfl, q, fun i y h => absurd h (Nat.not_lt_zero _), by rw [List.filter_cons_of_pos q]⟩
    | false =>
      rcases first_of p l with ⟨h1, h2⟩ | ⟨m, x, r, h1, h2, h3, h4⟩
      · refine .inl ⟨fun x hx => ?_, by rw [List.filter_cons, q]; simpa using h2⟩
        rcases List.mem_cons.mp hx with rfl | hx
        · exact q
        · exact h1 x hx
      · refine .inr ⟨m + 1, x, r, by simpa using h1, h2, fun i y hi hy => ?_, by rw [List.filter_cons, q]; simpa using h4⟩
        cases i with
        | zero => simp at hy; rw [← hy]; exact q
        | succ i => exact h3 i y (by omega) (by simpa using hy)
theorem fits_cons : ∀ {ds ss : List Int} {s : Int}, Fits ds (s :: ss) → ∃ d ds', ds = d :: ds' ∧ 0 ≤ d ∧ d < s ∧ Fits ds' ss
  | d :: ds', _, _, h => ⟨d, ds', rfl, h.1, h.2.1, h.2.2⟩
theorem fits_nil : ∀ {ds : List Int}, Fits ds [] → ds = []
  | [], _ => rfl
theorem strict_ok {n : Nat} {d : D} (h : okD n d) : F__law_strictly (n + 1) [d, d] = .ok (.bool true) := strict_refl n d h
theorem okD_int (n : Nat) (i : Int) : okD n (.int i) := by cases n <;> trivial
theorem okD_non (n : Nat) : okD n .none := by cases n <;> trivial
theorem okD_bool (n : Nat) (b : Bool) : okD n (.bool b) := by cases n <;> trivial
theorem okD_str (n : Nat) {x : Str} (h : PyData.strOk x = true) : okD n (.str x) := by cases n <;> exact h
theorem okD_list {n : Nat} {ds : List D} (hl : ds.length < 1000000) (h : ∀ e ∈ ds, okD n e) : okD (n + 1) (.list ds) := ⟨hl, h⟩
theorem okD_tuple {n : Nat} {ds : List D} (hl : ds.length < 1000000) (h : ∀ e ∈ ds, okD n e) : okD (n + 1) (.tuple ds) := ⟨hl, h⟩
theorem okD_pair {n : Nat} {a b : D} (ha : okD n a) (hb : okD n b) : okD (n + 1) (.tuple [a, b]) := okD_tuple (by simp) fun e he => by
  rcases List.mem_cons.mp he with rfl | he
  · exact ha
  · have : e = b := by simpa using he
    rw [this]; exact hb
theorem st_nx {g k : Rho → Out} {ρ ρ' : Rho} {X : Res D} (e : g ρ = .nx ρ') (h : outR (k ρ') = X) : outR (seqS g k ρ) = X := by rw [seq_nx e]; exact h
theorem st_rt {g k : Rho → Out} {ρ : Rho} {d : D} (e : g ρ = .rt d) : outR (seqS g k ρ) = .ok d := by rw [seq_rt e]; rfl
theorem st_for {g0 k : Rho → Out} {t : D → Rho → Option Rho} {g : Rho → Out} {fi : Rho → Res (List D)} {ρ : Rho} {X : Res D} {ds : List D} (P : Nat → Rho → Prop) (hg : g0 = forS fi t g) (hi : fi ρ = .ok ds) (h0 : P 0 ρ)
    (hs : ∀ i d ρ, ds[i]? = some d → P i ρ → ∃ ρ1, t d ρ = some ρ1 ∧ OutQ (g ρ1) (P (i + 1))) (h : ∀ ρ', P ds.length ρ' → outR (k ρ') = X) : outR (seqS g0 k ρ) = X := by
  obtain ⟨ρ', h1, h2⟩ := fors P hi h0 hs
  rw [seq_nx (by rw [hg]; exact h1)]
  exact h ρ' h2
/-- an error's word and place, compared -/
theorem sh_told {w : Str} {i : Int} (h : PyData.strOk w = true) : SeqAt.shaped (.tuple [.str w, .int i]) = true := by simp [SeqAt.shaped, PyData.canLay0, PyData.canLayAll0, PyData.depth, PyData.depthAll, h]
theorem dNe_told {w : Str} {i : Int} (h : PyData.strOk w = true) : dNe (.tuple [.str w, .int i]) (.tuple [.str w, .int i]) = some false := by
  unfold dNe
  rw [if_pos ⟨sh_told h, sh_told h⟩]
  simp [PyData.eqv, PyData.eqvAll]
theorem dEq_told {w : Str} {i : Int} (h : PyData.strOk w = true) : dEq (.tuple [.str w, .int i]) (.tuple [.str w, .int i]) = some true := by
  unfold dEq
  rw [if_pos ⟨sh_told h, sh_told h⟩]
  simp [PyData.eqv, PyData.eqvAll]
end VL

set_option Elab.async false
set_option linter.all false
set_option maxRecDepth 100000
set_option maxHeartbeats 8000000
namespace K47
open PySem PySem.Spec PyProof.Rows L2 VL
def topS (i : Nat) : Stmt := PySem.Challenge.pw_canalworks_k47_gauges_of_boats.main.body.getD i (.Pass ⟨0, 0, 0, 0⟩)
abbrev s_is_number : Stmt := topS 7
abbrev s_gcd_of : Stmt := topS 9
abbrev s_ratio : Stmt := topS 10
abbrev s_less : Stmt := topS 11
abbrev s_make_gauge : Stmt := topS 13
abbrev s__check_depth : Stmt := topS 14
abbrev s_tons_at : Stmt := topS 15
abbrev s_depth_for : Stmt := topS 16
abbrev s_whole_tons : Stmt := topS 17
abbrev s_cargo_moved : Stmt := topS 18
abbrev s_merged_gauge : Stmt := topS 19
abbrev s_needless_rows : Stmt := topS 20
abbrev s__law_strictly : Stmt := topS 22
abbrev s__law_cell : Stmt := topS 23
abbrev s__law_draw : Stmt := topS 24
abbrev s__law_gcd : Stmt := topS 25
abbrev s__law_ratio : Stmt := topS 26
abbrev s__law_tons : Stmt := topS 27
abbrev s__law_told : Stmt := topS 28
abbrev s_law : Stmt := topS 29
abbrev s_PlanError : Stmt := topS 2
structure Txt (P : Program) (K : PySem.W.Frag) (mg : Str → Option Value) (A : Nat → Addr) (Dt : Nat → FuncData) (Er : Nat → Addr) : Prop where
  fn_is_number : Fun K "is_number" "is_number" s_is_number (A 0) (Dt 0)
  b_is_number : Binds K (Dt 0) ["thing", "low", "high"] []
  m_is_number : mg "is_number" = some (.ref (A 0))
  k_is_number : PySem.W.keepIn K (.ref (A 0)) = true
  fn_gcd_of : Fun K "gcd_of" "gcd_of" s_gcd_of (A 1) (Dt 1)
  b_gcd_of : Binds K (Dt 1) ["left", "right"] []
  m_gcd_of : mg "gcd_of" = some (.ref (A 1))
  k_gcd_of : PySem.W.keepIn K (.ref (A 1)) = true
  fn_ratio : Fun K "ratio" "ratio" s_ratio (A 2) (Dt 2)
  b_ratio : Binds K (Dt 2) ["top", "bottom"] []
  m_ratio : mg "ratio" = some (.ref (A 2))
  k_ratio : PySem.W.keepIn K (.ref (A 2)) = true
  fn_less : Fun K "less" "less" s_less (A 3) (Dt 3)
  b_less : Binds K (Dt 3) ["left", "right"] []
  m_less : mg "less" = some (.ref (A 3))
  k_less : PySem.W.keepIn K (.ref (A 3)) = true
  fn_make_gauge : Fun K "make_gauge" "make_gauge" s_make_gauge (A 4) (Dt 4)
  b_make_gauge : Binds K (Dt 4) ["rows"] []
  m_make_gauge : mg "make_gauge" = some (.ref (A 4))
  k_make_gauge : PySem.W.keepIn K (.ref (A 4)) = true
  fn__check_depth : Fun K "_check_depth" "_check_depth" s__check_depth (A 5) (Dt 5)
  b__check_depth : Binds K (Dt 5) ["gauge", "depth"] []
  m__check_depth : mg "_check_depth" = some (.ref (A 5))
  k__check_depth : PySem.W.keepIn K (.ref (A 5)) = true
  fn_tons_at : Fun K "tons_at" "tons_at" s_tons_at (A 6) (Dt 6)
  b_tons_at : Binds K (Dt 6) ["gauge", "depth"] []
  m_tons_at : mg "tons_at" = some (.ref (A 6))
  k_tons_at : PySem.W.keepIn K (.ref (A 6)) = true
  fn_depth_for : Fun K "depth_for" "depth_for" s_depth_for (A 7) (Dt 7)
  b_depth_for : Binds K (Dt 7) ["gauge", "tons"] []
  m_depth_for : mg "depth_for" = some (.ref (A 7))
  k_depth_for : PySem.W.keepIn K (.ref (A 7)) = true
  fn_whole_tons : Fun K "whole_tons" "whole_tons" s_whole_tons (A 8) (Dt 8)
  b_whole_tons : Binds K (Dt 8) ["gauge", "depth"] []
  m_whole_tons : mg "whole_tons" = some (.ref (A 8))
  k_whole_tons : PySem.W.keepIn K (.ref (A 8)) = true
  fn_cargo_moved : Fun K "cargo_moved" "cargo_moved" s_cargo_moved (A 9) (Dt 9)
  b_cargo_moved : Binds K (Dt 9) ["gauge", "before", "behind"] []
  m_cargo_moved : mg "cargo_moved" = some (.ref (A 9))
  k_cargo_moved : PySem.W.keepIn K (.ref (A 9)) = true
  fn_merged_gauge : Fun K "merged_gauge" "merged_gauge" s_merged_gauge (A 10) (Dt 10)
  b_merged_gauge : Binds K (Dt 10) ["one", "other"] []
  m_merged_gauge : mg "merged_gauge" = some (.ref (A 10))
  k_merged_gauge : PySem.W.keepIn K (.ref (A 10)) = true
  fn_needless_rows : Fun K "needless_rows" "needless_rows" s_needless_rows (A 11) (Dt 11)
  b_needless_rows : Binds K (Dt 11) ["gauge"] []
  m_needless_rows : mg "needless_rows" = some (.ref (A 11))
  k_needless_rows : PySem.W.keepIn K (.ref (A 11)) = true
  fn__law_strictly : Fun K "_law_strictly" "_law_strictly" s__law_strictly (A 12) (Dt 12)
  b__law_strictly : Binds K (Dt 12) ["expected", "actual"] []
  m__law_strictly : mg "_law_strictly" = some (.ref (A 12))
  k__law_strictly : PySem.W.keepIn K (.ref (A 12)) = true
  fn__law_cell : Fun K "_law_cell" "_law_cell" s__law_cell (A 13) (Dt 13)
  b__law_cell : Binds K (Dt 13) ["script", "k"] []
  m__law_cell : mg "_law_cell" = some (.ref (A 13))
  k__law_cell : PySem.W.keepIn K (.ref (A 13)) = true
  fn__law_draw : Fun K "_law_draw" "_law_draw" s__law_draw (A 14) (Dt 14)
  b__law_draw : Binds K (Dt 14) ["script", "k", "sizes"] []
  m__law_draw : mg "_law_draw" = some (.ref (A 14))
  k__law_draw : PySem.W.keepIn K (.ref (A 14)) = true
  fn__law_gcd : Fun K "_law_gcd" "_law_gcd" s__law_gcd (A 15) (Dt 15)
  b__law_gcd : Binds K (Dt 15) ["left", "right"] []
  m__law_gcd : mg "_law_gcd" = some (.ref (A 15))
  k__law_gcd : PySem.W.keepIn K (.ref (A 15)) = true
  fn__law_ratio : Fun K "_law_ratio" "_law_ratio" s__law_ratio (A 16) (Dt 16)
  b__law_ratio : Binds K (Dt 16) ["top", "bottom"] []
  m__law_ratio : mg "_law_ratio" = some (.ref (A 16))
  k__law_ratio : PySem.W.keepIn K (.ref (A 16)) = true
  fn__law_tons : Fun K "_law_tons" "_law_tons" s__law_tons (A 17) (Dt 17)
  b__law_tons : Binds K (Dt 17) ["rows", "depth"] []
  m__law_tons : mg "_law_tons" = some (.ref (A 17))
  k__law_tons : PySem.W.keepIn K (.ref (A 17)) = true
  fn__law_told : Fun K "_law_told" "_law_told" s__law_told (A 18) (Dt 18)
  b__law_told : Binds K (Dt 18) ["which", "rows", "depth"] []
  m__law_told : mg "_law_told" = some (.ref (A 18))
  k__law_told : PySem.W.keepIn K (.ref (A 18)) = true
  fn_law : Fun K "law" "law" s_law (A 19) (Dt 19)
  b_law : Binds K (Dt 19) ["script"] []
  m_law : mg "law" = some (.ref (A 19))
  k_law : PySem.W.keepIn K (.ref (A 19)) = true
  n_abs : mg "abs" = none
  n_bool : mg "bool" = none
  n_int : mg "int" = none
  n_isinstance : mg "isinstance" = none
  n_len : mg "len" = none
  n_list : mg "list" = none
  n_range : mg "range" = none
  n_sorted : mg "sorted" = none
  n_str : mg "str" = none
  n_super : mg "super" = none
  n_tuple : mg "tuple" = none
  c_PRICE : ∃ t, mg "PRICE" = some (.int 100000 t)
  c_ROWS : ∃ t, mg "ROWS" = some (.int 60 t)
  c_SIZE : ∃ t, mg "SIZE" = some (.int 99 t)
  e_PlanError : ErrTxt P K (Er 0) (Er 1) ["what", "place"]
  m_PlanError : mg "PlanError" = some (.ref (Er 0))
  xf_PlanError : XfC K (Er 0)
  nf_PlanError_what : PySem.W.findIn K (.ref (Er 0)) "what" = some none
  nf_PlanError_place : PySem.W.findIn K (.ref (Er 0)) "place" = some none
  ex_PlanError : ∀ nm C, (["PlanError"] : List Str).contains nm = true → mg nm = some (.ref C) → PySem.W.exmOne K (.ref C) (.ref (Er 0)) = some ((["PlanError"] : List Str).contains nm)
noncomputable section
variable {P : Program} {w : World} {K : PySem.W.Frag} {mg : Str → Option Value} {base : Heap} {A : Nat → Addr} {Dt : Nat → FuncData} {Er : Nat → Addr}
/-! ### is_number -/
abbrev N_is_number : List Str := ["thing", "low", "high"]
theorem sc_is_number : FnScope N_is_number ["thing", "low", "high"] (defScope s_is_number) := ⟨rfl, rfl, rfl, by decide +kernel, rfl, by decide +kernel, by decide +kernel⟩
theorem ok_is_number (T : Txt P K mg A Dt Er) : FnOk P w K mg base (L2.CX P w) 2 (A 0) (Dt 0) ["thing", "low", "high"] (spV K mg F_is_number 3) :=
  fn_val T.fn_is_number sc_is_number (fun cdv A1 outer s H E B hr tk => by
    exact (ps_one (ps_ret (pv_and (pv_isi kit_int T.n_isinstance T.n_int bt_int (PVE.rd (pv_var 0))) (pv_and (pv_not (pv_isi kit_bool T.n_isinstance T.n_bool bt_bool (PVE.rd (pv_var 0)))) (pv_and (pv_cmp op_le ob_le (PVE.rd (pv_var 1)) (PVE.rd (pv_var 0)) (by rfl)) (pv_one (pv_cmp op_le ob_le (PVE.rd (pv_var 0)) (PVE.rd (pv_var 2)) (by rfl)))))))))
/-! ### gcd_of -/
abbrev N_gcd_of : List Str := ["left", "right"]
theorem sc_gcd_of : FnScope N_gcd_of ["left", "right"] (defScope s_gcd_of) := ⟨rfl, rfl, rfl, by decide +kernel, rfl, by decide +kernel, by decide +kernel⟩
theorem ok_gcd_of (T : Txt P K mg A Dt Er) : FnOk P w K mg base (L2.CX P w) 2 (A 1) (Dt 1) ["left", "right"] (spV K mg F_gcd_of 2) :=
  fn_val T.fn_gcd_of sc_gcd_of (fun cdv A1 outer s H E B hr tk => by
    exact (ps_cons (ps_whl 10000 (passes_of rfl) (pt_cmp (op_neD hr.units) ob_ne (PVE.rd (pv_var 1)) (PVE.rd pv_int) (by rfl)) (ps_one (ps_par 0 1 rfl (sc_gcd_of).nd (pa_cons (pv_var 1) (pa_cons (pv_bin op_mod ov_mod (PVE.rd (pv_var 0)) (PVE.rd (pv_var 1))) pa_nil))))) (ps_one (ps_ret (pv_var 0)))))
/-! ### ratio -/
abbrev N_ratio : List Str := ["top", "bottom", "common"]
theorem sc_ratio : FnScope N_ratio ["top", "bottom"] (defScope s_ratio) := ⟨rfl, rfl, rfl, by decide +kernel, rfl, by decide +kernel, by decide +kernel⟩
theorem ok_ratio (T : Txt P K mg A Dt Er) : FnOk P w K mg base (L2.CX P w) 3 (A 2) (Dt 2) ["top", "bottom"] (spV K mg F_ratio 2) :=
  fn_val T.fn_ratio sc_ratio (fun cdv A1 outer s H E B hr tk => by
    exact (ps_cons (ps_asg 2 (pv_call ((ok_gcd_of T).mono (by decide)) hr T.m_gcd_of T.k_gcd_of T.b_gcd_of tk (pa_cons (pv_var 0) (pa_cons (pv_var 1) pa_nil))) (sc_ratio).nd) (ps_one (ps_ret (pv_tup (pa_cons (pv_bin op_fdivW ov_div (PVE.rd (pv_var 0)) (PVE.rd (pv_var 2))) (pa_cons (pv_bin op_fdivW ov_div (PVE.rd (pv_var 1)) (PVE.rd (pv_var 2))) pa_nil)))))))
/-! ### less -/
abbrev N_less : List Str := ["left", "right"]
theorem sc_less : FnScope N_less ["left", "right"] (defScope s_less) := ⟨rfl, rfl, rfl, by decide +kernel, rfl, by decide +kernel, by decide +kernel⟩
theorem ok_less (T : Txt P K mg A Dt Er) : FnOk P w K mg base (L2.CX P w) 2 (A 3) (Dt 3) ["left", "right"] (spV K mg F_less 2) :=
  fn_val T.fn_less sc_less (fun cdv A1 outer s H E B hr tk => by
    exact (ps_one (ps_ret (pv_cmp op_ltA ob_lt (PVE.rd (pv_bin op_mulW ov_mul (PVE.rd (pv_ix (PVE.rd (pv_var 0)) (PVE.rd pv_int))) (PVE.rd (pv_ix (PVE.rd (pv_var 1)) (PVE.rd pv_int))))) (PVE.rd (pv_bin op_mulW ov_mul (PVE.rd (pv_ix (PVE.rd (pv_var 1)) (PVE.rd pv_int))) (PVE.rd (pv_ix (PVE.rd (pv_var 0)) (PVE.rd pv_int))))) (by rfl)))))
/-! ### make_gauge -/
abbrev N_make_gauge : List Str := ["rows", "at", "depth", "tons", "row"]
theorem sc_make_gauge : FnScope N_make_gauge ["rows"] (defScope s_make_gauge) := ⟨rfl, rfl, rfl, by decide +kernel, rfl, by decide +kernel, by decide +kernel⟩
def g_make_gauge_0 : Rho → Out := (ifS (orT (binB (un (var 0) dLen) (kI 2) dLt) (binB (un (var 0) dLen) (kI 60) dGt)) (raiS "PlanError" ["what", "place"] (consA (kS "number of rows") (consA (kI 0) nilA))) nxS)
def g_make_gauge_1b : Rho → Out := (seqS (asgG (tgT 2 (tgCons (tgN 2) (tgCons (tgN 3) tgNil))) (bin (var 0) (var 1) dIx)) (seqS (ifS (orT (notT (isB (callV F_is_number (consA (var 2) (consA (kI 1) (consA (kI 99) nilA)))))) (notT (isB (callV F_is_number (consA (var 3) (consA (kI 0) (consA (kI 100000) nilA))))))) (raiS "PlanError" ["what", "place"] (consA (kS "numbers") (consA (var 1) nilA))) nxS) (ifS (orT (andT (binB (var 1) (kI 0) dEq) (binB (var 3) (kI 0) dNe)) (andT (binB (var 1) (kI 0) dGt) (orT (binB (var 2) (bin (bin (var 0) (bin (var 1) (kI 1) dSub) dIx) (kI 0) dIx) dLe) (binB (var 3) (bin (bin (var 0) (bin (var 1) (kI 1) dSub) dIx) (kI 1) dIx) dLe)))) (raiS "PlanError" ["what", "place"] (consA (kS "order") (consA (var 1) nilA))) nxS)))
def g_make_gauge_1 : Rho → Out := (forS (rng1 (consA (un (var 0) dLen) nilA)) (tgN 1) g_make_gauge_1b)
def g_make_gauge_2 : Rho → Out := (retS (un (vO (lcV (itR (var 0)) (tgN 4) tT (un (var 4) dTup) [4])) dTup))
def G_make_gauge : Rho → Out := (seqS g_make_gauge_0 (seqS g_make_gauge_1 g_make_gauge_2))
def F_make_gauge : List D → Res D := bodyV 5 G_make_gauge
theorem ok_make_gauge (T : Txt P K mg A Dt Er) : FnOk P w K mg base (L2.CX P w) 3 (A 4) (Dt 4) ["rows"] (spV K mg F_make_gauge 1) :=
  fn_val T.fn_make_gauge sc_make_gauge (fun cdv A1 outer s H E B hr tk => by
    exact (ps_cons (ps_if (PVW.t (pw_or (pt_cmp op_ltA ob_lt (PVE.rd (pv_b1 call_lenA cv_len T.n_len bt_len (PVE.rd (pv_var 0)))) (PVE.rd pv_int) (by rfl)) (pw_or1 (pt_cmp op_gt ob_gt (PVE.rd (pv_b1 call_lenA cv_len T.n_len bt_len (PVE.rd (pv_var 0)))) (PVE.rd (pv_gint T.c_ROWS.choose_spec)) (by rfl))))) (ps_one (ps_rai rfl T.e_PlanError T.m_PlanError T.n_super hr tk (pa_cons pv_str (pa_cons pv_int pa_nil)))) ps_nil) (ps_cons (ps_for (passes_of rfl) rfl (pi_rng1 T.n_range (pa_cons (pv_b1 call_lenA cv_len T.n_len bt_len (PVE.rd (pv_var 0))) pa_nil)) (pg_name 1 (sc_make_gauge).nd) (ps_cons (ps_asgG (pv_ix (PVE.rd (pv_var 0)) (PVE.rd (pv_var 1))) (pg_tup 2 rfl (pgs_cons (pg_name 2 (sc_make_gauge).nd) (pgs_cons (pg_name 3 (sc_make_gauge).nd) pgs_nil)))) (ps_cons (ps_if (PVW.t (pw_or (pt_not (pt_val (pv_call ((ok_is_number T).mono (by decide)) hr T.m_is_number T.k_is_number T.b_is_number tk (pa_cons (pv_var 2) (pa_cons pv_int (pa_cons (pv_gint T.c_SIZE.choose_spec) pa_nil)))))) (pw_or1 (pt_not (pt_val (pv_call ((ok_is_number T).mono (by decide)) hr T.m_is_number T.k_is_number T.b_is_number tk (pa_cons (pv_var 3) (pa_cons pv_int (pa_cons (pv_gint T.c_PRICE.choose_spec) pa_nil))))))))) (ps_one (ps_rai rfl T.e_PlanError T.m_PlanError T.n_super hr tk (pa_cons pv_str (pa_cons (pv_var 1) pa_nil)))) ps_nil) (ps_one (ps_if (PVW.t (pw_or (PVW.t (pw_and (pt_cmp (op_eqD hr.units) ob_eq (PVE.rd (pv_var 1)) (PVE.rd pv_int) (by rfl)) (pw_and1 (pt_cmp (op_neD hr.units) ob_ne (PVE.rd (pv_var 3)) (PVE.rd pv_int) (by rfl))))) (pw_or1 (PVW.t (pw_and (pt_cmp op_gt ob_gt (PVE.rd (pv_var 1)) (PVE.rd pv_int) (by rfl)) (pw_and1 (PVW.t (pw_or (pt_cmp op_le ob_le (PVE.rd (pv_var 2)) (PVE.rd (pv_ix (PVE.rd (pv_ix (PVE.rd (pv_var 0)) (PVE.rd (pv_bin op_sub ov_sub (PVE.rd (pv_var 1)) (PVE.rd pv_int))))) (PVE.rd pv_int))) (by rfl)) (pw_or1 (pt_cmp op_le ob_le (PVE.rd (pv_var 3)) (PVE.rd (pv_ix (PVE.rd (pv_ix (PVE.rd (pv_var 0)) (PVE.rd (pv_bin op_sub ov_sub (PVE.rd (pv_var 1)) (PVE.rd pv_int))))) (PVE.rd pv_int))) (by rfl))))))))))) (ps_one (ps_rai rfl T.e_PlanError T.m_PlanError T.n_super hr tk (pa_cons pv_str (pa_cons (pv_var 1) pa_nil)))) ps_nil))))) (ps_one (ps_ret (pv_t1 call_tuple_of cv_tup T.n_tuple bt_tuple (PVE.rd (PVO.v (po_lc [("row", 4)] rfl (sc_make_gauge).nd (pi_any (pv_var 0)) (blkOk_by (N := N_make_gauge) (sc := defScope s_make_gauge) (by decide +kernel)) (fun s H C cl fp => (pg_name 4 (sc_make_gauge).nd)) (fun s H C cl fp => pts_nil) (fun s H C cl fp => (pv_t1 call_tuple_of cv_tup T.n_tuple bt_tuple (PVE.rd (pv_var 4)))))))))))))
/-! ### _check_depth -/
abbrev N__check_depth : List Str := ["gauge", "depth"]
theorem sc__check_depth : FnScope N__check_depth ["gauge", "depth"] (defScope s__check_depth) := ⟨rfl, rfl, rfl, by decide +kernel, rfl, by decide +kernel, by decide +kernel⟩
def g__check_depth_0 : Rho → Out := (ifS (notT (isB (callV F_is_number (consA (var 1) (consA (bin (bin (var 0) (kI 0) dIx) (kI 0) dIx) (consA (bin (bin (var 0) (un (kI 1) dNeg) dIx) (kI 0) dIx) nilA)))))) (raiS "PlanError" ["what", "place"] (consA (kS "depth") (consA (kI 0) nilA))) nxS)
def G__check_depth : Rho → Out := g__check_depth_0
def F__check_depth : List D → Res D := bodyV 2 G__check_depth
theorem ok__check_depth (T : Txt P K mg A Dt Er) : FnOk P w K mg base (L2.CX P w) 3 (A 5) (Dt 5) ["gauge", "depth"] (spV K mg F__check_depth 2) :=
  fn_val T.fn__check_depth sc__check_depth (fun cdv A1 outer s H E B hr tk => by
    exact (ps_one (ps_if (pt_not (pt_val (pv_call ((ok_is_number T).mono (by decide)) hr T.m_is_number T.k_is_number T.b_is_number tk (pa_cons (pv_var 1) (pa_cons (pv_ix (PVE.rd (pv_ix (PVE.rd (pv_var 0)) (PVE.rd pv_int))) (PVE.rd pv_int)) (pa_cons (pv_ix (PVE.rd (pv_ix (PVE.rd (pv_var 0)) (PVE.rd (pv_neg (PVE.rd pv_int))))) (PVE.rd pv_int)) pa_nil)))))) (ps_one (ps_rai rfl T.e_PlanError T.m_PlanError T.n_super hr tk (pa_cons pv_str (pa_cons pv_int pa_nil)))) ps_nil)))
/-! ### tons_at -/
abbrev N_tons_at : List Str := ["gauge", "depth", "at", "low", "high", "part"]
theorem sc_tons_at : FnScope N_tons_at ["gauge", "depth"] (defScope s_tons_at) := ⟨rfl, rfl, rfl, by decide +kernel, rfl, by decide +kernel, by decide +kernel⟩
def g_tons_at_0 : Rho → Out := (expS (callV F__check_depth (consA (var 0) (consA (var 1) nilA))))
def g_tons_at_1b : Rho → Out := (seqS (parS 3 4 (consA (bin (var 0) (bin (var 2) (kI 1) dSub) dIx) (consA (bin (var 0) (var 2) dIx) nilA))) (ifS (binB (var 1) (bin (var 4) (kI 0) dIx) dLe) (seqS (asgS 5 (bin (bin (var 1) (bin (var 3) (kI 0) dIx) dSub) (bin (bin (var 4) (kI 1) dIx) (bin (var 3) (kI 1) dIx) dSub) dMul)) (retS (callV F_ratio (consA (bin (bin (bin (var 3) (kI 1) dIx) (bin (bin (var 4) (kI 0) dIx) (bin (var 3) (kI 0) dIx) dSub) dMul) (var 5) dAdd) (consA (bin (bin (var 4) (kI 0) dIx) (bin (var 3) (kI 0) dIx) dSub) nilA))))) nxS))
def g_tons_at_1 : Rho → Out := (forS (rng2 (consA (kI 1) (consA (un (var 0) dLen) nilA))) (tgN 2) g_tons_at_1b)
def g_tons_at_2 : Rho → Out := (retS (callV F_ratio (consA (bin (bin (var 0) (un (kI 1) dNeg) dIx) (kI 1) dIx) (consA (kI 1) nilA))))
def G_tons_at : Rho → Out := (seqS g_tons_at_0 (seqS g_tons_at_1 g_tons_at_2))
def F_tons_at : List D → Res D := bodyV 6 G_tons_at
theorem ok_tons_at (T : Txt P K mg A Dt Er) : FnOk P w K mg base (L2.CX P w) 4 (A 6) (Dt 6) ["gauge", "depth"] (spV K mg F_tons_at 2) :=
  fn_val T.fn_tons_at sc_tons_at (fun cdv A1 outer s H E B hr tk => by
    exact (ps_cons (ps_expr (pv_call ((ok__check_depth T).mono (by decide)) hr T.m__check_depth T.k__check_depth T.b__check_depth tk (pa_cons (pv_var 0) (pa_cons (pv_var 1) pa_nil)))) (ps_cons (ps_for (passes_of rfl) rfl (pi_rng2 T.n_range (pa_cons pv_int (pa_cons (pv_b1 call_lenA cv_len T.n_len bt_len (PVE.rd (pv_var 0))) pa_nil))) (pg_name 2 (sc_tons_at).nd) (ps_cons (ps_par 3 4 rfl (sc_tons_at).nd (pa_cons (pv_ix (PVE.rd (pv_var 0)) (PVE.rd (pv_bin op_sub ov_sub (PVE.rd (pv_var 2)) (PVE.rd pv_int)))) (pa_cons (pv_ix (PVE.rd (pv_var 0)) (PVE.rd (pv_var 2))) pa_nil))) (ps_one (ps_if (pt_cmp op_le ob_le (PVE.rd (pv_var 1)) (PVE.rd (pv_ix (PVE.rd (pv_var 4)) (PVE.rd pv_int))) (by rfl)) (ps_cons (ps_asg 5 (pv_bin op_mulW ov_mul (PVE.rd (pv_bin op_sub ov_sub (PVE.rd (pv_var 1)) (PVE.rd (pv_ix (PVE.rd (pv_var 3)) (PVE.rd pv_int))))) (PVE.rd (pv_bin op_sub ov_sub (PVE.rd (pv_ix (PVE.rd (pv_var 4)) (PVE.rd pv_int))) (PVE.rd (pv_ix (PVE.rd (pv_var 3)) (PVE.rd pv_int)))))) (sc_tons_at).nd) (ps_one (ps_ret (pv_call ((ok_ratio T).mono (by decide)) hr T.m_ratio T.k_ratio T.b_ratio tk (pa_cons (pv_bin op_addA ov_add (PVE.rd (pv_bin op_mulW ov_mul (PVE.rd (pv_ix (PVE.rd (pv_var 3)) (PVE.rd pv_int))) (PVE.rd (pv_bin op_sub ov_sub (PVE.rd (pv_ix (PVE.rd (pv_var 4)) (PVE.rd pv_int))) (PVE.rd (pv_ix (PVE.rd (pv_var 3)) (PVE.rd pv_int))))))) (PVE.rd (pv_var 5))) (pa_cons (pv_bin op_sub ov_sub (PVE.rd (pv_ix (PVE.rd (pv_var 4)) (PVE.rd pv_int))) (PVE.rd (pv_ix (PVE.rd (pv_var 3)) (PVE.rd pv_int)))) pa_nil)))))) ps_nil)))) (ps_one (ps_ret (pv_call ((ok_ratio T).mono (by decide)) hr T.m_ratio T.k_ratio T.b_ratio tk (pa_cons (pv_ix (PVE.rd (pv_ix (PVE.rd (pv_var 0)) (PVE.rd (pv_neg (PVE.rd pv_int))))) (PVE.rd pv_int)) (pa_cons pv_int pa_nil))))))))
/-! ### depth_for -/
abbrev N_depth_for : List Str := ["gauge", "tons", "depth"]
theorem sc_depth_for : FnScope N_depth_for ["gauge", "tons"] (defScope s_depth_for) := ⟨rfl, rfl, rfl, by decide +kernel, rfl, by decide +kernel, by decide +kernel⟩
def g_depth_for_0 : Rho → Out := (ifS (notT (isB (callV F_is_number (consA (var 1) (consA (kI 0) (consA (kI 100000) nilA)))))) (raiS "PlanError" ["what", "place"] (consA (kS "tons") (consA (kI 0) nilA))) nxS)
def g_depth_for_1b : Rho → Out := (ifS (notT (isB (callV F_less (consA (callV F_tons_at (consA (var 0) (consA (var 2) nilA))) (consA (tupV (consA (var 1) (consA (kI 1) nilA))) nilA))))) (retS (var 2)) nxS)
def g_depth_for_1 : Rho → Out := (forS (rng2 (consA (bin (bin (var 0) (kI 0) dIx) (kI 0) dIx) (consA (bin (bin (bin (var 0) (un (kI 1) dNeg) dIx) (kI 0) dIx) (kI 1) dAdd) nilA))) (tgN 2) g_depth_for_1b)
def g_depth_for_2 : Rho → Out := (retS kN)
def G_depth_for : Rho → Out := (seqS g_depth_for_0 (seqS g_depth_for_1 g_depth_for_2))
def F_depth_for : List D → Res D := bodyV 3 G_depth_for
theorem ok_depth_for (T : Txt P K mg A Dt Er) : FnOk P w K mg base (L2.CX P w) 5 (A 7) (Dt 7) ["gauge", "tons"] (spV K mg F_depth_for 2) :=
  fn_val T.fn_depth_for sc_depth_for (fun cdv A1 outer s H E B hr tk => by
    exact (ps_cons (ps_if (pt_not (pt_val (pv_call ((ok_is_number T).mono (by decide)) hr T.m_is_number T.k_is_number T.b_is_number tk (pa_cons (pv_var 1) (pa_cons pv_int (pa_cons (pv_gint T.c_PRICE.choose_spec) pa_nil)))))) (ps_one (ps_rai rfl T.e_PlanError T.m_PlanError T.n_super hr tk (pa_cons pv_str (pa_cons pv_int pa_nil)))) ps_nil) (ps_cons (ps_for (passes_of rfl) rfl (pi_rng2 T.n_range (pa_cons (pv_ix (PVE.rd (pv_ix (PVE.rd (pv_var 0)) (PVE.rd pv_int))) (PVE.rd pv_int)) (pa_cons (pv_bin op_addA ov_add (PVE.rd (pv_ix (PVE.rd (pv_ix (PVE.rd (pv_var 0)) (PVE.rd (pv_neg (PVE.rd pv_int))))) (PVE.rd pv_int))) (PVE.rd pv_int)) pa_nil))) (pg_name 2 (sc_depth_for).nd) (ps_one (ps_if (pt_not (pt_val (pv_call ((ok_less T).mono (by decide)) hr T.m_less T.k_less T.b_less tk (pa_cons (pv_call ((ok_tons_at T).mono (by decide)) hr T.m_tons_at T.k_tons_at T.b_tons_at tk (pa_cons (pv_var 0) (pa_cons (pv_var 2) pa_nil))) (pa_cons (pv_tup (pa_cons (pv_var 1) (pa_cons pv_int pa_nil))) pa_nil))))) (ps_one (ps_ret (pv_var 2))) ps_nil))) (ps_one (ps_ret pv_non)))))
/-! ### whole_tons -/
abbrev N_whole_tons : List Str := ["gauge", "depth", "top", "bottom"]
theorem sc_whole_tons : FnScope N_whole_tons ["gauge", "depth"] (defScope s_whole_tons) := ⟨rfl, rfl, rfl, by decide +kernel, rfl, by decide +kernel, by decide +kernel⟩
def g_whole_tons_0 : Rho → Out := (asgG (tgT 2 (tgCons (tgN 2) (tgCons (tgN 3) tgNil))) (callV F_tons_at (consA (var 0) (consA (var 1) nilA))))
def g_whole_tons_1 : Rho → Out := (retS (bin (var 2) (var 3) dDiv))
def G_whole_tons : Rho → Out := (seqS g_whole_tons_0 g_whole_tons_1)
def F_whole_tons : List D → Res D := bodyV 4 G_whole_tons
theorem ok_whole_tons (T : Txt P K mg A Dt Er) : FnOk P w K mg base (L2.CX P w) 5 (A 8) (Dt 8) ["gauge", "depth"] (spV K mg F_whole_tons 2) :=
  fn_val T.fn_whole_tons sc_whole_tons (fun cdv A1 outer s H E B hr tk => by
    exact (ps_cons (ps_asgG (pv_call ((ok_tons_at T).mono (by decide)) hr T.m_tons_at T.k_tons_at T.b_tons_at tk (pa_cons (pv_var 0) (pa_cons (pv_var 1) pa_nil))) (pg_tup 2 rfl (pgs_cons (pg_name 2 (sc_whole_tons).nd) (pgs_cons (pg_name 3 (sc_whole_tons).nd) pgs_nil)))) (ps_one (ps_ret (pv_bin op_fdivW ov_div (PVE.rd (pv_var 2)) (PVE.rd (pv_var 3)))))))
/-! ### cargo_moved -/
abbrev N_cargo_moved : List Str := ["gauge", "before", "behind", "one", "other"]
theorem sc_cargo_moved : FnScope N_cargo_moved ["gauge", "before", "behind"] (defScope s_cargo_moved) := ⟨rfl, rfl, rfl, by decide +kernel, rfl, by decide +kernel, by decide +kernel⟩
def g_cargo_moved_0 : Rho → Out := (parS 3 4 (consA (callV F_tons_at (consA (var 0) (consA (var 1) nilA))) (consA (callV F_tons_at (consA (var 0) (consA (var 2) nilA))) nilA)))
def g_cargo_moved_1 : Rho → Out := (ifS (isB (callV F_less (consA (var 3) (consA (var 4) nilA)))) (retS (tupV (consA (callV F_ratio (consA (bin (bin (bin (var 4) (kI 0) dIx) (bin (var 3) (kI 1) dIx) dMul) (bin (bin (var 3) (kI 0) dIx) (bin (var 4) (kI 1) dIx) dMul) dSub) (consA (bin (bin (var 3) (kI 1) dIx) (bin (var 4) (kI 1) dIx) dMul) nilA))) (consA (kS "loaded") nilA)))) nxS)
def g_cargo_moved_2 : Rho → Out := (ifS (isB (callV F_less (consA (var 4) (consA (var 3) nilA)))) (retS (tupV (consA (callV F_ratio (consA (bin (bin (bin (var 3) (kI 0) dIx) (bin (var 4) (kI 1) dIx) dMul) (bin (bin (var 4) (kI 0) dIx) (bin (var 3) (kI 1) dIx) dMul) dSub) (consA (bin (bin (var 3) (kI 1) dIx) (bin (var 4) (kI 1) dIx) dMul) nilA))) (consA (kS "unloaded") nilA)))) nxS)
def g_cargo_moved_3 : Rho → Out := (retS (tupV (consA (tupV (consA (kI 0) (consA (kI 1) nilA))) (consA (kS "same") nilA))))
def G_cargo_moved : Rho → Out := (seqS g_cargo_moved_0 (seqS g_cargo_moved_1 (seqS g_cargo_moved_2 g_cargo_moved_3)))
def F_cargo_moved : List D → Res D := bodyV 5 G_cargo_moved
theorem ok_cargo_moved (T : Txt P K mg A Dt Er) : FnOk P w K mg base (L2.CX P w) 5 (A 9) (Dt 9) ["gauge", "before", "behind"] (spV K mg F_cargo_moved 3) :=
  fn_val T.fn_cargo_moved sc_cargo_moved (fun cdv A1 outer s H E B hr tk => by
    exact (ps_cons (ps_par 3 4 rfl (sc_cargo_moved).nd (pa_cons (pv_call ((ok_tons_at T).mono (by decide)) hr T.m_tons_at T.k_tons_at T.b_tons_at tk (pa_cons (pv_var 0) (pa_cons (pv_var 1) pa_nil))) (pa_cons (pv_call ((ok_tons_at T).mono (by decide)) hr T.m_tons_at T.k_tons_at T.b_tons_at tk (pa_cons (pv_var 0) (pa_cons (pv_var 2) pa_nil))) pa_nil))) (ps_cons (ps_if (pt_val (pv_call ((ok_less T).mono (by decide)) hr T.m_less T.k_less T.b_less tk (pa_cons (pv_var 3) (pa_cons (pv_var 4) pa_nil)))) (ps_one (ps_ret (pv_tup (pa_cons (pv_call ((ok_ratio T).mono (by decide)) hr T.m_ratio T.k_ratio T.b_ratio tk (pa_cons (pv_bin op_sub ov_sub (PVE.rd (pv_bin op_mulW ov_mul (PVE.rd (pv_ix (PVE.rd (pv_var 4)) (PVE.rd pv_int))) (PVE.rd (pv_ix (PVE.rd (pv_var 3)) (PVE.rd pv_int))))) (PVE.rd (pv_bin op_mulW ov_mul (PVE.rd (pv_ix (PVE.rd (pv_var 3)) (PVE.rd pv_int))) (PVE.rd (pv_ix (PVE.rd (pv_var 4)) (PVE.rd pv_int)))))) (pa_cons (pv_bin op_mulW ov_mul (PVE.rd (pv_ix (PVE.rd (pv_var 3)) (PVE.rd pv_int))) (PVE.rd (pv_ix (PVE.rd (pv_var 4)) (PVE.rd pv_int)))) pa_nil))) (pa_cons pv_str pa_nil))))) ps_nil) (ps_cons (ps_if (pt_val (pv_call ((ok_less T).mono (by decide)) hr T.m_less T.k_less T.b_less tk (pa_cons (pv_var 4) (pa_cons (pv_var 3) pa_nil)))) (ps_one (ps_ret (pv_tup (pa_cons (pv_call ((ok_ratio T).mono (by decide)) hr T.m_ratio T.k_ratio T.b_ratio tk (pa_cons (pv_bin op_sub ov_sub (PVE.rd (pv_bin op_mulW ov_mul (PVE.rd (pv_ix (PVE.rd (pv_var 3)) (PVE.rd pv_int))) (PVE.rd (pv_ix (PVE.rd (pv_var 4)) (PVE.rd pv_int))))) (PVE.rd (pv_bin op_mulW ov_mul (PVE.rd (pv_ix (PVE.rd (pv_var 4)) (PVE.rd pv_int))) (PVE.rd (pv_ix (PVE.rd (pv_var 3)) (PVE.rd pv_int)))))) (pa_cons (pv_bin op_mulW ov_mul (PVE.rd (pv_ix (PVE.rd (pv_var 3)) (PVE.rd pv_int))) (PVE.rd (pv_ix (PVE.rd (pv_var 4)) (PVE.rd pv_int)))) pa_nil))) (pa_cons pv_str pa_nil))))) ps_nil) (ps_one (ps_ret (pv_tup (pa_cons (pv_tup (pa_cons pv_int (pa_cons pv_int pa_nil))) (pa_cons pv_str pa_nil)))))))))
/-! ### merged_gauge -/
abbrev N_merged_gauge : List Str := ["one", "other", "rows", "row"]
theorem sc_merged_gauge : FnScope N_merged_gauge ["one", "other"] (defScope s_merged_gauge) := ⟨rfl, rfl, rfl, by decide +kernel, rfl, by decide +kernel, by decide +kernel⟩
def g_merged_gauge_0 : Rho → Out := (asgO 2 (unO (var 0) dList))
def g_merged_gauge_1b : Rho → Out := (ifS (binB (un (var 3) dTup) (varR 2) dNotIn) (appS 2 (un (var 3) dTup)) nxS)
def g_merged_gauge_1 : Rho → Out := (forS (itR (var 1)) (tgN 3) g_merged_gauge_1b)
def g_merged_gauge_2 : Rho → Out := (retS (callV F_make_gauge (consA (vO (unO (varR 2) dSort)) nilA)))
def G_merged_gauge : Rho → Out := (seqS g_merged_gauge_0 (seqS g_merged_gauge_1 g_merged_gauge_2))
def F_merged_gauge : List D → Res D := bodyV 4 G_merged_gauge
theorem ok_merged_gauge (T : Txt P K mg A Dt Er) : FnOk P w K mg base (L2.CX P w) 4 (A 10) (Dt 10) ["one", "other"] (spV K mg F_merged_gauge 2) :=
  fn_val T.fn_merged_gauge sc_merged_gauge (fun cdv A1 outer s H E B hr tk => by
    exact (ps_cons (ps_asgO 2 (po_t1 call_list_of co_list T.n_list bt_list (PVE.rd (pv_var 0))) (sc_merged_gauge).nd) (ps_cons (ps_for (passes_of rfl) rfl (pi_any (pv_var 1)) (pg_name 3 (sc_merged_gauge).nd) (ps_one (ps_if (pt_cmp (op_notInA (units65 hr)) ob_notIn (PVE.rd (pv_t1 call_tuple_of cv_tup T.n_tuple bt_tuple (PVE.rd (pv_var 3)))) (pr_var 2) (by rfl)) (ps_one (ps_app 2 (pv_t1 call_tuple_of cv_tup T.n_tuple bt_tuple (PVE.rd (pv_var 3))))) ps_nil))) (ps_one (ps_ret (pv_call ((ok_make_gauge T).mono (by decide)) hr T.m_make_gauge T.k_make_gauge T.b_make_gauge tk (pa_cons (PVO.v (po_b1 (cr_sortD hr) co_sort T.n_sorted bt_sorted (pr_var 2))) pa_nil)))))))
/-! ### needless_rows -/
abbrev N_needless_rows : List Str := ["gauge", "found", "at", "low", "here", "high"]
theorem sc_needless_rows : FnScope N_needless_rows ["gauge"] (defScope s_needless_rows) := ⟨rfl, rfl, rfl, by decide +kernel, rfl, by decide +kernel, by decide +kernel⟩
def g_needless_rows_0 : Rho → Out := (asgO 1 (lstO nilA))
def g_needless_rows_1b : Rho → Out := (seqS (parS3 3 4 5 (consA (bin (var 0) (bin (var 2) (kI 1) dSub) dIx) (consA (bin (var 0) (var 2) dIx) (consA (bin (var 0) (bin (var 2) (kI 1) dAdd) dIx) nilA)))) (ifS (binB (bin (bin (bin (var 4) (kI 1) dIx) (bin (var 3) (kI 1) dIx) dSub) (bin (bin (var 5) (kI 0) dIx) (bin (var 4) (kI 0) dIx) dSub) dMul) (bin (bin (bin (var 5) (kI 1) dIx) (bin (var 4) (kI 1) dIx) dSub) (bin (bin (var 4) (kI 0) dIx) (bin (var 3) (kI 0) dIx) dSub) dMul) dEq) (appS 1 (var 2)) nxS))
def g_needless_rows_1 : Rho → Out := (forS (rng2 (consA (kI 1) (consA (bin (un (var 0) dLen) (kI 1) dSub) nilA))) (tgN 2) g_needless_rows_1b)
def g_needless_rows_2 : Rho → Out := (frzS 1 (retS (var 1)))
def G_needless_rows : Rho → Out := (seqS g_needless_rows_0 (seqS g_needless_rows_1 g_needless_rows_2))
def F_needless_rows : List D → Res D := bodyV 6 G_needless_rows
theorem ok_needless_rows (T : Txt P K mg A Dt Er) : FnOk P w K mg base (L2.CX P w) 2 (A 11) (Dt 11) ["gauge"] (spV K mg F_needless_rows 1) :=
  fn_val T.fn_needless_rows sc_needless_rows (fun cdv A1 outer s H E B hr tk => by
    exact (ps_cons (ps_asgO 1 (pv_lst pa_nil) (sc_needless_rows).nd) (ps_cons (ps_for (passes_of rfl) rfl (pi_rng2 T.n_range (pa_cons pv_int (pa_cons (pv_bin op_sub ov_sub (PVE.rd (pv_b1 call_lenA cv_len T.n_len bt_len (PVE.rd (pv_var 0)))) (PVE.rd pv_int)) pa_nil))) (pg_name 2 (sc_needless_rows).nd) (ps_cons (ps_par3 3 4 5 rfl (sc_needless_rows).nd (pa_cons (pv_ix (PVE.rd (pv_var 0)) (PVE.rd (pv_bin op_sub ov_sub (PVE.rd (pv_var 2)) (PVE.rd pv_int)))) (pa_cons (pv_ix (PVE.rd (pv_var 0)) (PVE.rd (pv_var 2))) (pa_cons (pv_ix (PVE.rd (pv_var 0)) (PVE.rd (pv_bin op_addA ov_add (PVE.rd (pv_var 2)) (PVE.rd pv_int)))) pa_nil)))) (ps_one (ps_if (pt_cmp (op_eqD hr.units) ob_eq (PVE.rd (pv_bin op_mulW ov_mul (PVE.rd (pv_bin op_sub ov_sub (PVE.rd (pv_ix (PVE.rd (pv_var 4)) (PVE.rd pv_int))) (PVE.rd (pv_ix (PVE.rd (pv_var 3)) (PVE.rd pv_int))))) (PVE.rd (pv_bin op_sub ov_sub (PVE.rd (pv_ix (PVE.rd (pv_var 5)) (PVE.rd pv_int))) (PVE.rd (pv_ix (PVE.rd (pv_var 4)) (PVE.rd pv_int))))))) (PVE.rd (pv_bin op_mulW ov_mul (PVE.rd (pv_bin op_sub ov_sub (PVE.rd (pv_ix (PVE.rd (pv_var 5)) (PVE.rd pv_int))) (PVE.rd (pv_ix (PVE.rd (pv_var 4)) (PVE.rd pv_int))))) (PVE.rd (pv_bin op_sub ov_sub (PVE.rd (pv_ix (PVE.rd (pv_var 4)) (PVE.rd pv_int))) (PVE.rd (pv_ix (PVE.rd (pv_var 3)) (PVE.rd pv_int))))))) (by rfl)) (ps_one (ps_app 1 (pv_var 2))) ps_nil)))) (ps_one (ps_frz 1 (ps_ret (pv_var 1)))))))
/-! ### _law_strictly -/
abbrev N__law_strictly : List Str := ["expected", "actual", "place"]
theorem sc__law_strictly : FnScope N__law_strictly ["expected", "actual"] (defScope s__law_strictly) := ⟨rfl, rfl, rfl, by decide +kernel, rfl, by decide +kernel, by decide +kernel⟩
theorem ok__law_strictly (T : Txt P K mg A Dt Er) : ∀ n : Nat, FnOk P w K mg base (L2.CX P w) (2 + n) (A 12) (Dt 12) ["expected", "actual"] (spV K mg (F__law_strictly n) 2)
  | 0 => fn_no T.fn__law_strictly sc__law_strictly rfl
  | n + 1 => fn_val (k := 2 + n) T.fn__law_strictly sc__law_strictly (fun cdv A1 outer s H E B hr tk => by
    have Rec := ok__law_strictly T n
    exact (ps_cons (ps_if (pt_cmp op_isN ob_isN (PVE.rd (pv_var 0)) (PVE.rd pv_non) (by rfl)) (ps_one (ps_ret (pv_cmp op_isN ob_isN (PVE.rd (pv_var 1)) (PVE.rd pv_non) (by rfl)))) ps_nil) (ps_cons (ps_if (pt_val (pv_isi kit_bool T.n_isinstance T.n_bool bt_bool (PVE.rd (pv_var 0)))) (ps_one (ps_ret (pv_and (pv_isi kit_int T.n_isinstance T.n_int bt_int (PVE.rd (pv_var 1))) (pv_one (pv_cmp (op_eqD hr.units) ob_eq (PVE.rd (pv_var 1)) (PVE.rd (pv_var 0)) (by rfl)))))) ps_nil) (ps_cons (ps_if (pt_val (pv_isi kit_int T.n_isinstance T.n_int bt_int (PVE.rd (pv_var 0)))) (ps_one (ps_ret (pv_and (pv_isi kit_int T.n_isinstance T.n_int bt_int (PVE.rd (pv_var 1))) (pv_and (pv_not (pv_isi kit_bool T.n_isinstance T.n_bool bt_bool (PVE.rd (pv_var 1)))) (pv_one (pv_cmp (op_eqD hr.units) ob_eq (PVE.rd (pv_var 1)) (PVE.rd (pv_var 0)) (by rfl))))))) ps_nil) (ps_cons (ps_if (pt_val (pv_isi kit_str T.n_isinstance T.n_str bt_str (PVE.rd (pv_var 0)))) (ps_one (ps_ret (pv_and (pv_isi kit_str T.n_isinstance T.n_str bt_str (PVE.rd (pv_var 1))) (pv_one (pv_cmp (op_eqD hr.units) ob_eq (PVE.rd (pv_var 1)) (PVE.rd (pv_var 0)) (by rfl)))))) ps_nil) (ps_cons (ps_if (PVW.t (pw_or (pt_cmp (op_neD hr.units) ob_ne (PVE.rd (pv_isi kit_tuple T.n_isinstance T.n_tuple bt_tuple (PVE.rd (pv_var 0)))) (PVE.rd (pv_isi kit_tuple T.n_isinstance T.n_tuple bt_tuple (PVE.rd (pv_var 1)))) (by rfl)) (pw_or1 (pt_cmp (op_neD hr.units) ob_ne (PVE.rd (pv_isi kit_list T.n_isinstance T.n_list bt_list (PVE.rd (pv_var 0)))) (PVE.rd (pv_isi kit_list T.n_isinstance T.n_list bt_list (PVE.rd (pv_var 1)))) (by rfl))))) (ps_one (ps_ret pv_bl)) ps_nil) (ps_cons (ps_if (PVW.t (pw_or (pt_val (pv_isi kit_tuple T.n_isinstance T.n_tuple bt_tuple (PVE.rd (pv_var 0)))) (pw_or1 (pt_val (pv_isi kit_list T.n_isinstance T.n_list bt_list (PVE.rd (pv_var 0))))))) (ps_cons (ps_if (pt_cmp (op_neD hr.units) ob_ne (PVE.rd (pv_b1 call_lenA cv_len T.n_len bt_len (PVE.rd (pv_var 1)))) (PVE.rd (pv_b1 call_lenA cv_len T.n_len bt_len (PVE.rd (pv_var 0)))) (by rfl)) (ps_one (ps_ret pv_bl)) ps_nil) (ps_cons (ps_for (passes_of rfl) rfl (pi_rng1 T.n_range (pa_cons (pv_b1 call_lenA cv_len T.n_len bt_len (PVE.rd (pv_var 0))) pa_nil)) (pg_name 2 (sc__law_strictly).nd) (ps_one (ps_if (pt_not (pt_val (pv_call Rec hr T.m__law_strictly T.k__law_strictly T.b__law_strictly tk (pa_cons (pv_ix (PVE.rd (pv_var 0)) (PVE.rd (pv_var 2))) (pa_cons (pv_ix (PVE.rd (pv_var 1)) (PVE.rd (pv_var 2))) pa_nil))))) (ps_one (ps_ret pv_bl)) ps_nil))) (ps_one (ps_ret pv_bl)))) ps_nil) (ps_one (ps_ret (pv_cmp (op_eqD hr.units) ob_eq (PVE.rd (pv_var 1)) (PVE.rd (pv_var 0)) (by rfl)))))))))))
/-! ### _law_cell -/
abbrev N__law_cell : List Str := ["script", "k"]
theorem sc__law_cell : FnScope N__law_cell ["script", "k"] (defScope s__law_cell) := ⟨rfl, rfl, rfl, by decide +kernel, rfl, by decide +kernel, by decide +kernel⟩
theorem ok__law_cell (T : Txt P K mg A Dt Er) : FnOk P w K mg base (L2.CX P w) 2 (A 13) (Dt 13) ["script", "k"] (spV K mg F__law_cell 2) :=
  fn_val T.fn__law_cell sc__law_cell (fun cdv A1 outer s H E B hr tk => by
    exact (ps_cons (ps_if (pt_cmp op_ltA ob_lt (PVE.rd (pv_var 1)) (PVE.rd (pv_b1 call_lenA cv_len T.n_len bt_len (PVE.rd (pv_var 0)))) (by rfl)) (ps_one (ps_ret (pv_ix (PVE.rd (pv_var 0)) (PVE.rd (pv_var 1))))) ps_nil) (ps_one (ps_ret pv_int))))
/-! ### _law_draw -/
abbrev N__law_draw : List Str := ["script", "k", "sizes", "cell", "drawn", "size", "mixed", "j"]
theorem sc__law_draw : FnScope N__law_draw ["script", "k", "sizes"] (defScope s__law_draw) := ⟨rfl, rfl, rfl, by decide +kernel, rfl, by decide +kernel, by decide +kernel⟩
theorem ok__law_draw (T : Txt P K mg A Dt Er) : FnOk P w K mg base (L2.CX P w) 3 (A 14) (Dt 14) ["script", "k", "sizes"] (spV K mg F__law_draw 3) :=
  fn_val T.fn__law_draw sc__law_draw (fun cdv A1 outer s H E B hr tk => by
    exact (ps_cons (ps_asg 3 (pv_call ((ok__law_cell T).mono (by decide)) hr T.m__law_cell T.k__law_cell T.b__law_cell tk (pa_cons (pv_var 0) (pa_cons (pv_var 1) pa_nil))) (sc__law_draw).nd) (ps_cons (ps_if (pt_cmp op_ltA ob_lt (PVE.rd (pv_var 3)) (PVE.rd pv_int) (by rfl)) (ps_one (ps_asg 3 (pv_neg (PVE.rd (pv_var 3))) (sc__law_draw).nd)) ps_nil) (ps_cons (ps_asgO 4 (pv_lst pa_nil) (sc__law_draw).nd) (ps_cons (ps_if (pt_cmp op_ge ob_ge (PVE.rd (pv_var 3)) (PVE.rd (pv_bin op_pow ov_pow (PVE.rd pv_int) (PVE.rd pv_int))) (by rfl)) (ps_cons (ps_asg 3 (pv_bin op_sub ov_sub (PVE.rd (pv_var 3)) (PVE.rd (pv_bin op_pow ov_pow (PVE.rd pv_int) (PVE.rd pv_int)))) (sc__law_draw).nd) (ps_cons (ps_for (passes_of rfl) rfl (pi_any (pv_var 2)) (pg_name 5 (sc__law_draw).nd) (ps_cons (ps_app 4 (pv_bin op_mod ov_mod (PVE.rd (pv_var 3)) (PVE.rd (pv_var 5)))) (ps_one (ps_asg 3 (pv_bin op_fdivW ov_div (PVE.rd (pv_var 3)) (PVE.rd (pv_var 5))) (sc__law_draw).nd)))) (ps_one (ps_frz 4 (ps_ret (pv_var 4)))))) ps_nil) (ps_cons (ps_asg 6 (pv_bin op_mod ov_mod (PVE.rd (pv_bin op_addA ov_add (PVE.rd (pv_bin op_addA ov_add (PVE.rd (pv_var 3)) (PVE.rd pv_int))) (PVE.rd (pv_bin op_mulW ov_mul (PVE.rd pv_int) (PVE.rd (pv_var 1)))))) (PVE.rd pv_int)) (sc__law_draw).nd) (ps_cons (ps_for (passes_of rfl) rfl (pi_rng1 T.n_range (pa_cons (pv_b1 call_lenA cv_len T.n_len bt_len (PVE.rd (pv_var 2))) pa_nil)) (pg_name 7 (sc__law_draw).nd) (ps_cons (ps_asg 6 (pv_bin op_mod ov_mod (PVE.rd (pv_bin op_addA ov_add (PVE.rd (pv_bin op_addA ov_add (PVE.rd (pv_bin op_mulW ov_mul (PVE.rd (pv_var 6)) (PVE.rd pv_int))) (PVE.rd pv_int))) (PVE.rd (pv_var 7)))) (PVE.rd pv_int)) (sc__law_draw).nd) (ps_cons (ps_asg 6 (pv_bin op_mod ov_mod (PVE.rd (pv_bin op_addA ov_add (PVE.rd (pv_bin op_mulW ov_mul (PVE.rd (pv_var 6)) (PVE.rd pv_int))) (PVE.rd pv_int))) (PVE.rd pv_int)) (sc__law_draw).nd) (ps_one (ps_app 4 (pv_bin op_mod ov_mod (PVE.rd (pv_bin op_fdivW ov_div (PVE.rd (pv_var 6)) (PVE.rd pv_int))) (PVE.rd (pv_ix (PVE.rd (pv_var 2)) (PVE.rd (pv_var 7)))))))))) (ps_one (ps_frz 4 (ps_ret (pv_var 4)))))))))))
/-! ### _law_gcd -/
abbrev N__law_gcd : List Str := ["left", "right", "turn"]
theorem sc__law_gcd : FnScope N__law_gcd ["left", "right"] (defScope s__law_gcd) := ⟨rfl, rfl, rfl, by decide +kernel, rfl, by decide +kernel, by decide +kernel⟩
theorem ok__law_gcd (T : Txt P K mg A Dt Er) : FnOk P w K mg base (L2.CX P w) 2 (A 15) (Dt 15) ["left", "right"] (spV K mg F__law_gcd 2) :=
  fn_val T.fn__law_gcd sc__law_gcd (fun cdv A1 outer s H E B hr tk => by
    exact (ps_cons (ps_for (passes_of rfl) rfl (pi_rng1 T.n_range (pa_cons pv_int pa_nil)) (pg_name 2 (sc__law_gcd).nd) (ps_cons (ps_if (pt_cmp (op_eqD hr.units) ob_eq (PVE.rd (pv_var 1)) (PVE.rd pv_int) (by rfl)) (ps_one (ps_ret (pv_var 0))) ps_nil) (ps_one (ps_par 0 1 rfl (sc__law_gcd).nd (pa_cons (pv_var 1) (pa_cons (pv_bin op_mod ov_mod (PVE.rd (pv_var 0)) (PVE.rd (pv_var 1))) pa_nil)))))) (ps_one (ps_ret (pv_var 0)))))
/-! ### _law_ratio -/
abbrev N__law_ratio : List Str := ["top", "bottom", "common"]
theorem sc__law_ratio : FnScope N__law_ratio ["top", "bottom"] (defScope s__law_ratio) := ⟨rfl, rfl, rfl, by decide +kernel, rfl, by decide +kernel, by decide +kernel⟩
theorem ok__law_ratio (T : Txt P K mg A Dt Er) : FnOk P w K mg base (L2.CX P w) 3 (A 16) (Dt 16) ["top", "bottom"] (spV K mg F__law_ratio 2) :=
  fn_val T.fn__law_ratio sc__law_ratio (fun cdv A1 outer s H E B hr tk => by
    exact (ps_cons (ps_asg 2 (pv_call ((ok__law_gcd T).mono (by decide)) hr T.m__law_gcd T.k__law_gcd T.b__law_gcd tk (pa_cons (pv_var 0) (pa_cons (pv_var 1) pa_nil))) (sc__law_ratio).nd) (ps_one (ps_ret (pv_tup (pa_cons (pv_bin op_fdivW ov_div (PVE.rd (pv_var 0)) (PVE.rd (pv_var 2))) (pa_cons (pv_bin op_fdivW ov_div (PVE.rd (pv_var 1)) (PVE.rd (pv_var 2))) pa_nil)))))))
/-! ### _law_tons -/
abbrev N__law_tons : List Str := ["rows", "depth", "at", "low", "high", "top"]
theorem sc__law_tons : FnScope N__law_tons ["rows", "depth"] (defScope s__law_tons) := ⟨rfl, rfl, rfl, by decide +kernel, rfl, by decide +kernel, by decide +kernel⟩
def g__law_tons_0b : Rho → Out := (ifS (chnT (bin (bin (var 0) (bin (var 2) (kI 1) dSub) dIx) (kI 0) dIx) (lkC (var 1) dLe (lkL (bin (bin (var 0) (var 2) dIx) (kI 0) dIx) dLe))) (seqS (parS 3 4 (consA (bin (var 0) (bin (var 2) (kI 1) dSub) dIx) (consA (bin (var 0) (var 2) dIx) nilA))) (seqS (asgS 5 (bin (bin (bin (var 3) (kI 1) dIx) (bin (bin (var 4) (kI 0) dIx) (var 1) dSub) dMul) (bin (bin (var 4) (kI 1) dIx) (bin (var 1) (bin (var 3) (kI 0) dIx) dSub) dMul) dAdd)) (retS (ifV (binB (var 5) (kI 0) dGt) (callV F__law_ratio (consA (var 5) (consA (bin (bin (var 4) (kI 0) dIx) (bin (var 3) (kI 0) dIx) dSub) nilA))) (tupV (consA (kI 0) (consA (kI 1) nilA))))))) nxS)
def g__law_tons_0 : Rho → Out := (forS (rng2 (consA (kI 1) (consA (un (var 0) dLen) nilA))) (tgN 2) g__law_tons_0b)
def g__law_tons_1 : Rho → Out := (retS kN)
def G__law_tons : Rho → Out := (seqS g__law_tons_0 g__law_tons_1)
def F__law_tons : List D → Res D := bodyV 6 G__law_tons
theorem ok__law_tons (T : Txt P K mg A Dt Er) : FnOk P w K mg base (L2.CX P w) 4 (A 17) (Dt 17) ["rows", "depth"] (spV K mg F__law_tons 2) :=
  fn_val T.fn__law_tons sc__law_tons (fun cdv A1 outer s H E B hr tk => by
    exact (ps_cons (ps_for (passes_of rfl) rfl (pi_rng2 T.n_range (pa_cons pv_int (pa_cons (pv_b1 call_lenA cv_len T.n_len bt_len (PVE.rd (pv_var 0))) pa_nil))) (pg_name 2 (sc__law_tons).nd) (ps_one (ps_if (pt_chn (PVE.rd (pv_ix (PVE.rd (pv_ix (PVE.rd (pv_var 0)) (PVE.rd (pv_bin op_sub ov_sub (PVE.rd (pv_var 2)) (PVE.rd pv_int))))) (PVE.rd pv_int))) (lk_cons op_le ob_le (PVE.rd (pv_var 1)) (lk_last op_le ob_le (PVE.rd (pv_ix (PVE.rd (pv_ix (PVE.rd (pv_var 0)) (PVE.rd (pv_var 2)))) (PVE.rd pv_int)))))) (ps_cons (ps_par 3 4 rfl (sc__law_tons).nd (pa_cons (pv_ix (PVE.rd (pv_var 0)) (PVE.rd (pv_bin op_sub ov_sub (PVE.rd (pv_var 2)) (PVE.rd pv_int)))) (pa_cons (pv_ix (PVE.rd (pv_var 0)) (PVE.rd (pv_var 2))) pa_nil))) (ps_cons (ps_asg 5 (pv_bin op_addA ov_add (PVE.rd (pv_bin op_mulW ov_mul (PVE.rd (pv_ix (PVE.rd (pv_var 3)) (PVE.rd pv_int))) (PVE.rd (pv_bin op_sub ov_sub (PVE.rd (pv_ix (PVE.rd (pv_var 4)) (PVE.rd pv_int))) (PVE.rd (pv_var 1)))))) (PVE.rd (pv_bin op_mulW ov_mul (PVE.rd (pv_ix (PVE.rd (pv_var 4)) (PVE.rd pv_int))) (PVE.rd (pv_bin op_sub ov_sub (PVE.rd (pv_var 1)) (PVE.rd (pv_ix (PVE.rd (pv_var 3)) (PVE.rd pv_int)))))))) (sc__law_tons).nd) (ps_one (ps_ret (pv_if (pt_cmp op_gt ob_gt (PVE.rd (pv_var 5)) (PVE.rd pv_int) (by rfl)) (pv_call ((ok__law_ratio T).mono (by decide)) hr T.m__law_ratio T.k__law_ratio T.b__law_ratio tk (pa_cons (pv_var 5) (pa_cons (pv_bin op_sub ov_sub (PVE.rd (pv_ix (PVE.rd (pv_var 4)) (PVE.rd pv_int))) (PVE.rd (pv_ix (PVE.rd (pv_var 3)) (PVE.rd pv_int)))) pa_nil))) (pv_tup (pa_cons pv_int (pa_cons pv_int pa_nil)))))))) ps_nil))) (ps_one (ps_ret pv_non))))
/-! ### _law_told -/
abbrev N__law_told : List Str := ["which", "rows", "depth", "e"]
theorem sc__law_told : FnScope N__law_told ["which", "rows", "depth"] (defScope s__law_told) := ⟨rfl, rfl, rfl, by decide +kernel, rfl, by decide +kernel, by decide +kernel⟩
def g__law_told_0 : Rho → Out := (tryS ["PlanError"] (seqS (ifS (binB (var 0) (kI 0) dEq) (retS (callV F_make_gauge (consA (var 1) nilA))) nxS) (seqS (ifS (binB (var 0) (kI 1) dEq) (retS (callV F_tons_at (consA (var 1) (consA (var 2) nilA)))) nxS) (seqS (ifS (binB (var 0) (kI 2) dEq) (retS (callV F_depth_for (consA (var 1) (consA (var 2) nilA)))) nxS) (retS (callV F_merged_gauge (consA (bin (var 1) (kI 0) dIx) (consA (bin (var 1) (kI 1) dIx) nilA))))))) ((["PlanError"], 3, (retS (tupV (consA (xfV "PlanError" "what" 3) (consA (xfV "PlanError" "place" 3) nilA))))) :: []))
def G__law_told : Rho → Out := g__law_told_0
def F__law_told : List D → Res D := bodyV 4 G__law_told
theorem ok__law_told (T : Txt P K mg A Dt Er) : FnOk P w K mg base (L2.CX P w) 6 (A 18) (Dt 18) ["which", "rows", "depth"] (spV K mg F__law_told 3) :=
  fn_val T.fn__law_told sc__law_told (fun cdv A1 outer s H E B hr tk => by
    exact (ps_one (ps_try (sc__law_told).nd tk (fun W pn xe tk hp => (ps_cons (ps_if (pt_cmp (op_eqD hr.units) ob_eq (PVE.rd (pv_var 0)) (PVE.rd pv_int) (by rfl)) (ps_one (ps_ret (pv_call ((ok_make_gauge T).mono (by decide)) hr T.m_make_gauge T.k_make_gauge T.b_make_gauge tk (pa_cons (pv_var 1) pa_nil)))) ps_nil) (ps_cons (ps_if (pt_cmp (op_eqD hr.units) ob_eq (PVE.rd (pv_var 0)) (PVE.rd pv_int) (by rfl)) (ps_one (ps_ret (pv_call ((ok_tons_at T).mono (by decide)) hr T.m_tons_at T.k_tons_at T.b_tons_at tk (pa_cons (pv_var 1) (pa_cons (pv_var 2) pa_nil))))) ps_nil) (ps_cons (ps_if (pt_cmp (op_eqD hr.units) ob_eq (PVE.rd (pv_var 0)) (PVE.rd pv_int) (by rfl)) (ps_one (ps_ret (pv_call ((ok_depth_for T).mono (by decide)) hr T.m_depth_for T.k_depth_for T.b_depth_for tk (pa_cons (pv_var 1) (pa_cons (pv_var 2) pa_nil))))) ps_nil) (ps_one (ps_ret (pv_call ((ok_merged_gauge T).mono (by decide)) hr T.m_merged_gauge T.k_merged_gauge T.b_merged_gauge tk (pa_cons (pv_ix (PVE.rd (pv_var 1)) (PVE.rd pv_int)) (pa_cons (pv_ix (PVE.rd (pv_var 1)) (PVE.rd pv_int)) pa_nil))))))))) (ph_cons 3 T.m_PlanError T.ex_PlanError (fun a oe cls d pn hz hf => (ps_one (ps_ret (pv_tup (pa_cons (pv_xf 3 T.xf_PlanError T.m_PlanError T.nf_PlanError_what hz hf) (pa_cons (pv_xf 3 T.xf_PlanError T.m_PlanError T.nf_PlanError_place hz hf) pa_nil)))))) ph_nil))))
/-! ### law -/
abbrev N_law : List Str := ["script", "digits", "rows", "at", "row", "gauge", "first", "last", "depths", "depth", "due", "one", "other", "change", "word", "moved", "tons", "found", "needless", "wrong"]
theorem sc_law : FnScope N_law ["script"] (defScope s_law) := ⟨rfl, rfl, rfl, by decide +kernel, rfl, by decide +kernel, by decide +kernel⟩
def g_law_0 : Rho → Out := (asgS 1 (callV F__law_draw (consA (var 0) (consA (kI 0) (consA (vO (lstO (consA (kI 5) (consA (kI 3) (consA (kI 30) (consA (kI 30) (consA (kI 200) (consA (kI 6) (consA (kI 100001) nilA))))))))) nilA)))))
def g_law_1 : Rho → Out := (asgO 2 (lstO (consA (tupV (consA (bin (kI 1) (bin (bin (var 1) (kI 2) dIx) (kI 8) dMod) dAdd) (consA (kI 0) nilA))) nilA)))
def g_law_2b : Rho → Out := (seqS (asgS 4 (callV F__law_draw (consA (var 0) (consA (bin (kI 1) (var 3) dAdd) (consA (vO (lstO (consA (kI 12) (consA (kI 6) (consA (kI 15000) nilA))))) nilA))))) (appS 2 (tupV (consA (bin (bin (bin (bin (varR 2) (un (kI 1) dNeg) dIx) (kI 0) dIx) (kI 1) dAdd) (bin (var 4) (kI 0) dIx) dAdd) (consA (bin (bin (bin (bin (varR 2) (un (kI 1) dNeg) dIx) (kI 1) dIx) (kI 1) dAdd) (ifV (binB (bin (var 1) (kI 1) dIx) (kI 0) dEq) (bin (var 4) (kI 2) dIx) (bin (var 4) (kI 1) dIx)) dAdd) nilA)))))
def g_law_2 : Rho → Out := (forS (rng1 (consA (bin (bin (var 1) (kI 0) dIx) (kI 1) dAdd) nilA)) (tgN 3) g_law_2b)
def g_law_3 : Rho → Out := (frzS 2 (asgS 5 (callV F__law_told (consA (kI 0) (consA (var 2) (consA (kI 0) nilA))))))
def g_law_4 : Rho → Out := (ifS (notT (isB (callV (F__law_strictly 8) (consA (un (varR 2) dTup) (consA (var 5) nilA))))) (retS (kB false)) nxS)
def g_law_5 : Rho → Out := (parS 6 7 (consA (bin (bin (varR 2) (kI 0) dIx) (kI 0) dIx) (consA (bin (bin (varR 2) (un (kI 1) dNeg) dIx) (kI 0) dIx) nilA)))
def g_law_6 : Rho → Out := (asgS 8 (vO (lstO (consA (var 6) (consA (var 7) (consA (bin (var 6) (bin (bin (var 1) (kI 2) dIx) (bin (bin (var 7) (var 6) dSub) (kI 1) dAdd) dMod) dAdd) (consA (bin (var 6) (bin (bin (var 1) (kI 3) dIx) (bin (bin (var 7) (var 6) dSub) (kI 1) dAdd) dMod) dAdd) nilA)))))))
def g_law_7b : Rho → Out := (seqS (frzS 2 (asgS 10 (callV F__law_tons (consA (var 2) (consA (var 9) nilA))))) (ifS (orT (notT (isB (callV (F__law_strictly 8) (consA (var 10) (consA (callV F_tons_at (consA (var 5) (consA (var 9) nilA))) nilA))))) (notT (isB (callV (F__law_strictly 8) (consA (bin (bin (var 10) (kI 0) dIx) (bin (var 10) (kI 1) dIx) dDiv) (consA (callV F_whole_tons (consA (var 5) (consA (var 9) nilA))) nilA)))))) (retS (kB false)) nxS))
def g_law_7 : Rho → Out := (forS (itR (var 8)) (tgN 9) g_law_7b)
def g_law_8 : Rho → Out := (frzS 2 (parS 11 12 (consA (callV F__law_tons (consA (var 2) (consA (bin (var 8) (kI 2) dIx) nilA))) (consA (callV F__law_tons (consA (var 2) (consA (bin (var 8) (kI 3) dIx) nilA))) nilA))))
def g_law_9 : Rho → Out := (asgS 13 (bin (bin (bin (var 12) (kI 0) dIx) (bin (var 11) (kI 1) dIx) dMul) (bin (bin (var 11) (kI 0) dIx) (bin (var 12) (kI 1) dIx) dMul) dSub))
def g_law_10 : Rho → Out := (asgS 14 (ifV (binB (var 13) (kI 0) dGt) (kS "loaded") (ifV (binB (var 13) (kI 0) dLt) (kS "unloaded") (kS "same"))))
def g_law_11 : Rho → Out := (asgS 15 (ifV (binB (var 13) (kI 0) dNe) (callV F__law_ratio (consA (un (var 13) dAbs) (consA (bin (bin (var 11) (kI 1) dIx) (bin (var 12) (kI 1) dIx) dMul) nilA))) (tupV (consA (kI 0) (consA (kI 1) nilA)))))
def g_law_12 : Rho → Out := (ifS (notT (isB (callV (F__law_strictly 8) (consA (tupV (consA (var 15) (consA (var 14) nilA))) (consA (callV F_cargo_moved (consA (var 5) (consA (bin (var 8) (kI 2) dIx) (consA (bin (var 8) (kI 3) dIx) nilA)))) nilA))))) (retS (kB false)) nxS)
def g_law_13b : Rho → Out := (seqS (frzS 2 (asgS 17 (vO (lcV (rng2 (consA (var 6) (consA (bin (var 7) (kI 1) dAdd) nilA))) (tgN 9) (binB (bin (callV F__law_tons (consA (var 2) (consA (var 9) nilA))) (kI 0) dIx) (bin (var 16) (bin (callV F__law_tons (consA (var 2) (consA (var 9) nilA))) (kI 1) dIx) dMul) dGe) (var 9) [9])))) (ifS (andT (binB (var 16) (kI 100001) dLt) (notT (isB (callV (F__law_strictly 8) (consA (ifV (binB (un (var 17) dLen) (kI 0) dGt) (bin (var 17) (kI 0) dIx) kN) (consA (callV F_depth_for (consA (var 5) (consA (var 16) nilA))) nilA)))))) (retS (kB false)) nxS))
def g_law_13 : Rho → Out := (forS (itR (vO (lstO (consA (bin (var 1) (kI 4) dIx) (consA (bin (bin (varR 2) (kI 1) dIx) (kI 1) dIx) (consA (bin (bin (bin (varR 2) (kI 1) dIx) (kI 1) dIx) (kI 1) dAdd) (consA (bin (bin (varR 2) (un (kI 1) dNeg) dIx) (kI 1) dIx) (consA (bin (bin (bin (varR 2) (un (kI 1) dNeg) dIx) (kI 1) dIx) (kI 1) dAdd) (consA (kI 0) nilA))))))))) (tgN 16) g_law_13b)
def g_law_14 : Rho → Out := (asgO 18 (lstO nilA))
def g_law_15b : Rho → Out := (ifS (binB (callV F__law_tons (consA (vO (lstO (consA (bin (varR 2) (bin (var 3) (kI 1) dSub) dIx) (consA (bin (varR 2) (bin (var 3) (kI 1) dAdd) dIx) nilA)))) (consA (bin (bin (varR 2) (var 3) dIx) (kI 0) dIx) nilA))) (tupV (consA (bin (bin (varR 2) (var 3) dIx) (kI 1) dIx) (consA (kI 1) nilA))) dEq) (appS 18 (var 3)) nxS)
def g_law_15 : Rho → Out := (forS (rng2 (consA (kI 1) (consA (bin (un (varR 2) dLen) (kI 1) dSub) nilA))) (tgN 3) g_law_15b)
def g_law_16 : Rho → Out := (frzS 18 (ifS (notT (isB (callV (F__law_strictly 8) (consA (var 18) (consA (callV F_needless_rows (consA (var 5) nilA)) nilA))))) (retS (kB false)) nxS))
def g_law_17 : Rho → Out := (frzS 2 (ifS (notT (isB (callV (F__law_strictly 8) (consA (var 5) (consA (callV F__law_told (consA (kI 3) (consA (vO (lstO (consA (slc (varR 2) noO (asI (kI 2))) (consA (ifV (binB (un (varR 2) dLen) (kI 2) dGt) (bin (slc (varR 2) noO (asI (kI 1))) (slc (varR 2) (asI (kI 2)) noO) dAdd) (var 2)) nilA)))) (consA (kI 0) nilA)))) nilA))))) (retS (kB false)) nxS))
def g_law_18 : Rho → Out := (ifS (orT (binB (callV F__law_told (consA (kI 1) (consA (var 5) (consA (bin (var 6) (kI 1) dSub) nilA)))) (tupV (consA (kS "depth") (consA (kI 0) nilA))) dNe) (orT (binB (callV F__law_told (consA (kI 1) (consA (var 5) (consA (bin (var 7) (kI 1) dAdd) nilA)))) (tupV (consA (kS "depth") (consA (kI 0) nilA))) dNe) (binB (callV F__law_told (consA (kI 2) (consA (var 5) (consA (un (kI 1) dNeg) nilA)))) (tupV (consA (kS "tons") (consA (kI 0) nilA))) dNe))) (retS (kB false)) nxS)
def g_law_19 : Rho → Out := (asgS 19 (bin (vO (lstO (consA (tupV (consA (tupV (consA (var 7) (consA (bin (bin (bin (varR 2) (un (kI 1) dNeg) dIx) (kI 1) dIx) (kI 1) dAdd) nilA))) (consA (kS "order") nilA))) (consA (tupV (consA (tupV (consA (bin (var 7) (kI 1) dAdd) (consA (bin (bin (varR 2) (un (kI 1) dNeg) dIx) (kI 1) dIx) nilA))) (consA (kS "order") nilA))) (consA (tupV (consA (tupV (consA (kI 100) (consA (kI 5) nilA))) (consA (kS "numbers") nilA))) (consA (tupV (consA (tupV (consA (kI 0) (consA (kI 5) nilA))) (consA (kS "numbers") nilA))) (consA (tupV (consA (tupV (consA (bin (var 7) (kI 1) dAdd) (consA (kI 100001) nilA))) (consA (kS "numbers") nilA))) (consA (tupV (consA (tupV (consA (bin (var 7) (kI 1) dAdd) (consA (un (kI 1) dNeg) nilA))) (consA (kS "numbers") nilA))) nilA)))))))) (bin (var 1) (kI 5) dIx) dIx))
def g_law_20 : Rho → Out := (ifS (orT (binB (callV F__law_told (consA (kI 0) (consA (bin (varR 2) (vO (lstO (consA (bin (var 19) (kI 0) dIx) nilA))) dAdd) (consA (kI 0) nilA)))) (tupV (consA (bin (var 19) (kI 1) dIx) (consA (un (varR 2) dLen) nilA))) dNe) (binB (callV F__law_told (consA (kI 0) (consA (vO (lstO (consA (tupV (consA (kI 2) (consA (kI 1) nilA))) (consA (tupV (consA (kI 3) (consA (kI 2) nilA))) nilA)))) (consA (kI 0) nilA)))) (tupV (consA (kS "order") (consA (kI 0) nilA))) dNe)) (retS (kB false)) nxS)
def g_law_21 : Rho → Out := (frzS 2 (retS (andV (vB (binB (callV F__law_told (consA (kI 0) (consA (slc (varR 2) noO (asI (kI 1))) (consA (kI 0) nilA)))) (tupV (consA (kS "number of rows") (consA (kI 0) nilA))) dEq)) (vB (binB (callV F__law_told (consA (kI 3) (consA (vO (lstO (consA (var 2) (consA (vO (lstO (consA (tupV (consA (var 6) (consA (kI 0) nilA))) (consA (tupV (consA (var 7) (consA (bin (bin (bin (varR 2) (un (kI 1) dNeg) dIx) (kI 1) dIx) (kI 1) dAdd) nilA))) nilA)))) nilA)))) (consA (kI 0) nilA)))) (tupV (consA (kS "order") (consA (un (varR 2) dLen) nilA))) dEq)))))
def G_law : Rho → Out := (seqS g_law_0 (seqS g_law_1 (seqS g_law_2 (seqS g_law_3 (seqS g_law_4 (seqS g_law_5 (seqS g_law_6 (seqS g_law_7 (seqS g_law_8 (seqS g_law_9 (seqS g_law_10 (seqS g_law_11 (seqS g_law_12 (seqS g_law_13 (seqS g_law_14 (seqS g_law_15 (seqS g_law_16 (seqS g_law_17 (seqS g_law_18 (seqS g_law_19 (seqS g_law_20 g_law_21)))))))))))))))))))))
def F_law : List D → Res D := bodyV 20 G_law
theorem ok_law (T : Txt P K mg A Dt Er) : FnOk P w K mg base (L2.CX P w) 11 (A 19) (Dt 19) ["script"] (spV K mg F_law 1) :=
  fn_val T.fn_law sc_law (fun cdv A1 outer s H E B hr tk => by
    exact (ps_cons (ps_asg 1 (pv_call ((ok__law_draw T).mono (by decide)) hr T.m__law_draw T.k__law_draw T.b__law_draw tk (pa_cons (pv_var 0) (pa_cons pv_int (pa_cons (PVO.v (pv_lst (pa_cons pv_int (pa_cons pv_int (pa_cons pv_int (pa_cons pv_int (pa_cons pv_int (pa_cons pv_int (pa_cons pv_int pa_nil))))))))) pa_nil)))) (sc_law).nd) (ps_cons (ps_asgO 2 (pv_lst (pa_cons (pv_tup (pa_cons (pv_bin op_addA ov_add (PVE.rd pv_int) (PVE.rd (pv_bin op_mod ov_mod (PVE.rd (pv_ix (PVE.rd (pv_var 1)) (PVE.rd pv_int))) (PVE.rd pv_int)))) (pa_cons pv_int pa_nil))) pa_nil)) (sc_law).nd) (ps_cons (ps_for (passes_of rfl) rfl (pi_rng1 T.n_range (pa_cons (pv_bin op_addA ov_add (PVE.rd (pv_ix (PVE.rd (pv_var 1)) (PVE.rd pv_int))) (PVE.rd pv_int)) pa_nil)) (pg_name 3 (sc_law).nd) (ps_cons (ps_asg 4 (pv_call ((ok__law_draw T).mono (by decide)) hr T.m__law_draw T.k__law_draw T.b__law_draw tk (pa_cons (pv_var 0) (pa_cons (pv_bin op_addA ov_add (PVE.rd pv_int) (PVE.rd (pv_var 3))) (pa_cons (PVO.v (pv_lst (pa_cons pv_int (pa_cons pv_int (pa_cons pv_int pa_nil))))) pa_nil)))) (sc_law).nd) (ps_one (ps_app 2 (pv_tup (pa_cons (pv_bin op_addA ov_add (PVE.rd (pv_bin op_addA ov_add (PVE.rd (pv_ix (PVE.rd (pv_ix (pr_var 2) (PVE.rd (pv_neg (PVE.rd pv_int))))) (PVE.rd pv_int))) (PVE.rd pv_int))) (PVE.rd (pv_ix (PVE.rd (pv_var 4)) (PVE.rd pv_int)))) (pa_cons (pv_bin op_addA ov_add (PVE.rd (pv_bin op_addA ov_add (PVE.rd (pv_ix (PVE.rd (pv_ix (pr_var 2) (PVE.rd (pv_neg (PVE.rd pv_int))))) (PVE.rd pv_int))) (PVE.rd pv_int))) (PVE.rd (pv_if (pt_cmp (op_eqD hr.units) ob_eq (PVE.rd (pv_ix (PVE.rd (pv_var 1)) (PVE.rd pv_int))) (PVE.rd pv_int) (by rfl)) (pv_ix (PVE.rd (pv_var 4)) (PVE.rd pv_int)) (pv_ix (PVE.rd (pv_var 4)) (PVE.rd pv_int))))) pa_nil))))))) (ps_cons (ps_frz 2 (ps_asg 5 (pv_call ((ok__law_told T).mono (by decide)) hr T.m__law_told T.k__law_told T.b__law_told tk (pa_cons pv_int (pa_cons (pv_var 2) (pa_cons pv_int pa_nil)))) (sc_law).nd)) (ps_cons (ps_if (pt_not (pt_val (pv_call ((ok__law_strictly T 8).mono (by decide)) hr T.m__law_strictly T.k__law_strictly T.b__law_strictly tk (pa_cons (pv_t1 call_tuple_of cv_tup T.n_tuple bt_tuple (pr_var 2)) (pa_cons (pv_var 5) pa_nil))))) (ps_one (ps_ret pv_bl)) ps_nil) (ps_cons (ps_par 6 7 rfl (sc_law).nd (pa_cons (pv_ix (PVE.rd (pv_ix (pr_var 2) (PVE.rd pv_int))) (PVE.rd pv_int)) (pa_cons (pv_ix (PVE.rd (pv_ix (pr_var 2) (PVE.rd (pv_neg (PVE.rd pv_int))))) (PVE.rd pv_int)) pa_nil))) (ps_cons (ps_asg 8 (PVO.v (pv_lst (pa_cons (pv_var 6) (pa_cons (pv_var 7) (pa_cons (pv_bin op_addA ov_add (PVE.rd (pv_var 6)) (PVE.rd (pv_bin op_mod ov_mod (PVE.rd (pv_ix (PVE.rd (pv_var 1)) (PVE.rd pv_int))) (PVE.rd (pv_bin op_addA ov_add (PVE.rd (pv_bin op_sub ov_sub (PVE.rd (pv_var 7)) (PVE.rd (pv_var 6)))) (PVE.rd pv_int)))))) (pa_cons (pv_bin op_addA ov_add (PVE.rd (pv_var 6)) (PVE.rd (pv_bin op_mod ov_mod (PVE.rd (pv_ix (PVE.rd (pv_var 1)) (PVE.rd pv_int))) (PVE.rd (pv_bin op_addA ov_add (PVE.rd (pv_bin op_sub ov_sub (PVE.rd (pv_var 7)) (PVE.rd (pv_var 6)))) (PVE.rd pv_int)))))) pa_nil)))))) (sc_law).nd) (ps_cons (ps_for (passes_of rfl) rfl (pi_any (pv_var 8)) (pg_name 9 (sc_law).nd) (ps_cons (ps_frz 2 (ps_asg 10 (pv_call ((ok__law_tons T).mono (by decide)) hr T.m__law_tons T.k__law_tons T.b__law_tons tk (pa_cons (pv_var 2) (pa_cons (pv_var 9) pa_nil))) (sc_law).nd)) (ps_one (ps_if (PVW.t (pw_or (pt_not (pt_val (pv_call ((ok__law_strictly T 8).mono (by decide)) hr T.m__law_strictly T.k__law_strictly T.b__law_strictly tk (pa_cons (pv_var 10) (pa_cons (pv_call ((ok_tons_at T).mono (by decide)) hr T.m_tons_at T.k_tons_at T.b_tons_at tk (pa_cons (pv_var 5) (pa_cons (pv_var 9) pa_nil))) pa_nil))))) (pw_or1 (pt_not (pt_val (pv_call ((ok__law_strictly T 8).mono (by decide)) hr T.m__law_strictly T.k__law_strictly T.b__law_strictly tk (pa_cons (pv_bin op_fdivW ov_div (PVE.rd (pv_ix (PVE.rd (pv_var 10)) (PVE.rd pv_int))) (PVE.rd (pv_ix (PVE.rd (pv_var 10)) (PVE.rd pv_int)))) (pa_cons (pv_call ((ok_whole_tons T).mono (by decide)) hr T.m_whole_tons T.k_whole_tons T.b_whole_tons tk (pa_cons (pv_var 5) (pa_cons (pv_var 9) pa_nil))) pa_nil)))))))) (ps_one (ps_ret pv_bl)) ps_nil)))) (ps_cons (ps_frz 2 (ps_par 11 12 rfl (sc_law).nd (pa_cons (pv_call ((ok__law_tons T).mono (by decide)) hr T.m__law_tons T.k__law_tons T.b__law_tons tk (pa_cons (pv_var 2) (pa_cons (pv_ix (PVE.rd (pv_var 8)) (PVE.rd pv_int)) pa_nil))) (pa_cons (pv_call ((ok__law_tons T).mono (by decide)) hr T.m__law_tons T.k__law_tons T.b__law_tons tk (pa_cons (pv_var 2) (pa_cons (pv_ix (PVE.rd (pv_var 8)) (PVE.rd pv_int)) pa_nil))) pa_nil)))) (ps_cons (ps_asg 13 (pv_bin op_sub ov_sub (PVE.rd (pv_bin op_mulW ov_mul (PVE.rd (pv_ix (PVE.rd (pv_var 12)) (PVE.rd pv_int))) (PVE.rd (pv_ix (PVE.rd (pv_var 11)) (PVE.rd pv_int))))) (PVE.rd (pv_bin op_mulW ov_mul (PVE.rd (pv_ix (PVE.rd (pv_var 11)) (PVE.rd pv_int))) (PVE.rd (pv_ix (PVE.rd (pv_var 12)) (PVE.rd pv_int)))))) (sc_law).nd) (ps_cons (ps_asg 14 (pv_if (pt_cmp op_gt ob_gt (PVE.rd (pv_var 13)) (PVE.rd pv_int) (by rfl)) pv_str (pv_if (pt_cmp op_ltA ob_lt (PVE.rd (pv_var 13)) (PVE.rd pv_int) (by rfl)) pv_str pv_str)) (sc_law).nd) (ps_cons (ps_asg 15 (pv_if (pt_cmp (op_neD hr.units) ob_ne (PVE.rd (pv_var 13)) (PVE.rd pv_int) (by rfl)) (pv_call ((ok__law_ratio T).mono (by decide)) hr T.m__law_ratio T.k__law_ratio T.b__law_ratio tk (pa_cons (pv_b1 call_abs cv_abs T.n_abs bt_abs (PVE.rd (pv_var 13))) (pa_cons (pv_bin op_mulW ov_mul (PVE.rd (pv_ix (PVE.rd (pv_var 11)) (PVE.rd pv_int))) (PVE.rd (pv_ix (PVE.rd (pv_var 12)) (PVE.rd pv_int)))) pa_nil))) (pv_tup (pa_cons pv_int (pa_cons pv_int pa_nil)))) (sc_law).nd) (ps_cons (ps_if (pt_not (pt_val (pv_call ((ok__law_strictly T 8).mono (by decide)) hr T.m__law_strictly T.k__law_strictly T.b__law_strictly tk (pa_cons (pv_tup (pa_cons (pv_var 15) (pa_cons (pv_var 14) pa_nil))) (pa_cons (pv_call ((ok_cargo_moved T).mono (by decide)) hr T.m_cargo_moved T.k_cargo_moved T.b_cargo_moved tk (pa_cons (pv_var 5) (pa_cons (pv_ix (PVE.rd (pv_var 8)) (PVE.rd pv_int)) (pa_cons (pv_ix (PVE.rd (pv_var 8)) (PVE.rd pv_int)) pa_nil)))) pa_nil))))) (ps_one (ps_ret pv_bl)) ps_nil) (ps_cons (ps_for (passes_of rfl) rfl (pi_any (PVO.v (pv_lst (pa_cons (pv_ix (PVE.rd (pv_var 1)) (PVE.rd pv_int)) (pa_cons (pv_ix (PVE.rd (pv_ix (pr_var 2) (PVE.rd pv_int))) (PVE.rd pv_int)) (pa_cons (pv_bin op_addA ov_add (PVE.rd (pv_ix (PVE.rd (pv_ix (pr_var 2) (PVE.rd pv_int))) (PVE.rd pv_int))) (PVE.rd pv_int)) (pa_cons (pv_ix (PVE.rd (pv_ix (pr_var 2) (PVE.rd (pv_neg (PVE.rd pv_int))))) (PVE.rd pv_int)) (pa_cons (pv_bin op_addA ov_add (PVE.rd (pv_ix (PVE.rd (pv_ix (pr_var 2) (PVE.rd (pv_neg (PVE.rd pv_int))))) (PVE.rd pv_int))) (PVE.rd pv_int)) (pa_cons pv_int pa_nil))))))))) (pg_name 16 (sc_law).nd) (ps_cons (ps_frz 2 (ps_lcSet 17 [("depth", 9)] rfl (sc_law).nd (pi_rng2 T.n_range (pa_cons (pv_var 6) (pa_cons (pv_bin op_addA ov_add (PVE.rd (pv_var 7)) (PVE.rd pv_int)) pa_nil))) (blkOk_by (N := N_law) (sc := defScope s_law) (by decide +kernel)) (fun s H C cl fp => (pg_name 9 (sc_law).nd)) (fun s H C cl fp => (pts_one (pt_cmp op_ge ob_ge (PVE.rd (pv_ix (PVE.rd (pv_call ((ok__law_tons T).mono (by decide)) hr T.m__law_tons T.k__law_tons T.b__law_tons takes0 (pa_cons (pv_var 2) (pa_cons (pv_var 9) pa_nil)))) (PVE.rd pv_int))) (PVE.rd (pv_bin op_mulW ov_mul (PVE.rd (pv_var 16)) (PVE.rd (pv_ix (PVE.rd (pv_call ((ok__law_tons T).mono (by decide)) hr T.m__law_tons T.k__law_tons T.b__law_tons takes0 (pa_cons (pv_var 2) (pa_cons (pv_var 9) pa_nil)))) (PVE.rd pv_int))))) (by rfl)))) (fun s H C cl fp => (pv_var 9)))) (ps_one (ps_if (PVW.t (pw_and (pt_cmp op_ltA ob_lt (PVE.rd (pv_var 16)) (PVE.rd pv_int) (by rfl)) (pw_and1 (pt_not (pt_val (pv_call ((ok__law_strictly T 8).mono (by decide)) hr T.m__law_strictly T.k__law_strictly T.b__law_strictly tk (pa_cons (pv_if (pt_cmp op_gt ob_gt (PVE.rd (pv_b1 call_lenA cv_len T.n_len bt_len (PVE.rd (pv_var 17)))) (PVE.rd pv_int) (by rfl)) (pv_ix (PVE.rd (pv_var 17)) (PVE.rd pv_int)) pv_non) (pa_cons (pv_call ((ok_depth_for T).mono (by decide)) hr T.m_depth_for T.k_depth_for T.b_depth_for tk (pa_cons (pv_var 5) (pa_cons (pv_var 16) pa_nil))) pa_nil)))))))) (ps_one (ps_ret pv_bl)) ps_nil)))) (ps_cons (ps_asgO 18 (pv_lst pa_nil) (sc_law).nd) (ps_cons (ps_for (passes_of rfl) rfl (pi_rng2 T.n_range (pa_cons pv_int (pa_cons (pv_bin op_sub ov_sub (PVE.rd (pv_b1 call_lenA cv_len T.n_len bt_len (pr_var 2))) (PVE.rd pv_int)) pa_nil))) (pg_name 3 (sc_law).nd) (ps_one (ps_if (pt_cmp (op_eqD hr.units) ob_eq (PVE.rd (pv_call ((ok__law_tons T).mono (by decide)) hr T.m__law_tons T.k__law_tons T.b__law_tons tk (pa_cons (PVO.v (pv_lst (pa_cons (pv_ix (pr_var 2) (PVE.rd (pv_bin op_sub ov_sub (PVE.rd (pv_var 3)) (PVE.rd pv_int)))) (pa_cons (pv_ix (pr_var 2) (PVE.rd (pv_bin op_addA ov_add (PVE.rd (pv_var 3)) (PVE.rd pv_int)))) pa_nil)))) (pa_cons (pv_ix (PVE.rd (pv_ix (pr_var 2) (PVE.rd (pv_var 3)))) (PVE.rd pv_int)) pa_nil)))) (PVE.rd (pv_tup (pa_cons (pv_ix (PVE.rd (pv_ix (pr_var 2) (PVE.rd (pv_var 3)))) (PVE.rd pv_int)) (pa_cons pv_int pa_nil)))) (by rfl)) (ps_one (ps_app 18 (pv_var 3))) ps_nil))) (ps_cons (ps_frz 18 (ps_if (pt_not (pt_val (pv_call ((ok__law_strictly T 8).mono (by decide)) hr T.m__law_strictly T.k__law_strictly T.b__law_strictly tk (pa_cons (pv_var 18) (pa_cons (pv_call ((ok_needless_rows T).mono (by decide)) hr T.m_needless_rows T.k_needless_rows T.b_needless_rows tk (pa_cons (pv_var 5) pa_nil)) pa_nil))))) (ps_one (ps_ret pv_bl)) ps_nil)) (ps_cons (ps_frz 2 (ps_if (pt_not (pt_val (pv_call ((ok__law_strictly T 8).mono (by decide)) hr T.m__law_strictly T.k__law_strictly T.b__law_strictly tk (pa_cons (pv_var 5) (pa_cons (pv_call ((ok__law_told T).mono (by decide)) hr T.m__law_told T.k__law_told T.b__law_told tk (pa_cons pv_int (pa_cons (PVO.v (pv_lst (pa_cons (pv_slice (pr_var 2) pp_no (pp_some (PVE.rd pv_int))) (pa_cons (pv_if (pt_cmp op_gt ob_gt (PVE.rd (pv_b1 call_lenA cv_len T.n_len bt_len (pr_var 2))) (PVE.rd pv_int) (by rfl)) (pv_bin op_addA ov_add (PVE.rd (pv_slice (pr_var 2) pp_no (pp_some (PVE.rd pv_int)))) (PVE.rd (pv_slice (pr_var 2) (pp_some (PVE.rd pv_int)) pp_no))) (pv_var 2)) pa_nil)))) (pa_cons pv_int pa_nil)))) pa_nil))))) (ps_one (ps_ret pv_bl)) ps_nil)) (ps_cons (ps_if (PVW.t (pw_or (pt_cmp (op_neD hr.units) ob_ne (PVE.rd (pv_call ((ok__law_told T).mono (by decide)) hr T.m__law_told T.k__law_told T.b__law_told tk (pa_cons pv_int (pa_cons (pv_var 5) (pa_cons (pv_bin op_sub ov_sub (PVE.rd (pv_var 6)) (PVE.rd pv_int)) pa_nil))))) (PVE.rd (pv_tup (pa_cons pv_str (pa_cons pv_int pa_nil)))) (by rfl)) (pw_or (pt_cmp (op_neD hr.units) ob_ne (PVE.rd (pv_call ((ok__law_told T).mono (by decide)) hr T.m__law_told T.k__law_told T.b__law_told tk (pa_cons pv_int (pa_cons (pv_var 5) (pa_cons (pv_bin op_addA ov_add (PVE.rd (pv_var 7)) (PVE.rd pv_int)) pa_nil))))) (PVE.rd (pv_tup (pa_cons pv_str (pa_cons pv_int pa_nil)))) (by rfl)) (pw_or1 (pt_cmp (op_neD hr.units) ob_ne (PVE.rd (pv_call ((ok__law_told T).mono (by decide)) hr T.m__law_told T.k__law_told T.b__law_told tk (pa_cons pv_int (pa_cons (pv_var 5) (pa_cons (pv_neg (PVE.rd pv_int)) pa_nil))))) (PVE.rd (pv_tup (pa_cons pv_str (pa_cons pv_int pa_nil)))) (by rfl)))))) (ps_one (ps_ret pv_bl)) ps_nil) (ps_cons (ps_asg 19 (pv_ix (PVE.rd (PVO.v (pv_lst (pa_cons (pv_tup (pa_cons (pv_tup (pa_cons (pv_var 7) (pa_cons (pv_bin op_addA ov_add (PVE.rd (pv_ix (PVE.rd (pv_ix (pr_var 2) (PVE.rd (pv_neg (PVE.rd pv_int))))) (PVE.rd pv_int))) (PVE.rd pv_int)) pa_nil))) (pa_cons pv_str pa_nil))) (pa_cons (pv_tup (pa_cons (pv_tup (pa_cons (pv_bin op_addA ov_add (PVE.rd (pv_var 7)) (PVE.rd pv_int)) (pa_cons (pv_ix (PVE.rd (pv_ix (pr_var 2) (PVE.rd (pv_neg (PVE.rd pv_int))))) (PVE.rd pv_int)) pa_nil))) (pa_cons pv_str pa_nil))) (pa_cons (pv_tup (pa_cons (pv_tup (pa_cons pv_int (pa_cons pv_int pa_nil))) (pa_cons pv_str pa_nil))) (pa_cons (pv_tup (pa_cons (pv_tup (pa_cons pv_int (pa_cons pv_int pa_nil))) (pa_cons pv_str pa_nil))) (pa_cons (pv_tup (pa_cons (pv_tup (pa_cons (pv_bin op_addA ov_add (PVE.rd (pv_var 7)) (PVE.rd pv_int)) (pa_cons pv_int pa_nil))) (pa_cons pv_str pa_nil))) (pa_cons (pv_tup (pa_cons (pv_tup (pa_cons (pv_bin op_addA ov_add (PVE.rd (pv_var 7)) (PVE.rd pv_int)) (pa_cons (pv_neg (PVE.rd pv_int)) pa_nil))) (pa_cons pv_str pa_nil))) pa_nil))))))))) (PVE.rd (pv_ix (PVE.rd (pv_var 1)) (PVE.rd pv_int)))) (sc_law).nd) (ps_cons (ps_if (PVW.t (pw_or (pt_cmp (op_neD hr.units) ob_ne (PVE.rd (pv_call ((ok__law_told T).mono (by decide)) hr T.m__law_told T.k__law_told T.b__law_told tk (pa_cons pv_int (pa_cons (pv_bin op_addA ov_add (pr_var 2) (PVE.rd (PVO.v (pv_lst (pa_cons (pv_ix (PVE.rd (pv_var 19)) (PVE.rd pv_int)) pa_nil))))) (pa_cons pv_int pa_nil))))) (PVE.rd (pv_tup (pa_cons (pv_ix (PVE.rd (pv_var 19)) (PVE.rd pv_int)) (pa_cons (pv_b1 call_lenA cv_len T.n_len bt_len (pr_var 2)) pa_nil)))) (by rfl)) (pw_or1 (pt_cmp (op_neD hr.units) ob_ne (PVE.rd (pv_call ((ok__law_told T).mono (by decide)) hr T.m__law_told T.k__law_told T.b__law_told tk (pa_cons pv_int (pa_cons (PVO.v (pv_lst (pa_cons (pv_tup (pa_cons pv_int (pa_cons pv_int pa_nil))) (pa_cons (pv_tup (pa_cons pv_int (pa_cons pv_int pa_nil))) pa_nil)))) (pa_cons pv_int pa_nil))))) (PVE.rd (pv_tup (pa_cons pv_str (pa_cons pv_int pa_nil)))) (by rfl))))) (ps_one (ps_ret pv_bl)) ps_nil) (ps_one (ps_frz 2 (ps_ret (pv_and (pv_cmp (op_eqD hr.units) ob_eq (PVE.rd (pv_call ((ok__law_told T).mono (by decide)) hr T.m__law_told T.k__law_told T.b__law_told tk (pa_cons pv_int (pa_cons (pv_slice (pr_var 2) pp_no (pp_some (PVE.rd pv_int))) (pa_cons pv_int pa_nil))))) (PVE.rd (pv_tup (pa_cons pv_str (pa_cons pv_int pa_nil)))) (by rfl)) (pv_one (pv_cmp (op_eqD hr.units) ob_eq (PVE.rd (pv_call ((ok__law_told T).mono (by decide)) hr T.m__law_told T.k__law_told T.b__law_told tk (pa_cons pv_int (pa_cons (PVO.v (pv_lst (pa_cons (pv_var 2) (pa_cons (PVO.v (pv_lst (pa_cons (pv_tup (pa_cons (pv_var 6) (pa_cons pv_int pa_nil))) (pa_cons (pv_tup (pa_cons (pv_var 7) (pa_cons (pv_bin op_addA ov_add (PVE.rd (pv_ix (PVE.rd (pv_ix (pr_var 2) (PVE.rd (pv_neg (PVE.rd pv_int))))) (PVE.rd pv_int))) (PVE.rd pv_int)) pa_nil))) pa_nil)))) pa_nil)))) (pa_cons pv_int pa_nil))))) (PVE.rd (pv_tup (pa_cons pv_str (pa_cons (pv_b1 call_lenA cv_len T.n_len bt_len (pr_var 2)) pa_nil)))) (by rfl)))))))))))))))))))))))))))))
end
end K47

set_option Elab.async false
set_option linter.all false
set_option maxRecDepth 100000
set_option maxHeartbeats 4000000
namespace K47
open PySem PySem.Spec PyProof.Rows L2 VL
abbrev Row := Int × Int
def eR (r : Row) : D := .tuple [.int r.1, .int r.2]
abbrev eL (rs : List Row) : D := .list (rs.map eR)
abbrev eG (rs : List Row) : D := .tuple (rs.map eR)
theorem ixL {rs : List Row} {i : Nat} {z : Int} {r : Row} (h : rs[i]? = some r) (e : z = i) : dIx (eL rs) (.int z) = some (.tuple [.int r.1, .int r.2]) := dIx_l (n := i) e (by rw [List.getElem?_map, h]; rfl)
theorem ixG {rs : List Row} {i : Nat} {z : Int} {r : Row} (h : rs[i]? = some r) (e : z = i) : dIx (eG rs) (.int z) = some (.tuple [.int r.1, .int r.2]) := dIx_t (n := i) e (by rw [List.getElem?_map, h]; rfl)
theorem ixLl {rs : List Row} {r : Row} (h : rs.getLast? = some r) : dIx (eL rs) (.int (-1)) = some (.tuple [.int r.1, .int r.2]) := dIx_ll (by rw [List.getLast?_map, h]; rfl)
theorem ixGl {rs : List Row} {r : Row} (h : rs.getLast? = some r) : dIx (eG rs) (.int (-1)) = some (.tuple [.int r.1, .int r.2]) := dIx_tl (by rw [List.getLast?_map, h]; rfl)

/-! ### make_gauge -/
def NumOk (r : Row) : Prop := (1 ≤ r.1 ∧ r.1 ≤ 99) ∧ (0 ≤ r.2 ∧ r.2 ≤ 100000)
def OrdOk (rs : List Row) (i : Nat) (r : Row) : Prop := (i = 0 → r.2 = 0) ∧ ∀ p, 0 < i → rs[i - 1]? = some p → p.1 < r.1 ∧ p.2 < r.2
theorem mg_ok {rs : List Row} {i : Nat} {z : Int} {r : Row} {x2 x3 x4 : Option LV} (hr : rs[i]? = some r) (hz : z = i) (hn : NumOk r) (ho : OrdOk rs i r) :
    g_make_gauge_1b [some (.fz (eL rs)), some (.fz (.int z)), x2, x3, x4] = .nx [some (.fz (eL rs)), some (.fz (.int z)), some (.fz (.int r.1)), some (.fz (.int r.2)), x4] := by
  unfold g_make_gauge_1b
  have hx := ixL hr hz
  by_cases h0 : i = 0
  · have ht : (r.2 = 0) = True := eq_true (ho.1 h0)
    have e1 : (z = 0) = True := eq_true (by omega)
    have e2 : ¬ (0 < z) := by omega
    simp! [hx, num_yes hn.1, num_yes hn.2, dEq_i, dNe_i, e1, e2, ht]
  · obtain ⟨p, hp⟩ : ∃ p, rs[i - 1]? = some p := ⟨_, List.getElem?_eq_getElem (by have := (List.getElem?_eq_some_iff.mp hr).1; omega)⟩
    have hq := ho.2 p (by omega) hp
    have hxp := ixL hp (show z - 1 = ((i - 1 : Nat) : Int) by omega)
    have e1 : ¬ (z = 0) := by omega
    have e2 : 0 < z := by omega
    have e3 : ¬ (r.1 ≤ p.1) := by omega
    have e4 : ¬ (r.2 ≤ p.2) := by omega
    simp! [hx, hxp, num_yes hn.1, num_yes hn.2, dEq_i, dNe_i, e1, e2, e3, e4]
theorem mg_rai {w : Str} (hw : w.length ≤ 1000) {i : Nat} {z : Int} (hz : z = i) (hi : i ≤ 100) {x0 x2 x3 x4 : Option LV} : raiS "PlanError" ["what", "place"] (consA (kS w) (consA (var 1) nilA)) [x0, some (.fz (.int z)), x2, x3, x4] = .ex (planE w i) [x0, some (.fz (.int z)), x2, x3, x4] := by
  subst hz
  exact rai2 (by simp! []) hw (by omega) (by omega)
theorem mg_num {rs : List Row} {i : Nat} {z : Int} {r : Row} {x2 x3 x4 : Option LV} (hr : rs[i]? = some r) (hz : z = i) (hn : ¬ NumOk r) (hi : i ≤ 100) :
    g_make_gauge_1b [some (.fz (eL rs)), some (.fz (.int z)), x2, x3, x4] = .ex (planE "numbers" i) [some (.fz (eL rs)), some (.fz (.int z)), some (.fz (.int r.1)), some (.fz (.int r.2)), x4] := by
  have hx := ixL hr hz
  unfold g_make_gauge_1b
  by_cases h1 : 1 ≤ r.1 ∧ r.1 ≤ 99
  · have h2 : ¬ (0 ≤ r.2 ∧ r.2 ≤ 100000) := fun h => hn ⟨h1, h⟩
    simp! [hx, num_yes h1, num_no h2, mg_rai (w := "numbers") (by decide) hz hi]
  · simp! [hx, num_no h1, mg_rai (w := "numbers") (by decide) hz hi]
theorem mg_ord {rs : List Row} {i : Nat} {z : Int} {r : Row} {x2 x3 x4 : Option LV} (hr : rs[i]? = some r) (hz : z = i) (hn : NumOk r) (ho : (i = 0 ∧ r.2 ≠ 0) ∨ (0 < i ∧ ∃ p, rs[i - 1]? = some p ∧ (r.1 ≤ p.1 ∨ r.2 ≤ p.2))) (hi : i ≤ 100) :
    g_make_gauge_1b [some (.fz (eL rs)), some (.fz (.int z)), x2, x3, x4] = .ex (planE "order" i) [some (.fz (eL rs)), some (.fz (.int z)), some (.fz (.int r.1)), some (.fz (.int r.2)), x4] := by
  have hx := ixL hr hz
  unfold g_make_gauge_1b
  rcases ho with ⟨h0, ht⟩ | ⟨h0, p, hp, hq⟩
  · have e1 : (z = 0) = True := eq_true (by omega)
    simp! [hx, num_yes hn.1, num_yes hn.2, dEq_i, dNe_i, e1, ht, mg_rai (w := "order") (by decide) hz hi]
  · have hxp := ixL hp (show z - 1 = ((i - 1 : Nat) : Int) by omega)
    have e1 : ¬ (z = 0) := by omega
    have e2 : 0 < z := by omega
    by_cases e3 : r.1 ≤ p.1
    · simp! [hx, hxp, num_yes hn.1, num_yes hn.2, dEq_i, dNe_i, e1, e2, e3, mg_rai (w := "order") (by decide) hz hi]
    · have e4 : r.2 ≤ p.2 := by
        rcases hq with h | h
        · exact absurd h e3
        · exact h
      simp! [hx, hxp, num_yes hn.1, num_yes hn.2, dEq_i, dNe_i, e1, e2, e3, e4, mg_rai (w := "order") (by decide) hz hi]
theorem mg_start {rs : List Row} (h1 : 2 ≤ rs.length) (h2 : rs.length ≤ 60) : g_make_gauge_0 [some (.fz (eL rs)), none, none, none, none] = .nx [some (.fz (eL rs)), none, none, none, none] := by
  unfold g_make_gauge_0
  have e1 : ¬ ((rs.length : Int) < 2) := by omega
  have e2 : ¬ ((60 : Int) < (rs.length : Int)) := by omega
  simp! [e1, e2]
def InvMg (rs : List Row) (_ : Nat) (ρ : Rho) : Prop := ∃ x1 x2 x3, ρ = [some (.fz (eL rs)), x1, x2, x3, none]
theorem mg_turn {rs : List Row} {i : Nat} {d : D} {ρ : Rho} (hi : (rngD 0 rs.length)[i]? = some d) (hp : InvMg rs i ρ) (hf : ∀ r, rs[i]? = some r → NumOk r ∧ OrdOk rs i r) : ∃ ρ1, tgN 1 d ρ = some ρ1 ∧ OutQ (g_make_gauge_1b ρ1) (InvMg rs (i + 1)) := by
  obtain ⟨x1, x2, x3, rfl⟩ := hp
  obtain ⟨hi2, rfl⟩ := rngD_get' hi
  obtain ⟨r, hr⟩ : ∃ r, rs[i]? = some r := ⟨_, List.getElem?_eq_getElem hi2⟩
  refine ⟨_, rfl, ?_⟩
  have := mg_ok (x2 := x2) (x3 := x3) (x4 := none) hr (show (0 + (i : Nat) : Int) = i by omega) (hf r hr).1 (hf r hr).2
  simp only [List.set_cons_succ, List.set_cons_zero, this, OutQ_nx]
  exact ⟨_, _, _, rfl⟩
theorem make_ok {rs : List Row} (h1 : 2 ≤ rs.length) (h2 : rs.length ≤ 60) (hf : ∀ i r, rs[i]? = some r → NumOk r ∧ OrdOk rs i r) : F_make_gauge [eL rs] = .ok (eG rs) := by
  unfold F_make_gauge G_make_gauge bodyV
  have hs : startV 5 [eL rs] = [some (.fz (eL rs)), none, none, none, none] := rfl
  rw [hs, seq_nx (mg_start h1 h2)]
  obtain ⟨ρ', h3, x1, x2, x3, rfl⟩ := fors (t := tgN 1) (g := g_make_gauge_1b) (fi := rng1 (consA (un (var 0) dLen) nilA)) (ρ := [some (.fz (eL rs)), none, none, none, none]) (InvMg rs)
    (rng1_of rs.length (by simp! []) rfl (by omega)) ⟨_, _, _, rfl⟩ fun i d ρ hi hp => mg_turn hi hp fun r hr => hf i r hr
  rw [seq_nx (by unfold g_make_gauge_1; exact h3)]
  unfold g_make_gauge_2
  have h4 : lcV (itR (var 0)) (tgN 4) tT (un (var 4) dTup) [4] [some (.fz (eL rs)), x1, x2, x3, none] = .ok (rs.map eR) := by
    have := lcV_map (fi := itR (var 0)) (t := tgN 4) (f := un (var 4) dTup) (vs := [4]) (ρ := [some (.fz (eL rs)), x1, x2, x3, none]) (ds := rs.map eR) id (by simp! []) (by rw [List.length_map]; omega) (by
      intro d hd
      obtain ⟨r, _, rfl⟩ := List.mem_map.mp hd
      refine ⟨_, rfl, ?_⟩
      unfold wipeR wipeR eR
      simp! [id])
    rw [List.map_id] at this
    exact this
  simp! [h4]
theorem make_ex {rs : List Row} {k : Nat} {w : Str} {x4 : Option LV} (h1 : 2 ≤ rs.length) (h2 : rs.length ≤ 60) (hk : k < rs.length) (hf : ∀ i r, i < k → rs[i]? = some r → NumOk r ∧ OrdOk rs i r)
    (ρx : Rho) (he : ∀ x2 x3, g_make_gauge_1b [some (.fz (eL rs)), some (.fz (.int (0 + (k : Nat)))), x2, x3, none] = .ex (planE w k) ρx) : F_make_gauge [eL rs] = .ex (planE w k) := by
  unfold F_make_gauge G_make_gauge bodyV
  have hs : startV 5 [eL rs] = [some (.fz (eL rs)), none, none, none, none] := rfl
  rw [hs, seq_nx (mg_start h1 h2)]
  have h3 := fors_stop (t := tgN 1) (g := g_make_gauge_1b) (fi := rng1 (consA (un (var 0) dLen) nilA)) (ρ := [some (.fz (eL rs)), none, none, none, none]) (InvMg rs) k (.int (0 + (k : Nat))) (.ex (planE w k) ρx)
    (rng1_of rs.length (by simp! []) rfl (by omega)) ⟨_, _, _, rfl⟩ (rngD_get hk) (fun i d ρ hi hd hp => mg_turn hd hp fun r hr => hf i r hi hr) (by
      rintro ρ ⟨x1, x2, x3, rfl⟩
      refine ⟨_, rfl, ?_⟩
      simp only [List.set_cons_succ, List.set_cons_zero, he, stop_ex])
  rw [seq_ex (by unfold g_make_gauge_1; exact h3)]
theorem make_few {rs : List Row} (h : rs.length < 2) : F_make_gauge [eL rs] = .ex (planE "number of rows" 0) := by
  unfold F_make_gauge G_make_gauge g_make_gauge_0
  have e1 : (rs.length : Int) < 2 := by omega
  have e2 : ∀ ρ, raiS "PlanError" ["what", "place"] (consA (kS "number of rows") (consA (kI 0) nilA)) ρ = .ex (planE "number of rows" 0) ρ := fun ρ => rai2 (by simp! []) (by decide) (by omega) (by omega)
  simp! [e1, e2]
/-- the order fails at the k-th row -/
theorem make_ord {rs : List Row} {k : Nat} {r : Row} (h1 : 2 ≤ rs.length) (h2 : rs.length ≤ 60) (hr : rs[k]? = some r) (hf : ∀ i r, i < k → rs[i]? = some r → NumOk r ∧ OrdOk rs i r) (hn : NumOk r)
    (ho : (k = 0 ∧ r.2 ≠ 0) ∨ (0 < k ∧ ∃ p, rs[k - 1]? = some p ∧ (r.1 ≤ p.1 ∨ r.2 ≤ p.2))) : F_make_gauge [eL rs] = .ex (planE "order" k) :=
  have hk := (List.getElem?_eq_some_iff.mp hr).1
  make_ex (x4 := none) h1 h2 hk hf _ fun x2 x3 => mg_ord hr (by omega) hn ho (by omega)
theorem make_num {rs : List Row} {k : Nat} {r : Row} (h1 : 2 ≤ rs.length) (h2 : rs.length ≤ 60) (hr : rs[k]? = some r) (hf : ∀ i r, i < k → rs[i]? = some r → NumOk r ∧ OrdOk rs i r) (hn : ¬ NumOk r) : F_make_gauge [eL rs] = .ex (planE "numbers" k) :=
  have hk := (List.getElem?_eq_some_iff.mp hr).1
  make_ex (x4 := none) h1 h2 hk hf _ fun x2 x3 => mg_num hr (by omega) hn (by omega)
end K47

set_option Elab.async false
set_option linter.all false
set_option maxRecDepth 100000
set_option maxHeartbeats 4000000
namespace K47
open PySem PySem.Spec PyProof.Rows L2 VL
theorem plan0 {w : Str} (hw : w.length ≤ 1000) (ρ : Rho) : raiS "PlanError" ["what", "place"] (consA (kS w) (consA (kI 0) nilA)) ρ = .ex (planE w 0) ρ := rai2 (by simp! []) hw (by omega) (by omega)
theorem eR_eq (r : Row) : eR r = .tuple [.int r.1, .int r.2] := rfl
theorem check_ok {rs : List Row} {a z : Row} {dp : Int} (h0 : rs[0]? = some a) (hl : rs.getLast? = some z) (h : a.1 ≤ dp ∧ dp ≤ z.1) : F__check_depth [eG rs, .int dp] = .ok .none := by
  unfold F__check_depth G__check_depth g__check_depth_0
  simp! [ixG h0 (show (0 : Int) = (0 : Nat) from rfl), ixGl hl, num_yes h]
theorem check_ex {rs : List Row} {a z : Row} {dp : Int} (h0 : rs[0]? = some a) (hl : rs.getLast? = some z) (h : ¬ (a.1 ≤ dp ∧ dp ≤ z.1)) : F__check_depth [eG rs, .int dp] = .ex (planE "depth" 0) := by
  unfold F__check_depth G__check_depth g__check_depth_0
  simp! [ixG h0 (show (0 : Int) = (0 : Nat) from rfl), ixGl hl, num_no h, plan0 (w := "depth") (by decide)]
def Rng (r : Row) : Prop := 1 ≤ r.1 ∧ r.1 ≤ 99 ∧ 0 ≤ r.2 ∧ r.2 ≤ 100000
/-- what the depth dp carries, between lo and hi -/
def tTop (lo hi : Row) (dp : Int) : Int := lo.2 * (hi.1 - lo.1) + (dp - lo.1) * (hi.2 - lo.2)
theorem tTop_eq (lo hi : Row) (dp : Int) : lo.2 * (hi.1 - dp) + hi.2 * (dp - lo.1) = tTop lo hi dp := by unfold tTop; grind
theorem tTop_nn {lo hi : Row} {dp : Int} (h1 : Rng lo) (h2 : Rng hi) (h3 : lo.1 ≤ dp) (h4 : dp ≤ hi.1) : 0 ≤ tTop lo hi dp := by
  rw [← tTop_eq]
  have a := Int.mul_nonneg h1.2.2.1 (show 0 ≤ hi.1 - dp by omega)
  have b := Int.mul_nonneg h2.2.2.1 (show 0 ≤ dp - lo.1 by omega)
  omega
theorem tTop_le {lo hi : Row} {dp : Int} (h1 : Rng lo) (h2 : Rng hi) (h3 : lo.1 ≤ dp) (h4 : dp ≤ hi.1) : tTop lo hi dp ≤ 20000000 := by
  rw [← tTop_eq]
  obtain ⟨a1, a2, a3, a4⟩ := h1
  obtain ⟨b1, b2, b3, b4⟩ := h2
  have a := Int.mul_le_mul a4 (show hi.1 - dp ≤ 100 by omega) (by omega) (by omega)
  have b := Int.mul_le_mul b4 (show dp - lo.1 ≤ 100 by omega) (by omega) (by omega)
  omega
theorem ta_skip {rs : List Row} {i : Nat} {z dp : Int} {lo hi : Row} {x3 x4 x5 : Option LV} (hz : z = 1 + (i : Nat)) (h1 : rs[i]? = some lo) (h2 : rs[i + 1]? = some hi) (h : hi.1 < dp) :
    g_tons_at_1b [some (.fz (eG rs)), some (.fz (.int dp)), some (.fz (.int z)), x3, x4, x5] = .nx [some (.fz (eG rs)), some (.fz (.int dp)), some (.fz (.int z)), some (.fz (eR lo)), some (.fz (eR hi)), x5] := by
  have e1 := ixG h1 (show z - 1 = (i : Int) by omega)
  have e2 := ixG h2 (show z = ((i + 1 : Nat) : Int) by omega)
  have e3 : ¬ (dp ≤ hi.1) := by omega
  unfold g_tons_at_1b
  simp! [e1, e2, e3, eR_eq]
theorem ta_stop {rs : List Row} {i : Nat} {z dp : Int} {lo hi : Row} {x3 x4 x5 : Option LV} (hz : z = 1 + (i : Nat)) (h1 : rs[i]? = some lo) (h2 : rs[i + 1]? = some hi) (r1 : Rng lo) (r2 : Rng hi) (hlt : lo.1 < hi.1) (h3 : lo.1 ≤ dp) (h4 : dp ≤ hi.1) :
    g_tons_at_1b [some (.fz (eG rs)), some (.fz (.int dp)), some (.fz (.int z)), x3, x4, x5] = .rt (rat (tTop lo hi dp) (hi.1 - lo.1)) := by
  have e1 := ixG h1 (show z - 1 = (i : Int) by omega)
  have e2 := ixG h2 (show z = ((i + 1 : Nat) : Int) by omega)
  have hr := ratio_ok (tTop_nn r1 r2 h3 h4) (show 0 < hi.1 - lo.1 by omega) (by have := r2.2.1; have := r1.1; omega)
  obtain ⟨a1, a2, a3, a4⟩ := r1
  obtain ⟨b1, b2, b3, b4⟩ := r2
  have m1 := dMul_s (i := dp - lo.1) (j := hi.2 - lo.2) (by omega) (by omega) (by omega) (by omega)
  have m2 := dMul_s (i := lo.2) (j := hi.1 - lo.1) (by omega) (by omega) (by omega) (by omega)
  unfold tTop at hr
  unfold g_tons_at_1b tTop
  simp! [e1, e2, h4, m1, m2, hr]
theorem lt_skip {rs : List Row} {i : Nat} {z dp : Int} {lo hi : Row} {x3 x4 x5 : Option LV} (hz : z = 1 + (i : Nat)) (h1 : rs[i]? = some lo) (h2 : rs[i + 1]? = some hi) (hlt : lo.1 ≤ dp) (h : hi.1 < dp) :
    g__law_tons_0b [some (.fz (eL rs)), some (.fz (.int dp)), some (.fz (.int z)), x3, x4, x5] = .nx [some (.fz (eL rs)), some (.fz (.int dp)), some (.fz (.int z)), x3, x4, x5] := by
  have e1 := ixL h1 (show z - 1 = (i : Int) by omega)
  have e2 := ixL h2 (show z = ((i + 1 : Nat) : Int) by omega)
  have e3 : ¬ (dp ≤ hi.1) := by omega
  unfold g__law_tons_0b
  simp! [e1, e2, e3, hlt]
theorem lt_stop {rs : List Row} {i : Nat} {z dp : Int} {lo hi : Row} {x3 x4 x5 : Option LV} (hz : z = 1 + (i : Nat)) (h1 : rs[i]? = some lo) (h2 : rs[i + 1]? = some hi) (r1 : Rng lo) (r2 : Rng hi) (hlt : lo.1 < hi.1) (h3 : lo.1 ≤ dp) (h4 : dp ≤ hi.1) :
    g__law_tons_0b [some (.fz (eL rs)), some (.fz (.int dp)), some (.fz (.int z)), x3, x4, x5] = .rt (rat (tTop lo hi dp) (hi.1 - lo.1)) := by
  have e1 := ixL h1 (show z - 1 = (i : Int) by omega)
  have e2 := ixL h2 (show z = ((i + 1 : Nat) : Int) by omega)
  have hnn := tTop_nn r1 r2 h3 h4
  have hr := lratio_ok hnn (show 0 < hi.1 - lo.1 by omega) (by have := r2.2.1; have := r1.1; omega)
  have hb : 0 < hi.1 - lo.1 := by omega
  obtain ⟨a1, a2, a3, a4⟩ := r1
  obtain ⟨b1, b2, b3, b4⟩ := r2
  have m1 := dMul_s (i := lo.2) (j := hi.1 - dp) (by omega) (by omega) (by omega) (by omega)
  have m2 := dMul_s (i := hi.2) (j := dp - lo.1) (by omega) (by omega) (by omega) (by omega)
  unfold g__law_tons_0b
  by_cases c : 0 < tTop lo hi dp
  · simp! [e1, e2, h3, h4, m1, m2, tTop_eq, c, hr]
  · have c0 : tTop lo hi dp = 0 := by omega
    simp! [e1, e2, h3, h4, m1, m2, tTop_eq, c0, Int.lt_irrefl, rat_zero hb]
theorem law_tons_ok {rs : List Row} {k : Nat} {dp : Int} {lo hi : Row} (hlen : rs.length ≤ 100) (hn : ∀ (i : Nat) (r : Row), rs[i]? = some r → Rng r) (h1 : rs[k]? = some lo) (h2 : rs[k + 1]? = some hi) (hlt : lo.1 < hi.1) (h3 : lo.1 ≤ dp) (h4 : dp ≤ hi.1)
    (hb : ∀ (i : Nat) (a b : Row), i < k → rs[i]? = some a → rs[i + 1]? = some b → a.1 ≤ dp ∧ b.1 < dp) : F__law_tons [eL rs, .int dp] = .ok (rat (tTop lo hi dp) (hi.1 - lo.1)) := by
  have hk := (List.getElem?_eq_some_iff.mp h2).1
  unfold F__law_tons G__law_tons bodyV
  have hs : startV 6 [eL rs, .int dp] = [some (.fz (eL rs)), some (.fz (.int dp)), none, none, none, none] := rfl
  have h5 := fors_stop (t := tgN 2) (g := g__law_tons_0b) (fi := rng2 (consA (kI 1) (consA (un (var 0) dLen) nilA))) (ρ := [some (.fz (eL rs)), some (.fz (.int dp)), none, none, none, none])
    (fun _ ρ => ∃ x2 x3 x4 x5, ρ = [some (.fz (eL rs)), some (.fz (.int dp)), x2, x3, x4, x5]) k (.int (1 + (k : Nat))) (.rt (rat (tTop lo hi dp) (hi.1 - lo.1)))
    (rng2_of (j := (rs.length : Nat)) (rs.length - 1) (by simp! []) (by omega) (by omega) (by omega) (by omega) (by omega)) ⟨_, _, _, _, rfl⟩ (rngD_get (by omega)) (by
      rintro i d ρ hi' hd ⟨x2, x3, x4, x5, rfl⟩
      obtain ⟨hi2, rfl⟩ := rngD_get' hd
      obtain ⟨a, ha⟩ : ∃ r, rs[i]? = some r := ⟨_, List.getElem?_eq_getElem (by omega)⟩
      obtain ⟨b, hb'⟩ : ∃ r, rs[i + 1]? = some r := ⟨_, List.getElem?_eq_getElem (by omega)⟩
      obtain ⟨q1, q2⟩ := hb i a b hi' ha hb'
      refine ⟨_, rfl, ?_⟩
      simp only [List.set_cons_succ, List.set_cons_zero, lt_skip (show (1 + (i : Nat) : Int) = 1 + (i : Nat) from rfl) ha hb' q1 q2, OutQ_nx]
      exact ⟨_, _, _, _, rfl⟩) (by
      rintro ρ ⟨x2, x3, x4, x5, rfl⟩
      refine ⟨_, rfl, ?_⟩
      simp only [List.set_cons_succ, List.set_cons_zero, lt_stop (show (1 + (k : Nat) : Int) = 1 + (k : Nat) from rfl) h1 h2 (hn _ _ h1) (hn _ _ h2) hlt h3 h4, stop_rt])
  rw [hs, seq_rt (by unfold g__law_tons_0; exact h5)]
theorem tons_at_ok {rs : List Row} {k : Nat} {dp : Int} {lo hi a z : Row} (hlen : rs.length ≤ 100) (hn : ∀ (i : Nat) (r : Row), rs[i]? = some r → Rng r) (h0 : rs[0]? = some a) (hl : rs.getLast? = some z) (h : a.1 ≤ dp ∧ dp ≤ z.1) (h1 : rs[k]? = some lo) (h2 : rs[k + 1]? = some hi) (hlt : lo.1 < hi.1) (h3 : lo.1 ≤ dp) (h4 : dp ≤ hi.1)
    (hb : ∀ (i : Nat) (a b : Row), i < k → rs[i]? = some a → rs[i + 1]? = some b → a.1 ≤ dp ∧ b.1 < dp) : F_tons_at [eG rs, .int dp] = .ok (rat (tTop lo hi dp) (hi.1 - lo.1)) := by
  have hk := (List.getElem?_eq_some_iff.mp h2).1
  unfold F_tons_at G_tons_at bodyV
  have hs : startV 6 [eG rs, .int dp] = [some (.fz (eG rs)), some (.fz (.int dp)), none, none, none, none] := rfl
  rw [hs, seq_nx (by unfold g_tons_at_0; simp! [check_ok h0 hl h]; rfl)]
  have h5 := fors_stop (t := tgN 2) (g := g_tons_at_1b) (fi := rng2 (consA (kI 1) (consA (un (var 0) dLen) nilA))) (ρ := [some (.fz (eG rs)), some (.fz (.int dp)), none, none, none, none])
    (fun _ ρ => ∃ x2 x3 x4 x5, ρ = [some (.fz (eG rs)), some (.fz (.int dp)), x2, x3, x4, x5]) k (.int (1 + (k : Nat))) (.rt (rat (tTop lo hi dp) (hi.1 - lo.1)))
    (rng2_of (j := (rs.length : Nat)) (rs.length - 1) (by simp! []) (by omega) (by omega) (by omega) (by omega) (by omega)) ⟨_, _, _, _, rfl⟩ (rngD_get (by omega)) (by
      rintro i d ρ hi' hd ⟨x2, x3, x4, x5, rfl⟩
      obtain ⟨hi2, rfl⟩ := rngD_get' hd
      obtain ⟨a, ha⟩ : ∃ r, rs[i]? = some r := ⟨_, List.getElem?_eq_getElem (by omega)⟩
      obtain ⟨b, hb'⟩ : ∃ r, rs[i + 1]? = some r := ⟨_, List.getElem?_eq_getElem (by omega)⟩
      obtain ⟨q1, q2⟩ := hb i a b hi' ha hb'
      refine ⟨_, rfl, ?_⟩
      simp only [List.set_cons_succ, List.set_cons_zero, ta_skip (show (1 + (i : Nat) : Int) = 1 + (i : Nat) from rfl) ha hb' q2, OutQ_nx]
      exact ⟨_, _, _, _, rfl⟩) (by
      rintro ρ ⟨x2, x3, x4, x5, rfl⟩
      refine ⟨_, rfl, ?_⟩
      simp only [List.set_cons_succ, List.set_cons_zero, ta_stop (show (1 + (k : Nat) : Int) = 1 + (k : Nat) from rfl) h1 h2 (hn _ _ h1) (hn _ _ h2) hlt h3 h4, stop_rt])
  rw [seq_rt (by unfold g_tons_at_1; exact h5)]
end K47

set_option Elab.async false
set_option linter.all false
set_option maxRecDepth 100000
set_option maxHeartbeats 4000000
namespace K47
open PySem PySem.Spec PyProof.Rows L2 VL
structure Good (rs : List Row) : Prop where
  two : 2 ≤ rs.length
  six : rs.length ≤ 10
  num : ∀ (i : Nat) (r : Row), rs[i]? = some r → 1 ≤ r.1 ∧ r.1 ≤ 90 ∧ 0 ≤ r.2 ∧ r.2 ≤ 99990
  zero : ∀ r : Row, rs[0]? = some r → r.2 = 0
  inc : ∀ (i : Nat) (a b : Row), rs[i]? = some a → rs[i + 1]? = some b → a.1 < b.1 ∧ a.2 < b.2
section
variable {rs : List Row}
theorem Good.rng (G : Good rs) : ∀ (i : Nat) (r : Row), rs[i]? = some r → Rng r := fun i r h => by
  have := G.num i r h
  unfold Rng
  omega
theorem Good.mono (G : Good rs) : ∀ (j i : Nat) (a b : Row), i < j → rs[i]? = some a → rs[j]? = some b → a.1 < b.1 ∧ a.2 < b.2
  | 0, i, a, b, h, _, _ => absurd h (Nat.not_lt_zero _)
  | j + 1, i, a, b, h, h1, h2 => by
    by_cases c : i = j
    · subst c; exact G.inc _ _ _ h1 h2
    · obtain ⟨m, hm⟩ : ∃ r, rs[j]? = some r := ⟨_, List.getElem?_eq_getElem (by have := (List.getElem?_eq_some_iff.mp h2).1; omega)⟩
      have q1 := G.mono j i a m (by omega) h1 hm
      have q2 := G.inc _ _ _ hm h2
      omega
theorem Good.fine (G : Good rs) : ∀ (i : Nat) (r : Row), rs[i]? = some r → NumOk r ∧ OrdOk rs i r := fun i r h => by
  have q := G.num i r h
  refine ⟨by unfold NumOk; omega, fun e => ?_, fun p hi hp => ?_⟩
  · subst e; exact G.zero r h
  · obtain ⟨i, rfl⟩ : ∃ j, i = j + 1 := ⟨i - 1, by omega⟩
    exact G.inc i p r (by simpa using hp) h
theorem Good.make (G : Good rs) : F_make_gauge [eL rs] = .ok (eG rs) := make_ok G.two (by have := G.six; omega) G.fine
theorem Good.ends (G : Good rs) : ∃ a z : Row, rs[0]? = some a ∧ rs.getLast? = some z ∧ rs[rs.length - 1]? = some z ∧ a.1 < z.1 := by
  obtain ⟨a, ha⟩ : ∃ r, rs[0]? = some r := ⟨_, List.getElem?_eq_getElem (by have := G.two; omega)⟩
  obtain ⟨z, hz⟩ : ∃ r, rs[rs.length - 1]? = some r := ⟨_, List.getElem?_eq_getElem (by have := G.two; omega)⟩
  exact ⟨a, z, ha, by rw [List.getLast?_eq_getElem?]; exact hz, hz, (G.mono _ 0 a z (by have := G.two; omega) ha hz).1⟩
/-- the step that dp lies on -/
theorem Good.seg (G : Good rs) {a : Row} {dp : Int} (h0 : rs[0]? = some a) (h : a.1 ≤ dp) : ∀ (n : Nat) (z : Row), rs[n + 1]? = some z → dp ≤ z.1 →
    ∃ (k : Nat) (lo hi : Row), rs[k]? = some lo ∧ rs[k + 1]? = some hi ∧ lo.1 < hi.1 ∧ lo.1 ≤ dp ∧ dp ≤ hi.1 ∧ ∀ (i : Nat) (p q : Row), i < k → rs[i]? = some p → rs[i + 1]? = some q → p.1 ≤ dp ∧ q.1 < dp
  | 0, z, hz, hd => ⟨0, a, z, h0, hz, (G.inc 0 a z h0 hz).1, h, hd, fun i p q hi => absurd hi (Nat.not_lt_zero _)⟩
  | n + 1, z, hz, hd => by
    obtain ⟨m, hm⟩ : ∃ r, rs[n + 1]? = some r := ⟨_, List.getElem?_eq_getElem (by have := (List.getElem?_eq_some_iff.mp hz).1; omega)⟩
    by_cases c : dp ≤ m.1
    · exact G.seg h0 h n m hm c
    · refine ⟨n + 1, m, z, hm, hz, (G.inc _ _ _ hm hz).1, by omega, hd, fun i p q hi hp hq => ?_⟩
      have q1 := G.inc _ _ _ hp hq
      by_cases e : i + 1 = n + 1
      · rw [e, hm] at hq
        cases hq
        omega
      · have q2 := G.mono (n + 1) (i + 1) q m (by omega) hq hm
        omega
/-- both ways give the same share, in least terms -/
def Tn (rs : List Row) (dp : Int) (v : Int × Int) : Prop := F_tons_at [eG rs, .int dp] = .ok (.tuple [.int v.1, .int v.2]) ∧ F__law_tons [eL rs, .int dp] = .ok (.tuple [.int v.1, .int v.2]) ∧ 0 ≤ v.1 ∧ v.1 ≤ 20000000 ∧ 0 < v.2 ∧ v.2 ≤ 100
theorem rat_bd {t b : Int} (h1 : 0 ≤ t) (h2 : 0 < b) : 0 ≤ t / gcdI t b ∧ t / gcdI t b ≤ t ∧ 0 < b / gcdI t b ∧ b / gcdI t b ≤ b := by
  have g := gcdI_pos (a := t) h2
  have g2 := gcdI_le (a := t) h2
  refine ⟨Int.ediv_nonneg h1 (by omega), Int.ediv_le_self _ h1, ?_, Int.ediv_le_self _ (by omega)⟩
  exact Int.ediv_pos_of_pos_of_dvd h2 (by omega) (gcdI_dvd_r (by omega))
theorem Good.tons (G : Good rs) {a z : Row} (h0 : rs[0]? = some a) (hl : rs.getLast? = some z) : ∃ f : Int → Int × Int, ∀ dp, a.1 ≤ dp → dp ≤ z.1 → Tn rs dp (f dp) := by
  have : ∀ dp : Int, ∃ v : Int × Int, a.1 ≤ dp → dp ≤ z.1 → Tn rs dp v := by
    intro dp
    by_cases c : a.1 ≤ dp ∧ dp ≤ z.1
    · have hz : rs[(rs.length - 2) + 1]? = some z := by
        rw [List.getLast?_eq_getElem?] at hl
        have := G.two
        rw [show rs.length - 2 + 1 = rs.length - 1 by omega]
        exact hl
      obtain ⟨k, lo, hi, h1, h2, h3, h4, h5, h6⟩ := G.seg h0 c.1 (rs.length - 2) z hz c.2
      have e1 := tons_at_ok (by have := G.six; omega) G.rng h0 hl c h1 h2 h3 h4 h5 h6
      have e2 := law_tons_ok (by have := G.six; omega) G.rng h1 h2 h3 h4 h5 h6
      have r1 := G.rng _ _ h1
      have r2 := G.rng _ _ h2
      have q := rat_bd (tTop_nn r1 r2 h4 h5) (show 0 < hi.1 - lo.1 by omega)
      have q2 := tTop_le r1 r2 h4 h5
      refine ⟨(tTop lo hi dp / gcdI (tTop lo hi dp) (hi.1 - lo.1), (hi.1 - lo.1) / gcdI (tTop lo hi dp) (hi.1 - lo.1)), fun _ _ => ⟨e1, e2, q.1, by have := q.2.1; omega, q.2.2.1, ?_⟩⟩
      have := q.2.2.2
      have := r2.2.1
      have := r1.1
      omega
    · exact ⟨(0, 0), fun h1 h2 => absurd ⟨h1, h2⟩ c⟩
  exact Classical.axiomOfChoice this
/-- from the top of the gauge to the foot -/
theorem depth_ok (G : Good rs) {a z : Row} (h0 : rs[0]? = some a) (hl : rs.getLast? = some z) {f : Int → Int × Int} (hf : ∀ dp, a.1 ≤ dp → dp ≤ z.1 → Tn rs dp (f dp)) {tons : Int} (ht : 0 ≤ tons ∧ tons ≤ 100000) :
    F_depth_for [eG rs, .int tons] = .ok (((rngD a.1 (z.1 + 1 - a.1).toNat).filter fun d => match d with | .int y => decide (tons * (f y).2 ≤ (f y).1) | _ => false).headD .none) := by
  have ra := G.num _ _ h0
  have hz : rs[rs.length - 1]? = some z := by rw [List.getLast?_eq_getElem?] at hl; exact hl
  have rz := G.num _ _ hz
  unfold F_depth_for G_depth_for bodyV
  have hs : startV 3 [eG rs, .int tons] = [some (.fz (eG rs)), some (.fz (.int tons)), none] := rfl
  rw [hs, seq_nx (by unfold g_depth_for_0; simp! [num_yes ht]; rfl)]
  have hi : rng2 (consA (VL.bin (VL.bin (var 0) (kI 0) dIx) (kI 0) dIx) (consA (VL.bin (VL.bin (VL.bin (var 0) (un (kI 1) dNeg) dIx) (kI 0) dIx) (kI 1) dAdd) nilA)) [some (.fz (eG rs)), some (.fz (.int tons)), none] = .ok (rngD a.1 (z.1 + 1 - a.1).toNat) :=
    rng2_of (i := a.1) (j := z.1 + 1) _ (by simp! [ixG h0 (show (0 : Int) = (0 : Nat) from rfl), ixGl hl]) rfl (by omega) (by omega) (by omega) (by omega)
  have turn : ∀ (y : Int) (x2 : Option LV), a.1 ≤ y → y ≤ z.1 → g_depth_for_1b [some (.fz (eG rs)), some (.fz (.int tons)), some (.fz (.int y))] = if tons * (f y).2 ≤ (f y).1 then .rt (.int y) else .nx [some (.fz (eG rs)), some (.fz (.int tons)), some (.fz (.int y))] := by
    intro y x2 h1 h2
    obtain ⟨e1, _, b1, b2, b3, b4⟩ := hf y h1 h2
    have e2 := less_ok (a := (f y).1) (b := (f y).2) (c := tons) (d := 1) (by omega) (by omega) (by omega) (by omega) (by omega) (by omega) (by omega) (by omega)
    unfold g_depth_for_1b
    rw [Int.mul_one] at e2
    by_cases c : tons * (f y).2 ≤ (f y).1
    · have c2 : ¬ ((f y).1 < tons * (f y).2) := by omega
      rw [if_pos c]
      simp! [e1, e2, c2]
    · have c2 : (f y).1 < tons * (f y).2 := by omega
      rw [if_neg c]
      simp! [e1, e2, c2]
  rcases first_of (fun d : D => match d with | .int y => decide (tons * (f y).2 ≤ (f y).1) | _ => false) (rngD a.1 (z.1 + 1 - a.1).toNat) with ⟨h1, h2⟩ | ⟨m, x, r, h1, h2, h3, h4⟩
  · rw [h2]
    obtain ⟨ρ', h3, x2, rfl⟩ := fors (t := tgN 2) (g := g_depth_for_1b) (ρ := [some (.fz (eG rs)), some (.fz (.int tons)), none]) (fun _ ρ => ∃ x2, ρ = [some (.fz (eG rs)), some (.fz (.int tons)), x2]) hi ⟨_, rfl⟩ (by
      rintro i d ρ hd ⟨x2, rfl⟩
      have hm := h1 d (List.mem_of_getElem? hd)
      obtain ⟨hi2, rfl⟩ := rngD_get' hd
      refine ⟨_, rfl, ?_⟩
      simp only [List.set_cons_succ, List.set_cons_zero]
      rw [turn _ none (by omega) (by omega), if_neg (by simpa using hm)]
      exact ⟨_, rfl⟩)
    rw [seq_nx (by unfold g_depth_for_1; exact h3)]
    unfold g_depth_for_2
    simp! []
    rfl
  · rw [h4]
    have h5 := fors_stop (t := tgN 2) (g := g_depth_for_1b) (ρ := [some (.fz (eG rs)), some (.fz (.int tons)), none]) (fun _ ρ => ∃ x2, ρ = [some (.fz (eG rs)), some (.fz (.int tons)), x2]) m x (.rt x) hi ⟨_, rfl⟩ h1 (by
      rintro i d ρ hi' hd ⟨x2, rfl⟩
      have hm := h3 i d hi' hd
      obtain ⟨hi2, rfl⟩ := rngD_get' hd
      refine ⟨_, rfl, ?_⟩
      simp only [List.set_cons_succ, List.set_cons_zero]
      rw [turn _ none (by omega) (by omega), if_neg (by simpa using hm)]
      exact ⟨_, rfl⟩) (by
      rintro ρ ⟨x2, rfl⟩
      obtain ⟨hi2, rfl⟩ := rngD_get' h1
      refine ⟨_, rfl, ?_⟩
      simp only [List.set_cons_succ, List.set_cons_zero]
      rw [turn _ none (by omega) (by omega), if_pos (by simpa using h2)]
      rfl)
    rw [seq_rt (by unfold g_depth_for_1; exact h5)]
    rfl
theorem whole_ok {dp : Int} {v : Int × Int} (h : Tn rs dp v) : F_whole_tons [eG rs, .int dp] = .ok (.int (v.1 / v.2)) := by
  obtain ⟨e1, _, b1, b2, b3, b4⟩ := h
  unfold F_whole_tons G_whole_tons g_whole_tons_0 g_whole_tons_1
  simp! [e1, dDiv_s b3 (by omega)]
/-- what the cargo's change is, told by both -/
def moved (u v : Int × Int) : D := if v.1 * u.2 - u.1 * v.2 = 0 then .tuple [.int 0, .int 1] else rat (if v.1 * u.2 - u.1 * v.2 < 0 then -(v.1 * u.2 - u.1 * v.2) else v.1 * u.2 - u.1 * v.2) (u.2 * v.2)
def word (u v : Int × Int) : Str := if 0 < v.1 * u.2 - u.1 * v.2 then "loaded" else if v.1 * u.2 - u.1 * v.2 < 0 then "unloaded" else "same"
theorem pr_bd {u v : Int × Int} (h1 : 0 < u.2 ∧ u.2 ≤ 100) (h2 : 0 < v.2 ∧ v.2 ≤ 100) : 0 < u.2 * v.2 ∧ u.2 * v.2 ≤ 10000 := by
  have a := Int.mul_pos h1.1 h2.1
  have b := Int.mul_le_mul h1.2 h2.2 (by omega) (by omega)
  omega
theorem cargo_ok {x y : Int} {u v : Int × Int} (hu : Tn rs x u) (hv : Tn rs y v) : F_cargo_moved [eG rs, .int x, .int y] = .ok (.tuple [moved u v, .str (word u v)]) := by
  obtain ⟨e1, _, a1, a2, a3, a4⟩ := hu
  obtain ⟨e2, _, b1, b2, b3, b4⟩ := hv
  have pb := pr_bd ⟨a3, a4⟩ ⟨b3, b4⟩
  have l1 := less_ok (a := u.1) (b := u.2) (c := v.1) (d := v.2) (by omega) (by omega) (by omega) (by omega) (by omega) (by omega) (by omega) (by omega)
  have l2 := less_ok (a := v.1) (b := v.2) (c := u.1) (d := u.2) (by omega) (by omega) (by omega) (by omega) (by omega) (by omega) (by omega) (by omega)
  have m1 := dMul_s (i := v.1) (j := u.2) (by omega) (by omega) (by omega) (by omega)
  have m2 := dMul_s (i := u.1) (j := v.2) (by omega) (by omega) (by omega) (by omega)
  have m3 := dMul_s (i := u.2) (j := v.2) (by omega) (by omega) (by omega) (by omega)
  unfold F_cargo_moved G_cargo_moved g_cargo_moved_0 g_cargo_moved_1 g_cargo_moved_2 g_cargo_moved_3 moved word
  by_cases c : u.1 * v.2 < v.1 * u.2
  · have c1 : 0 < v.1 * u.2 - u.1 * v.2 := by omega
    have hr := ratio_ok (Int.le_of_lt c1) pb.1 (by omega)
    rw [if_neg (show ¬ (v.1 * u.2 - u.1 * v.2 = 0) by omega), if_neg (show ¬ (v.1 * u.2 - u.1 * v.2 < 0) by omega), if_pos c1]
    simp! [e1, e2, l1, c, m1, m2, m3, hr]
  · by_cases c2 : v.1 * u.2 < u.1 * v.2
    · have c1 : 0 < u.1 * v.2 - v.1 * u.2 := by omega
      have hr := ratio_ok (Int.le_of_lt c1) pb.1 (by omega)
      rw [if_neg (show ¬ (v.1 * u.2 - u.1 * v.2 = 0) by omega), if_pos (show (v.1 * u.2 - u.1 * v.2 < 0) by omega), if_neg (show ¬ (0 < v.1 * u.2 - u.1 * v.2) by omega), if_pos (show (v.1 * u.2 - u.1 * v.2 < 0) by omega), show -(v.1 * u.2 - u.1 * v.2) = u.1 * v.2 - v.1 * u.2 by omega]
      simp! [e1, e2, l1, l2, c, c2, m1, m2, m3, hr]
    · rw [if_pos (show (v.1 * u.2 - u.1 * v.2 = 0) by omega), if_neg (show ¬ (0 < v.1 * u.2 - u.1 * v.2) by omega), if_neg (show ¬ (v.1 * u.2 - u.1 * v.2 < 0) by omega)]
      simp! [e1, e2, l1, l2, c, c2]
end
end K47

set_option Elab.async false
set_option linter.all false
set_option maxRecDepth 100000
set_option maxHeartbeats 4000000
namespace K47
open PySem PySem.Spec PyProof.Rows L2 VL
theorem dp_pair {a b : Int} : (PyData.tuple [.int a, .int b]).depth ≤ 2 := by simp [PyData.depth, PyData.depthAll]
theorem sh_pair {a b : Int} : SeqAt.shaped (.tuple [.int a, .int b]) = true := by simp [SeqAt.shaped, PyData.canLay0, PyData.canLayAll0, PyData.depth, PyData.depthAll]
theorem lay_rows : ∀ rs : List Row, PyData.canLayAll0 (rs.map eR) = true ∧ PyData.depthAll (rs.map eR) ≤ 2
  | [] => by simp [PyData.canLayAll0, PyData.depthAll]
  | r :: rs => by
    have := lay_rows rs
    simp [PyData.canLayAll0, PyData.canLay0, PyData.depthAll, PyData.depth, eR, this]
    omega
theorem sh_rows {rs : List Row} : SeqAt.shaped (eL rs) = true := by
  have := lay_rows rs
  simp [SeqAt.shaped, PyData.canLay0, PyData.depth, this]
  omega
theorem eqv_pair {a b c d : Int} : PyData.eqv (.tuple [.int a, .int b]) (.tuple [.int c, .int d]) = decide (a = c ∧ b = d) := by
  by_cases h1 : a = c <;> by_cases h2 : b = d <;> simp [PyData.eqv, PyData.eqvAll, h1, h2]
theorem dEq_pair {a b c d : Int} : dEq (.tuple [.int a, .int b]) (.tuple [.int c, .int d]) = some (decide (a = c ∧ b = d)) := by
  unfold dEq
  rw [if_pos ⟨sh_pair, sh_pair⟩, eqv_pair]
theorem inD_rows (r : Row) : ∀ rs : List Row, inD (.tuple [.int r.1, .int r.2]) (rs.map eR) = decide (r ∈ rs)
  | [] => by simp [inD]
  | p :: rs => by
    have ih := inD_rows r rs
    unfold inD at *
    rw [List.map_cons, List.any_cons, ih, show eR p = .tuple [.int p.1, .int p.2] from rfl, eqv_pair]
    by_cases h : p = r
    · subst h; simp
    · have h2 : ¬ (p.1 = r.1 ∧ p.2 = r.2) := fun q => h (Prod.ext q.1 q.2)
      have h4 : ¬ (r = p) := fun e => h e.symm
      simp [h2, h4]
theorem dNotIn_rows {r : Row} {rs : List Row} : dNotIn (.tuple [.int r.1, .int r.2]) (eL rs) = some (!decide (r ∈ rs)) := by
  unfold dNotIn
  show Option.map _ (if SeqAt.shaped _ = true ∧ SeqAt.shaped (.list (rs.map eR)) = true then some (inD _ (rs.map eR)) else none) = _
  rw [if_pos ⟨sh_pair, sh_rows⟩, inD_rows]
  rfl
/-! ### merged_gauge -/
def mrg (one other : List Row) : List Row := other.foldl (fun acc r => if r ∈ acc then acc else acc ++ [r]) one
theorem mrg_len : ∀ (other one : List Row), (mrg one other).length ≤ one.length + other.length
  | [], one => by simp [mrg]
  | r :: other, one => by
    unfold mrg
    rw [List.foldl_cons]
    have := mrg_len other (if r ∈ one then one else one ++ [r])
    unfold mrg at this
    split at this <;> rename_i c <;> simp [c] at * <;> omega
def LexLt (a b : Row) : Prop := a.1 < b.1 ∨ (a.1 = b.1 ∧ a.2 < b.2)
theorem srt_rows {rs : List Row} (h : rs.Pairwise LexLt) : srtD (rs.map eR) = rs.map eR := by
  unfold srtD
  refine List.mergeSort_of_pairwise ?_
  rw [List.pairwise_map]
  refine h.imp ?_
  intro a b hab
  have h1 : ¬ (b.1 < a.1) := by unfold LexLt at hab; omega
  have h2 : a.1 < b.1 ∨ ¬ (b.2 < a.2) := by unfold LexLt at hab; omega
  have h3 : a.1 < b.1 ∨ (a.2 < b.2 ∨ ¬ (b.2 < a.2)) := by omega
  rcases hab with hab | ⟨hab, hab2⟩
  · simp [PySem.W.dataLe, PySem.W.sortLe, eR, PySem.W.keyToks, PySem.W.keyToksAll, PyProof.Rows.lexLt, PyProof.Rows.itemOrd, PyProof.Rows.itemLt, h1, hab]
  · have h4 : ¬ (b.2 < a.2) := by omega
    simp [PySem.W.dataLe, PySem.W.sortLe, eR, PySem.W.keyToks, PySem.W.keyToksAll, PyProof.Rows.lexLt, PyProof.Rows.itemOrd, PyProof.Rows.itemLt, hab, hab2, h4]
theorem sortB_rows {rs : List Row} : sortB (rs.map eR) = true := by
  unfold sortB alikeB
  simp only [Bool.and_eq_true, Bool.or_eq_true, List.all_eq_true, List.mem_map, forall_exists_index, and_imp, forall_apply_eq_imp_iff₂, decide_eq_true_eq]
  refine ⟨⟨?_, .inl ?_⟩, ?_⟩
  · intro r _ p _; simp [eR, PySem.W.alike, PySem.W.alikeAll]
  · intro r _; rfl
  · intro r _
    have := dp_pair (a := r.1) (b := r.2)
    show (PyData.tuple [.int r.1, .int r.2]).depth ≤ 64
    omega
theorem merged_ok {one other : List Row} (hl : one.length + other.length ≤ 1000) (hs : (mrg one other).Pairwise LexLt) : F_merged_gauge [eL one, eL other] = F_make_gauge [eL (mrg one other)] := by
  unfold F_merged_gauge G_merged_gauge
  unfold bodyV
  have hst : startV 4 [eL one, eL other] = [some (.fz (eL one)), some (.fz (eL other)), none, none] := rfl
  rw [hst, seq_nx (ρ' := [some (.fz (eL one)), some (.fz (eL other)), some (.ow (one.map eR)), none]) (by unfold g_merged_gauge_0; simp! [])]
  obtain ⟨ρ', h3, x3, rfl⟩ := fors (t := tgN 3) (g := g_merged_gauge_1b) (fi := itR (var 1)) (ρ := [some (.fz (eL one)), some (.fz (eL other)), some (.ow (one.map eR)), none]) (ds := other.map eR)
    (fun i ρ => ∃ x3, ρ = [some (.fz (eL one)), some (.fz (eL other)), some (.ow ((mrg one (other.take i)).map eR)), x3]) (by simp! []) ⟨none, rfl⟩ (by
      rintro i d ρ hi ⟨x3, rfl⟩
      rw [List.getElem?_map] at hi
      obtain ⟨r, hr, rfl⟩ := Option.map_eq_some_iff.mp hi
      have e : mrg one (other.take (i + 1)) = if r ∈ mrg one (other.take i) then mrg one (other.take i) else mrg one (other.take i) ++ [r] := by
        rw [take_succ' hr]
        unfold mrg
        rw [List.foldl_append]
        rfl
      have hlen := mrg_len (other.take i) one
      rw [List.length_take] at hlen
      refine ⟨_, rfl, ?_⟩
      unfold g_merged_gauge_1b
      by_cases c : r ∈ mrg one (other.take i)
      · rw [if_pos c] at e
        rw [e]
        simp! [eR, dNotIn_rows, c]
        exact ⟨_, rfl⟩
      · rw [if_neg c] at e
        rw [e]
        simp! [eR, dNotIn_rows, c, appR_ok (ds := (mrg one (other.take i)).map eR) (by rw [List.length_map]; omega)]
        exact ⟨_, by rw [List.map_append]; rfl⟩)
  rw [seq_nx (by unfold g_merged_gauge_1; exact h3)]
  unfold g_merged_gauge_2
  rw [List.length_map, List.take_length]
  have hlen := mrg_len other one
  have hd : dSort (eL (mrg one other)) = some ((mrg one other).map eR) := by
    show (if sortB _ = true ∧ _ ≤ sizeLine then some (srtD _) else none) = _
    rw [if_pos ⟨sortB_rows, by rw [List.length_map]; exact sz_le (by omega)⟩, srt_rows hs]
  simp! [hd]
  cases F_make_gauge [eL (mrg one other)] <;> rfl
/-! ### slices -/
theorem cut_to {ds : List D} {k : Nat} : VL.cutD ds none (some (k : Int)) = ds.take k := by
  unfold VL.cutD
  rw [HT.sIx_none, HT.sIx_nat]
  simp
theorem cut_from {ds : List D} {k : Nat} : VL.cutD ds (some (k : Int)) none = ds.drop k := by
  unfold VL.cutD
  rw [HT.sIx_none, HT.sIx_nat]
  by_cases h : k ≤ ds.length
  · rw [Nat.min_eq_left h, List.take_of_length_le (by rw [List.length_drop]; exact Nat.le_refl _)]
  · rw [Nat.min_eq_right (by omega), List.drop_eq_nil_of_le (Nat.le_refl _), List.drop_eq_nil_of_le (by omega)]
    simp
/-! ### needless rows -/
theorem rat1 {m b t : Int} (hm : 0 ≤ m) (hb : 0 < b) (ht : 0 ≤ t) : (t / gcdI t b = m ∧ b / gcdI t b = 1) ↔ t = m * b := by
  constructor
  · rintro ⟨h1, h2⟩
    obtain ⟨k, hk⟩ := gcdI_dvd_r (a := t) (b := b) (by omega)
    obtain ⟨j, hj⟩ := gcdI_dvd_l (a := t) (b := b) ht
    have g := gcdI_pos (a := t) hb
    have e1 : b / gcdI t b = k := by
      conv => lhs; lhs; rw [hk]
      exact Int.mul_ediv_cancel_left _ (by omega)
    have e2 : t / gcdI t b = j := by
      conv => lhs; lhs; rw [hj]
      exact Int.mul_ediv_cancel_left _ (by omega)
    rw [e1] at h2
    rw [e2] at h1
    subst h2 h1
    rw [Int.mul_one] at hk
    rw [← hk] at hj
    rw [hj, Int.mul_comm]
  · intro h
    obtain ⟨m', rfl⟩ := Int.eq_ofNat_of_zero_le hm
    obtain ⟨b', rfl⟩ := Int.eq_ofNat_of_zero_le (Int.le_of_lt hb)
    subst h
    have e : gcdI ((m' : Int) * (b' : Int)) b' = b' := by
      unfold gcdI
      rw [← Int.natCast_mul, Int.toNat_natCast, Int.toNat_natCast, Nat.gcd_mul_left_left]
    rw [e]
    exact ⟨Int.mul_ediv_cancel _ (by omega), Int.ediv_self (by omega)⟩
end K47

set_option Elab.async false
set_option linter.all false
set_option maxRecDepth 100000
set_option maxHeartbeats 4000000
namespace K47
open PySem PySem.Spec PyProof.Rows L2 VL
/-! ### needless_rows -/
/-- the row at y lies on the line of its neighbours -/
def onLine (rs : List Row) (d : D) : Bool := match d with
  | .int y => decide (((rs.getD y.toNat (0, 0)).2 - (rs.getD (y.toNat - 1) (0, 0)).2) * ((rs.getD (y.toNat + 1) (0, 0)).1 - (rs.getD y.toNat (0, 0)).1) = ((rs.getD (y.toNat + 1) (0, 0)).2 - (rs.getD y.toNat (0, 0)).2) * ((rs.getD y.toNat (0, 0)).1 - (rs.getD (y.toNat - 1) (0, 0)).1))
  | _ => false
theorem onLine_eq {rs : List Row} {i : Nat} {l m h : Row} (h1 : rs[i]? = some l) (h2 : rs[i + 1]? = some m) (h3 : rs[i + 2]? = some h) : onLine rs (.int (1 + (i : Nat))) = decide ((m.2 - l.2) * (h.1 - m.1) = (h.2 - m.2) * (m.1 - l.1)) := by
  have e : (1 + (i : Int)).toNat = i + 1 := by omega
  unfold onLine
  simp only [e, List.getD_eq_getElem?_getD, h2, Nat.add_sub_cancel, h1, show i + 1 + 1 = i + 2 from rfl, h3, Option.getD_some]
theorem filter_snoc {α : Type} {p : α → Bool} {l : List α} {i : Nat} {x : α} (h : l[i]? = some x) : (l.take (i + 1)).filter p = (l.take i).filter p ++ (if p x = true then [x] else []) := by
  rw [take_succ' h, List.filter_append]
  congr 1
  cases q : p x <;> simp [q]
theorem filter_len {α : Type} {p : α → Bool} {l : List α} : (l.filter p).length ≤ l.length := List.length_filter_le p l
def needl (rs : List Row) : List D := (rngD 1 (rs.length - 2)).filter (onLine rs)
theorem needl_len {rs : List Row} (i : Nat) : (((rngD 1 (rs.length - 2)).take i).filter (onLine rs)).length ≤ rs.length := by
  have := filter_len (p := onLine rs) (l := (rngD 1 (rs.length - 2)).take i)
  rw [List.length_take, rngD_len] at this
  omega
theorem Good.three {rs : List Row} (G : Good rs) {i : Nat} (h : i < rs.length - 2) : ∃ l m h : Row, rs[i]? = some l ∧ rs[i + 1]? = some m ∧ rs[i + 2]? = some h ∧ Rng l ∧ Rng m ∧ Rng h ∧ l.1 < m.1 ∧ m.1 < h.1 ∧ l.2 < m.2 ∧ m.2 < h.2 := by
  obtain ⟨l, h1⟩ : ∃ r, rs[i]? = some r := ⟨_, List.getElem?_eq_getElem (by omega)⟩
  obtain ⟨m, h2⟩ : ∃ r, rs[i + 1]? = some r := ⟨_, List.getElem?_eq_getElem (by omega)⟩
  obtain ⟨n, h3⟩ : ∃ r, rs[i + 2]? = some r := ⟨_, List.getElem?_eq_getElem (by omega)⟩
  have q1 := G.inc _ _ _ h1 h2
  have q2 := G.inc _ _ _ h2 h3
  exact ⟨l, m, n, h1, h2, h3, G.rng _ _ h1, G.rng _ _ h2, G.rng _ _ h3, q1.1, q2.1, q1.2, q2.2⟩
theorem needless_ok {rs : List Row} (G : Good rs) : F_needless_rows [eG rs] = .ok (.list (needl rs)) := by
  unfold F_needless_rows G_needless_rows
  rw [bodyV_e]
  refine st_nx (by unfold g_needless_rows_0; simp! []; rfl) ?_
  refine st_for (fun i ρ => ∃ x2 x3 x4 x5, ρ = [some (.fz (eG rs)), some (.ow (((rngD 1 (rs.length - 2)).take i).filter (onLine rs))), x2, x3, x4, x5]) (by unfold g_needless_rows_1; rfl)
    (rng2_of (i := 1) (j := (rs.length : Int) - 1) (rs.length - 2) (by simp! []) (by omega) (by omega) (by omega) (by have := G.six; omega) (by have := G.six; omega)) ⟨_, _, _, _, rfl⟩ ?_ ?_
  · rintro i d ρ hi ⟨x2, x3, x4, x5, rfl⟩
    have hi' := hi
    obtain ⟨hi2, rfl⟩ := rngD_get' hi
    obtain ⟨l, m, h, h1, h2, h3, r1, r2, r3, q1, q2, q3, q4⟩ := G.three hi2
    have e1 := ixG h1 (show (1 + (i : Nat) - 1 : Int) = (i : Int) by omega)
    have e2 := ixG h2 (show (1 + (i : Nat) : Int) = ((i + 1 : Nat) : Int) by omega)
    have e3 := ixG h3 (show (1 + (i : Nat) + 1 : Int) = ((i + 2 : Nat) : Int) by omega)
    unfold Rng at r1 r2 r3
    have m1 := dMul_s (i := m.2 - l.2) (j := h.1 - m.1) (by omega) (by omega) (by omega) (by omega)
    have m2 := dMul_s (i := h.2 - m.2) (j := m.1 - l.1) (by omega) (by omega) (by omega) (by omega)
    have hp := onLine_eq h1 h2 h3
    refine ⟨_, rfl, ?_⟩
    rw [filter_snoc hi', hp]
    have hlen := needl_len (rs := rs) i
    have happ := appR_ok (i := 1) (ds := ((rngD 1 (rs.length - 2)).take i).filter (onLine rs)) (d := PyData.int (1 + (i : Nat))) (ρ := [some (LV.fz (eG rs)), some (.ow (((rngD 1 (rs.length - 2)).take i).filter (onLine rs))), some (.fz (.int (1 + (i : Nat)))), some (.fz (.tuple [.int l.1, .int l.2])), some (.fz (.tuple [.int m.1, .int m.2])), some (.fz (.tuple [.int h.1, .int h.2]))]) (by have := G.six; omega)
    unfold g_needless_rows_1b
    by_cases c : (m.2 - l.2) * (h.1 - m.1) = (h.2 - m.2) * (m.1 - l.1)
    · simp! [e1, e2, e3, m1, m2, dEq_i, c, happ]
      exact ⟨_, _, _, _, rfl⟩
    · simp! [e1, e2, e3, m1, m2, dEq_i, c, happ, List.append_nil]
      exact ⟨_, _, _, _, rfl⟩
  · rintro ρ ⟨x2, x3, x4, x5, rfl⟩
    rw [List.take_length]
    unfold g_needless_rows_2
    simp! []
    rfl
theorem law_needless {rs : List Row} (G : Good rs) {i : Nat} {l m h : Row} (h1 : rs[i]? = some l) (h2 : rs[i + 1]? = some m) (h3 : rs[i + 2]? = some h) :
    ∃ v : Int × Int, F__law_tons [eL [l, h], .int m.1] = .ok (.tuple [.int v.1, .int v.2]) ∧ (decide (v.1 = m.2 ∧ v.2 = 1)) = onLine rs (.int (1 + (i : Nat))) := by
  have q1 := G.inc _ _ _ h1 h2
  have q2 := G.inc _ _ _ h2 h3
  have r1 := G.rng _ _ h1
  have r2 := G.rng _ _ h2
  have r3 := G.rng _ _ h3
  have e := law_tons_ok (rs := [l, h]) (k := 0) (dp := m.1) (lo := l) (hi := h) (by simp) (fun i r hr => by
    match i, hr with
    | 0, hr => cases hr; exact r1
    | 1, hr => cases hr; exact r3) rfl rfl (by omega) (by omega) (by omega) fun i a b hi => absurd hi (Nat.not_lt_zero _)
  refine ⟨(_, _), e, ?_⟩
  rw [onLine_eq h1 h2 h3]
  refine decide_eq_decide.mpr ?_
  rw [rat1 r2.2.2.1 (by omega) (tTop_nn r1 r3 (by omega) (by omega))]
  unfold tTop
  constructor <;> intro h <;> grind
/-! ### _law_told -/
theorem told0_ok {rs : List Row} {x d : D} (h : F_make_gauge [eL rs] = .ok d) : F__law_told [.int 0, eL rs, x] = .ok d := by
  unfold F__law_told G__law_told g__law_told_0
  rw [bodyV_e, told_rt (d := d) (by simp! [dEq_i, h])]
  rfl
theorem told0_ex {rs : List Row} {x : D} {w : Str} {i : Int} (h : F_make_gauge [eL rs] = .ex (planE w i)) : F__law_told [.int 0, eL rs, x] = .ok (.tuple [.str w, .int i]) := by
  unfold F__law_told G__law_told g__law_told_0
  rw [bodyV_e, told_ex (w := w) (i := i) (by simp! [dEq_i, h]; rfl) (by simp)]
  rfl
theorem tons_ex {rs : List Row} {a z : Row} {dp : Int} (h0 : rs[0]? = some a) (hl : rs.getLast? = some z) (h : ¬ (a.1 ≤ dp ∧ dp ≤ z.1)) : F_tons_at [eG rs, .int dp] = .ex (planE "depth" 0) := by
  unfold F_tons_at G_tons_at
  rw [bodyV_e, seq_ex (by unfold g_tons_at_0; simp! [check_ex h0 hl h]; rfl)]
  rfl
theorem depth_ex {rs : List Row} {t : Int} (h : ¬ (0 ≤ t ∧ t ≤ 100000)) : F_depth_for [eG rs, .int t] = .ex (planE "tons" 0) := by
  unfold F_depth_for G_depth_for
  rw [bodyV_e, seq_ex (by unfold g_depth_for_0; simp! [num_no h, plan0 (w := "tons") (by decide)]; rfl)]
  rfl
theorem told1_ex {rs : List Row} {dp : Int} {w : Str} {i : Int} (h : F_tons_at [eG rs, .int dp] = .ex (planE w i)) : F__law_told [.int 1, eG rs, .int dp] = .ok (.tuple [.str w, .int i]) := by
  have e1 : ((1 : Int) = 0) = False := by simp
  unfold F__law_told G__law_told g__law_told_0
  rw [bodyV_e, told_ex (w := w) (i := i) (by simp! [dEq_i, h, e1]; rfl) (by simp)]
  rfl
theorem told2_ex {rs : List Row} {dp : Int} {w : Str} {i : Int} (h : F_depth_for [eG rs, .int dp] = .ex (planE w i)) : F__law_told [.int 2, eG rs, .int dp] = .ok (.tuple [.str w, .int i]) := by
  have e1 : ((2 : Int) = 0) = False := by simp
  have e2 : ((2 : Int) = 1) = False := by simp
  unfold F__law_told G__law_told g__law_told_0
  rw [bodyV_e, told_ex (w := w) (i := i) (by simp! [dEq_i, h, e1, e2]; rfl) (by simp)]
  rfl
theorem told3_ok {one other : List Row} {x d : D} (h : F_merged_gauge [eL one, eL other] = .ok d) : F__law_told [.int 3, .list [eL one, eL other], x] = .ok d := by
  have e1 : ((3 : Int) = 0) = False := by simp
  have e2 : ((3 : Int) = 1) = False := by simp
  have e3 : ((3 : Int) = 2) = False := by simp
  unfold F__law_told G__law_told g__law_told_0
  rw [bodyV_e, told_rt (d := d) (by simp! [dEq_i, h, e1, e2, e3])]
  rfl
theorem told3_ex {one other : List Row} {x : D} {w : Str} {i : Int} (h : F_merged_gauge [eL one, eL other] = .ex (planE w i)) : F__law_told [.int 3, .list [eL one, eL other], x] = .ok (.tuple [.str w, .int i]) := by
  have e1 : ((3 : Int) = 0) = False := by simp
  have e2 : ((3 : Int) = 1) = False := by simp
  have e3 : ((3 : Int) = 2) = False := by simp
  unfold F__law_told G__law_told g__law_told_0
  rw [bodyV_e, told_ex (w := w) (i := i) (by simp! [dEq_i, h, e1, e2, e3]; rfl) (by simp)]
  rfl
/-! ### the rows drawn -/
structure Bld (i : Nat) (rs : List Row) : Prop where
  len : rs.length = i + 1
  num : ∀ (j : Nat) (r : Row), rs[j]? = some r → 1 ≤ r.1 ∧ r.1 ≤ 8 + 12 * (i : Int) ∧ 0 ≤ r.2 ∧ r.2 ≤ 15000 * (i : Int)
  zero : ∀ r : Row, rs[0]? = some r → r.2 = 0
  inc : ∀ (j : Nat) (a b : Row), rs[j]? = some a → rs[j + 1]? = some b → a.1 < b.1 ∧ a.2 < b.2
theorem Bld.good {i : Nat} {rs : List Row} (B : Bld i rs) (h1 : 1 ≤ i) (h2 : i ≤ 5) : Good rs :=
  ⟨by rw [B.len]; omega, by rw [B.len]; omega, fun j r h => by have := B.num j r h; omega, B.zero, B.inc⟩
theorem Bld.start {a : Int} (h1 : 1 ≤ a) (h2 : a ≤ 8) : Bld 0 [(a, 0)] :=
  ⟨rfl, fun j r h => by
    cases j with
    | zero => cases h; simp; omega
    | succ j => simp at h, fun r h => by cases h; rfl, fun j a b _ h => by simp at h⟩
theorem get_snoc {α : Type} {l : List α} {x y : α} {j : Nat} (h : (l ++ [x])[j]? = some y) : l[j]? = some y ∨ (j = l.length ∧ y = x) := by
  rw [List.getElem?_append] at h
  split at h
  · exact .inl h
  · rename_i hj
    by_cases e : j = l.length
    · subst e; simp at h; exact .inr ⟨rfl, h.symm⟩
    · rw [List.getElem?_eq_none (by simp; omega)] at h; cases h
theorem Bld.more {i : Nat} {rs : List Row} {z : Row} {p q : Int} (B : Bld i rs) (hl : rs.getLast? = some z) (h1 : 0 ≤ p ∧ p < 12) (h2 : 0 ≤ q ∧ q < 15000) : Bld (i + 1) (rs ++ [(z.1 + 1 + p, z.2 + 1 + q)]) := by
  have hz : rs[rs.length - 1]? = some z := by rw [List.getLast?_eq_getElem?] at hl; exact hl
  have nz := B.num _ _ hz
  have hlen := B.len
  refine ⟨by rw [List.length_append, B.len]; rfl, fun j r h => ?_, fun r h => ?_, fun j a b ha hb => ?_⟩
  · rcases get_snoc h with h | ⟨_, rfl⟩
    · have := B.num j r h; omega
    · simp only; omega
  · rcases get_snoc h with h | ⟨h, _⟩
    · exact B.zero r h
    · omega
  · rcases get_snoc hb with hb | ⟨hj, rfl⟩
    · rcases get_snoc ha with ha | ⟨ha, rfl⟩
      · exact B.inc j a b ha hb
      · have := (List.getElem?_eq_some_iff.mp hb).1; omega
    · rcases get_snoc ha with ha | ⟨ha, rfl⟩
      · have e : j = rs.length - 1 := by omega
        rw [e, hz] at ha
        cases ha
        simp only
        omega
      · omega
/-- the rows told in wrong ways -/
theorem Good.snoc_fine {rs : List Row} (G : Good rs) (x : Row) : ∀ (i : Nat) (r : Row), i < rs.length → (rs ++ [x])[i]? = some r → NumOk r ∧ OrdOk (rs ++ [x]) i r := fun i r hi h => by
  rw [List.getElem?_append_left hi] at h
  have q := G.fine i r h
  refine ⟨q.1, q.2.1, fun p h0 hp => ?_⟩
  rw [List.getElem?_append_left (by omega)] at hp
  exact q.2.2 p h0 hp
theorem Good.wrong_ord {rs : List Row} (G : Good rs) {z x : Row} (hl : rs.getLast? = some z) (hn : NumOk x) (h : x.1 ≤ z.1 ∨ x.2 ≤ z.2) : F_make_gauge [eL (rs ++ [x])] = .ex (planE "order" rs.length) := by
  have hz : rs[rs.length - 1]? = some z := by rw [List.getLast?_eq_getElem?] at hl; exact hl
  have := G.two
  have := G.six
  exact make_ord (k := rs.length) (r := x) (by rw [List.length_append]; simp; omega) (by rw [List.length_append]; simp; omega) (by simp) (fun i r hi h => G.snoc_fine x i r hi h) hn (.inr ⟨by omega, z, by rw [List.getElem?_append_left (by omega)]; exact hz, h⟩)
theorem Good.wrong_num {rs : List Row} (G : Good rs) {x : Row} (hn : ¬ NumOk x) : F_make_gauge [eL (rs ++ [x])] = .ex (planE "numbers" rs.length) := by
  have := G.two
  have := G.six
  exact make_num (k := rs.length) (r := x) (by rw [List.length_append]; simp; omega) (by rw [List.length_append]; simp; omega) (by simp) (fun i r hi h => G.snoc_fine x i r hi h) hn
theorem first_wrong : F_make_gauge [eL [(2, 1), (3, 2)]] = .ex (planE "order" 0) :=
  make_ord (k := 0) (r := (2, 1)) (by simp) (by simp) rfl (fun i r h => absurd h (Nat.not_lt_zero _)) ⟨by decide, by decide⟩ (.inl ⟨rfl, by decide⟩)
theorem Good.pair {rs : List Row} (G : Good rs) : rs.Pairwise fun a b => a.1 < b.1 := by
  rw [List.pairwise_iff_getElem]
  intro i j hi hj hij
  exact (G.mono j i _ _ hij (List.getElem?_eq_getElem hi) (List.getElem?_eq_getElem hj)).1
/-! ### merging -/
theorem mrg_in : ∀ (other one : List Row), (∀ r ∈ other, r ∈ one) → mrg one other = one
  | [], one, _ => rfl
  | r :: other, one, h => by
    unfold mrg
    rw [List.foldl_cons, if_pos (h r List.mem_cons_self)]
    exact mrg_in other one fun x hx => h x (List.mem_cons_of_mem _ hx)
theorem mrg_new : ∀ (other one : List Row), (∀ r ∈ other, r ∉ one) → other.Nodup → mrg one other = one ++ other
  | [], one, _, _ => by simp [mrg]
  | r :: other, one, h, hn => by
    unfold mrg
    rw [List.foldl_cons, if_neg (h r List.mem_cons_self)]
    have hn' := List.nodup_cons.mp hn
    have := mrg_new other (one ++ [r]) (fun x hx => by
      intro q
      rcases List.mem_append.mp q with q | q
      · exact h x (List.mem_cons_of_mem _ hx) q
      · have : x = r := by simpa using q
        subst this
        exact hn'.1 hx) hn'.2
    unfold mrg at this
    rw [this, List.append_assoc]
    rfl
theorem Good.nodup {rs : List Row} (G : Good rs) : rs.Nodup := by
  refine G.pair.imp ?_
  intro a b h e
  subst e
  omega
theorem Good.split_mrg {rs : List Row} (G : Good rs) (h : 2 < rs.length) : mrg (rs.take 2) (rs.take 1 ++ rs.drop 2) = rs := by
  match rs, G, h with
  | a :: b :: r, G, h =>
    have hn := G.nodup
    simp only [List.take_succ_cons, List.take_zero, List.drop_succ_cons, List.drop_zero, List.cons_append, List.nil_append]
    unfold mrg
    rw [List.foldl_cons, if_pos (by simp)]
    have h1 := List.nodup_cons.mp hn
    have h2 := List.nodup_cons.mp h1.2
    have := mrg_new r [a, b] (fun x hx q => by
      rcases List.mem_cons.mp q with rfl | q
      · exact h1.1 (List.mem_cons_of_mem _ hx)
      · have : x = b := by simpa using q
        subst this
        exact h2.1 hx) h2.2
    unfold mrg at this
    exact this
theorem Good.merge_self {rs : List Row} (G : Good rs) : F_merged_gauge [eL (rs.take 2), eL (if 2 < rs.length then rs.take 1 ++ rs.drop 2 else rs)] = .ok (eG rs) := by
  have := G.six
  have := G.two
  have e : mrg (rs.take 2) (if 2 < rs.length then rs.take 1 ++ rs.drop 2 else rs) = rs := by
    split
    · rename_i h; exact G.split_mrg h
    · rename_i h
      rw [List.take_of_length_le (by omega)]
      exact mrg_in rs rs fun r hr => hr
  rw [merged_ok (by split <;> simp <;> omega) (by rw [e]; exact G.pair.imp fun h => .inl h), e]
  exact G.make
theorem Good.merge_wrong {rs : List Row} (G : Good rs) {a z : Row} (h0 : rs[0]? = some a) (hl : rs.getLast? = some z) : F_merged_gauge [eL rs, eL [(a.1, 0), (z.1, z.2 + 1)]] = .ex (planE "order" rs.length) := by
  have := G.six
  have := G.two
  have hz : rs[rs.length - 1]? = some z := by rw [List.getLast?_eq_getElem?] at hl; exact hl
  have nz := G.num _ _ hz
  have e : mrg rs [(a.1, 0), (z.1, z.2 + 1)] = rs ++ [(z.1, z.2 + 1)] := by
    have ha : (a.1, (0 : Int)) ∈ rs := by
      have e2 : (a.1, (0 : Int)) = a := Prod.ext rfl (G.zero a h0).symm
      rw [e2]
      exact List.mem_of_getElem? h0
    have hn : (z.1, z.2 + 1) ∉ rs := fun q => by
      obtain ⟨j, hj⟩ := List.mem_iff_getElem?.mp q
      by_cases c : j = rs.length - 1
      · rw [c, hz] at hj
        have := congrArg Prod.snd (Option.some.inj hj)
        simp at this
        omega
      · have hjl := (List.getElem?_eq_some_iff.mp hj).1
        have := (G.mono _ j _ _ (by omega) hj hz).1
        simp at this
    unfold mrg
    rw [List.foldl_cons, if_pos ha, List.foldl_cons, if_neg hn]
    rfl
  have hp : (rs ++ [(z.1, z.2 + 1)]).Pairwise LexLt := by
    rw [List.pairwise_append]
    refine ⟨G.pair.imp fun h => .inl h, by simp, fun x hx y hy => ?_⟩
    have hy' : y = (z.1, z.2 + 1) := by simpa using hy
    subst hy'
    obtain ⟨j, hj⟩ := List.mem_iff_getElem?.mp hx
    by_cases c : j = rs.length - 1
    · rw [c, hz] at hj
      cases hj
      exact .inr ⟨rfl, by simp only; omega⟩
    · have hjl := (List.getElem?_eq_some_iff.mp hj).1
      exact .inl (G.mono _ j _ _ (by omega) hj hz).1
  rw [merged_ok (by simp; omega) (by rw [e]; exact hp), e]
  exact G.wrong_ord hl (by unfold NumOk; simp only; omega) (.inl (Int.le_refl _))
end K47

set_option Elab.async false
set_option linter.all false
set_option maxRecDepth 100000
set_option maxHeartbeats 4000000
namespace K47
open PySem PySem.Spec PyProof.Rows L2 VL
theorem cut_t1 {ds : List D} : VL.cutD ds none (some 1) = ds.take 1 := cut_to (k := 1)
theorem cut_t2 {ds : List D} : VL.cutD ds none (some 2) = ds.take 2 := cut_to (k := 2)
theorem cut_f2 {ds : List D} : VL.cutD ds (some 2) none = ds.drop 2 := cut_from (k := 2)
theorem s_depth : PyData.strOk "depth" = true := by decide +kernel
theorem s_tons : PyData.strOk "tons" = true := by decide +kernel
theorem s_order : PyData.strOk "order" = true := by decide +kernel
theorem s_numbers : PyData.strOk "numbers" = true := by decide +kernel
theorem s_few : PyData.strOk "number of rows" = true := by decide +kernel
theorem okR (n : Nat) (r : Row) : okD (n + 1) (.tuple [.int r.1, .int r.2]) := okD_pair (okD_int _ _) (okD_int _ _)
theorem okG {rs : List Row} (n : Nat) (h : rs.length < 1000000) : okD (n + 2) (eG rs) := okD_tuple (by rw [List.length_map]; exact h) fun e he => by
  obtain ⟨r, _, rfl⟩ := List.mem_map.mp he
  exact okR n r
theorem ixs {xs : List D} {i : Int} {n : Nat} {x : D} (h : i = n) (e : xs[n]? = some x) : dIx (.list xs) (.int i) = some x := dIx_l h e
abbrev dg (d0 d1 d2 d3 d4 d5 d6 : Int) : D := .list [.int d0, .int d1, .int d2, .int d3, .int d4, .int d5, .int d6]
/-- the law behind its draws: the rows rs, the gauge, its ends -/
theorem tail_ok {rs : List Row} (G : Good rs) (sc : D) {d0 d1 d2 d3 d4 d5 d6 : Int} (b2 : 0 ≤ d2) (b3 : 0 ≤ d3) (b4 : 0 ≤ d4 ∧ d4 < 200) (b5 : 0 ≤ d5 ∧ d5 < 6) (x3 x4 : Option LV) :
    outR (seqS g_law_3 (seqS g_law_4 (seqS g_law_5 (seqS g_law_6 (seqS g_law_7 (seqS g_law_8 (seqS g_law_9 (seqS g_law_10 (seqS g_law_11 (seqS g_law_12 (seqS g_law_13 (seqS g_law_14 (seqS g_law_15 (seqS g_law_16 (seqS g_law_17 (seqS g_law_18 (seqS g_law_19 (seqS g_law_20 g_law_21)))))))))))))))))
      [some (.fz sc), some (.fz (dg d0 d1 d2 d3 d4 d5 d6)), some (.ow (rs.map eR)), x3, x4, none, none, none, none, none, none, none, none, none, none, none, none, none, none, none]) = .ok (.bool true) := by
  have six := G.six
  have two := G.two
  obtain ⟨a, z, h0, hl, hz, haz⟩ := G.ends
  have na := G.num _ _ h0
  have nz := G.num _ _ hz
  obtain ⟨f, hf⟩ := G.tons h0 hl
  have i0 := ixL h0 (show (0 : Int) = (0 : Nat) from rfl)
  have il := ixLl hl
  refine st_nx (by unfold g_law_3; simp! [told0_ok (x := .int 0) G.make]; rfl) ?_
  refine st_nx (by unfold g_law_4; simp! [strict_ok (okG (rs := rs) 5 (by omega))]; rfl) ?_
  refine st_nx (by unfold g_law_5; simp! [i0, il]; rfl) ?_
  have hp : 0 < z.1 - a.1 + 1 := by omega
  refine st_nx (by unfold g_law_6; simp! [dMod_p hp]; rfl) ?_
  have m2 := Int.emod_nonneg d2 (show z.1 - a.1 + 1 ≠ 0 by omega)
  have m2' := Int.emod_lt_of_pos d2 hp
  have m3 := Int.emod_nonneg d3 (show z.1 - a.1 + 1 ≠ 0 by omega)
  have m3' := Int.emod_lt_of_pos d3 hp
  generalize hx : a.1 + d2 % (z.1 - a.1 + 1) = x
  generalize hy : a.1 + d3 % (z.1 - a.1 + 1) = y
  have strP : ∀ v : Int × Int, F__law_strictly 8 [.tuple [.int v.1, .int v.2], .tuple [.int v.1, .int v.2]] = .ok (.bool true) := fun v => strict_ok (okR 6 v)
  have strI : ∀ v : Int, F__law_strictly 8 [.int v, .int v] = .ok (.bool true) := fun v => strict_ok (okD_int 7 v)
  -- the depths
  refine st_for (fun i ρ => ∃ x9 x10, ρ = [some (.fz sc), some (.fz (dg d0 d1 d2 d3 d4 d5 d6)), some (.fz (eL rs)), x3, x4, some (.fz (eG rs)), some (.fz (.int a.1)), some (.fz (.int z.1)), some (.fz (.list [.int a.1, .int z.1, .int x, .int y])), x9, x10, none, none, none, none, none, none, none, none, none]) (by unfold g_law_7; rfl)
    (ds := [.int a.1, .int z.1, .int x, .int y]) (by simp! []) ⟨_, _, rfl⟩ ?_ ?_
  · rintro i d ρ hi ⟨x9, x10, rfl⟩
    obtain ⟨w, rfl, hw1, hw2⟩ : ∃ w : Int, d = .int w ∧ a.1 ≤ w ∧ w ≤ z.1 := by
      match i, hi with
      | 0, hi => cases hi; exact ⟨_, rfl, by omega, by omega⟩
      | 1, hi => cases hi; exact ⟨_, rfl, by omega, by omega⟩
      | 2, hi => cases hi; exact ⟨_, rfl, by omega, by omega⟩
      | 3, hi => cases hi; exact ⟨_, rfl, by omega, by omega⟩
    have T := hf w hw1 hw2
    obtain ⟨e1, e2, q1, q2, q3, q4⟩ := T
    refine ⟨_, rfl, ?_⟩
    unfold g_law_7b
    simp! [e1, e2, strP, dDiv_s q3 (show (f w).2 ≤ 1000000000000 by omega), whole_ok (hf w hw1 hw2), strI]
    exact ⟨_, _, rfl⟩
  rintro ρ ⟨x9, x10, rfl⟩
  have Tx := hf x (by omega) (by omega)
  have Ty := hf y (by omega) (by omega)
  have cargo := cargo_ok Tx Ty
  obtain ⟨ex1, ex2, p1, p2, p3, p4⟩ := Tx
  obtain ⟨ey1, ey2, q1, q2, q3, q4⟩ := Ty
  have pb := pr_bd ⟨p3, p4⟩ ⟨q3, q4⟩
  refine st_nx (by unfold g_law_8; simp! [ex2, ey2]; rfl) ?_
  refine st_nx (by unfold g_law_9; simp! [dMul_s (i := (f y).1) (j := (f x).2) (by omega) (by omega) (by omega) (by omega), dMul_s (i := (f x).1) (j := (f y).2) (by omega) (by omega) (by omega) (by omega)]; rfl) ?_
  refine st_nx (ρ' := [some (.fz sc), some (.fz (dg d0 d1 d2 d3 d4 d5 d6)), some (.fz (eL rs)), x3, x4, some (.fz (eG rs)), some (.fz (.int a.1)), some (.fz (.int z.1)), some (.fz (.list [.int a.1, .int z.1, .int x, .int y])), x9, x10, some (.fz (.tuple [.int (f x).1, .int (f x).2])), some (.fz (.tuple [.int (f y).1, .int (f y).2])), some (.fz (.int ((f y).1 * (f x).2 - (f x).1 * (f y).2))), some (.fz (.str (word (f x) (f y)))), none, none, none, none, none]) (by
    unfold g_law_10 word
    by_cases c1 : 0 < (f y).1 * (f x).2 - (f x).1 * (f y).2
    · simp! [c1]
    · by_cases c2 : (f y).1 * (f x).2 - (f x).1 * (f y).2 < 0
      · simp! [c1, c2]
      · simp! [c1, c2]) ?_
  refine st_nx (ρ' := [some (.fz sc), some (.fz (dg d0 d1 d2 d3 d4 d5 d6)), some (.fz (eL rs)), x3, x4, some (.fz (eG rs)), some (.fz (.int a.1)), some (.fz (.int z.1)), some (.fz (.list [.int a.1, .int z.1, .int x, .int y])), x9, x10, some (.fz (.tuple [.int (f x).1, .int (f x).2])), some (.fz (.tuple [.int (f y).1, .int (f y).2])), some (.fz (.int ((f y).1 * (f x).2 - (f x).1 * (f y).2))), some (.fz (.str (word (f x) (f y)))), some (.fz (moved (f x) (f y))), none, none, none, none]) (by
    have hm := dMul_s (i := (f x).2) (j := (f y).2) (by omega) (by omega) (by omega) (by omega)
    unfold g_law_11 moved
    by_cases c1 : (f y).1 * (f x).2 - (f x).1 * (f y).2 = 0
    · simp! [dNe_i, c1]
    · have hr := lratio_ok (t := if (f y).1 * (f x).2 - (f x).1 * (f y).2 < 0 then -((f y).1 * (f x).2 - (f x).1 * (f y).2) else (f y).1 * (f x).2 - (f x).1 * (f y).2) (by split <;> omega) pb.1 (by omega)
      simp! [dNe_i, c1, hm, hr]) ?_
  have okM : okD 6 (moved (f x) (f y)) := by
    unfold moved
    split
    · exact okD_pair (okD_int _ _) (okD_int _ _)
    · exact okD_pair (okD_int _ _) (okD_int _ _)
  have okW : PyData.strOk (word (f x) (f y)) = true := by
    unfold word
    split
    · decide +kernel
    · split <;> decide +kernel
  refine st_nx (by unfold g_law_12; simp! [cargo, strict_ok (okD_pair okM (okD_str 6 okW))]; rfl) ?_
  -- the depth for so many tons
  have i1 : ∃ r1 : Row, rs[1]? = some r1 := ⟨_, List.getElem?_eq_getElem (by omega)⟩
  obtain ⟨r1, h1⟩ := i1
  have n1 := G.num _ _ h1
  have ix1 := ixL h1 (show (1 : Int) = (1 : Nat) from rfl)
  refine st_for (fun i ρ => ∃ x9 x10 x16 x17, ρ = [some (.fz sc), some (.fz (dg d0 d1 d2 d3 d4 d5 d6)), some (.fz (eL rs)), x3, x4, some (.fz (eG rs)), some (.fz (.int a.1)), some (.fz (.int z.1)), some (.fz (.list [.int a.1, .int z.1, .int x, .int y])), x9, x10, some (.fz (.tuple [.int (f x).1, .int (f x).2])), some (.fz (.tuple [.int (f y).1, .int (f y).2])), some (.fz (.int ((f y).1 * (f x).2 - (f x).1 * (f y).2))), some (.fz (.str (word (f x) (f y)))), some (.fz (moved (f x) (f y))), x16, x17, none, none]) (by unfold g_law_13; rfl)
    (ds := [.int d4, .int r1.2, .int (r1.2 + 1), .int z.2, .int (z.2 + 1), .int 0]) (by simp! [ix1, il]) ⟨_, _, _, _, rfl⟩ ?_ ?_
  · rintro i d ρ hi ⟨x9, x10, x16, x17, rfl⟩
    obtain ⟨w, rfl, hw1, hw2⟩ : ∃ w : Int, d = .int w ∧ 0 ≤ w ∧ w ≤ 100000 := by
      match i, hi with
      | 0, hi => cases hi; exact ⟨_, rfl, by omega, by omega⟩
      | 1, hi => cases hi; exact ⟨_, rfl, by omega, by omega⟩
      | 2, hi => cases hi; exact ⟨_, rfl, by omega, by omega⟩
      | 3, hi => cases hi; exact ⟨_, rfl, by omega, by omega⟩
      | 4, hi => cases hi; exact ⟨_, rfl, by omega, by omega⟩
      | 5, hi => cases hi; exact ⟨_, rfl, by omega, by omega⟩
    have hd := depth_ok G h0 hl hf (tons := w) ⟨hw1, hw2⟩
    refine ⟨_, rfl, ?_⟩
    simp only [List.set_cons_succ, List.set_cons_zero]
    have hlc := lcV_filt (fi := rng2 (consA (var 6) (consA (VL.bin (var 7) (kI 1) dAdd) nilA))) (t := tgN 9) (c := binB (VL.bin (callV F__law_tons (consA (var 2) (consA (var 9) nilA))) (kI 0) dIx) (VL.bin (var 16) (VL.bin (callV F__law_tons (consA (var 2) (consA (var 9) nilA))) (kI 1) dIx) dMul) dGe) (f := var 9) (vs := [9])
      (ρ := [some (.fz sc), some (.fz (dg d0 d1 d2 d3 d4 d5 d6)), some (.fz (eL rs)), x3, x4, some (.fz (eG rs)), some (.fz (.int a.1)), some (.fz (.int z.1)), some (.fz (.list [.int a.1, .int z.1, .int x, .int y])), x9, x10, some (.fz (.tuple [.int (f x).1, .int (f x).2])), some (.fz (.tuple [.int (f y).1, .int (f y).2])), some (.fz (.int ((f y).1 * (f x).2 - (f x).1 * (f y).2))), some (.fz (.str (word (f x) (f y)))), some (.fz (moved (f x) (f y))), some (.fz (.int w)), x17, none, none])
      (fun d => match d with | .int y => decide (w * (f y).2 ≤ (f y).1) | _ => false) id (rng2_of (i := a.1) (j := z.1 + 1) (z.1 + 1 - a.1).toNat (by simp! []) rfl (by omega) (by omega) (by omega) (by omega)) (by rw [rngD_len]; omega) (by
        intro d hd
        obtain ⟨j, hj⟩ := List.mem_iff_getElem?.mp hd
        obtain ⟨hj2, rfl⟩ := rngD_get' hj
        obtain ⟨_, e2, q1, q2, q3, q4⟩ := hf (a.1 + (j : Nat)) (by omega) (by omega)
        have hm := dMul_s (i := w) (j := (f (a.1 + (j : Nat))).2) (by omega) (by omega) (by omega) (by omega)
        refine ⟨_, rfl, ?_, fun _ => ?_⟩
        · unfold wipeR wipeR
          simp! [e2, hm]
        · unfold wipeR wipeR
          simp! [id])
    rw [List.map_id] at hlc
    have hF : ∀ v ∈ (rngD a.1 (z.1 + 1 - a.1).toNat).filter (fun d => match d with | .int y => decide (w * (f y).2 ≤ (f y).1) | _ => false), okD 7 v := fun v hv => by
      obtain ⟨j, hj⟩ := List.mem_iff_getElem?.mp (List.mem_filter.mp hv).1
      obtain ⟨_, rfl⟩ := rngD_get' hj
      exact okD_int _ _
    generalize (rngD a.1 (z.1 + 1 - a.1).toNat).filter (fun d => match d with | .int y => decide (w * (f y).2 ≤ (f y).1) | _ => false) = F at hd hlc hF
    have hw : w < 100001 := by omega
    unfold g_law_13b
    cases F with
    | nil =>
      have hd2 : F_depth_for [eG rs, .int w] = .ok .none := hd
      have c0 : ¬ ((0 : Int) < ((0 : Nat) : Int)) := by omega
      have s0 : F__law_strictly 8 [.none, .none] = .ok (.bool true) := strict_ok (okD_non 7)
      simp! [hlc, hw, c0, hd2, s0]
      exact ⟨_, _, _, _, rfl⟩
    | cons v F =>
      have hd2 : F_depth_for [eG rs, .int w] = .ok v := hd
      have c0 : ((0 : Int) < ((F.length + 1 : Nat) : Int)) := by omega
      have s0 : F__law_strictly 8 [v, v] = .ok (.bool true) := strict_ok (hF v List.mem_cons_self)
      simp! [hlc, hw, c0, hd2, s0]
      exact ⟨_, _, _, _, rfl⟩
  rintro ρ ⟨x9, x10, x16, x17, rfl⟩
  refine st_nx (by unfold g_law_14; simp! []; rfl) ?_
  -- needless rows
  refine st_for (fun i ρ => ∃ x3, ρ = [some (.fz sc), some (.fz (dg d0 d1 d2 d3 d4 d5 d6)), some (.fz (eL rs)), x3, x4, some (.fz (eG rs)), some (.fz (.int a.1)), some (.fz (.int z.1)), some (.fz (.list [.int a.1, .int z.1, .int x, .int y])), x9, x10, some (.fz (.tuple [.int (f x).1, .int (f x).2])), some (.fz (.tuple [.int (f y).1, .int (f y).2])), some (.fz (.int ((f y).1 * (f x).2 - (f x).1 * (f y).2))), some (.fz (.str (word (f x) (f y)))), some (.fz (moved (f x) (f y))), x16, x17, some (.ow (((rngD 1 (rs.length - 2)).take i).filter (onLine rs))), none]) (by unfold g_law_15; rfl)
    (rng2_of (i := 1) (j := (rs.length : Int) - 1) (rs.length - 2) (by simp! []) (by omega) (by omega) (by omega) (by omega) (by omega)) ⟨_, rfl⟩ ?_ ?_
  · rintro i d ρ hi ⟨x3, rfl⟩
    have hi' := hi
    obtain ⟨hi2, rfl⟩ := rngD_get' hi
    obtain ⟨l, m, h, g1, g2, g3, _⟩ := G.three hi2
    have e1 := ixL g1 (show (1 + (i : Nat) - 1 : Int) = (i : Int) by omega)
    have e2 := ixL g2 (show (1 + (i : Nat) : Int) = ((i + 1 : Nat) : Int) by omega)
    have e3 := ixL g3 (show (1 + (i : Nat) + 1 : Int) = ((i + 2 : Nat) : Int) by omega)
    obtain ⟨v, ev1, ev2⟩ := law_needless G g1 g2 g3
    have ev1' : F__law_tons [.list [.tuple [.int l.1, .int l.2], .tuple [.int h.1, .int h.2]], .int m.1] = .ok (.tuple [.int v.1, .int v.2]) := ev1
    refine ⟨_, rfl, ?_⟩
    rw [filter_snoc hi', ← ev2]
    have hlen := needl_len (rs := rs) i
    have happ : ∀ (d : D) (ρ : Rho), appR 18 (some (some (.ow (((rngD 1 (rs.length - 2)).take i).filter (onLine rs))))) (.ok d) ρ = .nx (ρ.set 18 (some (.ow (((rngD 1 (rs.length - 2)).take i).filter (onLine rs) ++ [d])))) := fun d ρ => appR_ok (by omega)
    unfold g_law_15b
    by_cases c : v.1 = m.2 ∧ v.2 = 1
    · simp! [e1, e2, e3, ev1', dEq_pair, decide_eq_true c, happ]
      exact ⟨_, rfl⟩
    · simp! [e1, e2, e3, ev1', dEq_pair, decide_eq_false c, happ, List.append_nil]
      exact ⟨_, rfl⟩
  rintro ρ ⟨x3, rfl⟩
  rw [List.take_length]
  have okN : okD 7 (.list (needl rs)) := okD_list (by have := needl_len (rs := rs) (rs.length - 2); unfold needl; have := filter_len (p := onLine rs) (l := rngD 1 (rs.length - 2)); rw [rngD_len] at this; omega) fun e he => by
    have := (List.mem_filter.mp he).1
    obtain ⟨j, hj⟩ := List.mem_iff_getElem?.mp this
    obtain ⟨_, rfl⟩ := rngD_get' hj
    exact okD_int _ _
  refine st_nx (by unfold g_law_16; rw [show (rngD 1 (rs.length - 2)).filter (onLine rs) = needl rs from rfl]; simp! [needless_ok G, strict_ok okN]; rfl) ?_
  -- merging
  have hm := told3_ok (x := .int 0) G.merge_self
  have strG : F__law_strictly 8 [eG rs, eG rs] = .ok (.bool true) := strict_ok (okG (rs := rs) 5 (by omega))
  refine st_nx (ρ' := [some (.fz sc), some (.fz (dg d0 d1 d2 d3 d4 d5 d6)), some (.fz (eL rs)), x3, x4, some (.fz (eG rs)), some (.fz (.int a.1)), some (.fz (.int z.1)), some (.fz (.list [.int a.1, .int z.1, .int x, .int y])), x9, x10, some (.fz (.tuple [.int (f x).1, .int (f x).2])), some (.fz (.tuple [.int (f y).1, .int (f y).2])), some (.fz (.int ((f y).1 * (f x).2 - (f x).1 * (f y).2))), some (.fz (.str (word (f x) (f y)))), some (.fz (moved (f x) (f y))), x16, x17, some (.fz (.list (needl rs))), none]) (by
    unfold g_law_17
    by_cases c : 2 < rs.length
    · rw [if_pos c] at hm
      have c' : (2 : Int) < (rs.length : Int) := by omega
      rw [show eL (rs.take 2) = .list ((rs.map eR).take 2) by rw [← List.map_take], show eL (rs.take 1 ++ rs.drop 2) = .list ((rs.map eR).take 1 ++ (rs.map eR).drop 2) by rw [← List.map_take, ← List.map_drop, ← List.map_append]] at hm
      simp! [cut_t1, cut_t2, cut_f2, c', dAdd_ll (a := (rs.map eR).take 1) (b := (rs.map eR).drop 2) (by simp; omega), hm, strG]
    · rw [if_neg c] at hm
      have c' : ¬ ((2 : Int) < (rs.length : Int)) := by omega
      rw [show eL (rs.take 2) = .list ((rs.map eR).take 2) by rw [← List.map_take]] at hm
      simp! [cut_t1, cut_t2, cut_f2, c', hm, strG]) ?_
  -- what is refused
  refine st_nx (by
    unfold g_law_18
    simp! [told1_ex (tons_ex h0 hl (dp := a.1 - 1) (by omega)), told1_ex (tons_ex h0 hl (dp := z.1 + 1) (by omega)), told2_ex (depth_ex (rs := rs) (t := -1) (by omega)), dNe_told s_depth, dNe_told s_tons]
    rfl) ?_
  obtain ⟨wr, wd, hw, hwr, hwd⟩ : ∃ (wr : Row) (wd : Str), dIx (.list [.tuple [.tuple [.int z.1, .int (z.2 + 1)], .str "order"], .tuple [.tuple [.int (z.1 + 1), .int z.2], .str "order"], .tuple [.tuple [.int 100, .int 5], .str "numbers"], .tuple [.tuple [.int 0, .int 5], .str "numbers"], .tuple [.tuple [.int (z.1 + 1), .int 100001], .str "numbers"], .tuple [.tuple [.int (z.1 + 1), .int (-1)], .str "numbers"]]) (.int d5) = some (.tuple [.tuple [.int wr.1, .int wr.2], .str wd]) ∧
      F_make_gauge [eL (rs ++ [wr])] = .ex (planE wd rs.length) ∧ PyData.strOk wd = true := by
    have : d5 = 0 ∨ d5 = 1 ∨ d5 = 2 ∨ d5 = 3 ∨ d5 = 4 ∨ d5 = 5 := by omega
    rcases this with rfl | rfl | rfl | rfl | rfl | rfl
    · exact ⟨(z.1, z.2 + 1), "order", dIx_l0, G.wrong_ord hl (by unfold NumOk; simp only; omega) (.inl (Int.le_refl _)), s_order⟩
    · exact ⟨(z.1 + 1, z.2), "order", dIx_l1, G.wrong_ord hl (by unfold NumOk; simp only; omega) (.inr (Int.le_refl _)), s_order⟩
    · exact ⟨(100, 5), "numbers", dIx_l2, G.wrong_num (by unfold NumOk; simp only; omega), s_numbers⟩
    · exact ⟨(0, 5), "numbers", dIx_l3, G.wrong_num (by unfold NumOk; simp only; omega), s_numbers⟩
    · exact ⟨(z.1 + 1, 100001), "numbers", dIx_l4, G.wrong_num (by unfold NumOk; simp only; omega), s_numbers⟩
    · exact ⟨(z.1 + 1, -1), "numbers", dIx_l5, G.wrong_num (by unfold NumOk; simp only; omega), s_numbers⟩
  refine st_nx (by unfold g_law_19; simp! [il, hw]; rfl) ?_
  have ht := told0_ex (x := .int 0) hwr
  rw [show eL (rs ++ [wr]) = .list (rs.map eR ++ [.tuple [.int wr.1, .int wr.2]]) from congrArg PyData.list (List.map_append (f := eR))] at ht
  have ht2 : F__law_told [.int 0, .list [.tuple [.int 2, .int 1], .tuple [.int 3, .int 2]], .int 0] = .ok (.tuple [.str "order", .int 0]) := told0_ex (rs := [(2, 1), (3, 2)]) first_wrong
  refine st_nx (by unfold g_law_20; simp! [dAdd_ll (a := rs.map eR) (b := [.tuple [.int wr.1, .int wr.2]]) (by simp; omega), ht, ht2, dNe_told hwd, dNe_told s_order]; rfl) ?_
  have ht3 := told0_ex (x := .int 0) (make_few (rs := rs.take 1) (by simp; omega))
  rw [show eL (rs.take 1) = .list ((rs.map eR).take 1) by rw [← List.map_take]] at ht3
  have ht4 : F__law_told [.int 3, .list [eL rs, .list [.tuple [.int a.1, .int 0], .tuple [.int z.1, .int (z.2 + 1)]]], .int 0] = .ok (.tuple [.str "order", .int rs.length]) := told3_ex (x := .int 0) (G.merge_wrong h0 hl)
  unfold g_law_21
  simp! [cut_t1, ht3, il, ht4, dEq_told s_few, dEq_told s_order]
theorem law_true : ∀ ns : List Int, ns.length ≤ 63 → F_law [.list (ns.map .int)] = .ok (.bool true) := by
  intro ns _
  obtain ⟨ds, hd, hfit⟩ := draw_ok (ns := ns) (k := 0) (ss := [5, 3, 30, 30, 200, 6, 100001]) (by omega) (by omega) (by simp) (by intro s hs; simp at hs; omega)
  obtain ⟨d0, ds, rfl, a0, b0, hfit⟩ := fits_cons hfit
  obtain ⟨d1, ds, rfl, a1, b1, hfit⟩ := fits_cons hfit
  obtain ⟨d2, ds, rfl, a2, b2, hfit⟩ := fits_cons hfit
  obtain ⟨d3, ds, rfl, a3, b3, hfit⟩ := fits_cons hfit
  obtain ⟨d4, ds, rfl, a4, b4, hfit⟩ := fits_cons hfit
  obtain ⟨d5, ds, rfl, a5, b5, hfit⟩ := fits_cons hfit
  obtain ⟨d6, ds, rfl, a6, b6, hfit⟩ := fits_cons hfit
  have := fits_nil hfit
  subst this
  have hd' : F__law_draw [.list (ns.map .int), .int 0, .list [.int 5, .int 3, .int 30, .int 30, .int 200, .int 6, .int 100001]] = .ok (dg d0 d1 d2 d3 d4 d5 d6) := hd
  unfold F_law G_law
  rw [bodyV_e]
  refine st_nx (by unfold g_law_0; simp! [hd']; rfl) ?_
  refine st_nx (by unfold g_law_1; simp! [dMod_p (show (0 : Int) < 8 by omega)]; rfl) ?_
  have e0 : 0 ≤ d2 % 8 := Int.emod_nonneg d2 (by omega)
  have e1 : d2 % 8 < 8 := Int.emod_lt_of_pos d2 (by omega)
  refine st_for (fun i ρ => ∃ rs x3 x4, Bld i rs ∧ ρ = [some (.fz (.list (ns.map .int))), some (.fz (dg d0 d1 d2 d3 d4 d5 d6)), some (.ow (rs.map eR)), x3, x4, none, none, none, none, none, none, none, none, none, none, none, none, none, none, none]) (by unfold g_law_2; rfl)
    (rng1_of (j := d0 + 1) (d0 + 1).toNat (by simp! []) (by omega) (by omega)) ⟨[(1 + d2 % 8, 0)], none, none, Bld.start (by omega) (by omega), rfl⟩ ?_ ?_
  · rintro i d ρ hi ⟨rs, x3, x4, B, rfl⟩
    obtain ⟨hi2, rfl⟩ := rngD_get' hi
    obtain ⟨z, hl⟩ : ∃ z, rs.getLast? = some z := by
      cases h : rs.getLast? with
      | none => have := B.len; rw [List.getLast?_eq_none_iff] at h; subst h; simp at this
      | some z => exact ⟨z, rfl⟩
    have il := ixLl hl
    obtain ⟨es, he, hf2⟩ := draw_ok (ns := ns) (k := 1 + (0 + (i : Nat))) (ss := [12, 6, 15000]) (by omega) (by omega) (by simp) (by intro s hs; simp at hs; omega)
    obtain ⟨r0, es, rfl, p0, q0, hf2⟩ := fits_cons hf2
    obtain ⟨r1, es, rfl, p1, q1, hf2⟩ := fits_cons hf2
    obtain ⟨r2, es, rfl, p2, q2, hf2⟩ := fits_cons hf2
    have := fits_nil hf2
    subst this
    have he' : F__law_draw [.list (ns.map .int), .int (1 + (0 + (i : Nat))), .list [.int 12, .int 6, .int 15000]] = .ok (.list [.int r0, .int r1, .int r2]) := he
    have hlen := B.len
    have happ : ∀ (d : D) (ρ : Rho), appR 2 (some (some (.ow (rs.map eR)))) (.ok d) ρ = .nx (ρ.set 2 (some (.ow (rs.map eR ++ [d])))) := fun d ρ => appR_ok (by rw [List.length_map]; omega)
    refine ⟨_, rfl, ?_⟩
    unfold g_law_2b
    by_cases c : d1 = 0
    · simp! [he', il, dEq_i, c, happ]
      exact ⟨_, _, _, B.more hl ⟨p0, q0⟩ ⟨p2, q2⟩, by rw [List.map_append]; rfl⟩
    · simp! [he', il, dEq_i, c, happ]
      exact ⟨_, _, _, B.more hl ⟨p0, q0⟩ ⟨p1, by omega⟩, by rw [List.map_append]; rfl⟩
  rintro ρ ⟨rs, x3, x4, B, rfl⟩
  rw [rngD_len] at B
  exact tail_ok (B.good (by omega) (by omega)) _ a2 a3 ⟨a4, b4⟩ ⟨a5, b5⟩ x3 x4
end K47

set_option Elab.async false
set_option linter.all false
set_option maxRecDepth 100000
set_option maxHeartbeats 8000000
namespace K47
open PySem PySem.Spec PyProof.Rows L2 VL
section
theorem all_mk {w : World} {K : PySem.W.Frag} {h : Heap} {mg : Str → Option Value} {fa : Addr} (X : K.In h) (G : h.Ns mainGlobals mg) (hfa : mg "law" = some (.ref fa))
    {f0 f1 f2 f3 f4 f5 f6 f7 f8 f9 f10 f11 f12 f13 f14 f15 f16 f17 f18 f19 : Addr}
    {od0 an0 od1 an1 od2 an2 od3 an3 od4 an4 od5 an5 od6 an6 od7 an7 od8 an8 od9 an9 od10 an10 od11 an11 od12 an12 od13 an13 od14 an14 od15 an15 od16 an16 od17 an17 od18 an18 od19 an19 : Option Addr}
    {sl0 sl1 sl2 sl3 sl4 sl5 sl6 sl7 sl8 sl9 sl10 sl11 sl12 sl13 sl14 sl15 sl16 sl17 sl18 sl19 : Array (Option Value)}
    {oc0 kV0 dc0 pm0 cd0 ct0 oc1 kV1 dc1 pm1 cd1 ct1 oc2 kV2 dc2 pm2 cd2 ct2 oc3 kV3 dc3 pm3 cd3 ct3 oc4 kV4 dc4 pm4 cd4 ct4 oc5 kV5 dc5 pm5 cd5 ct5 oc6 kV6 dc6 pm6 cd6 ct6 oc7 kV7 dc7 pm7 cd7 ct7 oc8 kV8 dc8 pm8 cd8 ct8 oc9 kV9 dc9 pm9 cd9 ct9 oc10 kV10 dc10 pm10 cd10 ct10 oc11 kV11 dc11 pm11 cd11 ct11 oc12 kV12 dc12 pm12 cd12 ct12 oc13 kV13 dc13 pm13 cd13 ct13 oc14 kV14 dc14 pm14 cd14 ct14 oc15 kV15 dc15 pm15 cd15 ct15 oc16 kV16 dc16 pm16 cd16 ct16 oc17 kV17 dc17 pm17 cd17 ct17 oc18 kV18 dc18 pm18 cd18 ct18 oc19 kV19 dc19 pm19 cd19 ct19 : Value}
    {t_PRICE : Tok}
    {t_ROWS : Tok}
    {t_SIZE : Tok}
    {C0 B0 I0 N0 X0 Y0 : Addr}
    {nm0 q0 file0 : Str} {bs0 bm0 : List Value} {sn0 : List Str} {sb0 : List Value} {ab0 : Bool} {co0 : Option Bool} {dd0 : Option Addr} {m00 m10 m20 m30 m50 : Option Value}
    {ce0 : ClassData} {u10 u20 u30 u40 u50 u60 u70 : Value} {w10 w20 w30 w40 w50 : Option Addr} {x10 x20 x30 x40 : Array (Option Value)} {vs0 : Array Value} {tf0 : Tok}
    (a0 : PySem.W.nsIn K mainGlobals "is_number" = some (some (.ref f0)))
    (l0 : K.lookup f0 = some ⟨oc0, od0, .func (PySem.W.fnOf "is_number" "is_number" (defArgs s_is_number) (defBody s_is_number) (defScope s_is_number) .none kV0 dc0 pm0 an0 cd0 ct0), sl0⟩)
    (c0 : PySem.W.codeIn K cd0 "is_number" = true)
    (k0 : PySem.W.keepIn K (.ref f0) = true)
    (a1 : PySem.W.nsIn K mainGlobals "gcd_of" = some (some (.ref f1)))
    (l1 : K.lookup f1 = some ⟨oc1, od1, .func (PySem.W.fnOf "gcd_of" "gcd_of" (defArgs s_gcd_of) (defBody s_gcd_of) (defScope s_gcd_of) .none kV1 dc1 pm1 an1 cd1 ct1), sl1⟩)
    (c1 : PySem.W.codeIn K cd1 "gcd_of" = true)
    (k1 : PySem.W.keepIn K (.ref f1) = true)
    (a2 : PySem.W.nsIn K mainGlobals "ratio" = some (some (.ref f2)))
    (l2 : K.lookup f2 = some ⟨oc2, od2, .func (PySem.W.fnOf "ratio" "ratio" (defArgs s_ratio) (defBody s_ratio) (defScope s_ratio) .none kV2 dc2 pm2 an2 cd2 ct2), sl2⟩)
    (c2 : PySem.W.codeIn K cd2 "ratio" = true)
    (k2 : PySem.W.keepIn K (.ref f2) = true)
    (a3 : PySem.W.nsIn K mainGlobals "less" = some (some (.ref f3)))
    (l3 : K.lookup f3 = some ⟨oc3, od3, .func (PySem.W.fnOf "less" "less" (defArgs s_less) (defBody s_less) (defScope s_less) .none kV3 dc3 pm3 an3 cd3 ct3), sl3⟩)
    (c3 : PySem.W.codeIn K cd3 "less" = true)
    (k3 : PySem.W.keepIn K (.ref f3) = true)
    (a4 : PySem.W.nsIn K mainGlobals "make_gauge" = some (some (.ref f4)))
    (l4 : K.lookup f4 = some ⟨oc4, od4, .func (PySem.W.fnOf "make_gauge" "make_gauge" (defArgs s_make_gauge) (defBody s_make_gauge) (defScope s_make_gauge) .none kV4 dc4 pm4 an4 cd4 ct4), sl4⟩)
    (c4 : PySem.W.codeIn K cd4 "make_gauge" = true)
    (k4 : PySem.W.keepIn K (.ref f4) = true)
    (a5 : PySem.W.nsIn K mainGlobals "_check_depth" = some (some (.ref f5)))
    (l5 : K.lookup f5 = some ⟨oc5, od5, .func (PySem.W.fnOf "_check_depth" "_check_depth" (defArgs s__check_depth) (defBody s__check_depth) (defScope s__check_depth) .none kV5 dc5 pm5 an5 cd5 ct5), sl5⟩)
    (c5 : PySem.W.codeIn K cd5 "_check_depth" = true)
    (k5 : PySem.W.keepIn K (.ref f5) = true)
    (a6 : PySem.W.nsIn K mainGlobals "tons_at" = some (some (.ref f6)))
    (l6 : K.lookup f6 = some ⟨oc6, od6, .func (PySem.W.fnOf "tons_at" "tons_at" (defArgs s_tons_at) (defBody s_tons_at) (defScope s_tons_at) .none kV6 dc6 pm6 an6 cd6 ct6), sl6⟩)
    (c6 : PySem.W.codeIn K cd6 "tons_at" = true)
    (k6 : PySem.W.keepIn K (.ref f6) = true)
    (a7 : PySem.W.nsIn K mainGlobals "depth_for" = some (some (.ref f7)))
    (l7 : K.lookup f7 = some ⟨oc7, od7, .func (PySem.W.fnOf "depth_for" "depth_for" (defArgs s_depth_for) (defBody s_depth_for) (defScope s_depth_for) .none kV7 dc7 pm7 an7 cd7 ct7), sl7⟩)
    (c7 : PySem.W.codeIn K cd7 "depth_for" = true)
    (k7 : PySem.W.keepIn K (.ref f7) = true)
    (a8 : PySem.W.nsIn K mainGlobals "whole_tons" = some (some (.ref f8)))
    (l8 : K.lookup f8 = some ⟨oc8, od8, .func (PySem.W.fnOf "whole_tons" "whole_tons" (defArgs s_whole_tons) (defBody s_whole_tons) (defScope s_whole_tons) .none kV8 dc8 pm8 an8 cd8 ct8), sl8⟩)
    (c8 : PySem.W.codeIn K cd8 "whole_tons" = true)
    (k8 : PySem.W.keepIn K (.ref f8) = true)
    (a9 : PySem.W.nsIn K mainGlobals "cargo_moved" = some (some (.ref f9)))
    (l9 : K.lookup f9 = some ⟨oc9, od9, .func (PySem.W.fnOf "cargo_moved" "cargo_moved" (defArgs s_cargo_moved) (defBody s_cargo_moved) (defScope s_cargo_moved) .none kV9 dc9 pm9 an9 cd9 ct9), sl9⟩)
    (c9 : PySem.W.codeIn K cd9 "cargo_moved" = true)
    (k9 : PySem.W.keepIn K (.ref f9) = true)
    (a10 : PySem.W.nsIn K mainGlobals "merged_gauge" = some (some (.ref f10)))
    (l10 : K.lookup f10 = some ⟨oc10, od10, .func (PySem.W.fnOf "merged_gauge" "merged_gauge" (defArgs s_merged_gauge) (defBody s_merged_gauge) (defScope s_merged_gauge) .none kV10 dc10 pm10 an10 cd10 ct10), sl10⟩)
    (c10 : PySem.W.codeIn K cd10 "merged_gauge" = true)
    (k10 : PySem.W.keepIn K (.ref f10) = true)
    (a11 : PySem.W.nsIn K mainGlobals "needless_rows" = some (some (.ref f11)))
    (l11 : K.lookup f11 = some ⟨oc11, od11, .func (PySem.W.fnOf "needless_rows" "needless_rows" (defArgs s_needless_rows) (defBody s_needless_rows) (defScope s_needless_rows) .none kV11 dc11 pm11 an11 cd11 ct11), sl11⟩)
    (c11 : PySem.W.codeIn K cd11 "needless_rows" = true)
    (k11 : PySem.W.keepIn K (.ref f11) = true)
    (a12 : PySem.W.nsIn K mainGlobals "_law_strictly" = some (some (.ref f12)))
    (l12 : K.lookup f12 = some ⟨oc12, od12, .func (PySem.W.fnOf "_law_strictly" "_law_strictly" (defArgs s__law_strictly) (defBody s__law_strictly) (defScope s__law_strictly) .none kV12 dc12 pm12 an12 cd12 ct12), sl12⟩)
    (c12 : PySem.W.codeIn K cd12 "_law_strictly" = true)
    (k12 : PySem.W.keepIn K (.ref f12) = true)
    (a13 : PySem.W.nsIn K mainGlobals "_law_cell" = some (some (.ref f13)))
    (l13 : K.lookup f13 = some ⟨oc13, od13, .func (PySem.W.fnOf "_law_cell" "_law_cell" (defArgs s__law_cell) (defBody s__law_cell) (defScope s__law_cell) .none kV13 dc13 pm13 an13 cd13 ct13), sl13⟩)
    (c13 : PySem.W.codeIn K cd13 "_law_cell" = true)
    (k13 : PySem.W.keepIn K (.ref f13) = true)
    (a14 : PySem.W.nsIn K mainGlobals "_law_draw" = some (some (.ref f14)))
    (l14 : K.lookup f14 = some ⟨oc14, od14, .func (PySem.W.fnOf "_law_draw" "_law_draw" (defArgs s__law_draw) (defBody s__law_draw) (defScope s__law_draw) .none kV14 dc14 pm14 an14 cd14 ct14), sl14⟩)
    (c14 : PySem.W.codeIn K cd14 "_law_draw" = true)
    (k14 : PySem.W.keepIn K (.ref f14) = true)
    (a15 : PySem.W.nsIn K mainGlobals "_law_gcd" = some (some (.ref f15)))
    (l15 : K.lookup f15 = some ⟨oc15, od15, .func (PySem.W.fnOf "_law_gcd" "_law_gcd" (defArgs s__law_gcd) (defBody s__law_gcd) (defScope s__law_gcd) .none kV15 dc15 pm15 an15 cd15 ct15), sl15⟩)
    (c15 : PySem.W.codeIn K cd15 "_law_gcd" = true)
    (k15 : PySem.W.keepIn K (.ref f15) = true)
    (a16 : PySem.W.nsIn K mainGlobals "_law_ratio" = some (some (.ref f16)))
    (l16 : K.lookup f16 = some ⟨oc16, od16, .func (PySem.W.fnOf "_law_ratio" "_law_ratio" (defArgs s__law_ratio) (defBody s__law_ratio) (defScope s__law_ratio) .none kV16 dc16 pm16 an16 cd16 ct16), sl16⟩)
    (c16 : PySem.W.codeIn K cd16 "_law_ratio" = true)
    (k16 : PySem.W.keepIn K (.ref f16) = true)
    (a17 : PySem.W.nsIn K mainGlobals "_law_tons" = some (some (.ref f17)))
    (l17 : K.lookup f17 = some ⟨oc17, od17, .func (PySem.W.fnOf "_law_tons" "_law_tons" (defArgs s__law_tons) (defBody s__law_tons) (defScope s__law_tons) .none kV17 dc17 pm17 an17 cd17 ct17), sl17⟩)
    (c17 : PySem.W.codeIn K cd17 "_law_tons" = true)
    (k17 : PySem.W.keepIn K (.ref f17) = true)
    (a18 : PySem.W.nsIn K mainGlobals "_law_told" = some (some (.ref f18)))
    (l18 : K.lookup f18 = some ⟨oc18, od18, .func (PySem.W.fnOf "_law_told" "_law_told" (defArgs s__law_told) (defBody s__law_told) (defScope s__law_told) .none kV18 dc18 pm18 an18 cd18 ct18), sl18⟩)
    (c18 : PySem.W.codeIn K cd18 "_law_told" = true)
    (k18 : PySem.W.keepIn K (.ref f18) = true)
    (a19 : PySem.W.nsIn K mainGlobals "law" = some (some (.ref f19)))
    (l19 : K.lookup f19 = some ⟨oc19, od19, .func (PySem.W.fnOf "law" "law" (defArgs s_law) (defBody s_law) (defScope s_law) .none kV19 dc19 pm19 an19 cd19 ct19), sl19⟩)
    (c19 : PySem.W.codeIn K cd19 "law" = true)
    (k19 : PySem.W.keepIn K (.ref f19) = true)
    (z_abs : PySem.W.nsIn K mainGlobals "abs" = some none)
    (z_bool : PySem.W.nsIn K mainGlobals "bool" = some none)
    (z_int : PySem.W.nsIn K mainGlobals "int" = some none)
    (z_isinstance : PySem.W.nsIn K mainGlobals "isinstance" = some none)
    (z_len : PySem.W.nsIn K mainGlobals "len" = some none)
    (z_list : PySem.W.nsIn K mainGlobals "list" = some none)
    (z_range : PySem.W.nsIn K mainGlobals "range" = some none)
    (z_sorted : PySem.W.nsIn K mainGlobals "sorted" = some none)
    (z_str : PySem.W.nsIn K mainGlobals "str" = some none)
    (z_super : PySem.W.nsIn K mainGlobals "super" = some none)
    (z_tuple : PySem.W.nsIn K mainGlobals "tuple" = some none)
    (v_PRICE : PySem.W.nsIn K mainGlobals "PRICE" = some (some (.int 100000 t_PRICE)))
    (v_ROWS : PySem.W.nsIn K mainGlobals "ROWS" = some (some (.int 60 t_ROWS)))
    (v_SIZE : PySem.W.nsIn K mainGlobals "SIZE" = some (some (.int 99 t_SIZE)))
    (gC0 : PySem.W.nsIn K mainGlobals "PlanError" = some (some (.ref C0)))
    (gB0 : PySem.W.nsIn K mainGlobals "CanalError" = some (some (.ref B0)))
    (xL0 : K.lookup C0 = some (excClassObj nm0 q0 C0 N0 bs0 bm0 true sn0 sb0 ab0 co0 dd0 m00 m10 m20 m30 m50 "ValueError.__new__"))
    (bmr0 : PySem.HandSPX.refsVE bm0 = true)
    (xB0 : K.lookup B0 = some ⟨u10, w10, .cls ce0, x10⟩)
    (mB0 : ce0.mro = bm0)
    (iB0 : PySem.W.findIn K (.ref B0) "__init__" = some (some (.builtin "ValueError.__init__")))
    (sa0 : PySem.W.findIn K (.ref C0) "__setattr__" = some (some (.builtin "object.__setattr__")))
    (ga0 : PySem.W.findIn K (.ref C0) "__getattribute__" = some (some (.builtin "BaseException.__getattribute__")))
    (gg0 : PySem.W.findIn K (.ref C0) "__getattr__" = some none)
    (nf0_what : PySem.W.findIn K (.ref C0) "what" = some none)
    (nf0_place : PySem.W.findIn K (.ref C0) "place" = some none)
    (iC0 : PySem.W.findIn K (.ref C0) "__init__" = some (some (.ref I0)))
    (tI0 : PySem.W.typeIn K (.ref I0) = some (.type "function"))
    (lI0 : K.lookup I0 = some ⟨u20, w20, .func (PySem.W.ksFn "__init__" "PlanError.__init__" (defArgs (inClass s_PlanError 0)) (defBody (inClass s_PlanError 0)) (defScope (inClass s_PlanError 0)) .none .none u30 u40 w30 (.ref X0) u50 Y0), x20⟩)
    (cI0 : PySem.W.codeIn K (.ref X0) "PlanError.__init__" = true)
    (lX0 : K.lookup X0 = some ⟨u60, w40, .fields vs0, x30⟩)
    (vX0 : vs0[2]? = some (.str file0 tf0))
    (fX0 : ((PySem.Challenge.pw_canalworks_k47_gauges_of_boats.main.file : Str) == file0) = true)
    (lY0 : K.lookup Y0 = some ⟨u70, w50, .cell (some (.ref C0)), x40⟩)
    (kC0 : PySem.W.keepIn K (.ref C0) = true)
    (eC0 : PySem.W.subIn K (.ref C0) (.type "BaseException") = some true)
    (vC0 : PySem.W.subIn K (.ref C0) (.type "ValueError") = some true)
    (tC0 : PySem.W.typeIn K (.ref C0) = some (.type "type"))
    (mC0 : PySem.W.mroIn K C0 (.ref C0) = some true)
    (hC0 : PySem.W.hasDictIn K C0 = true)
    (sC0 : PySem.W.isClsIn K C0 = true)
    (ss0_0 : PySem.W.subIn K (.ref C0) (.ref C0) = some true)
    (opq : PySem.W.nsIn K cStatics "thirdparty.any" = some none)
    : ∃ fd : FuncData, (∀ (s : Shared) (v : Value), BindsTo s fd ⟨[v], []⟩ [("script", v)]) ∧ ∀ base : Heap, K.In base → base.Ns mainGlobals mg → FnOk PySem.Challenge.pw_canalworks_k47_gauges_of_boats w K mg base (L2.CX PySem.Challenge.pw_canalworks_k47_gauges_of_boats w) 11 fa fd ["script"] (spV K mg F_law 1) := by
  have e2 : f19 = fa := by have e := (PySem.W.mg_of X G a19).symm.trans hfa; cases e; rfl
  subst e2
  have Fn0 := fun_mk (st := s_is_number) l0 c0 k0
  have Bn0 := Fn0.binds (ps := ["thing", "low", "high"]) fun _ _ _ _ _ _ us hl => match us, hl with | [_, _, _], _ => rfl
  have Fn1 := fun_mk (st := s_gcd_of) l1 c1 k1
  have Bn1 := Fn1.binds (ps := ["left", "right"]) fun _ _ _ _ _ _ us hl => match us, hl with | [_, _], _ => rfl
  have Fn2 := fun_mk (st := s_ratio) l2 c2 k2
  have Bn2 := Fn2.binds (ps := ["top", "bottom"]) fun _ _ _ _ _ _ us hl => match us, hl with | [_, _], _ => rfl
  have Fn3 := fun_mk (st := s_less) l3 c3 k3
  have Bn3 := Fn3.binds (ps := ["left", "right"]) fun _ _ _ _ _ _ us hl => match us, hl with | [_, _], _ => rfl
  have Fn4 := fun_mk (st := s_make_gauge) l4 c4 k4
  have Bn4 := Fn4.binds (ps := ["rows"]) fun _ _ _ _ _ _ us hl => match us, hl with | [_], _ => rfl
  have Fn5 := fun_mk (st := s__check_depth) l5 c5 k5
  have Bn5 := Fn5.binds (ps := ["gauge", "depth"]) fun _ _ _ _ _ _ us hl => match us, hl with | [_, _], _ => rfl
  have Fn6 := fun_mk (st := s_tons_at) l6 c6 k6
  have Bn6 := Fn6.binds (ps := ["gauge", "depth"]) fun _ _ _ _ _ _ us hl => match us, hl with | [_, _], _ => rfl
  have Fn7 := fun_mk (st := s_depth_for) l7 c7 k7
  have Bn7 := Fn7.binds (ps := ["gauge", "tons"]) fun _ _ _ _ _ _ us hl => match us, hl with | [_, _], _ => rfl
  have Fn8 := fun_mk (st := s_whole_tons) l8 c8 k8
  have Bn8 := Fn8.binds (ps := ["gauge", "depth"]) fun _ _ _ _ _ _ us hl => match us, hl with | [_, _], _ => rfl
  have Fn9 := fun_mk (st := s_cargo_moved) l9 c9 k9
  have Bn9 := Fn9.binds (ps := ["gauge", "before", "behind"]) fun _ _ _ _ _ _ us hl => match us, hl with | [_, _, _], _ => rfl
  have Fn10 := fun_mk (st := s_merged_gauge) l10 c10 k10
  have Bn10 := Fn10.binds (ps := ["one", "other"]) fun _ _ _ _ _ _ us hl => match us, hl with | [_, _], _ => rfl
  have Fn11 := fun_mk (st := s_needless_rows) l11 c11 k11
  have Bn11 := Fn11.binds (ps := ["gauge"]) fun _ _ _ _ _ _ us hl => match us, hl with | [_], _ => rfl
  have Fn12 := fun_mk (st := s__law_strictly) l12 c12 k12
  have Bn12 := Fn12.binds (ps := ["expected", "actual"]) fun _ _ _ _ _ _ us hl => match us, hl with | [_, _], _ => rfl
  have Fn13 := fun_mk (st := s__law_cell) l13 c13 k13
  have Bn13 := Fn13.binds (ps := ["script", "k"]) fun _ _ _ _ _ _ us hl => match us, hl with | [_, _], _ => rfl
  have Fn14 := fun_mk (st := s__law_draw) l14 c14 k14
  have Bn14 := Fn14.binds (ps := ["script", "k", "sizes"]) fun _ _ _ _ _ _ us hl => match us, hl with | [_, _, _], _ => rfl
  have Fn15 := fun_mk (st := s__law_gcd) l15 c15 k15
  have Bn15 := Fn15.binds (ps := ["left", "right"]) fun _ _ _ _ _ _ us hl => match us, hl with | [_, _], _ => rfl
  have Fn16 := fun_mk (st := s__law_ratio) l16 c16 k16
  have Bn16 := Fn16.binds (ps := ["top", "bottom"]) fun _ _ _ _ _ _ us hl => match us, hl with | [_, _], _ => rfl
  have Fn17 := fun_mk (st := s__law_tons) l17 c17 k17
  have Bn17 := Fn17.binds (ps := ["rows", "depth"]) fun _ _ _ _ _ _ us hl => match us, hl with | [_, _], _ => rfl
  have Fn18 := fun_mk (st := s__law_told) l18 c18 k18
  have Bn18 := Fn18.binds (ps := ["which", "rows", "depth"]) fun _ _ _ _ _ _ us hl => match us, hl with | [_, _, _], _ => rfl
  have Fn19 := fun_mk (st := s_law) l19 c19 k19
  have Bn19 := Fn19.binds (ps := ["script"]) fun _ _ _ _ _ _ us hl => match us, hl with | [_], _ => rfl
  have T : Txt PySem.Challenge.pw_canalworks_k47_gauges_of_boats K mg (fun n => ([f0, f1, f2, f3, f4, f5, f6, f7, f8, f9, f10, f11, f12, f13, f14, f15, f16, f17, f18, f19] : List Addr).getD n f0)
      (fun n => ([PySem.W.fnOf "is_number" "is_number" (defArgs s_is_number) (defBody s_is_number) (defScope s_is_number) .none kV0 dc0 pm0 an0 cd0 ct0, PySem.W.fnOf "gcd_of" "gcd_of" (defArgs s_gcd_of) (defBody s_gcd_of) (defScope s_gcd_of) .none kV1 dc1 pm1 an1 cd1 ct1, PySem.W.fnOf "ratio" "ratio" (defArgs s_ratio) (defBody s_ratio) (defScope s_ratio) .none kV2 dc2 pm2 an2 cd2 ct2, PySem.W.fnOf "less" "less" (defArgs s_less) (defBody s_less) (defScope s_less) .none kV3 dc3 pm3 an3 cd3 ct3, PySem.W.fnOf "make_gauge" "make_gauge" (defArgs s_make_gauge) (defBody s_make_gauge) (defScope s_make_gauge) .none kV4 dc4 pm4 an4 cd4 ct4, PySem.W.fnOf "_check_depth" "_check_depth" (defArgs s__check_depth) (defBody s__check_depth) (defScope s__check_depth) .none kV5 dc5 pm5 an5 cd5 ct5, PySem.W.fnOf "tons_at" "tons_at" (defArgs s_tons_at) (defBody s_tons_at) (defScope s_tons_at) .none kV6 dc6 pm6 an6 cd6 ct6, PySem.W.fnOf "depth_for" "depth_for" (defArgs s_depth_for) (defBody s_depth_for) (defScope s_depth_for) .none kV7 dc7 pm7 an7 cd7 ct7, PySem.W.fnOf "whole_tons" "whole_tons" (defArgs s_whole_tons) (defBody s_whole_tons) (defScope s_whole_tons) .none kV8 dc8 pm8 an8 cd8 ct8, PySem.W.fnOf "cargo_moved" "cargo_moved" (defArgs s_cargo_moved) (defBody s_cargo_moved) (defScope s_cargo_moved) .none kV9 dc9 pm9 an9 cd9 ct9, PySem.W.fnOf "merged_gauge" "merged_gauge" (defArgs s_merged_gauge) (defBody s_merged_gauge) (defScope s_merged_gauge) .none kV10 dc10 pm10 an10 cd10 ct10, PySem.W.fnOf "needless_rows" "needless_rows" (defArgs s_needless_rows) (defBody s_needless_rows) (defScope s_needless_rows) .none kV11 dc11 pm11 an11 cd11 ct11, PySem.W.fnOf "_law_strictly" "_law_strictly" (defArgs s__law_strictly) (defBody s__law_strictly) (defScope s__law_strictly) .none kV12 dc12 pm12 an12 cd12 ct12, PySem.W.fnOf "_law_cell" "_law_cell" (defArgs s__law_cell) (defBody s__law_cell) (defScope s__law_cell) .none kV13 dc13 pm13 an13 cd13 ct13, PySem.W.fnOf "_law_draw" "_law_draw" (defArgs s__law_draw) (defBody s__law_draw) (defScope s__law_draw) .none kV14 dc14 pm14 an14 cd14 ct14, PySem.W.fnOf "_law_gcd" "_law_gcd" (defArgs s__law_gcd) (defBody s__law_gcd) (defScope s__law_gcd) .none kV15 dc15 pm15 an15 cd15 ct15, PySem.W.fnOf "_law_ratio" "_law_ratio" (defArgs s__law_ratio) (defBody s__law_ratio) (defScope s__law_ratio) .none kV16 dc16 pm16 an16 cd16 ct16, PySem.W.fnOf "_law_tons" "_law_tons" (defArgs s__law_tons) (defBody s__law_tons) (defScope s__law_tons) .none kV17 dc17 pm17 an17 cd17 ct17, PySem.W.fnOf "_law_told" "_law_told" (defArgs s__law_told) (defBody s__law_told) (defScope s__law_told) .none kV18 dc18 pm18 an18 cd18 ct18, PySem.W.fnOf "law" "law" (defArgs s_law) (defBody s_law) (defScope s_law) .none kV19 dc19 pm19 an19 cd19 ct19] : List FuncData).getD n (PySem.W.fnOf "law" "law" (defArgs s_law) (defBody s_law) (defScope s_law) .none kV19 dc19 pm19 an19 cd19 ct19))
      (fun n => ([C0, I0] : List Addr).getD n f0) :=
    { fn_is_number := Fn0,
      b_is_number := Bn0,
      m_is_number := PySem.W.mg_of X G a0,
      k_is_number := k0,
      fn_gcd_of := Fn1,
      b_gcd_of := Bn1,
      m_gcd_of := PySem.W.mg_of X G a1,
      k_gcd_of := k1,
      fn_ratio := Fn2,
      b_ratio := Bn2,
      m_ratio := PySem.W.mg_of X G a2,
      k_ratio := k2,
      fn_less := Fn3,
      b_less := Bn3,
      m_less := PySem.W.mg_of X G a3,
      k_less := k3,
      fn_make_gauge := Fn4,
      b_make_gauge := Bn4,
      m_make_gauge := PySem.W.mg_of X G a4,
      k_make_gauge := k4,
      fn__check_depth := Fn5,
      b__check_depth := Bn5,
      m__check_depth := PySem.W.mg_of X G a5,
      k__check_depth := k5,
      fn_tons_at := Fn6,
      b_tons_at := Bn6,
      m_tons_at := PySem.W.mg_of X G a6,
      k_tons_at := k6,
      fn_depth_for := Fn7,
      b_depth_for := Bn7,
      m_depth_for := PySem.W.mg_of X G a7,
      k_depth_for := k7,
      fn_whole_tons := Fn8,
      b_whole_tons := Bn8,
      m_whole_tons := PySem.W.mg_of X G a8,
      k_whole_tons := k8,
      fn_cargo_moved := Fn9,
      b_cargo_moved := Bn9,
      m_cargo_moved := PySem.W.mg_of X G a9,
      k_cargo_moved := k9,
      fn_merged_gauge := Fn10,
      b_merged_gauge := Bn10,
      m_merged_gauge := PySem.W.mg_of X G a10,
      k_merged_gauge := k10,
      fn_needless_rows := Fn11,
      b_needless_rows := Bn11,
      m_needless_rows := PySem.W.mg_of X G a11,
      k_needless_rows := k11,
      fn__law_strictly := Fn12,
      b__law_strictly := Bn12,
      m__law_strictly := PySem.W.mg_of X G a12,
      k__law_strictly := k12,
      fn__law_cell := Fn13,
      b__law_cell := Bn13,
      m__law_cell := PySem.W.mg_of X G a13,
      k__law_cell := k13,
      fn__law_draw := Fn14,
      b__law_draw := Bn14,
      m__law_draw := PySem.W.mg_of X G a14,
      k__law_draw := k14,
      fn__law_gcd := Fn15,
      b__law_gcd := Bn15,
      m__law_gcd := PySem.W.mg_of X G a15,
      k__law_gcd := k15,
      fn__law_ratio := Fn16,
      b__law_ratio := Bn16,
      m__law_ratio := PySem.W.mg_of X G a16,
      k__law_ratio := k16,
      fn__law_tons := Fn17,
      b__law_tons := Bn17,
      m__law_tons := PySem.W.mg_of X G a17,
      k__law_tons := k17,
      fn__law_told := Fn18,
      b__law_told := Bn18,
      m__law_told := PySem.W.mg_of X G a18,
      k__law_told := k18,
      fn_law := Fn19,
      b_law := Bn19,
      m_law := PySem.W.mg_of X G a19,
      k_law := k19,
      n_abs := PySem.W.mg_none_of X G z_abs,
      n_bool := PySem.W.mg_none_of X G z_bool,
      n_int := PySem.W.mg_none_of X G z_int,
      n_isinstance := PySem.W.mg_none_of X G z_isinstance,
      n_len := PySem.W.mg_none_of X G z_len,
      n_list := PySem.W.mg_none_of X G z_list,
      n_range := PySem.W.mg_none_of X G z_range,
      n_sorted := PySem.W.mg_none_of X G z_sorted,
      n_str := PySem.W.mg_none_of X G z_str,
      n_super := PySem.W.mg_none_of X G z_super,
      n_tuple := PySem.W.mg_none_of X G z_tuple,
      c_PRICE := ⟨_, PySem.W.mg_of X G v_PRICE⟩,
      c_ROWS := ⟨_, PySem.W.mg_of X G v_ROWS⟩,
      c_SIZE := ⟨_, PySem.W.mg_of X G v_SIZE⟩,
      e_PlanError := { cls := ⟨_, _, _, _, _, _, _, _, _, _, _, _, _, _, _, xL0, bmr0⟩, sa := sa0, noF := (by intro f hf; simp only [List.mem_cons, List.mem_nil_iff, or_false] at hf; rcases hf with rfl | rfl <;> assumption), iC := iC0, tC := tI0, kC := kC0, exC := eC0, veC := vC0, tyC := tC0, mr := mC0, opq := opq, sup := sup_of xL0 xB0 mB0 iB0, fn := ⟨_, _, _, _, _, _, _, _, _, _, _, _, _, _, _, _, _, _, _, _, _, _, _, _, _, _, _, _, _, _, _, _, _, lI0, cI0, (.fld (by decide) (.con (by decide) (.fld (by decide) .nil))), by decide, rfl, (.cons (.cons .nil)), lX0, vX0, fX0, lY0, rfl, rfl, rfl, rfl, rfl, by decide +kernel, rfl, rfl, by decide +kernel, fun us hl => match us, hl with | [_, _, _], _ => rfl⟩, top := by decide +kernel, dbg := by decide +kernel, few := by decide, nd := by decide +kernel },
      m_PlanError := PySem.W.mg_of X G gC0,
      xf_PlanError := ⟨ga0, gg0, eC0, hC0⟩,
      nf_PlanError_what := nf0_what,
      nf_PlanError_place := nf0_place,
      ex_PlanError := (by intro nm C hc hm; simp only [List.contains_cons, List.contains_nil, Bool.or_false, Bool.or_eq_true, beq_iff_eq] at hc; rcases hc with rfl <;> first | exact exm_eq (PySem.W.mg_of X G gC0) hm (exm_of eC0 sC0 tC0 ss0_0)) }
  exact ⟨_, fun s v => .of_eq rfl, fun base _ _ => ok_law T⟩
end
theorem walk {q : Program} {loose : List Str} {XP : (Str → Option Value) → Heap → Prop} {YP : World → Heap → Prop} {d : DefRec} {K : Params → PySem.W.Frag} (hdf : d.params.defaults = [])
    (hY : ∀ (w : World) (h : Heap), YP w h → (K w.params).In h)
    (F : ∀ (w : World) (mg : Str → Option Value) (fa : Addr) (h : Heap), (K w.params).In h → h.Ns mainGlobals mg → mg d.name = some (.ref fa) →
      ∃ fd : FuncData, (∀ (s : Shared) (u : Value), BindsTo s fd ⟨[u], []⟩ [("script", u)]) ∧ ∀ base : Heap, (K w.params).In base → base.Ns mainGlobals mg → FnOk PySem.Challenge.pw_canalworks_k47_gauges_of_boats w (K w.params) mg base (L2.CX PySem.Challenge.pw_canalworks_k47_gauges_of_boats w) 11 fa fd ["script"] (spV (K w.params) mg F_law 1)) :
    PySem.W.WalkO q loose XP YP (PySem.Challenge.rw_canalworks_k47_gauges_of_boats).row.toRowW d [] (fun f vs => PySem.call f vs) :=
  L2.walk_of (l := PySem.Challenge.rw_canalworks_k47_gauges_of_boats) (n := 63) (k := 11) (x := "script") (CX := fun w => L2.CX PySem.Challenge.pw_canalworks_k47_gauges_of_boats w) (sp := fun w => spL (K w.params) F_law) rfl (by decide) hdf ⟨rfl, by decide, by decide⟩ hY
    (fun w mg fa h X G hm => by
      obtain ⟨fd, h1, h2⟩ := F w mg fa h X G hm
      exact ⟨fd, h1, fun base a b => (h2 base a b).imp fun vs H Q E q => spL_V q⟩)
    (fun w H a ns hl _ hS => spL_ok law_true hl hS) (fun _ _ _ _ _ z => no_cx z)
end K47
open PySem PySem.W PyProof.Rows in
set_option maxRecDepth 100000 in
set_option maxHeartbeats 0 in
theorem PySem.Challenge.cw_canalworks_k47_gauges_of_boats_holds : PySem.Challenge.rw_canalworks_k47_gauges_of_boats.Holds := by
  w_on; o_law; k_head; (case hw => w_witness2)
  k_fill
  refine K47.walk rfl (fun w h Y => PySem.W.kIn_of Y) ?F
  case F =>
    intro w mg fa h KX G hmg
    refine' K47.all_mk KX G hmg ?a0 ?l0 ?c0 ?k0 ?a1 ?l1 ?c1 ?k1 ?a2 ?l2 ?c2 ?k2 ?a3 ?l3 ?c3 ?k3 ?a4 ?l4 ?c4 ?k4 ?a5 ?l5 ?c5 ?k5 ?a6 ?l6 ?c6 ?k6 ?a7 ?l7 ?c7 ?k7 ?a8 ?l8 ?c8 ?k8 ?a9 ?l9 ?c9 ?k9 ?a10 ?l10 ?c10 ?k10 ?a11 ?l11 ?c11 ?k11 ?a12 ?l12 ?c12 ?k12 ?a13 ?l13 ?c13 ?k13 ?a14 ?l14 ?c14 ?k14 ?a15 ?l15 ?c15 ?k15 ?a16 ?l16 ?c16 ?k16 ?a17 ?l17 ?c17 ?k17 ?a18 ?l18 ?c18 ?k18 ?a19 ?l19 ?c19 ?k19 ?z_abs ?z_bool ?z_int ?z_isinstance ?z_len ?z_list ?z_range ?z_sorted ?z_str ?z_super ?z_tuple ?v_PRICE ?v_ROWS ?v_SIZE ?gC0 ?gB0 ?xL0 ?bmr0 ?xB0 ?mB0 ?iB0 ?sa0 ?ga0 ?gg0 ?nf0_what ?nf0_place ?iC0 ?tI0 ?lI0 ?cI0 ?lX0 ?vX0 ?fX0 ?lY0 ?kC0 ?eC0 ?vC0 ?tC0 ?mC0 ?hC0 ?sC0 ?ss0_0 ?opq
    (case a0 => k_is)
    (case l0 => k_is)
    (case c0 => k_is)
    (case k0 => k_is)
    (case a1 => k_is)
    (case l1 => k_is)
    (case c1 => k_is)
    (case k1 => k_is)
    (case a2 => k_is)
    (case l2 => k_is)
    (case c2 => k_is)
    (case k2 => k_is)
    (case a3 => k_is)
    (case l3 => k_is)
    (case c3 => k_is)
    (case k3 => k_is)
    (case a4 => k_is)
    (case l4 => k_is)
    (case c4 => k_is)
    (case k4 => k_is)
    (case a5 => k_is)
    (case l5 => k_is)
    (case c5 => k_is)
    (case k5 => k_is)
    (case a6 => k_is)
    (case l6 => k_is)
    (case c6 => k_is)
    (case k6 => k_is)
    (case a7 => k_is)
    (case l7 => k_is)
    (case c7 => k_is)
    (case k7 => k_is)
    (case a8 => k_is)
    (case l8 => k_is)
    (case c8 => k_is)
    (case k8 => k_is)
    (case a9 => k_is)
    (case l9 => k_is)
    (case c9 => k_is)
    (case k9 => k_is)
    (case a10 => k_is)
    (case l10 => k_is)
    (case c10 => k_is)
    (case k10 => k_is)
    (case a11 => k_is)
    (case l11 => k_is)
    (case c11 => k_is)
    (case k11 => k_is)
    (case a12 => k_is)
    (case l12 => k_is)
    (case c12 => k_is)
    (case k12 => k_is)
    (case a13 => k_is)
    (case l13 => k_is)
    (case c13 => k_is)
    (case k13 => k_is)
    (case a14 => k_is)
    (case l14 => k_is)
    (case c14 => k_is)
    (case k14 => k_is)
    (case a15 => k_is)
    (case l15 => k_is)
    (case c15 => k_is)
    (case k15 => k_is)
    (case a16 => k_is)
    (case l16 => k_is)
    (case c16 => k_is)
    (case k16 => k_is)
    (case a17 => k_is)
    (case l17 => k_is)
    (case c17 => k_is)
    (case k17 => k_is)
    (case a18 => k_is)
    (case l18 => k_is)
    (case c18 => k_is)
    (case k18 => k_is)
    (case a19 => k_is)
    (case l19 => k_is)
    (case c19 => k_is)
    (case k19 => k_is)
    (case z_abs => k_is)
    (case z_bool => k_is)
    (case z_int => k_is)
    (case z_isinstance => k_is)
    (case z_len => k_is)
    (case z_list => k_is)
    (case z_range => k_is)
    (case z_sorted => k_is)
    (case z_str => k_is)
    (case z_super => k_is)
    (case z_tuple => k_is)
    (case v_PRICE => k_is)
    (case v_ROWS => k_is)
    (case v_SIZE => k_is)
    (case gC0 => k_is)
    (case gB0 => k_is)
    (case xL0 => k_is)
    (case bmr0 => rfl)
    (case xB0 => k_is)
    (case mB0 => rfl)
    (case iB0 => k_is)
    (case sa0 => k_is)
    (case ga0 => k_is)
    (case gg0 => k_is)
    (case nf0_what => k_is)
    (case nf0_place => k_is)
    (case iC0 => k_is)
    (case tI0 => k_is)
    (case lI0 => k_is)
    (case cI0 => k_is)
    (case lX0 => k_is)
    (case vX0 => rfl)
    (case fX0 => first | rfl | decide +kernel)
    (case lY0 => k_is)
    (case kC0 => k_is)
    (case eC0 => k_is)
    (case vC0 => k_is)
    (case tC0 => k_is)
    (case mC0 => k_is)
    (case hC0 => k_is)
    (case sC0 => k_is)
    (case ss0_0 => first | rfl | k_is)
    (case opq => k_is)

