import PyProof.Rows.All
import Wide.All
import OpenK.AllK
import Wide.FinOn
import HandS.ForMost
import HandS.ForExc
import HandS.Deep
import HandS.TupAny
import HandS.IsInst
import HandS.Wide
import HandS.TryMany
import KE.KExcSuper
import HandS.ExcInit
import HandS.ExcSuper
import HandS.ExcField
import KE.SortData
import HandS.Conv
import HandS.Style
import KE.DataMinMax
import PyProof.GenCompD
import HandS.AnyAll
import PyProof.ConsumeS
import HandS.EndTab
import HandS.EndOwn
import HandS.SortKw
import PySem.Challenge.RW_canalworks_k56_whole_convoys
set_option Elab.async false
set_option linter.all false
set_option maxRecDepth 100000
set_option maxHeartbeats 4000000
/-! VL: a layer of values over the hand layer. A piece of Python with its reading as a plain function of data. -/
namespace VL
open PySem PySem.Spec PyProof.Rows L2

abbrev D := PyData

/-- an exception: its class's name, its fields -/
structure Err where
  cls : Str
  fs : List (Str × D)

inductive Res (α : Type) where
  | ok (a : α)
  | ex (e : Err)
  | no

namespace Res
variable {α β : Type}
def bind : Res α → (α → Res β) → Res β
  | ok a, f => f a
  | ex e, _ => ex e
  | no, _ => no
@[simp] theorem ok_bind (a : α) (f : α → Res β) : (ok a).bind f = f a := rfl
@[simp] theorem ex_bind (e : Err) (f : α → Res β) : (ex e : Res α).bind f = ex e := rfl
@[simp] theorem no_bind (f : α → Res β) : (no : Res α).bind f = no := rfl
end Res

/-! ### heaps -/
structure Sub (H H' : Hp) : Prop where
  ob : ∀ a o, H a = some o → (∀ ps, o ≠ .tbl ps) → H' a = some o
  tb : ∀ a ps, H a = some (.tbl ps) → TriplesOk ps.toList → ∃ qs, H' a = some (.tbl qs) ∧ TriplesOk qs.toList
  dm : ∀ a, H a ≠ none → H' a ≠ none
theorem Sub.refl (H : Hp) : Sub H H := ⟨fun _ _ h _ => h, fun _ ps h t => ⟨ps, h, t⟩, fun _ h => h⟩
theorem Sub.trans {H H1 H2 : Hp} (a : Sub H H1) (b : Sub H1 H2) : Sub H H2 :=
  ⟨fun c o h n => b.ob c o (a.ob c o h n) n, fun c ps h t => by
    obtain ⟨qs, h1, t1⟩ := a.tb c ps h t
    exact b.tb c qs h1 t1, fun c h => b.dm c (a.dm c h)⟩
theorem Sub.lst {H H' : Hp} (s : Sub H H') {a : Addr} {xs : List V} (h : H a = some (.lst xs)) : H' a = some (.lst xs) := s.ob a _ h fun _ z => by cases z
theorem Sub.tup {H H' : Hp} (s : Sub H H') {a : Addr} {xs : List V} (h : H a = some (.tup xs)) : H' a = some (.tup xs) := s.ob a _ h fun _ z => by cases z
theorem Sub.xd {H H' : Hp} (s : Sub H H') {a : Addr} {xs : List (Str × V)} (h : H a = some (.xd xs)) : H' a = some (.xd xs) := s.ob a _ h fun _ z => by cases z
theorem Sub.free {H H' : Hp} (s : Sub H H') {a : Addr} (h : H' a = none) : H a = none := by
  cases q : H a with
  | none => rfl
  | some o => exact absurd h (s.dm a (by rw [q]; simp))
theorem Sub.sqL {K : PySem.W.Frag} {H H' : Hp} {a : Addr} {xs : List V} (s : Sub H H') (h : SqL K H a xs) : SqL K H' a xs := by
  rcases h with (h | ⟨o, h⟩) | h
  · exact .inl (.inl (s.lst h))
  · exact .inl (.inr ⟨o, s.ob _ _ h fun _ z => by cases z⟩)
  · exact .inr h
theorem Sub.sqT {K : PySem.W.Frag} {H H' : Hp} {a : Addr} {xs : List V} (s : Sub H H') (h : SqT K H a xs) : SqT K H' a xs := by
  rcases h with (h | ⟨o, h⟩) | h
  · exact .inl (.inl (s.tup h))
  · exact .inl (.inr ⟨o, s.ob _ _ h fun _ z => by cases z⟩)
  · exact .inr h
mutual
theorem Sub.dp {K : PySem.W.Frag} {H H' : Hp} (s : Sub H H') : ∀ (d : D) (v : V), Dp K H v d → Dp K H' v d
  | .none, _, h => by cases h; exact .non
  | .bool b, _, h => by cases h; exact .bl b
  | .int i, _, h => by cases h; exact .int i
  | .str x, _, h => by cases h; exact .str x
  | .list ds, _, h => by
    cases h with
    | lst a b => exact .lst (s.sqL a) (Sub.dpAll s ds _ b)
  | .tuple ds, _, h => by
    cases h with
    | tup a b => exact .tup (s.sqT a) (Sub.dpAll s ds _ b)
  | .dict _, _, h => by cases h
theorem Sub.dpAll {K : PySem.W.Frag} {H H' : Hp} (s : Sub H H') : ∀ (ds : List D) (vs : List V), DpAll K H vs ds → DpAll K H' vs ds
  | [], _, h => by cases h; exact .nil
  | d :: ds, _, h => by
    cases h with
    | cons a b => exact .cons (Sub.dp s d _ a) (Sub.dpAll s ds _ b)
end
end VL
namespace L2
open PySem PySem.Spec PyProof.Rows
theorem DpAll.len {K : PySem.W.Frag} {H : Hp} : ∀ {xs : List V} {ds : List PyData}, DpAll K H xs ds → xs.length = ds.length
  | _, _, .nil => rfl
  | _, _, .cons _ t => by rw [List.length_cons, List.length_cons, DpAll.len t]
theorem DpAll.get {K : PySem.W.Frag} {H : Hp} : ∀ {xs : List V} {ds : List PyData} {i : Nat} {x : V}, DpAll K H xs ds → xs[i]? = some x → ∃ d, ds[i]? = some d ∧ Dp K H x d
  | _, _, _, _, .nil, e => by simp at e
  | _, _, 0, _, .cons r _, e => by simp at e; subst e; exact ⟨_, rfl, r⟩
  | _, _, i + 1, x, .cons _ t, e => by
    obtain ⟨d, h1, h2⟩ := DpAll.get (i := i) (x := x) t (by simpa using e)
    exact ⟨d, by simpa using h1, h2⟩
theorem DpAll.at {K : PySem.W.Frag} {H : Hp} : ∀ {xs : List V} {ds : List PyData} {i : Nat} {d : PyData}, DpAll K H xs ds → ds[i]? = some d → ∃ x, xs[i]? = some x ∧ Dp K H x d
  | _, _, _, _, .nil, e => by simp at e
  | _, _, 0, _, .cons r _, e => by simp at e; subst e; exact ⟨_, rfl, r⟩
  | _, _, i + 1, d, .cons _ t, e => by
    obtain ⟨x, h1, h2⟩ := DpAll.at (i := i) (d := d) t (by simpa using e)
    exact ⟨x, by simpa using h1, h2⟩
theorem DpAll.append {K : PySem.W.Frag} {H : Hp} : ∀ {xs ys : List V} {ds es : List PyData}, DpAll K H xs ds → DpAll K H ys es → DpAll K H (xs ++ ys) (ds ++ es)
  | _, _, _, _, .nil, s => s
  | _, _, _, _, .cons r t, s => .cons r (DpAll.append t s)
theorem DpAll.set {K : PySem.W.Frag} {H : Hp} {x : V} {d : PyData} (r : Dp K H x d) : ∀ {xs : List V} {ds : List PyData} (i : Nat), DpAll K H xs ds → DpAll K H (xs.set i x) (ds.set i d)
  | _, _, _, .nil => .nil
  | _, _, 0, .cons _ t => .cons r t
  | _, _, i + 1, .cons q t => .cons q (DpAll.set r i t)
theorem DpAll.take {K : PySem.W.Frag} {H : Hp} : ∀ {xs : List V} {ds : List PyData} (n : Nat), DpAll K H xs ds → DpAll K H (xs.take n) (ds.take n)
  | _, _, 0, _ => .nil
  | _, _, _ + 1, .nil => .nil
  | _, _, n + 1, .cons r t => .cons r (DpAll.take n t)
theorem DpAll.drop {K : PySem.W.Frag} {H : Hp} : ∀ {xs : List V} {ds : List PyData} (n : Nat), DpAll K H xs ds → DpAll K H (xs.drop n) (ds.drop n)
  | _, _, 0, r => r
  | _, _, _ + 1, .nil => .nil
  | _, _, n + 1, .cons _ t => DpAll.drop n t
theorem DpAll.flat {K : PySem.W.Frag} {H : Hp} {xs : List V} {ds : List PyData} (h : DpAll K H xs ds) : ∀ n : Nat, DpAll K H (List.replicate n xs).flatten (List.replicate n ds).flatten
  | 0 => .nil
  | n + 1 => by
    rw [List.replicate_succ, List.replicate_succ, List.flatten_cons, List.flatten_cons]
    exact h.append (DpAll.flat h n)

end L2
namespace VL
open PySem PySem.Spec PyProof.Rows L2
/-- from (F, H) to (F', H'): F the frozen data, H all that is tracked: what is new in F' is new in H' -/
structure Grow (F H F' H' : Hp) : Prop where
  f : Sub F F'
  h : Sub H H'
  fh : Sub F' H'
  ag : ∀ a, H a ≠ none → F' a = F a
theorem Grow.refl {F H : Hp} (s : Sub F H) : Grow F H F H := ⟨Sub.refl F, Sub.refl H, s, fun _ _ => rfl⟩
theorem Grow.trans {F H F1 H1 F2 H2 : Hp} (a : Grow F H F1 H1) (b : Grow F1 H1 F2 H2) : Grow F H F2 H2 :=
  ⟨a.f.trans b.f, a.h.trans b.h, b.fh, fun c h => (b.ag c (a.h.dm c h)).trans (a.ag c h)⟩
theorem upd_sub {H : Hp} {p : Addr} {o : HO} (hp : H p = none) : Sub H (upd H p o) :=
  ⟨fun a u h _ => by rw [upd_ne (ne_of_none h hp)]; exact h, fun a ps h t => ⟨ps, by rw [upd_ne (ne_of_none h hp)]; exact h, t⟩, fun a h z => by
    unfold upd at z
    split at z
    · cases z
    · exact h z⟩
theorem upd_both {F H : Hp} {p : Addr} {o : HO} (s : Sub F H) (hp : F p = none) (ho : ∀ ps, o ≠ .tbl ps) : Sub (upd F p o) (upd H p o) :=
  ⟨fun a u h n => by
    by_cases e : a = p
    · subst e; rw [upd_same] at h ⊢; exact h
    · rw [upd_ne e] at h ⊢; exact s.ob a u h n, fun a ps h t => by
    by_cases e : a = p
    · subst e; rw [upd_same] at h; exact absurd (Option.some.inj h) (ho ps)
    · rw [upd_ne e] at h
      obtain ⟨qs, h1, t1⟩ := s.tb a ps h t
      exact ⟨qs, by rw [upd_ne e]; exact h1, t1⟩, fun a h z => by
    by_cases e : a = p
    · subst e; rw [upd_same] at z; cases z
    · rw [upd_ne e] at h z; exact s.dm a h z⟩
/-- a new frozen object -/
theorem Grow.new {F H : Hp} {p : Addr} {o : HO} (s : Sub F H) (hp : H p = none) (ho : ∀ ps, o ≠ .tbl ps) : Grow F H (upd F p o) (upd H p o) :=
  ⟨upd_sub (s.free hp), upd_sub hp, upd_both s (s.free hp) ho, fun a h => upd_ne fun e => h (by rw [e]; exact hp)⟩
theorem ntl {xs : List V} : ∀ ps, HO.lst xs ≠ .tbl ps := fun _ z => by cases z
theorem ntt {xs : List V} : ∀ ps, HO.tup xs ≠ .tbl ps := fun _ z => by cases z

/-! ### slots -/
inductive LV where
  /-- frozen data -/
  | fz (d : D)
  /-- a list that this body alone holds and may change -/
  | ow (ds : List D)
  /-- the error that an except suite holds -/
  | er (e : Err)
abbrev Rho := List (Option LV)

structure Bd where
  R : Hp
  F : Hp
  xi : Option (Addr × Value × Option Addr) := none
  mg : Str → Option Value := fun _ => none
  /-- the defs' tables of code objects, that stand among the frozen -/
  T : List Addr := []
  tb : ∀ P ∈ T, ∃ ps : Array Value, F P = some (.tbl ps) ∧ TriplesOk ps.toList := by intro P h; cases h
def FsR (K : PySem.W.Frag) (F : Hp) (fs : List (Str × V)) (es : List (Str × D)) : Prop := ∀ f d, es.lookup f = some d → ∃ v, fs.lookup f = some v ∧ Dp K F v d
theorem FsR.grow {K : PySem.W.Frag} {F F' : Hp} (s : Sub F F') {fs : List (Str × V)} {es : List (Str × D)} (h : FsR K F fs es) : FsR K F' fs es := fun f d e => by
  obtain ⟨v, h1, h2⟩ := h f d e
  exact ⟨v, h1, s.dp _ _ h2⟩

def Slot (K : PySem.W.Frag) (B : Bd) (F H : Hp) (v : V) : LV → Prop
  | .fz d => Dp K F v d
  | .ow ds => ∃ a xs, v = .ref a ∧ H a = some (.lst xs) ∧ F a = none ∧ B.R a = none ∧ DpAll K F xs ds
  | .er e => ∃ a C dd fs, B.xi = some (a, .ref C, some dd) ∧ v = .ref a ∧ B.mg e.cls = some (.ref C) ∧ F dd = some (.xd fs) ∧ FsR K F fs e.fs
theorem Slot.grow {K : PySem.W.Frag} {B : Bd} {F H F' H' : Hp} (g : Grow F H F' H') {v : V} : ∀ {lv : LV}, Slot K B F H v lv → Slot K B F' H' v lv
  | .fz d, h => g.f.dp d v h
  | .ow ds, ⟨a, xs, e, h1, h2, h3, h4⟩ => ⟨a, xs, e, g.h.lst h1, (g.ag a (by rw [h1]; simp)).trans h2, h3, g.f.dpAll ds xs h4⟩
  | .er e, ⟨a, C, dd, fs, h0, h1, h2, h3, h4⟩ => ⟨a, C, dd, fs, h0, h1, h2, g.f.xd h3, h4.grow g.f⟩

/-- slot i holds a list of its own -/
def Own (ρ : Rho) (i : Nat) : Prop := ∃ ds, ρ[i]? = some (some (.ow ds))

structure Sta (K : PySem.W.Frag) (B : Bd) (ρ : Rho) (σ : L2.St) (F H : Hp) : Prop where
  len : ρ.length = σ.length
  g : Grow B.F B.R F H
  sl : ∀ (i : Nat) (lv : LV), ρ[i]? = some (some lv) → ∃ v, σ[i]? = some (some v) ∧ Slot K B F H v lv
  dj : ∀ (i j : Nat) (v : V), Own ρ i → Own ρ j → σ[i]? = some (some v) → σ[j]? = some (some v) → i = j
theorem Sta.fh {K : PySem.W.Frag} {B : Bd} {ρ : Rho} {σ : L2.St} {F H : Hp} (S : Sta K B ρ σ F H) : Sub F H := S.g.fh
theorem Sta.grow {K : PySem.W.Frag} {B : Bd} {ρ : Rho} {σ : L2.St} {F H F' H' : Hp} (S : Sta K B ρ σ F H) (g : Grow F H F' H') : Sta K B ρ σ F' H' :=
  ⟨S.len, S.g.trans g, fun i lv e => by
    obtain ⟨v, h1, h2⟩ := S.sl i lv e
    exact ⟨v, h1, h2.grow g⟩, S.dj⟩

/-- slot i is stored -/
theorem Sta.set {K : PySem.W.Frag} {B : Bd} {ρ : Rho} {σ : L2.St} {F H : Hp} (S : Sta K B ρ σ F H) {i : Nat} {v : V} {d : D} (h : Dp K F v d) : Sta K B (ρ.set i (some (.fz d))) (σ.set i (some v)) F H := by
  refine ⟨by rw [List.length_set, List.length_set, S.len], S.g, fun j lv e => ?_, fun j k u oj ok ej ek => ?_⟩
  · rw [List.getElem?_set] at e
    by_cases hij : i = j
    · subst hij
      rw [if_pos rfl] at e
      split at e
      · cases e
        exact ⟨v, by rw [List.getElem?_set_self (by rw [← S.len]; assumption)], h⟩
      · cases e
    · rw [if_neg hij] at e
      obtain ⟨u, h1, h2⟩ := S.sl j lv e
      exact ⟨u, by rw [List.getElem?_set_ne hij]; exact h1, h2⟩
  · obtain ⟨dj, oj⟩ := oj
    obtain ⟨dk, ok⟩ := ok
    have nj : i ≠ j := fun z => by
      subst z
      rw [List.getElem?_set] at oj
      simp only [if_true] at oj
      split at oj <;> simp at oj
    have nk : i ≠ k := fun z => by
      subst z
      rw [List.getElem?_set] at ok
      simp only [if_true] at ok
      split at ok <;> simp at ok
    rw [List.getElem?_set_ne nj] at oj ej
    rw [List.getElem?_set_ne nk] at ok ek
    exact S.dj j k u ⟨dj, oj⟩ ⟨dk, ok⟩ ej ek
/-- slot i is given a new list of its own -/
theorem Sta.setO {K : PySem.W.Frag} {B : Bd} {ρ : Rho} {σ : L2.St} {F H : Hp} (S : Sta K B ρ σ F H) {i : Nat} {a : Addr} {xs : List V} {ds : List D} (hH : H a = some (.lst xs)) (hF : F a = none) (hR : B.R a = none) (h : DpAll K F xs ds)
    (nw : ∀ j, Own ρ j → σ[j]? ≠ some (some (.ref a))) : Sta K B (ρ.set i (some (.ow ds))) (σ.set i (some (.ref a))) F H := by
  refine ⟨by rw [List.length_set, List.length_set, S.len], S.g, fun j lv e => ?_, fun j k u oj ok ej ek => ?_⟩
  · rw [List.getElem?_set] at e
    by_cases hij : i = j
    · subst hij
      rw [if_pos rfl] at e
      split at e
      · cases e
        exact ⟨.ref a, by rw [List.getElem?_set_self (by rw [← S.len]; assumption)], ⟨a, xs, rfl, hH, hF, hR, h⟩⟩
      · cases e
    · rw [if_neg hij] at e
      obtain ⟨u, h1, h2⟩ := S.sl j lv e
      exact ⟨u, by rw [List.getElem?_set_ne hij]; exact h1, h2⟩
  · by_cases hj : i = j
    · by_cases hk : i = k
      · exact hj.symm.trans hk
      · exfalso
        subst hj
        obtain ⟨dk, ok⟩ := ok
        rw [List.getElem?_set_ne hk] at ok ek
        rw [List.getElem?_set] at ej
        simp only [if_true] at ej
        split at ej
        · cases ej
          exact nw k ⟨dk, ok⟩ ek
        · cases ej
    · by_cases hk : i = k
      · exfalso
        subst hk
        obtain ⟨dj, oj⟩ := oj
        rw [List.getElem?_set_ne hj] at oj ej
        rw [List.getElem?_set] at ek
        simp only [if_true] at ek
        split at ek
        · cases ek
          exact nw j ⟨dj, oj⟩ ej
        · cases ek
      · obtain ⟨dj, oj⟩ := oj
        obtain ⟨dk, ok⟩ := ok
        rw [List.getElem?_set_ne hj] at oj ej
        rw [List.getElem?_set_ne hk] at ok ek
        exact S.dj j k u ⟨dj, oj⟩ ⟨dk, ok⟩ ej ek
/-- the list of slot i is changed -/
theorem Sta.mut {K : PySem.W.Frag} {B : Bd} {ρ : Rho} {σ : L2.St} {F H : Hp} (S : Sta K B ρ σ F H) {i : Nat} {a : Addr} {xs ys : List V} {ds es : List D} (hi : ρ[i]? = some (some (.ow ds))) (hs : σ[i]? = some (some (.ref a))) (hH : H a = some (.lst xs))
    (h : DpAll K F ys es) : Sta K B (ρ.set i (some (.ow es))) σ F (upd H a (.lst ys)) := by
  obtain ⟨v, h1, h2⟩ := S.sl i _ hi
  rw [hs] at h1
  cases h1
  obtain ⟨a', xs', e, hH', hF, hR, _⟩ := h2
  cases e
  have hne : ∀ b, F b ≠ none → b ≠ a := fun b n z => n (by rw [z]; exact hF)
  have hnr : ∀ b, B.R b ≠ none → b ≠ a := fun b n z => n (by rw [z]; exact hR)
  have G : Grow B.F B.R F (upd H a (.lst ys)) := by
    refine ⟨S.g.f, ⟨fun b o e n => ?_, fun b ps e t => ?_, fun b e => ?_⟩, ⟨fun b o e n => ?_, fun b ps e t => ?_, fun b e => ?_⟩, S.g.ag⟩
    · rw [upd_ne (hnr b (by rw [e]; simp))]; exact S.g.h.ob b o e n
    · rw [upd_ne (hnr b (by rw [e]; simp))]; exact S.g.h.tb b ps e t
    · rw [upd_ne (hnr b e)]; exact S.g.h.dm b e
    · rw [upd_ne (hne b (by rw [e]; simp))]; exact S.g.fh.ob b o e n
    · rw [upd_ne (hne b (by rw [e]; simp))]; exact S.g.fh.tb b ps e t
    · rw [upd_ne (hne b e)]; exact S.g.fh.dm b e
  have own : ∀ j, Own (ρ.set i (some (.ow es))) j → Own ρ j := fun j ⟨dj, oj⟩ => by
    by_cases hij : i = j
    · subst hij; exact ⟨ds, hi⟩
    · rw [List.getElem?_set_ne hij] at oj; exact ⟨dj, oj⟩
  refine ⟨by rw [List.length_set, S.len], G, fun j lv e => ?_, fun j k u oj ok => S.dj j k u (own j oj) (own k ok)⟩
  by_cases hij : i = j
  · subst hij
    rw [List.getElem?_set] at e
    simp only [if_true] at e
    split at e
    · cases e
      exact ⟨.ref a, hs, ⟨a, ys, rfl, upd_same, hF, hR, h⟩⟩
    · cases e
  · rw [List.getElem?_set_ne hij] at e
    obtain ⟨u, e1, e2⟩ := S.sl j lv e
    refine ⟨u, e1, ?_⟩
    cases lv with
    | fz d => exact e2
    | er _ => exact e2
    | ow d2 =>
      obtain ⟨b, zs, rfl, f1, f2, f3, f4⟩ := e2
      refine ⟨b, zs, rfl, ?_, f2, f3, f4⟩
      rw [upd_ne fun z => hij (S.dj i j _ ⟨ds, hi⟩ ⟨d2, e⟩ hs (by rw [← z]; exact e1))]
      exact f1
/-- a list of its own is frozen -/
def frz (i : Nat) (ρ : Rho) : Rho := match ρ[i]? with
  | some (some (.ow ds)) => ρ.set i (some (.fz (.list ds)))
  | _ => ρ
theorem Sta.frz {K : PySem.W.Frag} {B : Bd} {ρ : Rho} {σ : L2.St} {F H : Hp} (S : Sta K B ρ σ F H) (i : Nat) : ∃ F', Sub F F' ∧ Sta K B (frz i ρ) σ F' H := by
  unfold VL.frz
  split
  · rename_i ds e
    obtain ⟨v, h1, h2⟩ := S.sl i _ e
    obtain ⟨a, xs, rfl, hH, hF, hR, h4⟩ := h2
    have s1 : Sub F (upd F a (.lst xs)) := upd_sub hF
    refine ⟨upd F a (.lst xs), s1, by rw [List.length_set, S.len], ⟨S.g.f.trans s1, S.g.h, ⟨fun b o q n => ?_, fun b ps q t => ?_, fun b q => ?_⟩, fun b hb => ?_⟩, fun j lv q => ?_, fun j k u oj ok => ?_⟩
    · by_cases hb : b = a
      · subst hb; rw [upd_same] at q; rw [← q]; exact hH
      · rw [upd_ne hb] at q; exact S.fh.ob b o q n
    · by_cases hb : b = a
      · subst hb; rw [upd_same] at q; cases q
      · rw [upd_ne hb] at q; exact S.fh.tb b ps q t
    · by_cases hb : b = a
      · subst hb; rw [hH]; simp
      · rw [upd_ne hb] at q; exact S.fh.dm b q
    · rw [upd_ne fun z => hb (by rw [z]; exact hR)]
      exact S.g.ag b hb
    · by_cases hij : i = j
      · subst hij
        rw [List.getElem?_set] at q
        simp only [if_true] at q
        split at q
        · cases q
          exact ⟨.ref a, h1, .lst (.of upd_same) (s1.dpAll _ _ h4)⟩
        · cases q
      · rw [List.getElem?_set_ne hij] at q
        obtain ⟨u, e1, e2⟩ := S.sl j lv q
        refine ⟨u, e1, ?_⟩
        cases lv with
        | fz d => exact s1.dp _ _ e2
        | er _ => obtain ⟨a, C, dd, fs, h0, h1, h2, h3, h4⟩ := e2; exact ⟨a, C, dd, fs, h0, h1, h2, s1.xd h3, h4.grow s1⟩
        | ow d2 =>
          obtain ⟨b, zs, rfl, f1, f2, f3, f4⟩ := e2
          refine ⟨b, zs, rfl, f1, ?_, f3, s1.dpAll _ _ f4⟩
          rw [upd_ne fun z => hij (S.dj i j _ ⟨ds, e⟩ ⟨d2, q⟩ h1 (by rw [← z]; exact e1))]
          exact f2
    · have own : ∀ j, Own (ρ.set i (some (.fz (.list ds)))) j → Own ρ j := fun j ⟨dj, oj⟩ => by
        by_cases hij : i = j
        · subst hij; exact ⟨ds, e⟩
        · rw [List.getElem?_set_ne hij] at oj; exact ⟨dj, oj⟩
      exact S.dj j k u (own j oj) (own k ok)
  · exact ⟨F, Sub.refl F, S⟩
end VL

set_option Elab.async false
set_option linter.all false
set_option maxRecDepth 100000
set_option maxHeartbeats 4000000
namespace VL
open PySem PySem.Spec PyProof.Rows L2

/-! ### what is read: data, or a list of one's own that is only looked at -/
def RdV (K : PySem.W.Frag) (F H : Hp) (v : V) : D → Prop
  | .list ds => ∃ a xs, v = .ref a ∧ SqL K H a xs ∧ DpAll K F xs ds
  | d => Dp K F v d
theorem RdV.of {K : PySem.W.Frag} {F H : Hp} {v : V} {d : D} (s : Sub F H) (h : Dp K F v d) : RdV K F H v d := by
  cases d with
  | list ds => cases h with
    | lst a b => exact ⟨_, _, rfl, s.sqL a, b⟩
  | _ => exact h
theorem RdV.dpH {K : PySem.W.Frag} {F H : Hp} {v : V} {d : D} (s : Sub F H) (h : RdV K F H v d) : Dp K H v d := by
  cases d with
  | list ds => obtain ⟨a, xs, rfl, h1, h2⟩ := h; exact .lst h1 (s.dpAll _ _ h2)
  | _ => exact s.dp _ _ h
theorem RdV.grow {K : PySem.W.Frag} {F H F' H' : Hp} {v : V} {d : D} (g : Grow F H F' H') (h : RdV K F H v d) : RdV K F' H' v d := by
  cases d with
  | list ds => obtain ⟨a, xs, rfl, h1, h2⟩ := h; exact ⟨a, xs, rfl, g.h.sqL h1, g.f.dpAll _ _ h2⟩
  | _ => exact g.f.dp _ _ h

/-! ### judgements -/
/-- an exception may leave here -/
def XOk (X : Cx) (W : WX) (σ : L2.St) (F H : Hp) (e : Err) : Prop :=
  ∀ (C d : Addr) (fs : List (Str × V)) (F' H' : Hp), Grow F H F' H' → X.mg e.cls = some (.ref C) → F' d = some (.xd fs) → FsR X.K F' fs e.fs → W (.ref C) (some d) σ H'
theorem XOk.grow {X : Cx} {W : WX} {σ : L2.St} {F H F' H' : Hp} {e : Err} (g : Grow F H F' H') (h : XOk X W σ F H e) : XOk X W σ F' H' e :=
  fun C d fs F2 H2 g2 => h C d fs F2 H2 (g.trans g2)
def EPo (X : Cx) (W : WX) (σ : L2.St) (F H : Hp) (Q : VK) : Res D → Prop
  | .ok d => ∀ v F' H', Grow F H F' H' → Dp X.K F' v d → Q v H'
  | .ex e => XOk X W σ F H e
  | .no => False
def EPr (X : Cx) (W : WX) (σ : L2.St) (F H : Hp) (Q : VK) : Res D → Prop
  | .ok d => ∀ v F' H', Grow F H F' H' → RdV X.K F' H' v d → Q v H'
  | .ex e => XOk X W σ F H e
  | .no => False
def EPl (X : Cx) (W : WX) (σ : L2.St) (F H : Hp) (Q : VK) : Res (List D) → Prop
  | .ok ds => ∀ a xs F' H', Grow F H F' H' → H' a = some (.lst xs) → F' a = none → H a = none → DpAll X.K F' xs ds → Q (.ref a) H'
  | .ex e => XOk X W σ F H e
  | .no => False
def EPt (X : Cx) (W : WX) (σ : L2.St) (F H : Hp) (Q : Bool → Hp → Prop) : Res Bool → Prop
  | .ok b => ∀ F' H', Grow F H F' H' → Q b H'
  | .ex e => XOk X W σ F H e
  | .no => False
def EPa (X : Cx) (W : WX) (σ : L2.St) (F H : Hp) (Q : List V → Hp → Prop) : Res (List D) → Prop
  | .ok ds => ∀ vs F' H', Grow F H F' H' → DpAll X.K F' vs ds → Q vs H'
  | .ex e => XOk X W σ F H e
  | .no => False
/-- an expression: frozen data -/
structure PVE (X : Cx) (B : Bd) (W : WX) (e : Expr) (f : Rho → Res D) : Prop where
  ex : ∃ te, PE X e te ∧ ∀ ρ σ F H Q, Sta X.K B ρ σ F H → EPo X W σ F H Q (f ρ) → te σ H Q
/-- an expression that is read -/
structure PVR (X : Cx) (B : Bd) (W : WX) (e : Expr) (f : Rho → Res D) : Prop where
  ex : ∃ te, PE X e te ∧ ∀ ρ σ F H Q, Sta X.K B ρ σ F H → EPr X W σ F H Q (f ρ) → te σ H Q
/-- an expression: a new list -/
structure PVO (X : Cx) (B : Bd) (W : WX) (e : Expr) (f : Rho → Res (List D)) : Prop where
  ex : ∃ te, PE X e te ∧ ∀ ρ σ F H Q, Sta X.K B ρ σ F H → EPl X W σ F H Q (f ρ) → te σ H Q
/-- a test -/
structure PVT (X : Cx) (B : Bd) (W : WX) (e : Expr) (f : Rho → Res Bool) : Prop where
  ex : ∃ te, PT X e te ∧ ∀ ρ σ F H Q, Sta X.K B ρ σ F H → EPt X W σ F H Q (f ρ) → te σ H Q
/-- a test within and, or -/
structure PVW (X : Cx) (B : Bd) (W : WX) (e : Expr) (f : Rho → Res Bool) : Prop where
  ex : ∃ te, PW X e te ∧ ∀ ρ σ F H Q, Sta X.K B ρ σ F H → EPt X W σ F H Q (f ρ) → te σ H Q
/-- arguments -/
structure PVA (X : Cx) (B : Bd) (W : WX) (es : List Expr) (f : Rho → Res (List D)) : Prop where
  len : ∀ ρ ds, f ρ = .ok ds → ds.length = es.length
  ex : ∃ te, PA X es te ∧ ∀ ρ σ F H Q, Sta X.K B ρ σ F H → EPa X W σ F H Q (f ρ) → te σ H Q

section
variable {X : Cx} {B : Bd} {W : WX} {a b c e : Expr} {es : List Expr} {fa fb fc f : Rho → Res D} {pos : Pos}

theorem PVE.rd (h : PVE X B W e f) : PVR X B W e f := by
  obtain ⟨te, h1, h2⟩ := h.ex
  refine ⟨te, h1, fun ρ σ F H Q S q => h2 ρ σ F H Q S ?_⟩
  revert q
  cases f ρ with
  | ok d => exact fun q v F' H' g r => q v F' H' g (.of g.fh r)
  | ex e => exact id
  | no => exact id
def lstD : Res (List D) → Res D
  | .ok ds => .ok (.list ds)
  | .ex e => .ex e
  | .no => .no
@[simp] theorem lstD_ok (ds : List D) : lstD (.ok ds) = .ok (.list ds) := rfl
@[simp] theorem lstD_ex (e : Err) : lstD (.ex e) = .ex e := rfl
@[simp] theorem lstD_no : lstD .no = .no := rfl
theorem lst_frz {σ : L2.St} {F H : Hp} {Q : VK} {ds : List D} (q : EPo X W σ F H Q (.ok (.list ds))) : EPl X W σ F H Q (.ok ds) := by
  intro a xs F' H' g hH hF hn r
  have s1 : Sub F' (upd F' a (.lst xs)) := upd_sub hF
  refine q (.ref a) (upd F' a (.lst xs)) H' ⟨g.f.trans s1, g.h, ⟨fun b o q n => ?_, fun b ps q t => ?_, fun b q => ?_⟩, fun b hb => ?_⟩ (.lst (.of upd_same) (s1.dpAll _ _ r))
  · by_cases hb : b = a
    · subst hb; rw [upd_same] at q; rw [← q]; exact hH
    · rw [upd_ne hb] at q; exact g.fh.ob b o q n
  · by_cases hb : b = a
    · subst hb; rw [upd_same] at q; cases q
    · rw [upd_ne hb] at q; exact g.fh.tb b ps q t
  · by_cases hb : b = a
    · subst hb; rw [hH]; simp
    · rw [upd_ne hb] at q; exact g.fh.dm b q
  · rw [upd_ne fun z => hb (by rw [z]; exact hn)]
    exact g.ag b hb
theorem PVO.v {f : Rho → Res (List D)} (h : PVO X B W e f) : PVE X B W e (fun ρ => lstD (f ρ)) := by
  obtain ⟨te, h1, h2⟩ := h.ex
  refine ⟨te, h1, fun ρ σ F H Q S q => h2 ρ σ F H Q S ?_⟩
  revert q
  cases f ρ with
  | ok ds => exact lst_frz
  | ex e => exact id
  | no => exact id

/-! ### names, constants -/
def var (i : Nat) (ρ : Rho) : Res D := match ρ[i]? with
  | some (some (.fz d)) => .ok d
  | _ => .no
def varR (i : Nat) (ρ : Rho) : Res D := match ρ[i]? with
  | some (some (.fz d)) => .ok d
  | some (some (.ow ds)) => .ok (.list ds)
  | _ => .no
theorem pv_var (i : Nat) {x : Str} (hN : X.N[i]? = some x := by rfl) (hv : Vis X.env.scope x := by first | exact Or.inl rfl | exact Or.inr (Or.inl rfl) | exact Or.inr (Or.inr rfl)) (hd : (x == ("__debug__" : Str)) = false := by decide)
    (hcd : (x == ("__classdict__" : Str)) = false := by decide) : PVE X B W (.Name x pos) (var i) := by
  refine ⟨tVar i, pe_var hN hv hd hcd, fun ρ σ F H Q S => ?_⟩
  unfold var
  split
  · rename_i d e
    intro q
    obtain ⟨v, h1, h2⟩ := S.sl i _ e
    exact ⟨v, h1, q v F H (.refl S.fh) h2⟩
  · exact False.elim
theorem pr_var (i : Nat) {x : Str} (hN : X.N[i]? = some x := by rfl) (hv : Vis X.env.scope x := by first | exact Or.inl rfl | exact Or.inr (Or.inl rfl) | exact Or.inr (Or.inr rfl)) (hd : (x == ("__debug__" : Str)) = false := by decide)
    (hcd : (x == ("__classdict__" : Str)) = false := by decide) : PVR X B W (.Name x pos) (varR i) := by
  refine ⟨tVar i, pe_var hN hv hd hcd, fun ρ σ F H Q S => ?_⟩
  unfold varR
  split
  · rename_i d e
    intro q
    obtain ⟨v, h1, h2⟩ := S.sl i _ e
    exact ⟨v, h1, q v F H (.refl S.fh) (.of S.fh h2)⟩
  · rename_i d e
    intro q
    obtain ⟨v, h1, h2⟩ := S.sl i _ e
    obtain ⟨a, xs, rfl, hH, hF, hR, h4⟩ := h2
    exact ⟨_, h1, q _ F H (.refl S.fh) ⟨a, xs, rfl, .of hH, h4⟩⟩
  · exact False.elim
theorem pv_c {te : TE} {d : D} (h : PE X e te) (ht : ∀ σ H Q, (∀ v, (∀ K F, Dp K F v d) → Q v H) → te σ H Q) : PVE X B W e (fun _ => .ok d) :=
  ⟨te, h, fun ρ σ F H Q S q => ht σ H Q fun v hv => q v F H (.refl S.fh) (hv _ _)⟩
theorem pv_int {i : Int} {j} : PVE X B W (.Constant (.int i) j pos) (fun _ => .ok (.int i)) := pv_c pe_int fun _ _ _ h => h _ fun _ _ => .int i
theorem pv_bl {k : Bool} {j} : PVE X B W (.Constant (.bool k) j pos) (fun _ => .ok (.bool k)) := pv_c pe_bl fun _ _ _ h => h _ fun _ _ => .bl k
theorem pv_non {j} : PVE X B W (.Constant .none j pos) (fun _ => .ok .none) := pv_c pe_non fun _ _ _ h => h _ fun _ _ => .non
theorem pv_str {x : Str} {j} : PVE X B W (.Constant (.str x) j pos) (fun _ => .ok (.str x)) := pv_c pe_str fun _ _ _ h => h _ fun _ _ => .str x
/-- a module's constant -/
theorem pv_gint {x : Str} {i : Int} {t : Tok} (hm : X.mg x = some (.int i t)) (hg : Gl X x := by rfl) (hd : (x == ("__debug__" : Str)) = false := by decide) : PVE X B W (.Name x pos) (fun _ => .ok (.int i)) :=
  pv_c (pe_glob (v := .int i) hg hm ⟨t, rfl⟩ hd) fun _ _ _ h => h _ fun _ _ => .int i
theorem pv_gstr {x : Str} {i : Str} {t : Tok} (hm : X.mg x = some (.str i t)) (hg : Gl X x := by rfl) (hd : (x == ("__debug__" : Str)) = false := by decide) : PVE X B W (.Name x pos) (fun _ => .ok (.str i)) :=
  pv_c (pe_glob (v := .str i) hg hm ⟨t, rfl⟩ hd) fun _ _ _ h => h _ fun _ _ => .str i

/-! ### operators by data -/
def Res.of {α : Type} : Option α → Res α
  | some a => .ok a
  | none => .no
@[simp] theorem Res.of_some {α : Type} (a : α) : Res.of (some a) = .ok a := rfl
@[simp] theorem Res.of_none {α : Type} : Res.of (none : Option α) = .no := rfl
/-- the operator's rule serves the function of data -/
def OpV (K : PySem.W.Frag) (r : R2) (g : D → D → Option D) : Prop := ∀ x y F H Q a b d, Sub F H → RdV K F H x a → RdV K F H y b → g a b = some d → (∀ v F' H', Grow F H F' H' → Dp K F' v d → Q v H') → r x y H Q
def OpB (K : PySem.W.Frag) (r : R2) (g : D → D → Option Bool) : Prop := ∀ x y F H Q a b k, Sub F H → RdV K F H x a → RdV K F H y b → g a b = some k → (∀ F' H', Grow F H F' H' → Q (.bl k) H') → r x y H Q
def bin (fa fb : Rho → Res D) (g : D → D → Option D) (ρ : Rho) : Res D := (fa ρ).bind fun x => (fb ρ).bind fun y => Res.of (g x y)
def binB (fa fb : Rho → Res D) (g : D → D → Option Bool) (ρ : Rho) : Res Bool := (fa ρ).bind fun x => (fb ρ).bind fun y => Res.of (g x y)
theorem two {ta tb : TE} {R : V → V → Hp → Prop} {β : Type} {h : D → D → Res β} {Z : Hp → Hp → Res β → Prop} {ρ : Rho} {σ : L2.St} {F H : Hp} (S : Sta X.K B ρ σ F H)
    (ha : ∀ ρ σ F H Q, Sta X.K B ρ σ F H → EPr X W σ F H Q (fa ρ) → ta σ H Q) (hb : ∀ ρ σ F H Q, Sta X.K B ρ σ F H → EPr X W σ F H Q (fb ρ) → tb σ H Q)
    (zx : ∀ F H e, Z F H (.ex e) → XOk X W σ F H e) (zn : ∀ F H, Z F H .no → False) (zg : ∀ F H F' H' r, Grow F H F' H' → Z F H r → Z F' H' r)
    (q : Z F H ((fa ρ).bind fun x => (fb ρ).bind fun y => h x y)) (hR : ∀ x y a b F' H', Grow F H F' H' → RdV X.K F' H' x a → RdV X.K F' H' y b → Z F' H' (h a b) → R x y H') :
    ta σ H fun x H1 => tb σ H1 fun y H2 => R x y H2 := by
  refine ha ρ σ F H _ S ?_
  cases ea : fa ρ with
  | no => rw [ea] at q; exact zn _ _ q
  | ex e => rw [ea] at q; exact zx _ _ _ q
  | ok da =>
    rw [ea] at q
    intro x F1 H1 g1 r1
    refine hb ρ σ F1 H1 _ (S.grow g1) ?_
    cases eb : fb ρ with
    | no => rw [eb] at q; exact zn _ _ q
    | ex e => rw [eb] at q; exact zx _ _ _ (zg _ _ _ _ _ g1 q)
    | ok db =>
      rw [eb] at q
      intro y F2 H2 g2 r2
      exact hR x y da db F2 H2 (g1.trans g2) (r1.grow g2) r2 (zg _ _ _ _ _ (g1.trans g2) q)
theorem EPo.grow {σ : L2.St} {F H F' H' : Hp} {Q : VK} {r : Res D} (g : Grow F H F' H') (h : EPo X W σ F H Q r) : EPo X W σ F' H' Q r := by
  cases r with
  | ok d => exact fun v F2 H2 g2 => h v F2 H2 (g.trans g2)
  | ex e => exact XOk.grow g h
  | no => exact h
theorem EPt.grow {σ : L2.St} {F H F' H' : Hp} {Q : Bool → Hp → Prop} {r : Res Bool} (g : Grow F H F' H') (h : EPt X W σ F H Q r) : EPt X W σ F' H' Q r := by
  cases r with
  | ok d => exact fun F2 H2 g2 => h F2 H2 (g.trans g2)
  | ex e => exact XOk.grow g h
  | no => exact h
theorem EPa.grow {σ : L2.St} {F H F' H' : Hp} {Q : List V → Hp → Prop} {r : Res (List D)} (g : Grow F H F' H') (h : EPa X W σ F H Q r) : EPa X W σ F' H' Q r := by
  cases r with
  | ok d => exact fun v F2 H2 g2 => h v F2 H2 (g.trans g2)
  | ex e => exact XOk.grow g h
  | no => exact h
theorem pv_bin {op : Operator} {r : R2} {g : D → D → Option D} (ho : OpR X (binaryOp op) r) (hv : OpV X.K r g) (ha : PVR X B W a fa) (hb : PVR X B W b fb) : PVE X B W (.BinOp a op b pos) (bin fa fb g) := by
  obtain ⟨ta, a1, a2⟩ := ha.ex
  obtain ⟨tb, b1, b2⟩ := hb.ex
  refine ⟨_, pe_op ho a1 b1, fun ρ σ F H Q S q => ?_⟩
  refine two (Z := fun F H r => EPo X W σ F H Q r) (R := fun x y H => r x y H Q) (h := fun x y => Res.of (g x y)) S a2 b2 (fun _ _ _ z => z) (fun _ _ z => z) (fun _ _ _ _ _ g z => z.grow g) q fun x y da db F' H' gr r1 r2 z => ?_
  cases e : g da db with
  | none => rw [e] at z; exact z.elim
  | some d => rw [e] at z; exact hv x y F' H' Q da db d gr.fh r1 r2 e z
/-- a comparison as a test, as a value -/
theorem pt_cmp {op : CmpOp} {r : R2} {g : D → D → Option Bool} (ho : OpR X (compareOp op) r) (hv : OpB X.K r g) (ha : PVR X B W a fa) (hb : PVR X B W b fb) (hm : behindInMarks op b = false) : PVT X B W (.Compare a [op] [b] pos) (binB fa fb g) := by
  obtain ⟨ta, a1, a2⟩ := ha.ex
  obtain ⟨tb, b1, b2⟩ := hb.ex
  refine ⟨_, pt_cmpR ho a1 b1 hm, fun ρ σ F H Q S q => ?_⟩
  refine two (Z := fun F H r => EPt X W σ F H Q r) (R := fun x y H => r x y H _) (h := fun x y => Res.of (g x y)) S a2 b2 (fun _ _ _ z => z) (fun _ _ z => z) (fun _ _ _ _ _ g z => z.grow g) q fun x y da db F' H' gr r1 r2 z => ?_
  cases e : g da db with
  | none => rw [e] at z; exact z.elim
  | some d => rw [e] at z; exact hv x y F' H' _ da db d gr.fh r1 r2 e fun F2 H2 g2 => ⟨d, rfl, z F2 H2 g2⟩
def vB (f : Rho → Res Bool) (ρ : Rho) : Res D := (f ρ).bind fun k => .ok (.bool k)
theorem pv_cmp {op : CmpOp} {r : R2} {g : D → D → Option Bool} (ho : OpR X (compareOp op) r) (hv : OpB X.K r g) (ha : PVR X B W a fa) (hb : PVR X B W b fb) (hm : behindInMarks op b = false) : PVE X B W (.Compare a [op] [b] pos) (vB (binB fa fb g)) := by
  obtain ⟨ta, a1, a2⟩ := ha.ex
  obtain ⟨tb, b1, b2⟩ := hb.ex
  refine ⟨_, pe_cmpR ho a1 b1 hm, fun ρ σ F H Q S q => ?_⟩
  refine two (Z := fun F H r => EPo X W σ F H Q (r.bind fun k => .ok (.bool k))) (R := fun x y H => r x y H _) (h := fun x y => Res.of (g x y)) S a2 b2 (fun _ _ _ z => z) (fun _ _ z => z) (fun _ _ _ _ _ g z => z.grow g) q fun x y da db F' H' gr r1 r2 z => ?_
  cases e : g da db with
  | none => rw [e] at z; exact z.elim
  | some d => rw [e] at z; exact hv x y F' H' _ da db d gr.fh r1 r2 e fun F2 H2 g2 => z _ F2 H2 g2 (.bl d)

/-! ### tests -/
theorem PVW.t {f : Rho → Res Bool} (h : PVW X B W e f) : PVT X B W e f := by
  obtain ⟨t, h1, h2⟩ := h.ex
  exact ⟨t, h1.pt, h2⟩
def andT (f g : Rho → Res Bool) (ρ : Rho) : Res Bool := (f ρ).bind fun k => if k = true then g ρ else .ok false
def orT (f g : Rho → Res Bool) (ρ : Rho) : Res Bool := (f ρ).bind fun k => if k = true then .ok true else g ρ
def notT (f : Rho → Res Bool) (ρ : Rho) : Res Bool := (f ρ).bind fun k => .ok (!k)
variable {f1 f2 : Rho → Res Bool} {rest : List Expr}
theorem pw_and1 (ha : PVT X B W a f1) : PVW X B W (.BoolOp .And [a] pos) f1 := by
  obtain ⟨t, h1, h2⟩ := ha.ex
  exact ⟨t, L2.pw_and1 h1, h2⟩
theorem pw_or1 (ha : PVT X B W a f1) : PVW X B W (.BoolOp .Or [a] pos) f1 := by
  obtain ⟨t, h1, h2⟩ := ha.ex
  exact ⟨t, L2.pw_or1 h1, h2⟩
theorem pw_and (ha : PVT X B W a f1) (hb : PVW X B W (.BoolOp .And (b :: rest) pos) f2) : PVW X B W (.BoolOp .And (a :: b :: rest) pos) (andT f1 f2) := by
  obtain ⟨t, h1, h2⟩ := ha.ex
  obtain ⟨u, k1, k2⟩ := hb.ex
  refine ⟨_, L2.pw_and h1 k1, fun ρ σ F H Q S q => h2 ρ σ F H _ S ?_⟩
  unfold andT at q
  cases e : f1 ρ with
  | no => rw [e] at q; exact q
  | ex e' => rw [e] at q; exact q
  | ok k =>
    rw [e] at q
    intro F1 H1 g1
    cases k with
    | true => rw [if_pos rfl]; exact k2 ρ σ F1 H1 Q (S.grow g1) (EPt.grow (W := W) (X := X) (σ := σ) g1 q)
    | false => rw [if_neg (by decide)]; exact q F1 H1 g1
theorem pw_or (ha : PVT X B W a f1) (hb : PVW X B W (.BoolOp .Or (b :: rest) pos) f2) : PVW X B W (.BoolOp .Or (a :: b :: rest) pos) (orT f1 f2) := by
  obtain ⟨t, h1, h2⟩ := ha.ex
  obtain ⟨u, k1, k2⟩ := hb.ex
  refine ⟨_, L2.pw_or h1 k1, fun ρ σ F H Q S q => h2 ρ σ F H _ S ?_⟩
  unfold orT at q
  cases e : f1 ρ with
  | no => rw [e] at q; exact q
  | ex e' => rw [e] at q; exact q
  | ok k =>
    rw [e] at q
    intro F1 H1 g1
    cases k with
    | true => rw [if_pos rfl]; exact q F1 H1 g1
    | false => rw [if_neg (by decide)]; exact k2 ρ σ F1 H1 Q (S.grow g1) (EPt.grow (W := W) (X := X) (σ := σ) g1 q)
theorem pt_not (ha : PVT X B W a f1) : PVT X B W (.UnaryOp .Not a pos) (notT f1) := by
  obtain ⟨t, h1, h2⟩ := ha.ex
  refine ⟨_, L2.pt_not h1, fun ρ σ F H Q S q => h2 ρ σ F H _ S ?_⟩
  unfold notT at q
  revert q
  cases f1 ρ <;> exact id
/-- a value that is a bool, as a test -/
def isB (f : Rho → Res D) (ρ : Rho) : Res Bool := (f ρ).bind fun d => match d with | .bool k => .ok k | _ => .no
theorem pt_val (h : PVE X B W e f) (he : ∀ whole, isTrue e X.env whole = (do let v ← whole; standAt e.pos; holding [v] (truthy v)) := by intro _; rfl) : PVT X B W e (isB f) := by
  obtain ⟨t, h1, h2⟩ := h.ex
  refine ⟨_, L2.pt_val h1 he, fun ρ σ F H Q S q => h2 ρ σ F H _ S ?_⟩
  unfold isB at q
  cases e : f ρ with
  | no => rw [e] at q; exact q
  | ex e' => rw [e] at q; exact q
  | ok d =>
    rw [e] at q
    cases d with
    | bool k =>
      intro v F' H' g r
      cases r
      exact ⟨k, rfl, q F' H' g⟩
    | _ => exact q.elim
/-- .. as values -/
def andV (f g : Rho → Res D) (ρ : Rho) : Res D := (f ρ).bind fun d => match d with | .bool true => g ρ | .bool false => .ok (.bool false) | _ => .no
def orV (f g : Rho → Res D) (ρ : Rho) : Res D := (f ρ).bind fun d => match d with | .bool true => .ok (.bool true) | .bool false => g ρ | _ => .no
def notV (f : Rho → Res D) (ρ : Rho) : Res D := (f ρ).bind fun d => match d with | .bool k => .ok (.bool (!k)) | _ => .no
theorem pv_one {op} (h : PVE X B W a fa) : PVE X B W (.BoolOp op [a] pos) fa := by
  obtain ⟨t, h1, h2⟩ := h.ex
  exact ⟨t, pe_one h1, h2⟩
theorem pv_and (ha : PVE X B W a fa) (hb : PVE X B W (.BoolOp .And (b :: rest) pos) fb) : PVE X B W (.BoolOp .And (a :: b :: rest) pos) (andV fa fb) := by
  obtain ⟨t, h1, h2⟩ := ha.ex
  obtain ⟨u, k1, k2⟩ := hb.ex
  refine ⟨_, pe_and h1 k1, fun ρ σ F H Q S q => h2 ρ σ F H _ S ?_⟩
  unfold andV at q
  cases e : fa ρ with
  | no => rw [e] at q; exact q
  | ex e' => rw [e] at q; exact q
  | ok d =>
    rw [e] at q
    intro v F1 H1 g1 r1
    cases d with
    | bool k =>
      cases r1
      refine ⟨k, rfl, ?_⟩
      cases k with
      | true => rw [if_pos rfl]; exact k2 ρ σ F1 H1 Q (S.grow g1) (EPo.grow (W := W) (X := X) (σ := σ) g1 q)
      | false => rw [if_neg (by decide)]; exact q _ F1 H1 g1 (.bl false)
    | _ => exact q.elim
theorem pv_or (ha : PVE X B W a fa) (hb : PVE X B W (.BoolOp .Or (b :: rest) pos) fb) : PVE X B W (.BoolOp .Or (a :: b :: rest) pos) (orV fa fb) := by
  obtain ⟨t, h1, h2⟩ := ha.ex
  obtain ⟨u, k1, k2⟩ := hb.ex
  refine ⟨_, pe_or h1 k1, fun ρ σ F H Q S q => h2 ρ σ F H _ S ?_⟩
  unfold orV at q
  cases e : fa ρ with
  | no => rw [e] at q; exact q
  | ex e' => rw [e] at q; exact q
  | ok d =>
    rw [e] at q
    intro v F1 H1 g1 r1
    cases d with
    | bool k =>
      cases r1
      refine ⟨k, rfl, ?_⟩
      cases k with
      | true => rw [if_pos rfl]; exact q _ F1 H1 g1 (.bl true)
      | false => rw [if_neg (by decide)]; exact k2 ρ σ F1 H1 Q (S.grow g1) (EPo.grow (W := W) (X := X) (σ := σ) g1 q)
    | _ => exact q.elim
theorem pv_not (ha : PVE X B W a fa) : PVE X B W (.UnaryOp .Not a pos) (notV fa) := by
  obtain ⟨t, h1, h2⟩ := ha.ex
  refine ⟨_, pe_not h1, fun ρ σ F H Q S q => h2 ρ σ F H _ S ?_⟩
  unfold notV at q
  cases e : fa ρ with
  | no => rw [e] at q; exact q
  | ex e' => rw [e] at q; exact q
  | ok d =>
    rw [e] at q
    intro v F1 H1 g1 r1
    cases d with
    | bool k => cases r1; exact ⟨k, rfl, q _ F1 H1 g1 (.bl _)⟩
    | _ => exact q.elim
def ifV (t : Rho → Res Bool) (f g : Rho → Res D) (ρ : Rho) : Res D := (t ρ).bind fun k => if k = true then f ρ else g ρ
theorem pv_if (hc : PVT X B W c f1) (ha : PVE X B W a fa) (hb : PVE X B W b fb) : PVE X B W (.IfExp c a b pos) (ifV f1 fa fb) := by
  obtain ⟨t, h1, h2⟩ := hc.ex
  obtain ⟨u, k1, k2⟩ := ha.ex
  obtain ⟨w, l1, l2⟩ := hb.ex
  refine ⟨_, pe_ifExp h1 k1 l1, fun ρ σ F H Q S q => h2 ρ σ F H _ S ?_⟩
  unfold ifV at q
  cases e : f1 ρ with
  | no => rw [e] at q; exact q
  | ex e' => rw [e] at q; exact q
  | ok k =>
    rw [e] at q
    intro F1 H1 g1
    cases k with
    | true => rw [if_pos rfl]; exact k2 ρ σ F1 H1 Q (S.grow g1) (EPo.grow (W := W) (X := X) (σ := σ) g1 q)
    | false => rw [if_neg (by decide)]; exact l2 ρ σ F1 H1 Q (S.grow g1) (EPo.grow (W := W) (X := X) (σ := σ) g1 q)

/-! ### arguments, displays -/
theorem pa_nil : PVA X B W [] (fun _ => .ok []) := ⟨fun ρ ds e => by cases e; rfl, _, L2.pa_nil, fun ρ σ F H Q S q => q [] F H (.refl S.fh) .nil⟩
def consA (f : Rho → Res D) (g : Rho → Res (List D)) (ρ : Rho) : Res (List D) := (f ρ).bind fun d => (g ρ).bind fun ds => .ok (d :: ds)
theorem pa_cons {g : Rho → Res (List D)} (ha : PVE X B W e f) (hr : PVA X B W es g) (hs : starEach (e :: es) X.env = (false, eval e X.env) :: starEach es X.env := by rfl) : PVA X B W (e :: es) (consA f g) := by
  obtain ⟨t, h1, h2⟩ := ha.ex
  obtain ⟨u, k1, k2⟩ := hr.ex
  refine ⟨fun ρ ds z => ?_, _, L2.pa_cons h1 k1 hs, fun ρ σ F H Q S q => h2 ρ σ F H _ S ?_⟩
  · unfold consA at z
    cases e : f ρ with
    | no => rw [e] at z; cases z
    | ex e' => rw [e] at z; cases z
    | ok d =>
      cases e2 : g ρ with
      | no => rw [e, e2] at z; cases z
      | ex e' => rw [e, e2] at z; cases z
      | ok ds' => rw [e, e2] at z; cases z; rw [List.length_cons, List.length_cons, hr.len ρ ds' e2]
  unfold consA at q
  cases e : f ρ with
  | no => rw [e] at q; exact q
  | ex e' => rw [e] at q; exact q
  | ok d =>
    rw [e] at q
    intro v F1 H1 g1 r1
    refine k2 ρ σ F1 H1 _ (S.grow g1) ?_
    cases e2 : g ρ with
    | no => rw [e2] at q; exact q
    | ex e' => rw [e2] at q; exact XOk.grow g1 q
    | ok ds =>
      rw [e2] at q
      intro vs F2 H2 g2 r2
      exact q (v :: vs) F2 H2 (g1.trans g2) (.cons (g2.f.dp _ _ r1) r2)
def tupV (g : Rho → Res (List D)) (ρ : Rho) : Res D := (g ρ).bind fun ds => if ds.length ≤ sizeLine then .ok (.tuple ds) else .no
def lstO (g : Rho → Res (List D)) (ρ : Rho) : Res (List D) := (g ρ).bind fun ds => if ds.length ≤ sizeLine then .ok ds else .no
theorem pv_tup {x1} {g : Rho → Res (List D)} (h : PVA X B W es g) : PVE X B W (.Tuple es x1 pos) (tupV g) := by
  obtain ⟨t, h1, h2⟩ := h.ex
  refine ⟨_, pe_tup h1, fun ρ σ F H Q S q => h2 ρ σ F H _ S ?_⟩
  unfold tupV at q
  cases e : g ρ with
  | no => rw [e] at q; exact q
  | ex e' => rw [e] at q; exact q
  | ok ds =>
    rw [e] at q
    intro vs F1 H1 g1 r1
    simp only [Res.ok_bind] at q
    by_cases hl : ds.length ≤ sizeLine
    · rw [if_pos hl] at q
      refine ⟨by rw [r1.len]; exact hl, fun p hp => ?_⟩
      have g2 := Grow.new (o := .tup vs) g1.fh hp ntt
      exact q _ _ _ (g1.trans g2) (.tup (.of upd_same) (g2.f.dpAll _ _ r1))
    · rw [if_neg hl] at q; exact q.elim
theorem pv_lst {g : Rho → Res (List D)} (h : PVA X B W es g) : PVO X B W (.List es pos) (lstO g) := by
  obtain ⟨t, h1, h2⟩ := h.ex
  refine ⟨_, pe_lst h1, fun ρ σ F H Q S q => h2 ρ σ F H _ S ?_⟩
  unfold lstO at q
  cases e : g ρ with
  | no => rw [e] at q; exact q
  | ex e' => rw [e] at q; exact q
  | ok ds =>
    rw [e] at q
    intro vs F1 H1 g1 r1
    simp only [Res.ok_bind] at q
    by_cases hl : ds.length ≤ sizeLine
    · rw [if_pos hl] at q
      refine ⟨by rw [r1.len]; exact hl, fun p hp => ?_⟩
      exact q p vs F1 (upd H1 p (.lst vs)) ⟨g1.f, g1.h.trans (upd_sub hp), g1.fh.trans (upd_sub hp), g1.ag⟩ upd_same (g1.fh.free hp) (g1.h.free hp) r1
    · rw [if_neg hl] at q; exact q.elim
end
end VL

set_option Elab.async false
set_option linter.all false
set_option maxRecDepth 100000
set_option maxHeartbeats 4000000
namespace VL
open PySem PySem.Spec PyProof.Rows L2

/-! ### operators -/
section
variable {X : Cx}
def rCatS (K : PySem.W.Frag) : R2 := fun x y H Q => ∃ l b xs zs, x = .ref l ∧ y = .ref b ∧ SqL K H l xs ∧ SqL K H b zs ∧ xs.length + zs.length ≤ sizeLine ∧ ∀ p, H p = none → Q (.ref p) (upd H p (.lst (xs ++ zs)))
theorem op_catS : OpR X (binaryOp .Add) (rCatS X.K) := by
  intro pins s σ H x y v u Q I rx ry h
  obtain ⟨l, b, xs, zs, rfl, rfl, hH, hB, hz, q⟩ := h
  cases rx
  cases ry
  obtain ⟨its, r, ⟨⟨cls, dd, data, sl⟩, n, ho, hc, _, hd⟩, z⟩ := I.list hH
  obtain ⟨its2, r2, ⟨⟨cls2, dd2, data2, sl2⟩, n2, ho2, hc2, _, hd2⟩, z2⟩ := I.list hB
  simp only at hc hd hc2 hd2
  subst hc hd hc2 hd2
  have l1 := r.length
  have l2 := r2.length
  refine concat_meets ⟨_, ho, rfl⟩ ⟨_, ho2, rfl⟩ noFill_list_add seq_list_add PySem.F.slot_list_add PySem.F.entry_list_add (PySem.F.args_list_add_2 _ _) (list_addW l b its.toArray its2.toArray n n2 dd dd2 sl sl2 (by simp; omega)) ⟨ho, ho2, ?_⟩
  have ea : its.toArray ++ its2.toArray = (its ++ its2).toArray := by simp
  rw [ea]
  exact ⟨.ref _, _, I.lnew (t' := s.toks) (r.append r2) (by rw [List.length_append]; omega), rfl, q _ I.fresh⟩
end
def dAdd : D → D → Option D
  | .int i, .int j => some (.int (i + j))
  | .str a, .str b => if a.length + b.length ≤ sizeLine then some (.str (a ++ b)) else none
  | .list xs, .list ys => if xs.length + ys.length ≤ sizeLine then some (.list (xs ++ ys)) else none
  | .tuple xs, .tuple ys => if xs.length + ys.length ≤ sizeLine then some (.tuple (xs ++ ys)) else none
  | _, _ => none
def dCat : D → D → Option (List D)
  | .list xs, .list ys => if xs.length + ys.length ≤ sizeLine then some (xs ++ ys) else none
  | _, _ => none
def dSub : D → D → Option D
  | .int i, .int j => some (.int (i - j))
  | _, _ => none
instance (i j : Int) : Decidable (CMulW i j) := by unfold CMulW; infer_instance
instance (i j : Int) : Decidable (CDivW i j) := by unfold CDivW; infer_instance
instance (i j : Int) : Decidable (CPow i j) := by unfold CPow; infer_instance
def dMul : D → D → Option D
  | .int i, .int j => if CMulW i j then some (.int (i * j)) else none
  | _, _ => none
def dDiv : D → D → Option D
  | .int i, .int j => if CDivW i j then some (.int (i / j)) else none
  | _, _ => none
def dMod : D → D → Option D
  | .int i, .int j => if 0 < j then some (.int (i % j)) else none
  | _, _ => none
def dPow : D → D → Option D
  | .int i, .int j => if CPow i j then some (.int (i ^ j.toNat)) else none
  | _, _ => none

section
variable {K : PySem.W.Frag}
theorem ov_int2 {C : Int → Int → Prop} [∀ i j, Decidable (C i j)] {h : Int → Int → Int} {g : D → D → Option D} (hg : ∀ a b d, g a b = some d → ∃ i j, a = .int i ∧ b = .int j ∧ C i j ∧ d = .int (h i j)) : OpV K (rI C fun i j => .int (h i j)) g := by
  intro x y F H Q a b d s ra rb e q
  obtain ⟨i, j, rfl, rfl, c, rfl⟩ := hg a b d e
  cases ra
  cases rb
  exact ⟨i, j, rfl, rfl, c, q _ F H (.refl s) (.int _)⟩
theorem ov_sub : OpV K (rI0 fun i j => .int (i - j)) dSub := by
  intro x y F H Q a b d s ra rb e q
  unfold dSub at e
  split at e
  · cases e; cases ra; cases rb
    exact ⟨_, _, rfl, rfl, q _ F H (.refl s) (.int _)⟩
  · cases e
theorem ov_mul : OpV K (rI CMulW fun i j => .int (i * j)) dMul := ov_int2 fun a b d e => by
  unfold dMul at e
  split at e
  · split at e
    · cases e; exact ⟨_, _, rfl, rfl, by assumption, rfl⟩
    · cases e
  · cases e
theorem ov_div : OpV K (rI CDivW fun i j => .int (i / j)) dDiv := ov_int2 fun a b d e => by
  unfold dDiv at e
  split at e
  · split at e
    · cases e; exact ⟨_, _, rfl, rfl, by assumption, rfl⟩
    · cases e
  · cases e
theorem ov_mod : OpV K (rI (fun _ j => 0 < j) fun i j => .int (i % j)) dMod := ov_int2 fun a b d e => by
  unfold dMod at e
  split at e
  · split at e
    · cases e; exact ⟨_, _, rfl, rfl, by assumption, rfl⟩
    · cases e
  · cases e
theorem ov_pow : OpV K (rI CPow fun i j => .int (i ^ j.toNat)) dPow := ov_int2 fun a b d e => by
  unfold dPow at e
  split at e
  · split at e
    · cases e; exact ⟨_, _, rfl, rfl, by assumption, rfl⟩
    · cases e
  · cases e
theorem dpa_nil_iff {H : Hp} {xs : List V} {ds : List D} (h : DpAll K H xs ds) : xs = [] ↔ ds = [] := by
  cases h <;> simp
/-- a + b -/
def rAddA (K : PySem.W.Frag) : R2 := fun x y H Q => rI0 (fun i j => .int (i + j)) x y H Q ∨ (∃ i j, x = .str i ∧ y = .str j ∧ i.length + j.length ≤ sizeLine ∧ Q (.str (i ++ j)) H) ∨ rCatS K x y H Q ∨ rCatA K x y H Q
theorem op_addA {X : Cx} : OpR X (binaryOp .Add) (rAddA X.K) := op_add.or (op_add_str.or (op_catS.or op_catA))
theorem ov_add : OpV K (rAddA K) dAdd := by
  intro x y F H Q a b d s ra rb e q
  unfold dAdd at e
  split at e
  · cases e; cases ra; cases rb
    exact .inl ⟨_, _, rfl, rfl, q _ F H (.refl s) (.int _)⟩
  · split at e
    · cases e; cases ra; cases rb
      exact .inr (.inl ⟨_, _, rfl, rfl, by assumption, q _ F H (.refl s) (.str _)⟩)
    · cases e
  · split at e
    · rename_i hl
      cases e
      obtain ⟨p1, xs, rfl, h1, r1⟩ := ra
      obtain ⟨p2, ys, rfl, h2, r2⟩ := rb
      refine .inr (.inr (.inl ⟨_, _, _, _, rfl, rfl, h1, h2, by rw [r1.len, r2.len]; exact hl, fun p hp => ?_⟩))
      have g2 := Grow.new (o := .lst (xs ++ ys)) s hp ntl
      exact q _ _ _ g2 (.lst (.of upd_same) (g2.f.dpAll _ _ (r1.append r2)))
    · cases e
  · split at e
    · rename_i hl
      cases e
      cases ra with
      | tup h1 r1 =>
        cases rb with
        | tup h2 r2 =>
          refine .inr (.inr (.inr ⟨_, _, _, _, rfl, rfl, s.sqT h1, s.sqT h2, by rw [r1.len, r2.len]; exact hl, fun h0 => ?_, fun h0 h0' => ?_, fun h0 h0' p hp => ?_⟩))
          · have e1 := (dpa_nil_iff r1).mp h0
            subst e1
            exact q _ F H (.refl s) (.tup h2 r2)
          · have e1 := (dpa_nil_iff r2).mp h0'
            subst e1
            rw [List.append_nil] at q
            exact q _ F H (.refl s) (.tup h1 r1)
          · exact q _ _ _ (Grow.new s hp ntt) (.tup (.of upd_same) ((Grow.new s hp ntt).f.dpAll _ _ (r1.append r2)))
    · cases e
  · cases e
end

/-! ### comparisons -/
def dLt : D → D → Option Bool
  | .int i, .int j => some (decide (i < j))
  | .str i, .str j => some (decide (i.cps.toList < j.cps.toList))
  | _, _ => none
def dLe : D → D → Option Bool
  | .int i, .int j => some (decide (i ≤ j))
  | _, _ => none
def dGt : D → D → Option Bool
  | .int i, .int j => some (decide (j < i))
  | _, _ => none
def dGe : D → D → Option Bool
  | .int i, .int j => some (decide (j ≤ i))
  | _, _ => none
def dEq (a b : D) : Option Bool := if SeqAt.shaped a = true ∧ SeqAt.shaped b = true then some (PyData.eqv a b) else none
def dNe (a b : D) : Option Bool := if SeqAt.shaped a = true ∧ SeqAt.shaped b = true then some (!PyData.eqv a b) else none
def dIsN : D → D → Option Bool
  | .none, .none => some true
  | _, .none => some false
  | _, _ => none
def dNotN : D → D → Option Bool
  | .none, .none => some false
  | _, .none => some true
  | _, _ => none
def rLtA : R2 := fun x y H Q => rI0 (fun i j => .bl (decide (i < j))) x y H Q ∨ (∃ i j, x = .str i ∧ y = .str j ∧ Q (.bl (decide (i.cps.toList < j.cps.toList))) H)
theorem op_ltA {X : Cx} : OpR X (compareOp .Lt) rLtA := op_lt.or op_lt_str
section
variable {K : PySem.W.Frag}
theorem ob_lt : OpB K rLtA dLt := by
  intro x y F H Q a b d s ra rb e q
  unfold dLt at e
  split at e
  · cases e; cases ra; cases rb
    exact .inl ⟨_, _, rfl, rfl, q F H (.refl s)⟩
  · cases e; cases ra; cases rb
    exact .inr ⟨_, _, rfl, rfl, q F H (.refl s)⟩
  · cases e
theorem ob_le : OpB K (rI0 fun i j => .bl (decide (i ≤ j))) dLe := by
  intro x y F H Q a b d s ra rb e q
  unfold dLe at e
  split at e
  · cases e; cases ra; cases rb
    exact ⟨_, _, rfl, rfl, q F H (.refl s)⟩
  · cases e
theorem ob_gt : OpB K (rI0 fun i j => .bl (decide (j < i))) dGt := by
  intro x y F H Q a b d s ra rb e q
  unfold dGt at e
  split at e
  · cases e; cases ra; cases rb
    exact ⟨_, _, rfl, rfl, q F H (.refl s)⟩
  · cases e
theorem ob_ge : OpB K (rI0 fun i j => .bl (decide (j ≤ i))) dGe := by
  intro x y F H Q a b d s ra rb e q
  unfold dGe at e
  split at e
  · cases e; cases ra; cases rb
    exact ⟨_, _, rfl, rfl, q F H (.refl s)⟩
  · cases e
theorem ob_eq : OpB K (rEqD K) dEq := by
  intro x y F H Q a b d s ra rb e q
  unfold dEq at e
  split at e
  · rename_i h
    cases e
    exact ⟨a, b, ra.dpH s, rb.dpH s, h.1, h.2, q F H (.refl s)⟩
  · cases e
theorem ob_ne : OpB K (rNeD K) dNe := by
  intro x y F H Q a b d s ra rb e q
  unfold dNe at e
  split at e
  · rename_i h
    cases e
    exact ⟨a, b, ra.dpH s, rb.dpH s, h.1, h.2, q F H (.refl s)⟩
  · cases e
theorem rdv_non {F H : Hp} {x : V} {a : D} (h : RdV K F H x a) : (x = .non) ↔ a = .none := by
  cases a with
  | list ds => obtain ⟨p, xs, rfl, _⟩ := h; simp
  | _ => cases h <;> simp
theorem ob_isN : OpB K (fun x y H Q => y = .non ∧ Q (.bl (decide (x = .non))) H) dIsN := by
  intro x y F H Q a b d s ra rb e q
  have hx := rdv_non ra
  have hb : b = .none := by cases b <;> cases a <;> simp [dIsN] at e <;> rfl
  subst hb
  cases rb
  refine ⟨rfl, ?_⟩
  have : decide (x = .non) = d := by
    cases a <;> simp [dIsN] at e <;> subst e <;> simp [hx]
  rw [this]
  exact q F H (.refl s)
theorem ob_notN : OpB K (fun x y H Q => y = .non ∧ Q (.bl (!decide (x = .non))) H) dNotN := by
  intro x y F H Q a b d s ra rb e q
  have hx := rdv_non ra
  have hb : b = .none := by cases b <;> cases a <;> simp [dNotN] at e <;> rfl
  subst hb
  cases rb
  refine ⟨rfl, ?_⟩
  have : (!decide (x = .non)) = d := by
    cases a <;> simp [dNotN] at e <;> subst e <;> simp [hx]
  rw [this]
  exact q F H (.refl s)
end

/-! ### in, not in: a list or a tuple of data of any depth; a text in a text -/
def inD (d : D) (ds : List D) : Bool := ds.any fun e => PyData.eqv e d
def inS (i j : Str) : Bool := !(Builtin.Str.occurrences j i 0 j.length 1).isEmpty
def dIn : D → D → Option Bool
  | d, .list ds => if SeqAt.shaped d = true ∧ SeqAt.shaped (.list ds) = true then some (inD d ds) else none
  | d, .tuple ds => if SeqAt.shaped d = true ∧ SeqAt.shaped (.tuple ds) = true then some (inD d ds) else none
  | .str i, .str j => some (inS i j)
  | _, _ => none
def dNotIn (a b : D) : Option Bool := (dIn a b).map (!·)
section
variable {X : Cx}
def rInT (K : PySem.W.Frag) : R2 := fun x y H Q => ∃ d ds, Dp K H x d ∧ Dp K H y (.tuple ds) ∧ SeqAt.shaped d = true ∧ SeqAt.shaped (.tuple ds) = true ∧ Q (.bl (inD d ds)) H
def rNotInT (K : PySem.W.Frag) : R2 := fun x y H Q => ∃ d ds, Dp K H x d ∧ Dp K H y (.tuple ds) ∧ SeqAt.shaped d = true ∧ SeqAt.shaped (.tuple ds) = true ∧ Q (.bl (!inD d ds)) H
theorem room_in {A : Around} {d : D} {ds : List D} (h : SeqAt.shaped d = true) (hu : A.units + 65 < cLine) : A.units + 1 + min (PyData.depthAll ds) d.depth < cLine := by
  have h1 := SeqAt.depth_of_shaped h
  have h2 : min (PyData.depthAll ds) d.depth ≤ d.depth := Nat.min_le_right _ _
  omega
theorem op_inT (hu : X.A.units + 65 < cLine) : OpR X (compareOp .In) (rInT X.K) := by
  intro pins s σ H x y v u Q I rx ry h
  obtain ⟨d, ds, hd, he, sd, se, q⟩ := h
  obtain ⟨as, r1⟩ := Dp.reads I d x v hd rx
  obtain ⟨bs, r2⟩ := Dp.reads I (.tuple ds) y u he ry
  exact SeqAt.in_tuple_reads r2 r1 (SeqAt.canLay_of_shaped se) (SeqAt.canLay_of_shaped sd) (room_in sd hu) ⟨.bl _, H, I, rfl, q⟩
theorem op_notInT (hu : X.A.units + 65 < cLine) : OpR X (compareOp .NotIn) (rNotInT X.K) := by
  intro pins s σ H x y v u Q I rx ry h
  obtain ⟨d, ds, hd, he, sd, se, q⟩ := h
  obtain ⟨as, r1⟩ := Dp.reads I d x v hd rx
  obtain ⟨bs, r2⟩ := Dp.reads I (.tuple ds) y u he ry
  exact SeqAt.notIn_tuple_reads r2 r1 (SeqAt.canLay_of_shaped se) (SeqAt.canLay_of_shaped sd) (room_in sd hu) ⟨.bl _, H, I, rfl, q⟩
def rInA (K : PySem.W.Frag) : R2 := fun x y H Q => rInD K x y H Q ∨ rInT K x y H Q ∨ (∃ i j, x = .str i ∧ y = .str j ∧ Q (.bl (!(Builtin.Str.occurrences j i 0 j.length 1).isEmpty)) H)
def rNotInA (K : PySem.W.Frag) : R2 := fun x y H Q => rNotInD K x y H Q ∨ rNotInT K x y H Q ∨ (∃ i j, x = .str i ∧ y = .str j ∧ Q (.bl (!(!(Builtin.Str.occurrences j i 0 j.length 1).isEmpty))) H)
theorem op_inA (hu : X.A.units + 65 < cLine) : OpR X (compareOp .In) (rInA X.K) := (op_inD hu).or ((op_inT hu).or op_in_str)
theorem op_notInA (hu : X.A.units + 65 < cLine) : OpR X (compareOp .NotIn) (rNotInA X.K) := (op_notInD hu).or ((op_notInT hu).or op_notIn_str)
variable {K : PySem.W.Frag}
theorem dIn_cases {a b : D} {k : Bool} (e : dIn a b = some k) :
    (∃ ds, b = .list ds ∧ SeqAt.shaped a = true ∧ SeqAt.shaped (.list ds) = true ∧ k = inD a ds) ∨ (∃ ds, b = .tuple ds ∧ SeqAt.shaped a = true ∧ SeqAt.shaped (.tuple ds) = true ∧ k = inD a ds) ∨ ∃ i j, a = .str i ∧ b = .str j ∧ k = inS i j := by
  unfold dIn at e
  split at e
  · split at e
    · rename_i h; cases e; exact .inl ⟨_, rfl, h.1, h.2, rfl⟩
    · cases e
  · split at e
    · rename_i h; cases e; exact .inr (.inl ⟨_, rfl, h.1, h.2, rfl⟩)
    · cases e
  · cases e; exact .inr (.inr ⟨_, _, rfl, rfl, rfl⟩)
  · cases e
theorem ob_in : OpB K (rInA K) dIn := by
  intro x y F H Q a b d s ra rb e q
  rcases dIn_cases e with ⟨ds, rfl, h1, h2, rfl⟩ | ⟨ds, rfl, h1, h2, rfl⟩ | ⟨i, j, rfl, rfl, rfl⟩
  · exact .inl ⟨a, ds, ra.dpH s, rb.dpH s, h1, h2, q F H (.refl s)⟩
  · exact .inr (.inl ⟨a, ds, ra.dpH s, rb.dpH s, h1, h2, q F H (.refl s)⟩)
  · cases ra; cases rb
    exact .inr (.inr ⟨_, _, rfl, rfl, q F H (.refl s)⟩)
theorem ob_notIn : OpB K (rNotInA K) dNotIn := by
  intro x y F H Q a b d s ra rb e q
  unfold dNotIn at e
  obtain ⟨k, e1, rfl⟩ := Option.map_eq_some_iff.mp e
  rcases dIn_cases e1 with ⟨ds, rfl, h1, h2, rfl⟩ | ⟨ds, rfl, h1, h2, rfl⟩ | ⟨i, j, rfl, rfl, rfl⟩
  · exact .inl ⟨a, ds, ra.dpH s, rb.dpH s, h1, h2, q F H (.refl s)⟩
  · exact .inr (.inl ⟨a, ds, ra.dpH s, rb.dpH s, h1, h2, q F H (.refl s)⟩)
  · cases ra; cases rb
    exact .inr (.inr ⟨_, _, rfl, rfl, q F H (.refl s)⟩)
end

/-! ### one operand; subscripts; slices -/
section
variable {X : Cx} {B : Bd} {W : WX} {a b c e : Expr} {es : List Expr} {fa fb fc f : Rho → Res D} {pos : Pos}
def dNeg : D → Option D
  | .int i => some (.int (-i))
  | _ => none
def un (fa : Rho → Res D) (g : D → Option D) (ρ : Rho) : Res D := (fa ρ).bind fun x => Res.of (g x)
theorem pv_neg (ha : PVR X B W a fa) : PVE X B W (.UnaryOp .USub a pos) (un fa dNeg) := by
  obtain ⟨ta, a1, a2⟩ := ha.ex
  refine ⟨_, pe_un un_neg a1, fun ρ σ F H Q S q => a2 ρ σ F H _ S ?_⟩
  unfold un at q
  cases e : fa ρ with
  | no => rw [e] at q; exact q
  | ex e' => rw [e] at q; exact q
  | ok d =>
    rw [e] at q
    intro v F1 H1 g1 r1
    cases d with
    | int i => cases r1; exact ⟨i, rfl, q _ F1 H1 g1 (.int _)⟩
    | _ => exact q.elim
def dIx : D → D → Option D
  | .list ds, .int i => atI ds i
  | .tuple ds, .int i => atI ds i
  | .str z, .int i => if z.length ≤ sizeLine then (atI z.cps.toList i).map fun c => .str ⟨#[c]⟩ else none
  | _, _ => none
theorem atI_dp {K : PySem.W.Frag} {H : Hp} {xs : List V} {ds : List D} (h : DpAll K H xs ds) {i : Int} {d : D} (e : atI ds i = some d) : ∃ v, atI xs i = some v ∧ Dp K H v d := by
  unfold atI at e ⊢
  rw [h.len]
  cases hj : ixN ds.length i with
  | none => rw [hj] at e; cases e
  | some j =>
    rw [hj] at e
    exact h.at e
theorem ov_ix {K : PySem.W.Frag} : OpV K (rIx K) dIx := by
  intro x y F H Q a b d s ra rb e q
  unfold dIx at e
  split at e
  · cases rb
    obtain ⟨p, xs, rfl, h1, r1⟩ := ra
    obtain ⟨v, h2, r2⟩ := atI_dp r1 e
    exact .inl ⟨p, xs, _, v, rfl, rfl, h1, h2, q v F H (.refl s) r2⟩
  · cases rb
    cases ra with
    | tup h1 r1 =>
      obtain ⟨v, h2, r2⟩ := atI_dp r1 e
      exact .inr (.inl ⟨_, _, _, v, rfl, rfl, s.sqT h1, h2, q v F H (.refl s) r2⟩)
  · cases ra; cases rb
    split at e
    · obtain ⟨c, e1, rfl⟩ := Option.map_eq_some_iff.mp e
      exact .inr (.inr ⟨_, _, c, rfl, rfl, by assumption, e1, q _ F H (.refl s) (.str _)⟩)
    · cases e
  · cases e
theorem pv_ix (ha : PVR X B W a fa) (hb : PVR X B W b fb) (hs : PlainIx b := by exact fun _ _ => rfl) : PVE X B W (.Subscript a b pos) (bin fa fb dIx) := by
  obtain ⟨ta, a1, a2⟩ := ha.ex
  obtain ⟨tb, b1, b2⟩ := hb.ex
  refine ⟨_, pe_ix ix_seq a1 b1 hs, fun ρ σ F H Q S q => ?_⟩
  refine two (Z := fun F H r => EPo X W σ F H Q r) (R := fun x y H => rIx X.K x y H Q) (h := fun x y => Res.of (dIx x y)) S a2 b2 (fun _ _ _ z => z) (fun _ _ z => z) (fun _ _ _ _ _ g z => z.grow g) q fun x y da db F' H' gr r1 r2 z => ?_
  cases e : dIx da db with
  | none => rw [e] at z; exact z.elim
  | some d => rw [e] at z; exact ov_ix x y F' H' Q da db d gr.fh r1 r2 e z

/-- an optional bound of a slice -/
structure PVP (X : Cx) (B : Bd) (W : WX) (e : Option Expr) (f : Rho → Res (Option Int)) : Prop where
  ex : ∃ te, PO X e te ∧ ∀ ρ σ F H (Q : Option Int → Hp → Prop), Sta X.K B ρ σ F H → (match f ρ with
    | .ok o => ∀ F' H', Grow F H F' H' → Q o H'
    | .ex e => XOk X W σ F H e
    | .no => False) → te σ H Q
theorem pp_no : PVP X B W none (fun _ => .ok none) := ⟨_, po_none, fun ρ σ F H Q S q => q F H (.refl S.fh)⟩
def asI (f : Rho → Res D) (ρ : Rho) : Res (Option Int) := (f ρ).bind fun d => match d with | .int i => .ok (some i) | _ => .no
theorem pp_some (h : PVR X B W e f) : PVP X B W (some e) (asI f) := by
  obtain ⟨t, h1, h2⟩ := h.ex
  refine ⟨_, po_some h1, fun ρ σ F H Q S q => h2 ρ σ F H _ S ?_⟩
  unfold asI at q
  cases e : f ρ with
  | no => rw [e] at q; exact q
  | ex e' => rw [e] at q; exact q
  | ok d =>
    rw [e] at q
    intro v F1 H1 g1 r1
    cases d with
    | int i => cases r1; exact ⟨i, rfl, q F1 H1 g1⟩
    | _ => exact q.elim
def cutD (ds : List D) (lo hi : Option Int) : List D := (ds.drop (HT.sIx ds.length 0 lo)).take (HT.sIx ds.length ds.length hi - HT.sIx ds.length 0 lo)
theorem cut_dp {K : PySem.W.Frag} {H : Hp} {xs : List V} {ds : List D} (h : DpAll K H xs ds) (lo hi : Option Int) : DpAll K H (cutV xs lo hi) (cutD ds lo hi) := by
  unfold cutV cutD
  rw [h.len]
  exact (h.drop _).take _
def dSl : D → Option Int → Option Int → Option D
  | .list ds, lo, hi => some (.list (cutD ds lo hi))
  | .tuple ds, lo, hi => some (.tuple (cutD ds lo hi))
  | _, _, _ => none
def slc (f : Rho → Res D) (l h : Rho → Res (Option Int)) (ρ : Rho) : Res D := (f ρ).bind fun d => (l ρ).bind fun lo => (h ρ).bind fun hi => Res.of (dSl d lo hi)
theorem cutD_whole {ds : List D} {lo hi : Option Int} (h : HT.sIx ds.length 0 lo = 0 ∧ HT.sIx ds.length ds.length hi = ds.length) : cutD ds lo hi = ds := by
  unfold cutD
  rw [h.1, h.2]
  simp
def rSlAll (K : PySem.W.Frag) : V → Option Int → Option Int → Hp → VK → Prop := fun x lo hi H Q => rSlL K x lo hi H Q ∨ rSlA K x lo hi H Q
theorem pv_slice {l h : Rho → Res (Option Int)} {lo hi : Option Expr} {p2 : Pos} (he : PVR X B W e f) (hl : PVP X B W lo l) (hh : PVP X B W hi h) : PVE X B W (.Subscript e (.Slice lo hi none p2) pos) (slc f l h) := by
  obtain ⟨t, h1, h2⟩ := he.ex
  obtain ⟨u, k1, k2⟩ := hl.ex
  obtain ⟨w, m1, m2⟩ := hh.ex
  refine ⟨_, pe_slice (r := rSlAll X.K) (sl_list.or sl_tupA) h1 k1 m1, fun ρ σ F H Q S q => h2 ρ σ F H _ S ?_⟩
  unfold slc at q
  cases e : f ρ with
  | no => rw [e] at q; exact q
  | ex e' => rw [e] at q; exact q
  | ok d =>
    rw [e] at q
    intro v F1 H1 g1 r1
    refine k2 ρ σ F1 H1 _ (S.grow g1) ?_
    cases e2 : l ρ with
    | no => rw [e2] at q; exact q
    | ex e' => rw [e2] at q; exact XOk.grow g1 q
    | ok lo =>
      rw [e2] at q
      intro F2 H2 g2
      refine m2 ρ σ F2 H2 _ (S.grow (g1.trans g2)) ?_
      cases e3 : h ρ with
      | no => rw [e3] at q; exact q
      | ex e' => rw [e3] at q; exact XOk.grow (g1.trans g2) q
      | ok hi =>
        rw [e3] at q
        intro F3 H3 g3
        have g := g1.trans (g2.trans g3)
        have r := r1.grow (g2.trans g3)
        cases d with
        | list ds =>
          obtain ⟨p, xs, rfl, h1, r⟩ := r
          refine .inl ⟨p, xs, rfl, h1, fun b hb => ?_⟩
          have g4 := Grow.new (o := .lst (cutV xs lo hi)) g.fh hb ntl
          exact q _ _ _ (g.trans g4) (.lst (.of upd_same) (g4.f.dpAll _ _ (cut_dp r lo hi)))
        | tuple ds =>
          cases r with
          | tup h1 r =>
            refine .inr ⟨_, _, rfl, g.fh.sqT h1, fun hw => ?_, fun hw b hb => ?_⟩
            · rw [r.len] at hw
              refine q _ _ _ g ?_
              show Dp X.K F3 _ (.tuple (cutD ds lo hi))
              rw [cutD_whole hw]
              exact .tup h1 r
            · refine q _ _ _ (g.trans (Grow.new g.fh hb ntt)) (.tup (.of upd_same) ((Grow.new g.fh hb ntt).f.dpAll _ _ (cut_dp r lo hi)))
        | _ => exact q.elim
end
end VL

set_option Elab.async false
set_option linter.all false
set_option maxRecDepth 100000
set_option maxHeartbeats 4000000
namespace VL
open PySem PySem.Spec PyProof.Rows L2

/-! ### built-ins of one argument -/
def C1V (K : PySem.W.Frag) (r : List V → Hp → VK → Prop) (g : D → Option D) : Prop := ∀ x F H Q a d, Sub F H → RdV K F H x a → g a = some d → (∀ v F' H', Grow F H F' H' → Dp K F' v d → Q v H') → r [x] H Q
def C1O (K : PySem.W.Frag) (r : List V → Hp → VK → Prop) (g : D → Option (List D)) : Prop := ∀ x F H Q a ds, Sub F H → RdV K F H x a → g a = some ds →
  (∀ p xs F' H', Grow F H F' H' → H' p = some (.lst xs) → F' p = none → H p = none → DpAll K F' xs ds → Q (.ref p) H') → r [x] H Q
def C2V (K : PySem.W.Frag) (r : List V → Hp → VK → Prop) (g : D → D → Option D) : Prop := ∀ x y F H Q a b d, Sub F H → RdV K F H x a → RdV K F H y b → g a b = some d → (∀ v F' H', Grow F H F' H' → Dp K F' v d → Q v H') → r [x, y] H Q
def unO (fa : Rho → Res D) (g : D → Option (List D)) (ρ : Rho) : Res (List D) := (fa ρ).bind fun x => Res.of (g x)
section
variable {X : Cx} {B : Bd} {W : WX} {a b c e : Expr} {es : List Expr} {fa fb fc f : Rho → Res D} {pos p : Pos} {r : List V → Hp → VK → Prop}
theorem pv_b1 {id : String} {x : Str} {g : D → Option D} (hc : CallR X (.builtin id) r) (cv : C1V X.K r g) (hm : X.mg x = none) (hv : bootBuiltins x = some (.builtin id)) (ha : PVR X B W a fa) (hg : Gl X x := by rfl) (hn : x ≠ "__name__" := by decide) (hdb : (x == ("__debug__" : Str)) = false := by decide)
    (he : starEach (a :: []) X.env = (false, eval a X.env) :: starEach [] X.env := by rfl) (hpl : (backTo pos (starEach [] X.env)).any (·.1) = false := by rfl) :
    PVE X B W (.Call (.Name x p) [a] [] pos) (un fa g) := by
  obtain ⟨ta, a1, a2⟩ := ha.ex
  refine ⟨_, pe_callB hc hg hm hv (L2.pa_cons a1 L2.pa_nil he) hn hdb he hpl, fun ρ σ F H Q S q => a2 ρ σ F H _ S ?_⟩
  unfold un at q
  cases e : fa ρ with
  | no => rw [e] at q; exact q
  | ex e' => rw [e] at q; exact q
  | ok d =>
    rw [e] at q
    intro v F1 H1 g1 r1
    simp only [Res.ok_bind] at q
    cases e2 : g d with
    | none => rw [e2] at q; exact q.elim
    | some d2 => rw [e2] at q; exact cv v F1 H1 Q d d2 g1.fh r1 e2 fun v F' H' g2 => q v F' H' (g1.trans g2)
theorem pv_t1 {id : String} {x : Str} {g : D → Option D} (hc : CallR X (.type id) r) (cv : C1V X.K r g) (hm : X.mg x = none) (hv : bootBuiltins x = some (.type id)) (ha : PVR X B W a fa) (hg : Gl X x := by rfl) (hn : x ≠ "__name__" := by decide) (hdb : (x == ("__debug__" : Str)) = false := by decide)
    (he : starEach (a :: []) X.env = (false, eval a X.env) :: starEach [] X.env := by rfl) (hpl : (backTo pos (starEach [] X.env)).any (·.1) = false := by rfl) :
    PVE X B W (.Call (.Name x p) [a] [] pos) (un fa g) := by
  obtain ⟨ta, a1, a2⟩ := ha.ex
  refine ⟨_, pe_callTy hc hg hm hv (L2.pa_cons a1 L2.pa_nil he) hn hdb he hpl, fun ρ σ F H Q S q => a2 ρ σ F H _ S ?_⟩
  unfold un at q
  cases e : fa ρ with
  | no => rw [e] at q; exact q
  | ex e' => rw [e] at q; exact q
  | ok d =>
    rw [e] at q
    intro v F1 H1 g1 r1
    simp only [Res.ok_bind] at q
    cases e2 : g d with
    | none => rw [e2] at q; exact q.elim
    | some d2 => rw [e2] at q; exact cv v F1 H1 Q d d2 g1.fh r1 e2 fun v F' H' g2 => q v F' H' (g1.trans g2)
theorem po_b1 {id : String} {x : Str} {g : D → Option (List D)} (hc : CallR X (.builtin id) r) (cv : C1O X.K r g) (hm : X.mg x = none) (hv : bootBuiltins x = some (.builtin id)) (ha : PVR X B W a fa) (hg : Gl X x := by rfl) (hn : x ≠ "__name__" := by decide) (hdb : (x == ("__debug__" : Str)) = false := by decide)
    (he : starEach (a :: []) X.env = (false, eval a X.env) :: starEach [] X.env := by rfl) (hpl : (backTo pos (starEach [] X.env)).any (·.1) = false := by rfl) :
    PVO X B W (.Call (.Name x p) [a] [] pos) (unO fa g) := by
  obtain ⟨ta, a1, a2⟩ := ha.ex
  refine ⟨_, pe_callB hc hg hm hv (L2.pa_cons a1 L2.pa_nil he) hn hdb he hpl, fun ρ σ F H Q S q => a2 ρ σ F H _ S ?_⟩
  unfold unO at q
  cases e : fa ρ with
  | no => rw [e] at q; exact q
  | ex e' => rw [e] at q; exact q
  | ok d =>
    rw [e] at q
    intro v F1 H1 g1 r1
    simp only [Res.ok_bind] at q
    cases e2 : g d with
    | none => rw [e2] at q; exact q.elim
    | some d2 => rw [e2] at q; exact cv v F1 H1 Q d d2 g1.fh r1 e2 fun p xs F' H' g2 h1 h2 h3 => q p xs F' H' (g1.trans g2) h1 h2 (g1.h.free h3)
theorem po_t1 {id : String} {x : Str} {g : D → Option (List D)} (hc : CallR X (.type id) r) (cv : C1O X.K r g) (hm : X.mg x = none) (hv : bootBuiltins x = some (.type id)) (ha : PVR X B W a fa) (hg : Gl X x := by rfl) (hn : x ≠ "__name__" := by decide) (hdb : (x == ("__debug__" : Str)) = false := by decide)
    (he : starEach (a :: []) X.env = (false, eval a X.env) :: starEach [] X.env := by rfl) (hpl : (backTo pos (starEach [] X.env)).any (·.1) = false := by rfl) :
    PVO X B W (.Call (.Name x p) [a] [] pos) (unO fa g) := by
  obtain ⟨ta, a1, a2⟩ := ha.ex
  refine ⟨_, pe_callTy hc hg hm hv (L2.pa_cons a1 L2.pa_nil he) hn hdb he hpl, fun ρ σ F H Q S q => a2 ρ σ F H _ S ?_⟩
  unfold unO at q
  cases e : fa ρ with
  | no => rw [e] at q; exact q
  | ex e' => rw [e] at q; exact q
  | ok d =>
    rw [e] at q
    intro v F1 H1 g1 r1
    simp only [Res.ok_bind] at q
    cases e2 : g d with
    | none => rw [e2] at q; exact q.elim
    | some d2 => rw [e2] at q; exact cv v F1 H1 Q d d2 g1.fh r1 e2 fun p xs F' H' g2 h1 h2 h3 => q p xs F' H' (g1.trans g2) h1 h2 (g1.h.free h3)
theorem pv_b2 {id : String} {x : Str} {g : D → D → Option D} (hc : CallR X (.builtin id) r) (cv : C2V X.K r g) (hm : X.mg x = none) (hv : bootBuiltins x = some (.builtin id)) (ha : PVR X B W a fa) (hb : PVR X B W b fb) (hg : Gl X x := by rfl) (hn : x ≠ "__name__" := by decide) (hdb : (x == ("__debug__" : Str)) = false := by decide)
    (he : starEach (a :: [b]) X.env = (false, eval a X.env) :: starEach [b] X.env := by rfl) (he2 : starEach (b :: []) X.env = (false, eval b X.env) :: starEach [] X.env := by rfl) (hpl : (backTo pos (starEach [b] X.env)).any (·.1) = false := by rfl) :
    PVE X B W (.Call (.Name x p) [a, b] [] pos) (bin fa fb g) := by
  obtain ⟨ta, a1, a2⟩ := ha.ex
  obtain ⟨tb, b1, b2⟩ := hb.ex
  refine ⟨_, pe_callB hc hg hm hv (L2.pa_cons a1 (L2.pa_cons b1 L2.pa_nil he2) he) hn hdb he hpl, fun ρ σ F H Q S q => ?_⟩
  refine two (Z := fun F H r => EPo X W σ F H Q r) (R := fun x y H => r [x, y] H Q) (h := fun x y => Res.of (g x y)) S a2 b2 (fun _ _ _ z => z) (fun _ _ z => z) (fun _ _ _ _ _ g z => z.grow g) q fun x y da db F' H' gr r1 r2 z => ?_
  cases e : g da db with
  | none => rw [e] at z; exact z.elim
  | some d => rw [e] at z; exact cv x y F' H' Q da db d gr.fh r1 r2 e z
end

/-- len -/
def dLen : D → Option D
  | .list ds => some (.int ds.length)
  | .tuple ds => some (.int ds.length)
  | .str z => if z.length ≤ sizeLine then some (.int z.length) else none
  | _ => none
def rLenA (K : PySem.W.Frag) : List V → Hp → VK → Prop := fun xs H Q => (∃ p ys, xs = [.ref p] ∧ (SqL K H p ys ∨ SqT K H p ys) ∧ Q (.int ys.length) H) ∨ (∃ z, xs = [.str z] ∧ z.length ≤ sizeLine ∧ Q (.int z.length) H)
section
variable {X : Cx} {K : PySem.W.Frag}
theorem call_lenA : CallR X (.builtin "len") (rLenA X.K) := call_len_seq.or call_len_str
theorem cv_len : C1V K (rLenA K) dLen := by
  intro x F H Q a d s ra e q
  unfold dLen at e
  split at e
  · cases e
    obtain ⟨p, xs, rfl, h1, r1⟩ := ra
    exact .inl ⟨p, xs, rfl, .inl h1, q _ F H (.refl s) (by rw [r1.len]; exact .int _)⟩
  · cases e
    cases ra with
    | tup h1 r1 => exact .inl ⟨_, _, rfl, .inr (s.sqT h1), q _ F H (.refl s) (by rw [r1.len]; exact .int _)⟩
  · cases ra
    split at e
    · cases e; exact .inr ⟨_, rfl, by assumption, q _ F H (.refl s) (.int _)⟩
    · cases e
  · cases e
/-- the ints of a list -/
def asInts : List D → Option (List Int)
  | [] => some []
  | .int i :: ds => (asInts ds).map (i :: ·)
  | _ :: _ => none
theorem asInts_map (ns : List Int) : asInts (ns.map .int) = some ns := by
  induction ns with
  | nil => rfl
  | cons n ns ih => show (asInts (ns.map .int)).map (n :: ·) = _; rw [ih]; rfl
theorem asInts_eq : ∀ {ds : List D} {ns : List Int}, asInts ds = some ns → ds = ns.map .int
  | [], ns, e => by cases e; rfl
  | d :: ds, ns, e => by
    cases d with
    | int i =>
      obtain ⟨ms, e1, rfl⟩ := Option.map_eq_some_iff.mp (show (asInts ds).map (i :: ·) = some ns from e)
      rw [asInts_eq e1]; rfl
    | _ => cases e
theorem dpa_ints {H : Hp} : ∀ {xs : List V} {ns : List Int}, DpAll K H xs (ns.map .int) → xs = ns.map V.int
  | _, [], h => by cases h; rfl
  | _, n :: ns, h => by
    cases h with
    | cons a b => cases a; rw [dpa_ints b]; rfl
theorem ints_dpa {H : Hp} : ∀ (ns : List Int), DpAll K H (ns.map V.int) (ns.map .int)
  | [] => .nil
  | n :: ns => .cons (.int n) (ints_dpa ns)
def dSum : D → Option D
  | .list ds => (asInts ds).map fun ns => .int ns.sum
  | _ => none
theorem cv_sum : C1V K (rSum K) dSum := by
  intro x F H Q a d s ra e q
  unfold dSum at e
  split at e
  · obtain ⟨ns, e1, rfl⟩ := Option.map_eq_some_iff.mp e
    cases asInts_eq e1
    obtain ⟨p, xs, rfl, h1, r1⟩ := ra
    cases dpa_ints r1
    exact ⟨p, ns, rfl, h1, q _ F H (.refl s) (.int _)⟩
  · cases e
def maxL : Int → List Int → Int
  | n, [] => n
  | n, m :: ms => maxL (if n < m then m else n) ms
def minL : Int → List Int → Int
  | n, [] => n
  | n, m :: ms => minL (if m < n then m else n) ms
theorem maxL_mem : ∀ (n : Int) (ms : List Int), maxL n ms ∈ n :: ms
  | n, [] => by simp [maxL]
  | n, m :: ms => by
    have := maxL_mem (if n < m then m else n) ms
    rw [maxL]
    split at this <;> split <;> simp_all
    all_goals (first | omega | (rcases this with h | h <;> simp [h]))
theorem maxL_le : ∀ (n : Int) (ms : List Int) (y : Int), y ∈ n :: ms → y ≤ maxL n ms
  | n, [], y, h => by simp at h; rw [h]; exact Int.le_refl _
  | n, m :: ms, y, h => by
    have a := maxL_le (if n < m then m else n) ms
    rw [maxL]
    rcases List.mem_cons.mp h with rfl | h
    · have := a _ List.mem_cons_self
      split at this <;> split <;> omega
    · rcases List.mem_cons.mp h with rfl | h
      · have := a _ List.mem_cons_self
        split at this <;> split <;> omega
      · exact a y (List.mem_cons_of_mem _ h)
theorem minL_mem : ∀ (n : Int) (ms : List Int), minL n ms ∈ n :: ms
  | n, [] => by simp [minL]
  | n, m :: ms => by
    have := minL_mem (if m < n then m else n) ms
    rw [minL]
    split at this <;> split <;> simp_all
    all_goals (first | omega | (rcases this with h | h <;> simp [h]))
theorem minL_le : ∀ (n : Int) (ms : List Int) (y : Int), y ∈ n :: ms → minL n ms ≤ y
  | n, [], y, h => by simp at h; rw [h]; exact Int.le_refl _
  | n, m :: ms, y, h => by
    have a := minL_le (if m < n then m else n) ms
    rw [minL]
    rcases List.mem_cons.mp h with rfl | h
    · have := a _ List.mem_cons_self
      split at this <;> split <;> omega
    · rcases List.mem_cons.mp h with rfl | h
      · have := a _ List.mem_cons_self
        split at this <;> split <;> omega
      · exact a y (List.mem_cons_of_mem _ h)
def dMax1 : D → Option D
  | .list ds => match asInts ds with
    | some (n :: ns) => some (.int (maxL n ns))
    | _ => none
  | _ => none
def dMin1 : D → Option D
  | .list ds => match asInts ds with
    | some (n :: ns) => some (.int (minL n ns))
    | _ => none
  | _ => none
theorem cv_max : C1V K (rMax K) dMax1 := by
  intro x F H Q a d s ra e q
  unfold dMax1 at e
  split at e
  · split at e
    · rename_i n ns e1
      cases e
      cases asInts_eq e1
      obtain ⟨p, xs, rfl, h1, r1⟩ := ra
      cases dpa_ints r1
      refine ⟨p, n :: ns, rfl, h1, by simp, fun m hm hy => ?_⟩
      have : m = maxL n ns := Int.le_antisymm (maxL_le n ns m hm) (hy _ (maxL_mem n ns))
      subst this
      exact q _ F H (.refl s) (.int _)
    · cases e
  · cases e
theorem cv_min : C1V K (rMin K) dMin1 := by
  intro x F H Q a d s ra e q
  unfold dMin1 at e
  split at e
  · split at e
    · rename_i n ns e1
      cases e
      cases asInts_eq e1
      obtain ⟨p, xs, rfl, h1, r1⟩ := ra
      cases dpa_ints r1
      refine ⟨p, n :: ns, rfl, h1, by simp, fun m hm hy => ?_⟩
      have : m = minL n ns := Int.le_antisymm (hy _ (minL_mem n ns)) (minL_le n ns m hm)
      subst this
      exact q _ F H (.refl s) (.int _)
    · cases e
  · cases e
def dMax2 : D → D → Option D
  | .int i, .int j => some (.int (if j > i then j else i))
  | _, _ => none
def dMin2 : D → D → Option D
  | .int i, .int j => some (.int (if j < i then j else i))
  | _, _ => none
theorem cv_max2 : C2V K (fun xs H Q => ∃ i j, xs = [.int i, .int j] ∧ Q (.int (if j > i then j else i)) H) dMax2 := by
  intro x y F H Q a b d s ra rb e q
  unfold dMax2 at e
  split at e
  · cases e; cases ra; cases rb
    exact ⟨_, _, rfl, q _ F H (.refl s) (.int _)⟩
  · cases e
theorem cv_min2 : C2V K (fun xs H Q => ∃ i j, xs = [.int i, .int j] ∧ Q (.int (if j < i then j else i)) H) dMin2 := by
  intro x y F H Q a b d s ra rb e q
  unfold dMin2 at e
  split at e
  · cases e; cases ra; cases rb
    exact ⟨_, _, rfl, q _ F H (.refl s) (.int _)⟩
  · cases e
def dAbs : D → Option D
  | .int i => some (.int (if i < 0 then -i else i))
  | _ => none
theorem cv_abs : C1V K (fun xs H Q => ∃ i, xs = [.int i] ∧ Q (.int (if i < 0 then -i else i)) H) dAbs := by
  intro x F H Q a d s ra e q
  unfold dAbs at e
  split at e
  · cases e; cases ra
    exact ⟨_, rfl, q _ F H (.refl s) (.int _)⟩
  · cases e
def dStr : D → Option D
  | .int i => if i.natAbs.log2 < 1920 then some (.str (toString i)) else none
  | _ => none
theorem cv_str : C1V K (fun xs H Q => ∃ i, xs = [.int i] ∧ i.natAbs.log2 < 1920 ∧ Q (.str (toString i)) H) dStr := by
  intro x F H Q a d s ra e q
  unfold dStr at e
  split at e
  · split at e
    · cases e; cases ra
      exact ⟨_, rfl, by assumption, q _ F H (.refl s) (.str _)⟩
    · cases e
  · cases e
/-- list(x), tuple(x) of a list or a tuple -/
def dList : D → Option (List D)
  | .list ds => some ds
  | .tuple ds => some ds
  | _ => none
theorem co_list : C1O K (fun xs H Q => ∃ p ys, xs = [.ref p] ∧ (SqL K H p ys ∨ SqT K H p ys) ∧ ∀ l, H l = none → Q (.ref l) (upd H l (.lst ys))) dList := by
  intro x F H Q a ds s ra e q
  unfold dList at e
  split at e
  · cases e
    obtain ⟨p, xs, rfl, h1, r1⟩ := ra
    exact ⟨p, xs, rfl, .inl h1, fun l hl => q l xs F _ ⟨Sub.refl F, upd_sub hl, s.trans (upd_sub hl), fun _ _ => rfl⟩ upd_same (s.free hl) hl r1⟩
  · cases e
    cases ra with
    | tup h1 r1 => exact ⟨_, _, rfl, .inr (s.sqT h1), fun l hl => q l _ F _ ⟨Sub.refl F, upd_sub hl, s.trans (upd_sub hl), fun _ _ => rfl⟩ upd_same (s.free hl) hl r1⟩
  · cases e
def dTup : D → Option D
  | .list ds => some (.tuple ds)
  | .tuple ds => some (.tuple ds)
  | _ => none
theorem cv_tup : C1V K (fun xs H Q => ∃ p ys, xs = [.ref p] ∧ ((SqL K H p ys ∧ ∀ l, H l = none → Q (.ref l) (upd H l (.tup ys))) ∨ (SqT K H p ys ∧ Q (.ref p) H))) dTup := by
  intro x F H Q a d s ra e q
  unfold dTup at e
  split at e
  · cases e
    obtain ⟨p, xs, rfl, h1, r1⟩ := ra
    exact ⟨p, xs, rfl, .inl ⟨h1, fun l hl => q _ _ _ (Grow.new s hl ntt) (.tup (.of upd_same) ((Grow.new s hl ntt).f.dpAll _ _ r1))⟩⟩
  · cases e
    cases ra with
    | tup h1 r1 => exact ⟨_, _, rfl, .inr ⟨s.sqT h1, q _ F H (.refl s) (.tup h1 r1)⟩⟩
  · cases e
end

/-! ### isinstance(x, T), T a built-in class -/
def tyName : D → String
  | .none => "NoneType"
  | .bool _ => "bool"
  | .int _ => "int"
  | .str _ => "str"
  | .list _ => "list"
  | .tuple _ => "tuple"
  | .dict _ => "dict"
def isTy (T : String) (d : D) : Bool := tyName d == T || (T == "int" && tyName d == "bool")
section
variable {X : Cx} {B : Bd} {W : WX} {a : Expr} {fa : Rho → Res D} {pos p p2 : Pos}
theorem tyX_of {K : PySem.W.Frag} {F H : Hp} {x : V} {d : D} (s : Sub F H) (h : RdV K F H x d) : TyX K H x (.type (tyName d)) := by
  cases d with
  | none => cases h; exact .base .non
  | bool b => cases h; exact .base (.bl b)
  | int i => cases h; exact .base (.int i)
  | str z => cases h; exact .base (.str z)
  | list ds =>
    obtain ⟨q, xs, rfl, h1, r1⟩ := h
    rcases h1 with (h1 | ⟨o, h1⟩) | ⟨o, its, n, h1, h2, _⟩
    · exact .base (.lst h1)
    · exact .base (.frz h1)
    · exact .kList h1 h2
  | tuple ds =>
    cases h with
    | tup h1 r1 =>
      rcases s.sqT h1 with (h1 | ⟨o, h1⟩) | ⟨o, its, n, h1, h2, _⟩
      · exact .base (.tup h1)
      · exact .fTuple h1
      · exact .kTuple h1 h2
  | dict _ => cases h
/-- what kitOne says of the written part's own look at built-in types -/
structure KitT (K : PySem.W.Frag) (T : String) : Prop where
  is : ∀ U, U ∈ ["NoneType", "bool", "int", "str", "list", "tuple"] → PySem.W.kitOne K (.type U) (.type T) = some (U == T || (T == "int" && U == "bool"))
theorem tyName_mem {K : PySem.W.Frag} {F H : Hp} {x : V} {d : D} (h : RdV K F H x d) : tyName d ∈ ["NoneType", "bool", "int", "str", "list", "tuple"] := by
  cases d with
  | dict _ => cases h
  | _ => simp [tyName]
def isiV (T : String) (fa : Rho → Res D) (ρ : Rho) : Res D := (fa ρ).bind fun d => .ok (.bool (isTy T d))
theorem pv_isi {T : String} {x : Str} (k : KitT X.K T) (hm : X.mg "isinstance" = none) (hmT : X.mg x = none) (hvT : bootBuiltins x = some (.type T)) (ha : PVR X B W a fa) (hg : Gl X "isinstance" := by rfl) (hgT : Gl X x := by rfl) (hn : x ≠ "__name__" := by decide) (hdb : (x == ("__debug__" : Str)) = false := by decide)
    (he : starEach (a :: [.Name x p2]) X.env = (false, eval a X.env) :: starEach [.Name x p2] X.env := by rfl) (hpl : (backTo pos (starEach [.Name x p2] X.env)).any (·.1) = false := by rfl) :
    PVE X B W (.Call (.Name "isinstance" p) [a, .Name x p2] [] pos) (isiV T fa) := by
  obtain ⟨ta, a1, a2⟩ := ha.ex
  refine ⟨_, pe_callB call_isi hg hm (by decide +kernel) (L2.pa_cons a1 (L2.pa_cons (pe_bltn (v := .ty T) hgT hmT hvT rfl hn hdb) L2.pa_nil) he) (by decide) (by decide) he hpl, fun ρ σ F H Q S q => a2 ρ σ F H _ S ?_⟩
  unfold isiV at q
  cases e : fa ρ with
  | no => rw [e] at q; exact q
  | ex e' => rw [e] at q; exact q
  | ok d =>
    rw [e] at q
    intro v F1 H1 g1 r1
    exact ⟨v, .ty T, _, _, _, rfl, .ty T, tyX_of g1.fh r1, k.is _ (tyName_mem r1), q _ F1 H1 g1 (.bl _)⟩
end
end VL

set_option Elab.async false
set_option linter.all false
set_option maxRecDepth 100000
set_option maxHeartbeats 4000000
namespace VL
open PySem PySem.Spec PyProof.Rows L2

/-! ### defs -/
def TabsOk (Ps : List Addr) (F : Hp) : Prop := ∀ P ∈ Ps, ∃ ps : Array Value, F P = some (.tbl ps) ∧ TriplesOk ps.toList
theorem TabsOk.sub {Ps : List Addr} {F F' : Hp} (s : Sub F F') (h : TabsOk Ps F) : TabsOk Ps F' := fun P hP => by
  obtain ⟨ps, h1, h2⟩ := h P hP
  obtain ⟨qs, k1, k2⟩ := s.tb P ps h1 h2
  exact ⟨qs, k1, k2⟩
/-- the promise: the def computes g -/
def spV (K : PySem.W.Frag) (mg : Str → Option Value) (Ps : List Addr) (g : List D → Res D) (n : Nat) : Sp := fun vs H Q E => ∃ F ds, Sub F H ∧ TabsOk Ps F ∧ DpAll K F vs ds ∧ ds.length = n ∧
  match g ds with
  | .ok d => ∀ v F' H', Grow F H F' H' → Dp K F' v d → Q v H'
  | .ex e => ∀ (C d : Addr) (fs : List (Str × V)) (F' H' : Hp), Grow F H F' H' → mg e.cls = some (.ref C) → F' d = some (.xd fs) → FsR K F' fs e.fs → E (.ref C) (some d) H'
  | .no => False
theorem spV_len {K : PySem.W.Frag} {mg : Str → Option Value} {Ps : List Addr} {g : List D → Res D} {n : Nat} {vs : List V} {H : Hp} {Q : VK} {E : XK} (h : spV K mg Ps g n vs H Q E) : vs.length = n := by
  obtain ⟨F, ds, _, _, r, l, _⟩ := h
  rw [r.len, l]
section
variable {X : Cx} {B : Bd} {W : WX} {a b c e : Expr} {es : List Expr} {fa fb fc f : Rho → Res D} {pos p : Pos}
def callV (g : List D → Res D) (fa : Rho → Res (List D)) (ρ : Rho) : Res D := (fa ρ).bind g
theorem pv_call {x : Str} {k : Nat} {fn : Addr} {fd : FuncData} {ps : List Str} {Ps : List Addr} {g : List D → Res D} {fa : Rho → Res (List D)} (hB : B.T = Ps) (Fn : FnOk X.prog X.w X.K X.mg X.base (L2.CX X.prog X.w) k fn fd ps (spV X.K X.mg Ps g ps.length)) (hr : Room k X.A)
    (hm : X.mg x = some (.ref fn)) (hk : PySem.W.keepIn X.K (.ref fn) = true) (hb : Binds X.K fd ps []) (tk : Takes X W) (ha : PVA X B W (e :: es) fa) (hl : (e :: es).length = ps.length := by rfl) (hg : Gl X x := by rfl)
    (hdb : (x == ("__debug__" : Str)) = false := by decide) (he : starEach (e :: es) X.env = (false, eval e X.env) :: starEach es X.env := by rfl) (hpl : (backTo pos (starEach es X.env)).any (·.1) = false := by rfl) :
    PVE X B W (.Call (.Name x p) (e :: es) [] pos) (callV g fa) := by
  obtain ⟨ta, a1, a2⟩ := ha.ex
  refine ⟨_, pe_callS Fn hr hg hm hk hb (fun σ => passAt tk σ) a1 hdb he hpl, fun ρ σ F H Q S q => a2 ρ σ F H _ S ?_⟩
  unfold callV at q
  cases e : fa ρ with
  | no => rw [e] at q; exact q
  | ex e' => rw [e] at q; exact q
  | ok ds =>
    rw [e] at q
    intro vs F1 H1 g1 r1
    simp only [Res.ok_bind] at q
    refine ⟨F1, ds, g1.fh, by rw [← hB]; exact TabsOk.sub (S.g.f.trans g1.f) B.tb, r1, (ha.len ρ ds e).trans hl, ?_⟩
    cases e2 : g ds with
    | no => rw [e2] at q; exact q
    | ex e' => rw [e2] at q; exact fun C d fs F' H' g2 h1 h2 h3 => q C d fs F' H' (g1.trans g2) h1 h2 h3
    | ok d => rw [e2] at q; exact fun v F' H' g2 r2 => q v F' H' (g1.trans g2) r2

/-! ### statements -/
inductive Out where
  | nx (ρ : Rho)
  | rt (d : D)
  | bk (ρ : Rho)
  | ct (ρ : Rho)
  | ex (e : Err) (ρ : Rho)
  | no
def Post (X : Cx) (B : Bd) (W : WX) (F : Hp) (Z : Ends) : Out → Prop
  | .nx ρ => ∀ σ F' H', Sub F F' → Sta X.K B ρ σ F' H' → Z.nx σ H'
  | .rt d => ∀ v ρ σ F' H', Sub F F' → Sta X.K B ρ σ F' H' → Dp X.K F' v d → Z.rt v H'
  | .bk ρ => ∀ σ F' H', Sub F F' → Sta X.K B ρ σ F' H' → Z.bk σ H'
  | .ct ρ => ∀ σ F' H', Sub F F' → Sta X.K B ρ σ F' H' → Z.ct σ H'
  | .ex e ρ => ∀ σ (C d : Addr) (fs : List (Str × V)) F' H', Sub F F' → Sta X.K B ρ σ F' H' → X.mg e.cls = some (.ref C) → F' d = some (.xd fs) → FsR X.K F' fs e.fs → W (.ref C) (some d) σ H'
  | .no => False
theorem Post.mono {F F1 : Hp} {Z : Ends} {o : Out} (s : Sub F F1) (h : Post X B W F Z o) : Post X B W F1 Z o := by
  cases o with
  | nx ρ => exact fun σ F' H' s' => h σ F' H' (s.trans s')
  | rt d => exact fun v ρ σ F' H' s' => h v ρ σ F' H' (s.trans s')
  | bk ρ => exact fun σ F' H' s' => h σ F' H' (s.trans s')
  | ct ρ => exact fun σ F' H' s' => h σ F' H' (s.trans s')
  | ex e ρ => exact fun σ C d fs F' H' s' => h σ C d fs F' H' (s.trans s')
  | no => exact h
structure PVS (X : Cx) (B : Bd) (W : WX) (st : Stmt) (g : Rho → Out) : Prop where
  ex : ∃ t, PS X st t ∧ ∀ ρ σ F H Z, Sta X.K B ρ σ F H → Post X B W F Z (g ρ) → t Z σ H
structure PVB (X : Cx) (B : Bd) (W : WX) (st : List Stmt) (g : Rho → Out) : Prop where
  ex : ∃ t, PSs X st t ∧ ∀ ρ σ F H Z, Sta X.K B ρ σ F H → Post X B W F Z (g ρ) → t Z σ H

/-- an expression's end as a statement's -/
def Res.out {α : Type} (ρ : Rho) : Res α → (α → Out) → Out
  | .ok a, k => k a
  | .ex e, _ => .ex e ρ
  | .no, _ => .no
@[simp] theorem Res.ok_out {α : Type} (ρ : Rho) (a : α) (k : α → Out) : Res.out ρ (.ok a) k = k a := rfl
@[simp] theorem Res.ex_out {α : Type} (ρ : Rho) (e : Err) (k : α → Out) : Res.out ρ (.ex e) k = .ex e ρ := rfl
@[simp] theorem Res.no_out {α : Type} (ρ : Rho) (k : α → Out) : Res.out ρ .no k = .no := rfl
theorem xok_of {F H : Hp} {Z : Ends} {e : Err} {ρ : Rho} {σ : L2.St} (S : Sta X.K B ρ σ F H) (h : Post X B W F Z (.ex e ρ)) : XOk X W σ F H e :=
  fun C d fs F' H' g h1 h2 h3 => h σ C d fs F' H' g.f (S.grow g) h1 h2 h3
def seqS (g h : Rho → Out) (ρ : Rho) : Out := match g ρ with
  | .nx ρ' => h ρ'
  | o => o
def nxS (ρ : Rho) : Out := .nx ρ
variable {st : Stmt} {sts : List Stmt} {g h : Rho → Out}
theorem ps_nil : PVB X B W [] nxS := ⟨_, pss_nil, fun ρ σ F H Z S q => q σ F H (Sub.refl F) S⟩
theorem ps_cons (h1 : PVS X B W st g) (h2 : PVB X B W sts h) : PVB X B W (st :: sts) (seqS g h) := by
  obtain ⟨t, a1, a2⟩ := h1.ex
  obtain ⟨u, b1, b2⟩ := h2.ex
  refine ⟨_, pss_cons a1 b1, fun ρ σ F H Z S q => a2 ρ σ F H _ S ?_⟩
  unfold seqS at q
  cases e : g ρ with
  | nx ρ' => rw [e] at q; exact fun σ' F' H' s S' => b2 ρ' σ' F' H' Z S' (q.mono s)
  | rt d => rw [e] at q; exact q
  | bk ρ' => rw [e] at q; exact q
  | ct ρ' => rw [e] at q; exact q
  | ex e' ρ' => rw [e] at q; exact q
  | no => rw [e] at q; exact q
theorem ps_one (h1 : PVS X B W st g) : PVB X B W [st] g := by
  obtain ⟨t, a1, a2⟩ := h1.ex
  exact ⟨t, pss_one a1, a2⟩
/-- ahead of a statement a list of one's own may be frozen -/
def frzS (i : Nat) (g : Rho → Out) (ρ : Rho) : Out := g (frz i ρ)
theorem ps_frz (i : Nat) (h1 : PVS X B W st g) : PVS X B W st (frzS i g) := by
  obtain ⟨t, a1, a2⟩ := h1.ex
  refine ⟨t, a1, fun ρ σ F H Z S q => ?_⟩
  obtain ⟨F', s, S'⟩ := S.frz i
  exact a2 (frz i ρ) σ F' H Z S' (q.mono s)
def brkS (ρ : Rho) : Out := .bk ρ
def cntS (ρ : Rho) : Out := .ct ρ
theorem ps_pass : PVS X B W (.Pass pos) nxS := ⟨_, L2.ps_pass, fun ρ σ F H Z S q => q σ F H (Sub.refl F) S⟩
theorem ps_brk : PVS X B W (.Break pos) brkS := ⟨_, ps_break, fun ρ σ F H Z S q => q σ F H (Sub.refl F) S⟩
theorem ps_cnt : PVS X B W (.Continue pos) cntS := ⟨_, ps_continue, fun ρ σ F H Z S q => q σ F H (Sub.refl F) S⟩
def retS (f : Rho → Res D) (ρ : Rho) : Out := Res.out ρ (f ρ) .rt
theorem ps_ret (he : PVE X B W e f) : PVS X B W (.Return (some e) pos) (retS f) := by
  obtain ⟨t, a1, a2⟩ := he.ex
  refine ⟨_, L2.ps_ret a1, fun ρ σ F H Z S q => a2 ρ σ F H _ S ?_⟩
  unfold retS at q
  cases e : f ρ with
  | no => rw [e] at q; exact q
  | ex e' => rw [e] at q; exact xok_of S q
  | ok d => rw [e] at q; exact fun v F' H' g r => q v ρ σ F' H' g.f (S.grow g) r
def retN (ρ : Rho) : Out := .rt .none
theorem ps_retN : PVS X B W (.Return none pos) retN := ⟨_, L2.ps_retN, fun ρ σ F H Z S q => q .non ρ σ F H (Sub.refl F) S .non⟩
def ifS (t : Rho → Res Bool) (g h : Rho → Out) (ρ : Rho) : Out := Res.out ρ (t ρ) fun k => if k = true then g ρ else h ρ
theorem ps_if {t : Rho → Res Bool} {sa sb : List Stmt} (hc : PVT X B W c t) (ha : PVB X B W sa g) (hb : PVB X B W sb h) : PVS X B W (.If c sa sb pos) (ifS t g h) := by
  obtain ⟨tc, c1, c2⟩ := hc.ex
  obtain ⟨ta, a1, a2⟩ := ha.ex
  obtain ⟨tb, b1, b2⟩ := hb.ex
  refine ⟨_, L2.ps_if c1 a1 b1, fun ρ σ F H Z S q => c2 ρ σ F H _ S ?_⟩
  unfold ifS at q
  cases e : t ρ with
  | no => rw [e] at q; exact q
  | ex e' => rw [e] at q; exact xok_of S q
  | ok k =>
    rw [e] at q
    intro F1 H1 g1
    cases k with
    | true => rw [if_pos rfl]; exact a2 ρ σ F1 H1 Z (S.grow g1) (Post.mono g1.f q)
    | false => rw [if_neg (by decide)]; exact b2 ρ σ F1 H1 Z (S.grow g1) (Post.mono g1.f q)
/-- an expression for its effect (none here) -/
def expS (f : Rho → Res D) (ρ : Rho) : Out := Res.out ρ (f ρ) fun _ => .nx ρ
theorem ps_expr (he : PVE X B W e f) (hs : swapsWith e none pos.line X.env = pure false := by rfl) : PVS X B W (.Expr e pos) (expS f) := by
  obtain ⟨t, a1, a2⟩ := he.ex
  refine ⟨_, L2.ps_expr a1 hs, fun ρ σ F H Z S q => a2 ρ σ F H _ S ?_⟩
  unfold expS at q
  cases e : f ρ with
  | no => rw [e] at q; exact q
  | ex e' => rw [e] at q; exact xok_of S q
  | ok d => rw [e] at q; exact fun v F' H' g r => q σ F' H' g.f (S.grow g)
/-- name = e -/
def asgS (i : Nat) (f : Rho → Res D) (ρ : Rho) : Out := Res.out ρ (f ρ) fun d => .nx (ρ.set i (some (.fz d)))
theorem ps_asg (i : Nat) {x : Str} {pos' : Pos} (he : PVE X B W e f) (hN : X.N.Nodup) (hi : X.N[i]? = some x := by rfl) (hx : Loc X.env.scope x := by first | exact Or.inl rfl | exact Or.inr rfl)
    (hs : swapsWith e (some (.Name x pos')) pos.line X.env = pure false := by rfl) (hf : X.fn x = true ∨ X.env.scope.names.lookup x = some .local := by first | exact .inl rfl | exact .inr rfl) : PVS X B W (.Assign [.Name x pos'] e pos) (asgS i f) := by
  obtain ⟨t, a1, a2⟩ := he.ex
  refine ⟨_, ps_set hN hi hx a1 hs hf, fun ρ σ F H Z S q => a2 ρ σ F H _ S ?_⟩
  unfold asgS at q
  cases e : f ρ with
  | no => rw [e] at q; exact q
  | ex e' => rw [e] at q; exact xok_of S q
  | ok d => rw [e] at q; exact fun v F' H' g r => q _ F' H' g.f ((S.grow g).set r)
theorem setO_post {i : Nat} {ρ : Rho} {σ : L2.St} {F H : Hp} {Z : Ends} {ds : List D} (S : Sta X.K B ρ σ F H) (q : Post X B W F Z (.nx (ρ.set i (some (.ow ds))))) : EPl X W σ F H (fun x H1 => Z.nx (σ.set i (some x)) H1) (.ok ds) := by
  intro a xs F' H' g hH hF hn r
  refine q _ F' H' g.f ((S.grow g).setO hH hF (S.g.h.free hn) r fun j ⟨dj, oj⟩ z => ?_)
  obtain ⟨v, h1, h2⟩ := S.sl j _ oj
  rw [z] at h1
  cases h1
  obtain ⟨b, ys, e1, h3, _⟩ := h2
  cases e1
  rw [hn] at h3
  cases h3
/-- name = a new list, held by this name alone -/
def asgO (i : Nat) (f : Rho → Res (List D)) (ρ : Rho) : Out := Res.out ρ (f ρ) fun ds => .nx (ρ.set i (some (.ow ds)))
theorem ps_asgO (i : Nat) {x : Str} {pos' : Pos} {f : Rho → Res (List D)} (he : PVO X B W e f) (hN : X.N.Nodup) (hi : X.N[i]? = some x := by rfl) (hx : Loc X.env.scope x := by first | exact Or.inl rfl | exact Or.inr rfl)
    (hs : swapsWith e (some (.Name x pos')) pos.line X.env = pure false := by rfl) (hf : X.fn x = true ∨ X.env.scope.names.lookup x = some .local := by first | exact .inl rfl | exact .inr rfl) : PVS X B W (.Assign [.Name x pos'] e pos) (asgO i f) := by
  obtain ⟨t, a1, a2⟩ := he.ex
  refine ⟨_, ps_set hN hi hx a1 hs hf, fun ρ σ F H Z S q => a2 ρ σ F H _ S ?_⟩
  unfold asgO at q
  cases e : f ρ with
  | no => rw [e] at q; exact q
  | ex e' => rw [e] at q; exact xok_of S q
  | ok ds =>
    rw [e] at q
    exact setO_post S q

/-! ### a def's body as a function of data -/
def startV (n : Nat) (ds : List D) : Rho := ds.map (fun d => some (.fz d)) ++ List.replicate (n - ds.length) none
def bodyV (n : Nat) (g : Rho → Out) (ds : List D) : Res D := match g (startV n ds) with
  | .nx _ => .ok .none
  | .rt d => .ok d
  | .ex e _ => .ex e
  | _ => .no
theorem sta_start {K : PySem.W.Frag} {F H : Hp} {vs : List V} {ds : List D} {N : List Str} {B : Bd} (hBR : B.R = H) (hBF : B.F = F) (s : Sub F H) (r : DpAll K F vs ds) : Sta K B (startV N.length ds) (L2.start N vs) F H := by
  subst hBR
  subst hBF
  have own : ∀ i, ¬ Own (startV N.length ds) i := fun i ⟨d, e⟩ => by
    unfold startV at e
    rw [List.getElem?_append] at e
    split at e
    · rw [List.getElem?_map] at e
      cases q : ds[i]? <;> rw [q] at e <;> simp at e
    · rw [List.getElem?_replicate] at e
      split at e <;> simp at e
  refine ⟨?_, .refl s, fun i lv e => ?_, fun i j v oi => absurd oi (own i)⟩
  · unfold startV L2.start
    simp [r.len]
  · unfold startV at e
    rw [List.getElem?_append] at e
    split at e
    · rename_i hi
      rw [List.getElem?_map] at e
      cases q : ds[i]? with
      | none => rw [q] at e; simp at e
      | some d =>
        rw [q] at e
        simp only [Option.map_some, Option.some.injEq] at e
        subst e
        obtain ⟨v, h1, h2⟩ := r.at q
        refine ⟨v, ?_, h2⟩
        show (vs.map some ++ List.replicate (N.length - vs.length) none)[i]? = _
        rw [List.getElem?_append_left (by rw [List.length_map, r.len]; simpa using hi), List.getElem?_map, h1]
        rfl
    · rw [List.getElem?_replicate] at e
      split at e <;> simp at e
theorem fn_val {P : Program} {w : World} {K : PySem.W.Frag} {mg : Str → Option Value} {base : Heap} {x qual : Str} {st : Stmt} {f : Addr} {fd : FuncData} {N ps : List Str} {k : Nat} {Ps : List Addr} {g : Rho → Out} (Fu : Fun K x qual st f fd) (S : FnScope N ps (defScope st))
    (body : ∀ (cdv : Value) (A : Around) (outer : List Env) (s : Shared) (H : Hp) (E : XK) (B : Bd), B.T = Ps → Room k (A.deeper (envOfC qual (defScope st) s.heap.objs.size f cdv)) → Takes (cxOf (L2.CX P w) P w K mg base N qual (defScope st) f cdv A outer s H E) (fun cls d _ H => E cls d H) →
      PVB (cxOf (L2.CX P w) P w K mg base N qual (defScope st) f cdv A outer s H E) B (fun cls d _ H => E cls d H) (defBody st) g) : FnOk P w K mg base (L2.CX P w) (k + 1) f fd ps (spV K mg Ps (bodyV N.length g) ps.length) := by
  refine Fu.okX S (fun vs H Q E h => spV_len h) fun cdv A outer s H vs Q E hr h => ?_
  obtain ⟨F, ds, sub, tb, r, l, q⟩ := h
  obtain ⟨t, h1, h2⟩ := (body cdv A outer s H E { R := H, F := F, T := Ps, tb := tb } rfl hr (takes_of rfl rfl rfl rfl)).ex
  refine ⟨t, h1, h2 (startV N.length ds) _ F H _ (sta_start rfl rfl sub r) ?_⟩
  unfold bodyV at q
  cases e : g (startV N.length ds) with
  | nx ρ => rw [e] at q; exact fun σ F' H' s' S' => q .non F' H' S'.g .non
  | rt d => rw [e] at q; exact fun v ρ σ F' H' s' S' r' => q v F' H' S'.g r'
  | ex er ρ => rw [e] at q; exact fun σ C d fs F' H' s' S' h1 h2 h3 => q C d fs F' H' S'.g h1 h2 h3
  | bk ρ => rw [e] at q; exact q.elim
  | ct ρ => rw [e] at q; exact q.elim
  | no => rw [e] at q; exact q.elim
/-- a def whose code object is known -/
structure FunT (K : PySem.W.Frag) (x qual : Str) (st : Stmt) (f : Addr) (fd : FuncData) (c : Addr) : Prop where
  ex : ∃ (oc : Value) (od : Option Addr) (kV doc pm : Value) (an : Option Addr) (ct : Value) (osl : Array (Option Value)),
    fd = PySem.W.fnOf x qual (defArgs st) (defBody st) (defScope st) .none kV doc pm an (.ref c) ct ∧ K.lookup f = some ⟨oc, od, .func fd, osl⟩ ∧ PySem.W.codeIn K (.ref c) qual = true
theorem funT_mk {K : PySem.W.Frag} {x qual : Str} {st : Stmt} {f c : Addr} {oc : Value} {od an : Option Addr} {osl : Array (Option Value)} {kV doc pm ct : Value} (l : K.lookup f = some ⟨oc, od, .func (PySem.W.fnOf x qual (defArgs st) (defBody st) (defScope st) .none kV doc pm an (.ref c) ct), osl⟩)
    (h : PySem.W.codeIn K (.ref c) qual = true) : FunT K x qual st f (PySem.W.fnOf x qual (defArgs st) (defBody st) (defScope st) .none kV doc pm an (.ref c) ct) c := ⟨⟨oc, od, kV, doc, pm, an, ct, osl, rfl, l, h⟩⟩
theorem fn_valT {P : Program} {w : World} {K : PySem.W.Frag} {mg : Str → Option Value} {base : Heap} {x qual : Str} {st : Stmt} {f : Addr} {fd : FuncData} {N ps : List Str} {k : Nat} {Ps : List Addr} {g : Rho → Out} {c : Addr} (Fu : FunT K x qual st f fd c) (S : FnScope N ps (defScope st))
    (body : ∀ (A : Around) (outer : List Env) (s : Shared) (H : Hp) (E : XK) (B : Bd), B.T = Ps → Room k (A.deeper (envOfC qual (defScope st) s.heap.objs.size f (.ref c))) → Takes (cxOf (L2.CX P w) P w K mg base N qual (defScope st) f (.ref c) A outer s H E) (fun cls d _ H => E cls d H) →
      PVB (cxOf (L2.CX P w) P w K mg base N qual (defScope st) f (.ref c) A outer s H E) B (fun cls d _ H => E cls d H) (defBody st) g) : FnOk P w K mg base (L2.CX P w) (k + 1) f fd ps (spV K mg Ps (bodyV N.length g) ps.length) := by
  obtain ⟨oc, od, kV, doc, pm, an, ct, osl, rfl, lk, hcd⟩ := Fu.ex
  refine fn_of lk hcd S (fun vs H Q E h => spV_len h) fun A outer s H vs Q E hr h => ?_
  obtain ⟨F, ds, sub, tb, r, l, q⟩ := h
  obtain ⟨t, h1, h2⟩ := (body A outer s H E { R := H, F := F, T := Ps, tb := tb } rfl hr (takes_of rfl rfl rfl rfl)).ex
  refine ⟨t, h1, h2 (startV N.length ds) _ F H _ (sta_start rfl rfl sub r) ?_⟩
  unfold bodyV at q
  cases e : g (startV N.length ds) with
  | nx ρ => rw [e] at q; exact fun σ F' H' s' S' => q .non F' H' S'.g .non
  | rt d => rw [e] at q; exact fun v ρ σ F' H' s' S' r' => q v F' H' S'.g r'
  | ex er ρ => rw [e] at q; exact fun σ C d fs F' H' s' S' h1 h2 h3 => q C d fs F' H' S'.g h1 h2 h3
  | bk ρ => rw [e] at q; exact q.elim
  | ct ρ => rw [e] at q; exact q.elim
  | no => rw [e] at q; exact q.elim
end
end VL

set_option Elab.async false
set_option linter.all false
set_option maxRecDepth 100000
set_option maxHeartbeats 4000000
namespace VL
open PySem PySem.Spec PyProof.Rows L2

section
variable {X : Cx} {B : Bd} {W : WX} {a b c e : Expr} {es : List Expr} {fa fb fc f : Rho → Res D} {pos p : Pos} {st : Stmt} {sts : List Stmt} {g h : Rho → Out}
theorem Sta.own {K : PySem.W.Frag} {ρ : Rho} {σ : L2.St} {F H : Hp} {i : Nat} {ds : List D} (S : Sta K B ρ σ F H) (e : ρ[i]? = some (some (.ow ds))) : ∃ a xs, σ[i]? = some (some (.ref a)) ∧ H a = some (.lst xs) ∧ F a = none ∧ B.R a = none ∧ DpAll K F xs ds := by
  obtain ⟨v, h1, h2⟩ := S.sl i _ e
  obtain ⟨a, xs, rfl, h3⟩ := h2
  exact ⟨a, xs, h1, h3⟩
theorem sta_ow {K : PySem.W.Frag} {ρ : Rho} {σ : L2.St} {F H F' H' : Hp} {i : Nat} {ds : List D} {a : Addr} {xs : List V} (S : Sta K B ρ σ F H) (g : Grow F H F' H') (e : ρ[i]? = some (some (.ow ds))) (hs : σ[i]? = some (some (.ref a))) (hH : H a = some (.lst xs)) (r : DpAll K F xs ds) {v : V} {d : D} (hv : Dp K F' v d) {k : List V → List V} {k' : List D → List D}
    (hk : DpAll K F' (k xs) (k' ds)) : Sta K B (ρ.set i (some (.ow (k' ds)))) σ F' (upd H' a (.lst (k xs))) := (S.grow g).mut e hs (g.h.lst hH) hk

/-- name.append(e) -/
def appS (i : Nat) (f : Rho → Res D) (ρ : Rho) : Out := match ρ[i]? with
  | some (some (.ow ds)) => Res.out ρ (f ρ) fun d => if ds.length < sizeLine then .nx (ρ.set i (some (.ow (ds ++ [d])))) else .no
  | _ => .no
theorem ps_app (i : Nat) {x : Str} {p2 apos pos' : Pos} (he : PVE X B W e f) (hN : X.N[i]? = some x := by rfl) (hv : Vis X.env.scope x := by first | exact Or.inl rfl | exact Or.inr (Or.inl rfl) | exact Or.inr (Or.inr rfl)) (hd : (x == ("__debug__" : Str)) = false := by decide) (hcd : (x == ("__classdict__" : Str)) = false := by decide)
    (hbase : attributeBase (.Name x p2) "append" X.env (eval (.Name x p2) X.env) = eval (.Name x p2) X.env := by rfl)
    (hfew : ((backTo pos (starEach [e] X.env)).all (fun x => !x.1) && (backToKw pos (keywordEach [] X.env)).all (fun x => x.1.isSome)
      && decide (([e] : List Expr).length + ([] : List Keyword).length + (if ([] : List Keyword).isEmpty then 0 else 1) < 30)) = true := by rfl)
    (hline : (apos.endLine == pos.line) = true := by rfl) (hs : starEach [e] X.env = (false, eval e X.env) :: starEach [] X.env := by rfl) (hplain : (backTo pos (starEach [] X.env)).any (·.1) = false := by rfl)
    (hsw : swapsWith (.Call (.Attribute (.Name x p2) "append" apos) [e] [] pos) none pos'.line X.env = pure false := by rfl) :
    PVS X B W (.Expr (.Call (.Attribute (.Name x p2) "append" apos) [e] [] pos) pos') (appS i f) := by
  obtain ⟨t, a1, a2⟩ := he.ex
  refine ⟨_, L2.ps_expr (pe_bm PySem.F.plainAttrs_list PySem.F.slot_list_append PySem.F.type_list_append mt_append (pe_var hN hv hd hcd) (L2.pa_cons a1 L2.pa_nil hs) hbase hfew hline hs hplain) hsw, fun ρ σ F H Z S q => ?_⟩
  unfold appS at q
  split at q
  · rename_i ds er
    obtain ⟨a, xs, h1, h2, h3, h4, h5⟩ := S.own er
    refine ⟨_, h1, .inl ⟨rfl, _, .of h2⟩, a2 ρ σ F H _ S ?_⟩
    cases e : f ρ with
    | no => rw [e] at q; exact q
    | ex e' => rw [e] at q; exact xok_of S q
    | ok d =>
      rw [e] at q
      simp only [Res.ok_out] at q
      intro v F' H' g r
      by_cases hl : ds.length < sizeLine
      · rw [if_pos hl] at q
        refine ⟨a, xs, v, rfl, rfl, g.h.lst h2, by rw [h5.len]; exact hl, ?_⟩
        exact q σ F' _ g.f (sta_ow S g er h1 h2 h5 r (k := fun l => l ++ [v]) (k' := fun l => l ++ [d]) ((g.f.dpAll _ _ h5).append (.cons r .nil)))
      · rw [if_neg hl] at q; exact q.elim
  · exact q.elim
/-- name[j] = e -/
def setS (i : Nat) (fj f : Rho → Res D) (ρ : Rho) : Out := match ρ[i]? with
  | some (some (.ow ds)) => Res.out ρ (f ρ) fun d => Res.out ρ (fj ρ) fun j => match j with
    | .int z => (match ixN ds.length z with
      | some k => .nx (ρ.set i (some (.ow (ds.set k d))))
      | none => .no)
    | _ => .no
  | _ => .no
theorem ps_setI (i : Nat) {x : Str} {p2 spos : Pos} {j : Expr} {fj : Rho → Res D} (he : PVE X B W e f) (hj : PVE X B W j fj) (hN : X.N[i]? = some x := by rfl) (hv : Vis X.env.scope x := by first | exact Or.inl rfl | exact Or.inr (Or.inl rfl) | exact Or.inr (Or.inr rfl)) (hd : (x == ("__debug__" : Str)) = false := by decide) (hcd : (x == ("__classdict__" : Str)) = false := by decide)
    (ha : ∀ v, assign (.Subscript (.Name x p2) j spos) X.env v = (do
      let ov ← holding [v] (eval (.Name x p2) X.env)
      let iv ← holding [v, ov] (eval j X.env)
      standAt spos
      holding [v, ov, iv] (setItem ov iv v)
      release [v, ov, iv] []) := by intro _; rfl)
    (hs : swapsWithSole [.Subscript (.Name x p2) j spos] e pos.line X.env = pure false := by rfl) (hw : swappedStores [.Subscript (.Name x p2) j spos] e X.env = pure none := by rfl)
    (h1 : (assignEach [.Subscript (.Name x p2) j spos] X.env).map (·.2) = [assign (.Subscript (.Name x p2) j spos) X.env] := by rfl) :
    PVS X B W (.Assign [.Subscript (.Name x p2) j spos] e pos) (setS i fj f) := by
  obtain ⟨t, a1, a2⟩ := he.ex
  obtain ⟨u, b1, b2⟩ := hj.ex
  refine ⟨_, L2.ps_asg a1 (L2.pg_sub (pe_var hN hv hd hcd) b1 set_list ha) hs hw h1, fun ρ σ F H Z S q => a2 ρ σ F H _ S ?_⟩
  unfold setS at q
  split at q
  · rename_i ds er
    obtain ⟨a, xs, h1, h2, h3, h4, h5⟩ := S.own er
    cases e : f ρ with
    | no => rw [e] at q; exact q
    | ex e' => rw [e] at q; exact xok_of S q
    | ok d =>
      rw [e] at q
      simp only [Res.ok_out] at q
      intro v F1 H1 g1 r1
      refine ⟨_, h1, b2 ρ σ F1 H1 _ (S.grow g1) ?_⟩
      cases e2 : fj ρ with
      | no => rw [e2] at q; exact q
      | ex e' => rw [e2] at q; exact XOk.grow g1 (xok_of S q)
      | ok dj =>
        rw [e2] at q
        simp only [Res.ok_out] at q
        intro vj F2 H2 g2 r2
        cases dj with
        | int z =>
          cases r2
          simp only at q
          cases e3 : ixN ds.length z with
          | none => rw [e3] at q; exact q.elim
          | some k =>
            rw [e3] at q
            have g := g1.trans g2
            refine ⟨a, xs, z, k, rfl, rfl, g.h.lst h2, by rw [h5.len]; exact e3, ?_⟩
            exact q σ F2 _ g.f (sta_ow S g er h1 h2 h5 (g2.f.dp _ _ r1) (k := fun l => l.set k v) (k' := fun l => l.set k d) ((g.f.dpAll _ _ h5).set (g2.f.dp _ _ r1) k))
        | _ => exact q.elim
  · exact q.elim
/-- name op= e -/
def dAddI : D → D → Option D
  | .int i, .int j => some (.int (i + j))
  | .str a, .str b => if a.length + b.length ≤ sizeLine then some (.str (a ++ b)) else none
  | _, _ => none
def rAddI : R2 := fun x y H Q => rI0 (fun i j => .int (i + j)) x y H Q ∨ (∃ i j, x = .str i ∧ y = .str j ∧ i.length + j.length ≤ sizeLine ∧ Q (.str (i ++ j)) H)
theorem iop_addI : OpR X (inplaceOp .Add) rAddI := iop_add.or iop_add_str
theorem ov_addI {K : PySem.W.Frag} : OpV K rAddI dAddI := by
  intro x y F H Q a b d s ra rb e q
  unfold dAddI at e
  split at e
  · cases e; cases ra; cases rb
    exact .inl ⟨_, _, rfl, rfl, q _ F H (.refl s) (.int _)⟩
  · split at e
    · cases e; cases ra; cases rb
      exact .inr ⟨_, _, rfl, rfl, by assumption, q _ F H (.refl s) (.str _)⟩
    · cases e
  · cases e
def augS (i : Nat) (f : Rho → Res D) (g : D → D → Option D) (ρ : Rho) : Out := Res.out ρ ((var i ρ).bind fun x => (f ρ).bind fun y => Res.of (g x y)) fun d => .nx (ρ.set i (some (.fz d)))
theorem ps_aug (i : Nat) {x : Str} {pos' : Pos} {op : Operator} {r : R2} {g : D → D → Option D} (ho : OpR X (inplaceOp op) r) (hv : OpV X.K r g) (he : PVE X B W e f) (hN : X.N.Nodup) (hi : X.N[i]? = some x := by rfl) (hx : Loc X.env.scope x := by first | exact Or.inl rfl | exact Or.inr rfl)
    (hf : X.fn x = true ∨ X.env.scope.names.lookup x = some .local := by first | exact .inl rfl | exact .inr rfl) : PVS X B W (.AugAssign (.Name x pos') op e pos) (augS i f g) := by
  obtain ⟨t, a1, a2⟩ := he.ex
  refine ⟨_, L2.ps_aug (ti := r) hN hi hx a1 (fun pins s σ H x y v u Q I r1 r2 h => ho pins s σ H x y v u Q I r1 r2 h) hf, fun ρ σ F H Z S q => ?_⟩
  unfold augS var at q
  split at q
  · rename_i d er
    obtain ⟨v, h1, h2⟩ := S.sl i _ er
    refine ⟨v, h1, a2 ρ σ F H _ S ?_⟩
    simp only [Res.ok_bind] at q
    cases e : f ρ with
    | no => rw [e] at q; exact q
    | ex e' => rw [e] at q; exact xok_of S q
    | ok d2 =>
      rw [e] at q
      simp only [Res.ok_bind] at q
      intro w F1 H1 g1 r1
      cases e2 : g d d2 with
      | none => rw [e2] at q; exact q.elim
      | some d3 =>
        rw [e2] at q
        refine hv v w F1 H1 _ d d2 d3 g1.fh (.of g1.fh (g1.f.dp _ _ h2)) (.of g1.fh r1) e2 fun z F2 H2 g2 r2 => ?_
        have g := g1.trans g2
        exact q _ F2 H2 g.f ((S.grow g).set r2)
  · exact q.elim

/-! ### targets -/
/-- alike but for some slots -/
def Agr (is : List Nat) (σ σ' : L2.St) : Prop := σ'.length = σ.length ∧ ∀ j, j ∉ is → σ'[j]? = σ[j]?
def tgG (X : Cx) (B : Bd) (gt : D → Rho → Option Rho) (is : List Nat) : TG := fun v σ H Q => ∃ ρ F d ρ', Sta X.K B ρ σ F H ∧ Dp X.K F v d ∧ gt d ρ = some ρ' ∧ ∀ σ', Sta X.K B ρ' σ' F H → Agr is σ σ' → Q σ' H
def tgGs (X : Cx) (B : Bd) (gt : List D → Rho → Option Rho) (is : List Nat) : TGs := fun vs σ H Q => ∃ ρ F ds ρ', Sta X.K B ρ σ F H ∧ DpAll X.K F vs ds ∧ gt ds ρ = some ρ' ∧ ∀ σ', Sta X.K B ρ' σ' F H → Agr is σ σ' → Q σ' H
structure PVG (X : Cx) (B : Bd) (tg : Expr) (gt : D → Rho → Option Rho) (is : List Nat) : Prop where
  pg : PG X tg (tgG X B gt is)
structure PVGs (X : Cx) (B : Bd) (ts : List Expr) (gt : List D → Rho → Option Rho) (is : List Nat) : Prop where
  pg : PGs X ts (tgGs X B gt is)
theorem Agr.refl (is : List Nat) (σ : L2.St) : Agr is σ σ := ⟨rfl, fun _ _ => rfl⟩
theorem Agr.trans {is js : List Nat} {σ σ1 σ2 : L2.St} (a : Agr is σ σ1) (b : Agr js σ1 σ2) : Agr (is ++ js) σ σ2 :=
  ⟨b.1.trans a.1, fun j hj => (b.2 j fun z => hj (List.mem_append_right _ z)).trans (a.2 j fun z => hj (List.mem_append_left _ z))⟩
theorem PG.imp {tg : Expr} {t t' : TG} (h : PG X tg t) (q : ∀ v σ H Q, t' v σ H Q → t v σ H Q) : PG X tg t' := ⟨fun pins s σ H v u Q I r z => h.run pins s σ H v u Q I r (q v σ H Q z)⟩
theorem PGs.imp {tg : List Expr} {t t' : TGs} (h : PGs X tg t) (q : ∀ v σ H Q, t' v σ H Q → t v σ H Q) : PGs X tg t' := ⟨fun pins s σ H v u Q I r z => h.run pins s σ H v u Q I r (q v σ H Q z)⟩
def tgN (i : Nat) (d : D) (ρ : Rho) : Option Rho := some (ρ.set i (some (.fz d)))
theorem pg_name (i : Nat) {x : Str} (hN : X.N.Nodup) (hi : X.N[i]? = some x := by rfl) (hx : Loc X.env.scope x := by first | exact Or.inl rfl | exact Or.inr rfl) (hf : X.fn x = true ∨ X.env.scope.names.lookup x = some .local := by first | exact .inl rfl | exact .inr rfl) :
    PVG X B (.Name x pos) (tgN i) [i] := ⟨PG.imp (L2.pg_name hN hi hx hf) fun v σ H Q ⟨ρ, F, d, ρ', S, r, e, q⟩ => by
  cases e
  exact q _ (S.set r) ⟨by rw [List.length_set], fun j hj => by rw [List.getElem?_set_ne fun z => hj (by rw [z]; simp)]⟩⟩
def tgNil (ds : List D) (ρ : Rho) : Option Rho := match ds with
  | [] => some ρ
  | _ => none
def tgCons (t : D → Rho → Option Rho) (u : List D → Rho → Option Rho) (ds : List D) (ρ : Rho) : Option Rho := match ds with
  | d :: r => (t d ρ).bind (u r)
  | _ => none
theorem pgs_nil : PVGs X B [] tgNil [] := ⟨PGs.imp L2.pgs_nil fun vs σ H Q ⟨ρ, F, ds, ρ', S, r, e, q⟩ => by
  cases r with
  | nil => cases e; exact ⟨rfl, q σ S (.refl _ _)⟩
  | cons _ _ => cases e⟩
theorem pgs_cons {is js : List Nat} {t : D → Rho → Option Rho} {u : List D → Rho → Option Rho} (h1 : PVG X B e t is) (h2 : PVGs X B es u js) (hs : (assignEach (e :: es) X.env).map (·.2) = assign e X.env :: (assignEach es X.env).map (·.2) := by rfl) : PVGs X B (e :: es) (tgCons t u) (is ++ js) := by
  refine ⟨PGs.imp (L2.pgs_cons h1.pg h2.pg hs) fun vs σ H Q ⟨ρ, F, ds, ρ', S, r, e, q⟩ => ?_⟩
  cases r with
  | nil => cases e
  | cons r rs =>
    obtain ⟨ρ1, e1, e2⟩ := Option.bind_eq_some_iff.mp (show (t _ ρ).bind (u _) = some ρ' from e)
    exact ⟨_, _, rfl, ρ, F, _, ρ1, S, r, e1, fun σ1 S1 a1 => ⟨ρ1, F, _, ρ', S1, rs, e2, fun σ2 S2 a2 => q σ2 S2 (a1.trans a2)⟩⟩
def tgT (n : Nat) (u : List D → Rho → Option Rho) (d : D) (ρ : Rho) : Option Rho := match d with
  | .tuple ds => if ds.length = n then u ds ρ else none
  | _ => none
theorem pg_tup {is : List Nat} {k : Nat} {u : List D → Rho → Option Rho} (n : Nat) (hc : X.calm = true) (h : PVGs X B es u is) (hn : (assignEach es X.env).length = n := by rfl) (hst : (assignEach es X.env).findIdx? (·.1) = none := by rfl) : PVG X B (.Tuple es k pos) (tgT n u) is := by
  refine ⟨PG.imp (L2.pg_tup hc h.pg hn hst) fun v σ H Q ⟨ρ, F, d, ρ', S, r, e, q⟩ => ?_⟩
  cases d with
  | tuple ds =>
    cases r with
    | tup h1 r1 =>
      unfold tgT at e
      simp only at e
      split at e
      · rename_i hl
        exact ⟨_, _, rfl, S.fh.sqT h1, by rw [r1.len]; exact hl, ρ, F, ds, ρ', S, r1, e, q⟩
      · cases e
  | _ => cases e
/-- target = e -/
def asgG (t : D → Rho → Option Rho) (f : Rho → Res D) (ρ : Rho) : Out := Res.out ρ (f ρ) fun d => match t d ρ with
  | some ρ' => .nx ρ'
  | none => .no
theorem ps_asgG {is : List Nat} {tg : Expr} {t : D → Rho → Option Rho} (he : PVE X B W e f) (ht : PVG X B tg t is) (hs : swapsWithSole [tg] e pos.line X.env = pure false := by rfl) (hw : swappedStores [tg] e X.env = pure none := by rfl)
    (h1 : (assignEach [tg] X.env).map (·.2) = [assign tg X.env] := by rfl) : PVS X B W (.Assign [tg] e pos) (asgG t f) := by
  obtain ⟨u, a1, a2⟩ := he.ex
  refine ⟨_, L2.ps_asg a1 ht.pg hs hw h1, fun ρ σ F H Z S q => a2 ρ σ F H _ S ?_⟩
  unfold asgG at q
  cases e : f ρ with
  | no => rw [e] at q; exact q
  | ex e' => rw [e] at q; exact xok_of S q
  | ok d =>
    rw [e] at q
    simp only [Res.ok_out] at q
    intro v F1 H1 g1 r1
    cases e2 : t d ρ with
    | none => rw [e2] at q; exact q.elim
    | some ρ' => rw [e2] at q; exact ⟨ρ, F1, d, ρ', S.grow g1, r1, e2, fun σ' S' _ => q σ' F1 H1 g1.f S'⟩
/-- x, y = a, b -/
def parS (i j : Nat) (g : Rho → Res (List D)) (ρ : Rho) : Out := Res.out ρ (g ρ) fun ds => match ds with
  | [d, d'] => .nx ((ρ.set i (some (.fz d))).set j (some (.fz d')))
  | _ => .no
theorem ps_par (i j : Nat) {x y : Str} {g : Rho → Res (List D)} {px py pt : Pos} {kt k2 pt2} (hc : X.calm = true) (hN : X.N.Nodup) (hp : PVA X B W [a, b] g) (hi : X.N[i]? = some x := by rfl) (hj : X.N[j]? = some y := by rfl) (hij : i ≠ j := by decide)
    (hx : X.env.scope.names.lookup x = some .local := by rfl) (hy : X.env.scope.names.lookup y = some .local := by rfl)
    (hw : swappedStores [.Tuple [.Name x px, .Name y py] kt pt] (.Tuple [a, b] k2 pt2) X.env = pure (some [x, y]) := by rfl)
    (hs : swapsWithSole [.Tuple [.Name x px, .Name y py] kt pt] (.Tuple [a, b] k2 pt2) pos.line X.env = pure false := by rfl) :
    PVS X B W (.Assign [.Tuple [.Name x px, .Name y py] kt pt] (.Tuple [a, b] k2 pt2) pos) (parS i j g) := by
  obtain ⟨u, a1, a2⟩ := hp.ex
  refine ⟨_, L2.ps_par hc hN hi hj hij hx hy a1 hw hs, fun ρ σ F H Z S q => a2 ρ σ F H _ S ?_⟩
  unfold parS at q
  cases e : g ρ with
  | no => rw [e] at q; exact q
  | ex e' => rw [e] at q; exact xok_of S q
  | ok ds =>
    rw [e] at q
    simp only [Res.ok_out] at q
    intro vs F1 H1 g1 r1
    match ds, q, r1 with
    | [d, d'], q, .cons r (.cons r' .nil) => exact ⟨_, _, rfl, q _ F1 H1 g1.f (((S.grow g1).set r).set r')⟩

/-! ### what is walked -/
structure Yld (K : PySem.W.Frag) (J : It) (ds : List D) (F : Hp) : Prop where
  go : ∀ i F' H, Sub F F' → Sub F' H → i < ds.length → J.go i H
  yld : ∀ i F' H x H', Sub F F' → Sub F' H → i < ds.length → J.yld i H x H' → ∃ d F'', ds[i]? = some d ∧ Grow F' H F'' H' ∧ Dp K F'' x d
  stop : ∀ i F' H, Sub F F' → Sub F' H → ds.length ≤ i → J.stop i H
def EPi (X : Cx) (W : WX) (σ : L2.St) (F H : Hp) (R : It → Hp → Prop) : Res (List D) → Prop
  | .ok ds => ∀ J F' H', Grow F H F' H' → Yld X.K J ds F' → R J H'
  | .ex e => XOk X W σ F H e
  | .no => False
structure PVI (X : Cx) (B : Bd) (W : WX) (tg iter : Expr) (f : Rho → Res (List D)) : Prop where
  ex : ∃ wi, PI X tg iter wi ∧ ∀ ρ σ F H R, Sta X.K B ρ σ F H → EPi X W σ F H R (f ρ) → wi σ H R
def iAny (K : PySem.W.Frag) (tl : TE) : TI := fun σ H R => tl σ H fun x H1 => (∃ a xs, x = .ref a ∧ SqL K H1 a xs ∧ R (Itl K a) H1) ∨ (∃ a xs, x = .ref a ∧ SqT K H1 a xs ∧ R (Itt K a) H1) ∨ ∃ z, x = .str z ∧ R (Its z) H1
theorem pi_anyL {tg l : Expr} {tl : TE} (hl : PE X l tl) : PI X tg l (iAny X.K tl) := by
  refine ⟨fun pins s σ H R I h => ?_⟩
  refine thn (hl.run pins s σ H _ I h) fun v s1 ⟨x, H1, I1, r1, q1⟩ => ?_
  rcases q1 with ⟨a, xs, e, hq, q⟩ | ⟨a, xs, e, hq, q⟩ | ⟨z, e, q⟩
  · subst e
    cases r1
    obtain ⟨its, rv, p, hz⟩ := I1.list hq
    refine wpAny_pyIter_list p.isList ?_
    refine ⟨s1.heap.objs.size, [s1.heap.objs.size], _, _, H1, rfl, I1.kept (t' := s1.toks) fun b o e => Heap.get?_push_of_some _ e, turn_list a _, ⟨_, Heap.get?_push_size _ rfl, rfl, rfl⟩, fun b hb => ?_, q⟩
    have e : b = s1.heap.objs.size := by simpa using hb
    subst e
    exact I1.fpOk (Nat.le_refl _) (I1.hok.fresh (Nat.le_refl _))
  · subst e
    cases r1
    obtain ⟨its, rv, p, hz⟩ := I1.tuple hq
    refine wpAny_pyIter_tuple (show s1.heap.IsTuple a its.toArray from p) ?_
    refine ⟨s1.heap.objs.size, [s1.heap.objs.size], _, _, H1, rfl, I1.kept (t' := s1.toks) fun b o e => Heap.get?_push_of_some _ e, turn_tuple a _, ⟨_, Heap.get?_push_size _ rfl, rfl, rfl⟩, fun b hb => ?_, q⟩
    have e : b = s1.heap.objs.size := by simpa using hb
    subst e
    exact I1.fpOk (Nat.le_refl _) (I1.hok.fresh (Nat.le_refl _))
  · subst e
    obtain ⟨t, rfl⟩ := r1
    cases ha : z.cps.all (· < 128)
    · exact wpAny_pyIter_wide ha (pi_one (tk := s1.toks) I1 _ (turn_str _ z t "str_iterator" (.inr rfl)) ⟨_, Heap.get?_push_size _ rfl, rfl, rfl⟩ q)
    · exact wpAny_pyIter_ascii ha (pi_one (tk := s1.toks) I1 _ (turn_str _ z t "str_ascii_iterator" (.inl rfl)) ⟨_, Heap.get?_push_size _ rfl, rfl, rfl⟩ q)
def dIter : D → Option (List D)
  | .list ds => some ds
  | .tuple ds => some ds
  | .str z => some (z.cps.toList.map fun c => .str ⟨#[c]⟩)
  | _ => none
def itR (f : Rho → Res D) (ρ : Rho) : Res (List D) := (f ρ).bind fun d => Res.of (dIter d)
theorem yld_tup {K : PySem.W.Frag} {F : Hp} {a : Addr} {xs : List V} {ds : List D} (h : SqT K F a xs) (r : DpAll K F xs ds) : Yld K (Itt K a) ds F := by
  refine ⟨fun i F' H s t hi => ?_, fun i F' H x H' s t hi y => ?_, fun i F' H s t hi => ⟨xs, t.sqT (s.sqT h), by rw [r.len]; exact hi⟩⟩
  · obtain ⟨x, hx, _⟩ := r.at (List.getElem?_eq_getElem hi)
    exact ⟨xs, x, t.sqT (s.sqT h), hx⟩
  · obtain ⟨rfl, y⟩ := y
    have hx := y xs (t.sqT (s.sqT h))
    obtain ⟨d, h1, h2⟩ := r.get hx
    exact ⟨d, F', h1, .refl t, s.dp _ _ h2⟩
theorem yld_str {K : PySem.W.Frag} {F : Hp} {z : Str} : Yld K (Its z) (z.cps.toList.map fun c => .str ⟨#[c]⟩) F := by
  refine ⟨fun i F' H s t hi => by simpa [Its] using hi, fun i F' H x H' s t hi y => ?_, fun i F' H s t hi => by simpa [Its] using hi⟩
  obtain ⟨rfl, c, hc, rfl⟩ := y
  refine ⟨.str ⟨#[c]⟩, F', ?_, .refl t, .str _⟩
  rw [List.getElem?_map]
  simp [hc]
theorem pi_any {tg l : Expr} (hl : PVE X B W l f) : PVI X B W tg l (itR f) := by
  obtain ⟨t, h1, h2⟩ := hl.ex
  refine ⟨_, pi_anyL h1, fun ρ σ F H R S q => h2 ρ σ F H _ S ?_⟩
  unfold itR at q
  cases e : f ρ with
  | no => rw [e] at q; exact q
  | ex e' => rw [e] at q; exact q
  | ok d =>
    rw [e] at q
    intro v F1 H1 g1 r1
    cases d with
    | list ds =>
      cases r1 with
      | lst h3 r3 =>
        refine .inl ⟨_, _, rfl, g1.fh.sqL h3, q _ F1 H1 g1 ⟨fun i F' H s t hi => ?_, fun i F' H x H' s t hi y => ?_, fun i F' H s t hi => ⟨_, t.sqL (s.sqL h3), by rw [r3.len]; exact hi⟩⟩⟩
        · obtain ⟨x, hx, _⟩ := r3.at (List.getElem?_eq_getElem hi)
          exact ⟨_, x, t.sqL (s.sqL h3), hx⟩
        · obtain ⟨rfl, y⟩ := y
          have hx := y _ (t.sqL (s.sqL h3))
          obtain ⟨d, h1, h2⟩ := r3.get hx
          exact ⟨d, F', h1, .refl t, s.dp _ _ h2⟩
    | tuple ds =>
      cases r1 with
      | tup h3 r3 => exact .inr (.inl ⟨_, _, rfl, g1.fh.sqT h3, q _ F1 H1 g1 (yld_tup h3 r3)⟩)
    | str z => cases r1; exact .inr (.inr ⟨z, rfl, q _ F1 H1 g1 yld_str⟩)
    | _ => exact q.elim
/-- range -/
def rngD (lo : Int) (n : Nat) : List D := (List.range n).map fun i => .int (lo + (i : Nat))
theorem rngD_get {lo : Int} {n i : Nat} (h : i < n) : (rngD lo n)[i]? = some (.int (lo + (i : Nat))) := by
  unfold rngD
  rw [List.getElem?_map, List.getElem?_range h]
  rfl
theorem rngD_len {lo : Int} {n : Nat} : (rngD lo n).length = n := by unfold rngD; simp
theorem yld_rng {K : PySem.W.Frag} {F : Hp} {lo : Int} {n : Nat} : Yld K (Itr lo n) (rngD lo n) F := by
  refine ⟨fun i F' H s t hi => by rw [rngD_len] at hi; exact hi, fun i F' H x H' s t hi y => ?_, fun i F' H s t hi => by rw [rngD_len] at hi; exact hi⟩
  rw [rngD_len] at hi
  obtain ⟨rfl, rfl⟩ := y
  exact ⟨_, F', rngD_get hi, .refl t, .int _⟩
def InR (j : Int) : Prop := -(2 ^ 62) ≤ j ∧ j < 2 ^ 62
noncomputable instance (j : Int) : Decidable (InR j) := Classical.propDecidable _
noncomputable def rng1 (g : Rho → Res (List D)) (ρ : Rho) : Res (List D) := (g ρ).bind fun ds => match ds with
  | [.int j] => if InR j then .ok (rngD 0 j.toNat) else .no
  | _ => .no
noncomputable def rng2 (g : Rho → Res (List D)) (ρ : Rho) : Res (List D) := (g ρ).bind fun ds => match ds with
  | [.int i, .int j] => if InR i ∧ InR j then .ok (rngD i (j - i).toNat) else .no
  | _ => .no
theorem pi_rng1 {tg : Expr} {g : Rho → Res (List D)} (hm : X.mg "range" = none) (ha : PVA X B W [a] g) (hg : Gl X "range" := by rfl) (hs : starEach [a] X.env = [(false, eval a X.env)] := by rfl) : PVI X B W tg (.Call (.Name "range" p) [a] [] pos) (rng1 g) := by
  obtain ⟨t, h1, h2⟩ := ha.ex
  refine ⟨_, pi_range1 hg hm h1 hs, fun ρ σ F H R S q => h2 ρ σ F H _ S ?_⟩
  unfold rng1 at q
  cases e : g ρ with
  | no => rw [e] at q; exact q
  | ex e' => rw [e] at q; exact q
  | ok ds =>
    rw [e] at q
    simp only [Res.ok_bind] at q
    intro vs F1 H1 g1 r1
    split at q
    · split at q
      · rename_i hj
        cases r1 with
        | cons r rr =>
          cases rr
          cases r
          exact ⟨_, rfl, hj.1, hj.2, q _ F1 H1 g1 yld_rng⟩
      · exact q.elim
    · exact q.elim
theorem pi_rng2 {tg : Expr} {g : Rho → Res (List D)} (hm : X.mg "range" = none) (ha : PVA X B W [a, b] g) (hg : Gl X "range" := by rfl) (hs : starEach [a, b] X.env = [(false, eval a X.env), (false, eval b X.env)] := by rfl) (hs2 : starEach [b] X.env = [(false, eval b X.env)] := by rfl) :
    PVI X B W tg (.Call (.Name "range" p) [a, b] [] pos) (rng2 g) := by
  obtain ⟨t, h1, h2⟩ := ha.ex
  refine ⟨_, pi_range2 hg hm h1 hs hs2, fun ρ σ F H R S q => h2 ρ σ F H _ S ?_⟩
  unfold rng2 at q
  cases e : g ρ with
  | no => rw [e] at q; exact q
  | ex e' => rw [e] at q; exact q
  | ok ds =>
    rw [e] at q
    simp only [Res.ok_bind] at q
    intro vs F1 H1 g1 r1
    split at q
    · split at q
      · rename_i hj
        cases r1 with
        | cons r rr =>
          cases rr with
          | cons r2 rr =>
            cases rr
            cases r
            cases r2
            exact ⟨_, _, rfl, ⟨hj.1.1, hj.1.2, hj.2⟩, q _ F1 H1 g1 yld_rng⟩
      · exact q.elim
    · exact q.elim

/-! ### for -/
def forL (t : D → Rho → Option Rho) (g : Rho → Out) : List D → Rho → Out
  | [], ρ => .nx ρ
  | d :: ds, ρ => match t d ρ with
    | none => .no
    | some ρ1 => match g ρ1 with
      | .nx ρ' => forL t g ds ρ'
      | .ct ρ' => forL t g ds ρ'
      | .bk ρ' => .nx ρ'
      | .rt d => .rt d
      | .ex e ρ' => .ex e ρ'
      | .no => .no
def forS (fi : Rho → Res (List D)) (t : D → Rho → Option Rho) (g : Rho → Out) (ρ : Rho) : Out := Res.out ρ (fi ρ) fun ds => forL t g ds ρ
theorem ps_for {is : List Nat} {tg iter : Expr} {fi : Rho → Res (List D)} {t : D → Rho → Option Rho} {body : List Stmt} (hp : PassesOwn (model X.prog X.w) X.A X.env X.xe) (hc : X.calm = true) (hi : PVI X B W tg iter fi) (ht : PVG X B tg t is) (hb : PVB X B W body g)
    (hs : ∀ x, foldedSetIterable iter X.env x = pure x := by intro _; rfl) : PVS X B W (.For tg iter body [] pos) (forS fi t g) := by
  obtain ⟨wi, i1, i2⟩ := hi.ex
  obtain ⟨tb, b1, b2⟩ := hb.ex
  refine ⟨_, L2.ps_for hp hc i1 ht.pg b1 hs, fun ρ σ F H Z S q => i2 ρ σ F H _ S ?_⟩
  unfold forS at q
  cases e : fi ρ with
  | no => rw [e] at q; exact q
  | ex e' => rw [e] at q; exact xok_of S q
  | ok ds =>
    rw [e] at q
    simp only [Res.ok_out] at q
    intro J F1 H1 g1 Y
    refine ⟨fun i m σ H => m = ds.length - i ∧ i ≤ ds.length ∧ ∃ ρ F2, Sub F1 F2 ∧ Sta X.K B ρ σ F2 H ∧ Post X B W F2 Z (forL t g (ds.drop i) ρ), ⟨ds.length, by simp, Nat.zero_le _, ρ, F1, Sub.refl F1, S.grow g1, by simpa using q.mono g1.f⟩, ?_⟩
    rintro i m σ H ⟨rfl, hi, ρ, F2, s2, S2, q2⟩
    by_cases hlt : i < ds.length
    · refine .inr ⟨Y.go i F2 H s2 S2.fh hlt, fun σ' H' => i + 1 ≤ ds.length ∧ ∃ ρ F3, Sub F1 F3 ∧ Sta X.K B ρ σ' F3 H' ∧ Post X B W F3 Z (forL t g (ds.drop (i + 1)) ρ), fun σ' H' ⟨h1, h2⟩ => ⟨ds.length - (i + 1), by omega, rfl, h1, h2⟩, fun x H' y => ?_⟩
      obtain ⟨d, F3, e1, g3, r3⟩ := Y.yld i F2 H x H' s2 S2.fh hlt y
      have ed : ds.drop i = d :: ds.drop (i + 1) := by
        rw [List.drop_eq_getElem_cons hlt]
        rw [List.getElem?_eq_getElem hlt] at e1
        cases e1
        rfl
      rw [ed] at q2
      unfold forL at q2
      cases e2 : t d ρ with
      | none => rw [e2] at q2; exact q2.elim
      | some ρ1 =>
        rw [e2] at q2
        simp only at q2
        refine ⟨ρ, F3, d, ρ1, S2.grow g3, r3, e2, fun σ' S' _ => ?_⟩
        refine b2 ρ1 σ' F3 H' _ S' ?_
        cases e3 : g ρ1 with
        | nx ρ' => rw [e3] at q2; exact fun σ4 F4 H4 s4 S4 => ⟨hlt, ρ', F4, s2.trans (g3.f.trans s4), S4, Post.mono (g3.f.trans s4) q2⟩
        | ct ρ' => rw [e3] at q2; exact fun σ4 F4 H4 s4 S4 => ⟨hlt, ρ', F4, s2.trans (g3.f.trans s4), S4, Post.mono (g3.f.trans s4) q2⟩
        | bk ρ' => rw [e3] at q2; exact fun σ4 F4 H4 s4 S4 => q2 σ4 F4 H4 (g3.f.trans s4) S4
        | rt d => rw [e3] at q2; exact fun v ρ4 σ4 F4 H4 s4 S4 r4 => q2 v ρ4 σ4 F4 H4 (g3.f.trans s4) S4 r4
        | ex e' ρ' => rw [e3] at q2; exact fun σ4 C d fs F4 H4 s4 S4 => q2 σ4 C d fs F4 H4 (g3.f.trans s4) S4
        | no => rw [e3] at q2; exact q2.elim
    · have ei : i = ds.length := by omega
      subst ei
      refine .inl ⟨Y.stop _ F2 H s2 S2.fh (Nat.le_refl _), ?_⟩
      rw [List.drop_length] at q2
      exact q2 σ F2 H (Sub.refl F2) S2

/-! ### while -/
def whlN (c : Rho → Res Bool) (g : Rho → Out) : Nat → Rho → Out
  | 0, _ => .no
  | n + 1, ρ => Res.out ρ (c ρ) fun k => if k = true then (match g ρ with
      | .nx ρ' => whlN c g n ρ'
      | .ct ρ' => whlN c g n ρ'
      | .bk ρ' => .nx ρ'
      | .rt d => .rt d
      | .ex e ρ' => .ex e ρ'
      | .no => .no) else .nx ρ
theorem ps_whl {t : Expr} {body : List Stmt} {ft : Rho → Res Bool} (n : Nat) (hp : PassesOwn (model X.prog X.w) X.A X.env X.xe) (hc : PVT X B W t ft) (hb : PVB X B W body g) : PVS X B W (.While t body [] pos) (whlN ft g n) := by
  obtain ⟨tc, c1, c2⟩ := hc.ex
  obtain ⟨tb, b1, b2⟩ := hb.ex
  refine ⟨_, ps_while hp c1 b1, fun ρ σ F H Z S q => ?_⟩
  refine ⟨fun m σ H => ∃ ρ F2, Sta X.K B ρ σ F2 H ∧ Post X B W F2 Z (whlN ft g m ρ), ⟨n, ρ, F, S, q⟩, ?_⟩
  rintro m σ H ⟨ρ, F2, S2, q2⟩
  refine c2 ρ σ F2 H _ S2 ?_
  cases m with
  | zero => exact q2.elim
  | succ m =>
    unfold whlN at q2
    cases e : ft ρ with
    | no => rw [e] at q2; exact q2
    | ex e' => rw [e] at q2; exact xok_of S2 q2
    | ok k =>
      rw [e] at q2
      simp only [Res.ok_out] at q2
      intro F3 H3 g3
      cases k with
      | false => rw [if_neg (by decide)] at q2 ⊢; exact q2 σ F3 H3 g3.f (S2.grow g3)
      | true =>
        rw [if_pos rfl] at q2 ⊢
        refine ⟨fun σ' H' => ∃ ρ F4, Sta X.K B ρ σ' F4 H' ∧ Post X B W F4 Z (whlN ft g m ρ), fun σ' H' h => ⟨m, Nat.lt_succ_self m, h⟩, ?_⟩
        refine b2 ρ σ F3 H3 _ (S2.grow g3) ?_
        cases e3 : g ρ with
        | nx ρ' => rw [e3] at q2; exact fun σ4 F4 H4 s4 S4 => ⟨ρ', F4, S4, Post.mono (g3.f.trans s4) q2⟩
        | ct ρ' => rw [e3] at q2; exact fun σ4 F4 H4 s4 S4 => ⟨ρ', F4, S4, Post.mono (g3.f.trans s4) q2⟩
        | bk ρ' => rw [e3] at q2; exact fun σ4 F4 H4 s4 S4 => q2 σ4 F4 H4 (g3.f.trans s4) S4
        | rt d => rw [e3] at q2; exact fun v ρ4 σ4 F4 H4 s4 S4 r4 => q2 v ρ4 σ4 F4 H4 (g3.f.trans s4) S4 r4
        | ex e' ρ' => rw [e3] at q2; exact fun σ4 C d fs F4 H4 s4 S4 => q2 σ4 C d fs F4 H4 (g3.f.trans s4) S4
        | no => rw [e3] at q2; exact q2.elim
end
end VL

set_option Elab.async false
set_option linter.all false
set_option maxRecDepth 100000
set_option maxHeartbeats 4000000
namespace VL
open PySem PySem.Spec PyProof.Rows L2

/-! ### list comprehensions -/
section
variable {X : Cx} {B : Bd} {W : WX} {a b c e : Expr} {es : List Expr} {fa fb fc f : Rho → Res D} {pos p : Pos}
/-- the reading that an expression has from its function -/
def teO (X : Cx) (B : Bd) (W : WX) (f : Rho → Res D) : TE := fun σ H Q => ∃ ρ F, Sta X.K B ρ σ F H ∧ EPo X W σ F H Q (f ρ)
def teT (X : Cx) (B : Bd) (W : WX) (f : Rho → Res Bool) : TT := fun σ H Q => ∃ ρ F, Sta X.K B ρ σ F H ∧ EPt X W σ F H Q (f ρ)
theorem PVE.pe (h : PVE X B W e f) : PE X e (teO X B W f) := by
  obtain ⟨t, h1, h2⟩ := h.ex
  exact ⟨fun pins s σ H Q I ⟨ρ, F, S, q⟩ => h1.run pins s σ H Q I (h2 ρ σ F H Q S q)⟩
theorem PVT.pt {f : Rho → Res Bool} (h : PVT X B W e f) : PT X e (teT X B W f) := by
  obtain ⟨t, h1, h2⟩ := h.ex
  exact ⟨fun pins s σ H Q I ⟨ρ, F, S, q⟩ => h1.run pins s σ H Q I (h2 ρ σ F H Q S q)⟩
/-- the tests of a comprehension -/
structure PVTs (X : Cx) (B : Bd) (W : WX) (es : List Expr) (f : Rho → Res Bool) : Prop where
  pts : PTs X es (teT X B W f)
theorem pts_nil : PVTs X B W [] (fun _ => .ok true) := ⟨⟨fun pins s σ H Q I ⟨ρ, F, S, q⟩ => L2.pts_nil.run pins s σ H Q I (q F H (.refl S.fh))⟩⟩
theorem pts_one {f : Rho → Res Bool} (h : PVT X B W e f) : PVTs X B W [e] f := ⟨L2.pts_one h.pt⟩
def wipeR (ρ : Rho) : List Nat → Rho
  | [] => ρ
  | v :: vs => (wipeR ρ vs).set v none
theorem wipeR_length (ρ : Rho) : ∀ vs : List Nat, (wipeR ρ vs).length = ρ.length
  | [] => rfl
  | v :: vs => by unfold wipeR; rw [List.length_set, wipeR_length ρ vs]
theorem wipeR_some {ρ : Rho} {i : Nat} {x : LV} : ∀ {vs : List Nat}, (wipeR ρ vs)[i]? = some (some x) → ρ[i]? = some (some x) ∧ i ∉ vs
  | [], h => ⟨h, by simp⟩
  | v :: vs, h => by
    unfold wipeR at h
    by_cases hi : v = i
    · subst hi
      by_cases hv : v < (wipeR ρ vs).length
      · rw [List.getElem?_set_self hv] at h; cases h
      · rw [List.getElem?_eq_none (by simpa using hv)] at h; cases h
    · rw [List.getElem?_set_ne hi] at h
      obtain ⟨h1, h2⟩ := wipeR_some h
      exact ⟨h1, by simp only [List.mem_cons, not_or]; exact ⟨fun e => hi e.symm, h2⟩⟩
theorem wipe_get {σ : L2.St} {i : Nat} : ∀ {vs : List Nat}, i ∉ vs → (wipe σ vs)[i]? = σ[i]?
  | [], _ => rfl
  | v :: vs, h => by
    unfold wipe
    rw [List.getElem?_set_ne fun z => h (by rw [z]; simp)]
    exact wipe_get fun z => h (List.mem_cons_of_mem _ z)
theorem wipe_at {σ : L2.St} {i : Nat} : ∀ {vs : List Nat}, i ∈ vs → i < σ.length → (wipe σ vs)[i]? = some none
  | v :: vs, h, hl => by
    unfold wipe
    by_cases e : v = i
    · subst e
      rw [List.getElem?_set_self (by rw [wipe_length]; exact hl)]
    · rw [List.getElem?_set_ne e]
      exact wipe_at ((List.mem_cons.mp h).resolve_left fun z => e z.symm) hl
theorem wipe_agr {vs is : List Nat} {σ σ2 : L2.St} (h : Agr is (wipe σ vs) σ2) (hs : ∀ i ∈ is, i ∈ vs) : wipe σ2 vs = wipe σ vs := by
  have hl : σ2.length = σ.length := h.1.trans (wipe_length σ vs)
  refine List.ext_getElem? fun i => ?_
  by_cases hi : i ∈ vs
  · by_cases hlt : i < σ.length
    · rw [wipe_at hi (by rw [hl]; exact hlt), wipe_at hi hlt]
    · rw [List.getElem?_eq_none (by rw [wipe_length, hl]; omega), List.getElem?_eq_none (by rw [wipe_length]; omega)]
  · rw [wipe_get hi, h.2 i fun z => hi (hs i z)]
theorem Sta.wipe {K : PySem.W.Frag} {ρ : Rho} {σ : L2.St} {F H : Hp} (S : Sta K B ρ σ F H) (vs : List Nat) : Sta K B (wipeR ρ vs) (L2.wipe σ vs) F H := by
  refine ⟨by rw [wipeR_length, wipe_length, S.len], S.g, fun i lv e => ?_, fun i j v ⟨di, oi⟩ ⟨dj, oj⟩ ei ej => ?_⟩
  · obtain ⟨e1, hi⟩ := wipeR_some e
    obtain ⟨v, h1, h2⟩ := S.sl i lv e1
    exact ⟨v, by rw [wipe_get hi]; exact h1, h2⟩
  · exact S.dj i j v ⟨di, (wipeR_some oi).1⟩ ⟨dj, (wipeR_some oj).1⟩ (wipe_some ei).1 (wipe_some ej).1
theorem Grow.updT {F H F' H' : Hp} {p : Addr} {o u : HO} (g : Grow F H F' H') (hp : H p = none) (hf : F' p = none) (hu : H' p = some u) : Grow F H F' (upd H' p o) := by
  have n1 : ∀ a, H a ≠ none → a ≠ p := fun a h z => h (by rw [z]; exact hp)
  have n2 : ∀ a, F' a ≠ none → a ≠ p := fun a h z => h (by rw [z]; exact hf)
  refine ⟨g.f, ⟨fun a o' e n => ?_, fun a ps e t => ?_, fun a e => ?_⟩, ⟨fun a o' e n => ?_, fun a ps e t => ?_, fun a e => ?_⟩, g.ag⟩
  · rw [upd_ne (n1 a (by rw [e]; simp))]; exact g.h.ob a o' e n
  · rw [upd_ne (n1 a (by rw [e]; simp))]; exact g.h.tb a ps e t
  · rw [upd_ne (n1 a e)]; exact g.h.dm a e
  · rw [upd_ne (n2 a (by rw [e]; simp))]; exact g.fh.ob a o' e n
  · rw [upd_ne (n2 a (by rw [e]; simp))]; exact g.fh.tb a ps e t
  · rw [upd_ne (n2 a e)]; exact g.fh.dm a e

def noX {α : Type} : Res α → Res α
  | .ok a => .ok a
  | _ => .no
@[simp] theorem noX_ok {α : Type} (a : α) : noX (.ok a) = .ok a := rfl
def lcL (t : D → Rho → Option Rho) (c : Rho → Res Bool) (f : Rho → Res D) (ρ : Rho) : List D → Res (List D)
  | [] => .ok []
  | d :: ds => match t d ρ with
    | none => .no
    | some ρ1 => (noX (c ρ1)).bind fun k => if k = true then (noX (f ρ1)).bind fun y => (lcL t c f ρ ds).bind fun ys => .ok (y :: ys) else lcL t c f ρ ds
def lcV (fi : Rho → Res (List D)) (t : D → Rho → Option Rho) (c : Rho → Res Bool) (f : Rho → Res D) (vs : List Nat) (ρ : Rho) : Res (List D) :=
  (fi ρ).bind fun ds => if ds.length ≤ sizeLine then noX (lcL t c f (wipeR ρ vs) ds) else .no
theorem lcL_ok {t : D → Rho → Option Rho} {c : Rho → Res Bool} {f : Rho → Res D} {ρ : Rho} : ∀ {ds : List D} {ys : List D}, lcL t c f ρ ds = .ok ys → ys.length ≤ ds.length
  | [], ys, e => by cases e; exact Nat.le_refl _
  | d :: ds, ys, e => by
    unfold lcL at e
    split at e
    · cases e
    · rename_i ρ1 h1
      cases e1 : noX (c ρ1) with
      | no => rw [e1] at e; cases e
      | ex _ => rw [e1] at e; cases e
      | ok k =>
        rw [e1] at e
        simp only [Res.ok_bind] at e
        split at e
        · cases e2 : noX (f ρ1) with
          | no => rw [e2] at e; cases e
          | ex _ => rw [e2] at e; cases e
          | ok y =>
            rw [e2] at e
            simp only [Res.ok_bind] at e
            cases e3 : lcL t c f ρ ds with
            | no => rw [e3] at e; cases e
            | ex _ => rw [e3] at e; cases e
            | ok zs =>
              rw [e3] at e
              cases e
              have := lcL_ok e3
              simp; omega
        · have := lcL_ok e
          simp; omega
abbrev W0 : WX := fun _ _ _ _ => False
theorem lc_read {iter tg : Expr} {is : List Nat} {fi : Rho → Res (List D)} {t : D → Rho → Option Rho} {fc : Rho → Res Bool} {wi : TI} {vs : List Nat} (i2 : ∀ ρ σ F H R, Sta X.K B ρ σ F H → EPi X W σ F H R (fi ρ) → wi σ H R) (his : ∀ i ∈ is, i ∈ vs)
    {ρ : Rho} {σ : L2.St} {F H : Hp} {Q : VK} (S : Sta X.K B ρ σ F H) (q : EPl X W σ F H Q (lcV fi t fc f vs ρ)) : tLc wi (tgG X B t is) (teT X B W0 fc) (teO X B W0 f) vs σ H Q := by
  refine i2 ρ σ F H _ S ?_
  unfold lcV at q
  cases e : fi ρ with
  | no => rw [e] at q; exact q
  | ex e' => rw [e] at q; exact q
  | ok ds =>
    rw [e] at q
    simp only [Res.ok_bind] at q
    intro J F1 H1 g1 Y D hD
    by_cases hl : ds.length ≤ sizeLine
    · rw [if_pos hl] at q
      cases el : lcL t fc f (wipeR ρ vs) ds with
      | no => rw [el] at q; exact q.elim
      | ex e' => rw [el] at q; exact q.elim
      | ok ys =>
        rw [el] at q
        simp only [noX_ok] at q
        have S1 := S.grow g1
        refine ⟨fun i m H2 => m = ds.length - i ∧ i ≤ ds.length ∧ ∃ F2 acc out rest, Grow F1 H1 F2 H2 ∧ H2 D = some (.lst acc) ∧ F2 D = none ∧ DpAll X.K F2 acc out ∧ acc.length ≤ i ∧ lcL t fc f (wipeR ρ vs) (ds.drop i) = .ok rest ∧ out ++ rest = ys, ⟨ds.length, by simp, Nat.zero_le _, F1, [], [], ys, ?_, upd_same, g1.fh.free hD, .nil, Nat.le_refl _, by simpa using el, rfl⟩, ?_⟩
        · exact ⟨Sub.refl F1, upd_sub hD, g1.fh.trans (upd_sub hD), fun _ _ => rfl⟩
        · rintro i m H2 ⟨rfl, hi, F2, acc, out, rest, G2, hD2, fD, rd, hal, er, eo⟩
          have S2 := (S1.grow G2).wipe vs
          by_cases hlt : i < ds.length
          · refine .inr ⟨Y.go i F2 H2 G2.f G2.fh hlt, fun H' => i + 1 ≤ ds.length ∧ ∃ F2 acc out rest, Grow F1 H1 F2 H' ∧ H' D = some (.lst acc) ∧ F2 D = none ∧ DpAll X.K F2 acc out ∧ acc.length ≤ i + 1 ∧ lcL t fc f (wipeR ρ vs) (ds.drop (i + 1)) = .ok rest ∧ out ++ rest = ys,
              fun H' h => ⟨ds.length - (i + 1), by omega, rfl, h.1, h.2⟩, fun x H3 y => ?_⟩
            obtain ⟨d, F3, e1, g3, r3⟩ := Y.yld i F2 H2 x H3 G2.f G2.fh hlt y
            have ed : ds.drop i = d :: ds.drop (i + 1) := by
              rw [List.drop_eq_getElem_cons hlt]
              rw [List.getElem?_eq_getElem hlt] at e1
              cases e1
              rfl
            rw [ed] at er
            unfold lcL at er
            cases e2 : t d (wipeR ρ vs) with
            | none => rw [e2] at er; cases er
            | some ρ1 =>
              rw [e2] at er
              simp only at er
              refine ⟨wipeR ρ vs, F3, d, ρ1, S2.grow g3, r3, e2, fun σ2 S3 ag => ⟨wipe_agr ag his, ?_⟩⟩
              cases e3 : fc ρ1 with
              | no => rw [e3] at er; cases er
              | ex _ => rw [e3] at er; cases er
              | ok k =>
                rw [e3] at er
                simp only [noX_ok, Res.ok_bind] at er
                refine ⟨ρ1, F3, S3, ?_⟩
                rw [e3]
                intro F4 H4 g4
                have g34 := g3.trans g4
                cases k with
                | false =>
                  rw [if_neg (by decide)] at er ⊢
                  exact ⟨hlt, F4, acc, out, rest, G2.trans g34, g34.h.lst hD2, (g34.ag D (by rw [hD2]; simp)).trans fD, g34.f.dpAll _ _ rd, Nat.le_succ_of_le hal, er, eo⟩
                | true =>
                  rw [if_pos rfl] at er ⊢
                  cases e4 : f ρ1 with
                  | no => rw [e4] at er; cases er
                  | ex _ => rw [e4] at er; cases er
                  | ok z =>
                    rw [e4] at er
                    simp only [noX_ok, Res.ok_bind] at er
                    cases e5 : lcL t fc f (wipeR ρ vs) (ds.drop (i + 1)) with
                    | no => rw [e5] at er; cases er
                    | ex _ => rw [e5] at er; cases er
                    | ok rest' =>
                      rw [e5] at er
                      cases er
                      refine ⟨ρ1, F4, S3.grow g4, ?_⟩
                      rw [e4]
                      intro v F5 H5 g5 r5
                      have g := g34.trans g5
                      have hD5 := g.h.lst hD2
                      have fD5 : F5 D = none := (g.ag D (by rw [hD2]; simp)).trans fD
                      refine ⟨acc, hD5, by omega, hlt, F5, acc ++ [v], out ++ [z], rest', (G2.trans g).updT hD fD5 hD5, upd_same, fD5, (g.f.dpAll _ _ rd).append (.cons r5 .nil), by rw [List.length_append, List.length_singleton]; omega, rfl, by rw [← eo]; simp⟩
          · have ei : i = ds.length := by omega
            subst ei
            rw [List.drop_length] at er
            cases er
            refine .inl ⟨Y.stop _ F2 H2 G2.f G2.fh (Nat.le_refl _), ?_⟩
            rw [List.append_nil] at eo
            subst eo
            exact q D acc F2 H2 (g1.trans G2) hD2 fD (g1.h.free hD) rd
    · rw [if_neg hl] at q; exact q.elim
theorem po_lc {elt tg iter : Expr} {ifs : List Expr} {scope : Scope} (own : List (Str × Nat)) {is : List Nat} {fi : Rho → Res (List D)} {t : D → Rho → Option Rho} {fc : Rho → Res Bool} (hc : X.calm = true) (hN : X.N.Nodup) (hi : PVI X B W tg iter fi) (ok : BlkOk X.N X.env.scope scope own)
    (hg : ∀ (s : Shared) (H : Hp) (C : Addr) (cl : List (Str × Addr)) (fp : List Addr), PVG (X.blk s H scope (compEnvC scope cl C X.env) fp) B tg t is) (ht : ∀ (s : Shared) (H : Hp) (C : Addr) (cl : List (Str × Addr)) (fp : List Addr), PVTs (X.blk s H scope (compEnvC scope cl C X.env) fp) B W0 ifs fc)
    (he : ∀ (s : Shared) (H : Hp) (C : Addr) (cl : List (Str × Addr)) (fp : List Addr), PVE (X.blk s H scope (compEnvC scope cl C X.env) fp) B W0 elt f) (his : ∀ i ∈ is, i ∈ own.map (·.2) := by decide) (hs : ∀ x, foldedSetIterable iter X.env x = pure x := by intro _; rfl) :
    PVO X B W (.ListComp elt [⟨tg, iter, ifs, 0⟩] scope pos) (lcV fi t fc f (own.map (·.2))) := by
  obtain ⟨wi, i1, i2⟩ := hi.ex
  exact ⟨_, L2.pe_lc (g := tgG X B t is) (tt := teT X B W0 fc) (te := teO X B W0 f) hc hN i1 ok (fun s H C cl fp => (hg s H C cl fp).pg) (fun s H C cl fp => (ht s H C cl fp).pts) (fun s H C cl fp => (he s H C cl fp).pe) hs, fun ρ σ F H Q S q => lc_read (iter := iter) (tg := tg) i2 his S q⟩
/-- name = [.. for ..], the name a plain local -/
theorem ps_lcSet (i : Nat) {y : Str} {py spos : Pos} {elt tg iter : Expr} {ifs : List Expr} {scope : Scope} (own : List (Str × Nat)) {is : List Nat} {fi : Rho → Res (List D)} {t : D → Rho → Option Rho} {fc : Rho → Res Bool} (hc : X.calm = true) (hN : X.N.Nodup) (hi : PVI X B W tg iter fi) (ok : BlkOk X.N X.env.scope scope own)
    (hg : ∀ (s : Shared) (H : Hp) (C : Addr) (cl : List (Str × Addr)) (fp : List Addr), PVG (X.blk s H scope (compEnvC scope cl C X.env) fp) B tg t is) (ht : ∀ (s : Shared) (H : Hp) (C : Addr) (cl : List (Str × Addr)) (fp : List Addr), PVTs (X.blk s H scope (compEnvC scope cl C X.env) fp) B W0 ifs fc)
    (he : ∀ (s : Shared) (H : Hp) (C : Addr) (cl : List (Str × Addr)) (fp : List Addr), PVE (X.blk s H scope (compEnvC scope cl C X.env) fp) B W0 elt f) (his : ∀ i ∈ is, i ∈ own.map (·.2) := by decide) (hy : X.N[i]? = some y := by rfl) (hyl : X.env.scope.names.lookup y = some .local := by rfl)
    (hsw : swapsWith (.ListComp elt [⟨tg, iter, ifs, 0⟩] scope pos) (some (.Name y py)) spos.line X.env = pure true := by exact sw_true rfl rfl rfl (by decide +kernel)) (hs : ∀ x, foldedSetIterable iter X.env x = pure x := by intro _; rfl) :
    PVS X B W (.Assign [.Name y py] (.ListComp elt [⟨tg, iter, ifs, 0⟩] scope pos) spos) (asgS i fun ρ => lstD (lcV fi t fc f (own.map (·.2)) ρ)) := by
  obtain ⟨wi, i1, i2⟩ := hi.ex
  refine ⟨_, L2.ps_setLc (g := tgG X B t is) (tt := teT X B W0 fc) (te := teO X B W0 f) hc hN hy hyl hsw i1 ok (fun s H C cl fp => (hg s H C cl fp).pg) (fun s H C cl fp => (ht s H C cl fp).pts) (fun s H C cl fp => (he s H C cl fp).pe) hs, fun ρ σ F H Z S q => ?_⟩
  refine lc_read (X := X) (W := W) (iter := iter) (tg := tg) i2 his S ?_
  unfold asgS at q
  dsimp only at q
  cases e : lcV fi t fc f (own.map (·.2)) ρ with
  | no => rw [e] at q; exact q
  | ex e' => rw [e] at q; exact xok_of S q
  | ok ds =>
    rw [e] at q
    exact lst_frz fun v F' H' g r => q _ F' H' g.f ((S.grow g).set r)
theorem ps_lcSetO (i : Nat) {y : Str} {py spos : Pos} {elt tg iter : Expr} {ifs : List Expr} {scope : Scope} (own : List (Str × Nat)) {is : List Nat} {fi : Rho → Res (List D)} {t : D → Rho → Option Rho} {fc : Rho → Res Bool} (hc : X.calm = true) (hN : X.N.Nodup) (hi : PVI X B W tg iter fi) (ok : BlkOk X.N X.env.scope scope own)
    (hg : ∀ (s : Shared) (H : Hp) (C : Addr) (cl : List (Str × Addr)) (fp : List Addr), PVG (X.blk s H scope (compEnvC scope cl C X.env) fp) B tg t is) (ht : ∀ (s : Shared) (H : Hp) (C : Addr) (cl : List (Str × Addr)) (fp : List Addr), PVTs (X.blk s H scope (compEnvC scope cl C X.env) fp) B W0 ifs fc)
    (he : ∀ (s : Shared) (H : Hp) (C : Addr) (cl : List (Str × Addr)) (fp : List Addr), PVE (X.blk s H scope (compEnvC scope cl C X.env) fp) B W0 elt f) (his : ∀ i ∈ is, i ∈ own.map (·.2) := by decide) (hy : X.N[i]? = some y := by rfl) (hyl : X.env.scope.names.lookup y = some .local := by rfl)
    (hsw : swapsWith (.ListComp elt [⟨tg, iter, ifs, 0⟩] scope pos) (some (.Name y py)) spos.line X.env = pure true := by exact sw_true rfl rfl rfl (by decide +kernel)) (hs : ∀ x, foldedSetIterable iter X.env x = pure x := by intro _; rfl) :
    PVS X B W (.Assign [.Name y py] (.ListComp elt [⟨tg, iter, ifs, 0⟩] scope pos) spos) (asgO i (lcV fi t fc f (own.map (·.2)))) := by
  obtain ⟨wi, i1, i2⟩ := hi.ex
  refine ⟨_, L2.ps_setLc (g := tgG X B t is) (tt := teT X B W0 fc) (te := teO X B W0 f) hc hN hy hyl hsw i1 ok (fun s H C cl fp => (hg s H C cl fp).pg) (fun s H C cl fp => (ht s H C cl fp).pts) (fun s H C cl fp => (he s H C cl fp).pe) hs, fun ρ σ F H Z S q => ?_⟩
  refine lc_read (X := X) (W := W) (iter := iter) (tg := tg) i2 his S ?_
  unfold asgO at q
  cases e : lcV fi t fc f (own.map (·.2)) ρ with
  | no => rw [e] at q; exact q
  | ex e' => rw [e] at q; exact xok_of S q
  | ok ds =>
    rw [e] at q
    exact setO_post S q
end
end VL

set_option Elab.async false
set_option linter.all false
set_option maxRecDepth 100000
set_option maxHeartbeats 4000000
namespace VL
open PySem PySem.Spec PyProof.Rows L2 PySem.W

/-! ### an own error whose __init__ says super().__init__(f'..') and keeps its arguments -/
/-- self.f = f, .. -/
inductive FSt : List Str → List Stmt → Prop
  | nil : FSt [] []
  | cons {f : Str} {fs : List Str} {sts : List Stmt} {q1 q2 q3 q4 : Pos} (r : FSt fs sts) : FSt (f :: fs) (.Assign [.Attribute (.Name "self" q1) f q2] (.Name f q3) q4 :: sts)
/-- the parts of the text -/
inductive FPt (fs : List Str) : List Expr → Prop
  | nil : FPt fs []
  | con {x : Str} {j} {p : Pos} {es : List Expr} (h : x.length ≤ 1000) (r : FPt fs es) : FPt fs (.Constant (.str x) j p :: es)
  | fld {f : Str} {p p2 : Pos} {es : List Expr} (h : f ∈ fs) (r : FPt fs es) : FPt fs (.FormattedValue (.Name f p) (-1) none p2 :: es)
/-- what may be put into the text -/
def FmtV : Value → Prop
  | .str y _ => y.length ≤ 100000
  | .int i _ => i.natAbs.log2 < 1920
  | _ => False

structure ErrTxt (prog : Program) (K : Frag) (C fI : Addr) (fs : List Str) : Prop where
  cls : ∃ nm q N bs bm sn sub ab col dd k0 k1 k2 k3 k5, K.lookup C = some (excClassObj nm q C N bs bm true sn sub ab col dd k0 k1 k2 k3 k5 "ValueError.__new__") ∧ PySem.HandSPX.refsVE bm = true
  sa : findIn K (.ref C) "__setattr__" = some (some (.builtin "object.__setattr__"))
  noF : ∀ f ∈ fs, findIn K (.ref C) f = some none
  iC : findIn K (.ref C) "__init__" = some (some (.ref fI))
  tC : typeIn K (.ref fI) = some (.type "function")
  kC : keepIn K (.ref C) = true
  exC : subIn K (.ref C) (.type "BaseException") = some true
  veC : subIn K (.ref C) (.type "ValueError") = some true
  tyC : typeIn K (.ref C) = some (.type "type")
  mr : mroIn K C (.ref C) = some true
  opq : nsIn K cStatics "thirdparty.any" = some none
  sup : ks_superIn K C C "__init__" = some (some (.builtin "ValueError.__init__"))
  fn : ∃ (oc : Value) (od : Option Addr) (name qual : Str) (params : Arguments) (v1 v2 : Expr) (vr : List Expr) (p0 p1 p2 p3 p4 p5 : Pos) (sts : List Stmt) (scope : Scope) (doc pm : Value) (an : Option Addr) (cda : Addr) (ct : Value) (cc : Addr) (osl : Array (Option Value))
      (ccl : Value) (cdd : Option Addr) (vs : Array Value) (ccs : Array (Option Value)) (file : Str) (tf : Tok) (cl : Value) (cld : Option Addr) (csl : Array (Option Value)) (ar : Arg),
    K.lookup fI = some ⟨oc, od, .func (ksFn name qual params (.Expr (.Call (.Attribute (.Call (.Name "super" p0) [] [] p1) "__init__" p2) [.JoinedStr (v1 :: v2 :: vr) p3] [] p4) p5 :: sts) scope .none .none doc pm an (.ref cda) ct cc), osl⟩ ∧
    codeIn K (.ref cda) qual = true ∧ FPt fs (v1 :: v2 :: vr) ∧ vr.length ≤ 20 ∧ (p2.endLine == p4.line) = true ∧ FSt fs sts ∧
    K.lookup cda = some ⟨ccl, cdd, .fields vs, ccs⟩ ∧ vs[2]? = some (.str file tf) ∧ ((prog.main.file : Str) == file) = true ∧
    K.lookup cc = some ⟨cl, cld, .cell (some (.ref C)), csl⟩ ∧ (params.posonlyargs ++ params.args).head? = some ar ∧ ar.arg = "self" ∧
    scope.kind = .function ∧ scope.isCoroutine = false ∧ scope.isGenerator = false ∧ (∀ x ∈ scope.names, x.2 ≠ .cell) ∧
    scope.names.lookup ("super" : Str) = some .globalImplicit ∧ scope.names.lookup ("__class__" : Str) = some .free ∧ (∀ y ∈ ("self" : Str) :: fs, scope.names.lookup y = some .local) ∧
    (∀ us : List Value, us.length = (("self" : Str) :: fs).length → bindArgs (ksFn name qual params (.Expr (.Call (.Attribute (.Call (.Name "super" p0) [] [] p1) "__init__" p2) [.JoinedStr (v1 :: v2 :: vr) p3] [] p4) p5 :: sts) scope .none .none doc pm an (.ref cda) ct cc) ⟨us, []⟩ = pure ((("self" : Str) :: fs).zip us))
  top : (prog.main.scope.names.lookup ("super" : Str)).isSome = false
  dbg : ∀ f ∈ fs, (f == ("__debug__" : Str)) = false
  few : 0 < fs.length ∧ fs.length ≤ 10
  nd : (("self" : Str) :: fs).Nodup

section
variable {prog : Program} {w : World} {A : Around} {E : Value → Shared → Prop}

theorem joins_parts {fs : List Str} {env : Env} {m : Str → Option Value} (hk : env.scope.kind = .function) (hl : ∀ f ∈ fs, env.kindOf f = some .local) (hd : ∀ f ∈ fs, (f == ("__debug__" : Str)) = false) (hm : ∀ f ∈ fs, ∃ v, m f = some v ∧ FmtV v) {es : List Expr} (h : FPt fs es) :
    ∀ (acc : Str) (s : Shared) (R : Str → Shared → Prop), s.heap.Ns env.locals m → acc.length + 200000 * es.length ≤ 10000000 → (∀ out tk, out.length ≤ 10000000 → R out { s with toks := tk }) → Joins (model prog w) A E (evalEach es env) acc R s := by
  have z : sizeLine = 16777216 := sizeLine_eq
  induction h with
  | nil => intro acc s R hn hz hR; exact hR acc s.toks (by simpa using hz)
  | @con x j p es hx r ih =>
    intro acc s R hn hz hR
    rw [List.length_cons] at hz
    show wpAny _ _ _ _ _ _
    refine Calls.Constant_str ⟨x, _, rfl, by rw [Str.length_append]; omega, ih (acc ++ x) _ R hn (by rw [Str.length_append]; omega) fun out tk ho => hR out tk ho⟩
  | @fld f p p2 es hf r ih =>
    intro acc s R hn hz hR
    rw [List.length_cons] at hz
    obtain ⟨v, hv, fv⟩ := hm f hf
    show wpAny _ _ _ _ _ _
    refine wpAny_FormattedValue_plain (wpAny_Name (wpAny_loadName_local hk (hl f hf) hn hv ?_) (hd f hf))
    cases v with
    | str y t =>
      have fy : y.length ≤ 100000 := fv
      have key : ∀ tk t', ∃ y' t'', Value.str y t' = .str y' t'' ∧ (acc ++ y').length ≤ sizeLine ∧ Joins (model prog w) A E (evalEach es env) (acc ++ y') R { s with toks := tk } := fun tk t' =>
        ⟨y, _, rfl, by rw [Str.length_append]; omega, ih (acc ++ y) { s with toks := tk } R hn (by rw [Str.length_append]; omega) fun out tk ho => hR out tk ho⟩
      exact wpAny_formatField_str (key s.toks t) (key _ _) (by omega)
    | int i t =>
      have fi : i.natAbs.log2 < 1920 := fv
      have hlen : (toString i : Str).length ≤ 1921 := int_text_len_1921 fi
      exact wpAny_formatField_int fi ⟨_, _, rfl, by rw [Str.length_append]; omega, ih _ _ R hn (by rw [Str.length_append]; omega) fun out tk ho => hR out tk ho⟩
    | _ => exact fv.elim

/-- the method-wrapper of ValueError.__init__ called -/
theorem call_bwV {h : Heap} {g : Array GenState} {d : Drawn} {t : Nat} {os : OsState} {nm q : Str} {C N : Addr} {bs bm : List Value} {hdct : Bool} {sn : List Str} {sub : List Value} {ab : Bool} {col : Option Bool} {dd : Option Addr} {k0 k1 k2 k3 k5 : Option Value}
    {u e t0 : Addr} {rest : List Value} {Q : Value → Shared → Prop}
    (hC : h.get? C = some (excClassObj nm q C N bs bm hdct sn sub ab col dd k0 k1 k2 k3 k5 "ValueError.__new__")) (he : h.get? e = some (PySem.HandSPX.excO C t0)) (hu : h.get? u = some (kxs_mw "ValueError.__init__" e)) (hrest : rest.length ≤ sizeLine)
    (hq : ∀ h' t1, (∀ b o, b ≠ e → h.get? b = some o → h'.get? b = some o) → h'.get? e = some (PySem.HandSPX.excO C t1) → Q .none ⟨h', g, d, t, os⟩) :
    wpAny (model prog w) A (call (.ref u) rest) Q E ⟨h, g, d, t, os⟩ := by
  refine wpAny_call (codeAny_of_tree ?_)
  show wpAny _ A.in1 (callAny (.ref u) ⟨rest, []⟩) _ _ _
  simp only [callAny]
  refine wpAny_bind (wpAny_load hu ?_)
  simp only [kxs_mw, show (Value.type "method-wrapper" == Value.type "method" || Value.type "method-wrapper" == Value.type "builtin_function_or_method" || Value.type "method-wrapper" == Value.type "method-wrapper") = true by decide, if_true]
  refine W.KFB.if_so (by decide) ?_
  refine wpAny_bind (PySem.ESX.check_bound F.excBase_ValueError hC he rfl ?_)
  refine wpAny_bind (wpAny_pure (wpAny_pure ?_))
  refine ⟨Code.quiet_builtin _ (by decide +kernel), codeAny_builtin F.excBase_ValueError.initEntry ?_⟩
  rw [Around.under_plainId F.excBase_ValueError.init.plain _]
  wp_walk
  refine hq _ h.objs.size (fun b o hb ho => ?_) ?_
  · rw [Heap.get?_update_other _ _ (Ne.symm hb)]
    exact Heap.get?_push_of_some _ ho
  · rw [Heap.get?_update_self _ (Heap.get?_push_of_some _ he) rfl]
    rfl

/-- the fields stored: an object with a dict -/
theorem fields_old {K : Frag} {fs : List Str} {C x dx L t1 : Addr} {env : Env} {m : Str → Option Value} {cd : ClassData} (hcd : clsIn K C = some cd) (hmr : PySem.HandSPX.refsVE cd.mro = true) (hh : cd.hasDict = true)
    (sa : findIn K (.ref C) "__setattr__" = some (some (.builtin "object.__setattr__"))) (hk : env.scope.kind = .function) (hL : env.locals = L) (hself : env.kindOf "self" = some .local) (hms : m "self" = some (.ref x)) {sts : List Stmt} (h : FSt fs sts) :
    ∀ (vs : List Value) (mA : Str → Option Value) (nl : List Str) (s : Shared) (Q : Flow → Shared → Prop), vs.length = fs.length → (∀ p ∈ fs.zip vs, m p.1 = some p.2) → (∀ f ∈ fs, findIn K (.ref C) f = some none) → (∀ f ∈ fs, env.kindOf f = some .local) → (∀ f ∈ fs, (f == ("__debug__" : Str)) = false) →
      K.In s.heap → s.heap.Ns L m → L ≠ dx → s.heap.get? x = some { cls := .ref C, dict := some dx, data := .fields #[.ref t1, .none, .none, .none, .bool false, .none] } → x ≠ dx → s.heap.Ns1 dx mA → Within mA nl → nl.length + fs.length ≤ 1000 → K.lookup dx = none →
      (∀ h' tk, (∀ b o, b ≠ dx → s.heap.get? b = some o → h'.get? b = some o) → h'.Ns1 dx ((fs.zip vs).foldl (fun m0 p y => if y = p.1 then some p.2 else m0 y) mA) → Q .next { s with heap := h', toks := tk }) →
      wpAny (model prog w) A (execs sts env) Q E s := by
  induction h with
  | nil =>
    intro vs mA nl s Q hl hv hno hkd hdb X hn hLd hx hxd hns hw hz hdx hQ
    have : vs = [] := by simpa using hl
    subst this
    exact wpAny_execs_nil (hQ s.heap s.toks (fun _ _ _ e => e) hns)
  | @cons f fs sts q1 q2 q3 q4 r ih =>
    intro vs mA nl s Q hl hv hno hkd hdb X hn hLd hx hxd hns hw hz hdx hQ
    match vs, hl with
    | v :: vs, hl =>
      refine wpAny_execs_cons (plainObj_wpAny_Assign_Attribute ?_ (by rfl))
      refine wpAny_Name (wpAny_loadName_local hk (hkd f List.mem_cons_self) (by rw [hL]; exact hn) (hv (f, v) List.mem_cons_self) ?_) (hdb f List.mem_cons_self)
      refine wpAny_Name (wpAny_loadName_local hk hself (by rw [hL]; exact hn) hms ?_) (by decide)
      obtain ⟨oD, _, _, hoD, _, _⟩ := hns.count hw
      obtain ⟨hp, g, d, t, os⟩ := s
      refine set_plain X (ox := { cls := .ref C, dict := some dx, data := .fields #[.ref t1, .none, .none, .none, .bool false, .none] }) (od := some oD) ⟨hx, rfl, rfl, hoD⟩ sa ?_
      refine PySem.OEX.osa_old X hx hns hw (by rw [List.length_cons] at hz; omega) hcd hmr hh (hno f List.mem_cons_self) (fun h' tk' k hn' => ?_)
      have X' : K.In h' := fun a o e => k a o (fun z => by rw [z, hdx] at e; cases e) (X a o e)
      have hnL : h'.Ns L m := hn.at fun o q => k L o hLd q
      refine ih vs _ (f :: nl) ⟨h', g, d, tk', os⟩ Q (by simpa using hl) (fun p hp => hv p (List.mem_cons_of_mem _ hp)) (fun f' hf => hno f' (List.mem_cons_of_mem _ hf)) (fun f' hf => hkd f' (List.mem_cons_of_mem _ hf)) (fun f' hf => hdb f' (List.mem_cons_of_mem _ hf)) X' hnL hLd (k x _ hxd hx) hxd hn' (Within.cons f v hw) (by rw [List.length_cons] at hz ⊢; omega) hdx fun h2 tk2 k2 hn2 => ?_
      exact hQ h2 tk2 (fun b o hb e => k2 b o hb (k b o hb e)) hn2
end
end VL

set_option Elab.async false
set_option linter.all false
set_option maxRecDepth 100000
set_option maxHeartbeats 4000000
namespace VL
open PySem PySem.Spec PyProof.Rows L2 PySem.W
section
variable {prog : Program} {w : World} {A : Around} {E : Value → Shared → Prop} {R : Result → Shared → Prop}
/-- the dict's map behind the stores -/
def fmap (fs : List Str) (vs : List Value) : Str → Option Value := (fs.zip vs).foldl (fun m0 p y => if y = p.1 then some p.2 else m0 y) (fun _ => none)
theorem err_init {K : Frag} {C fI : Addr} {fs : List Str} {s : Shared} {mg mb : Str → Option Value} (T : ErrTxt prog K C fI fs) {x t0 : Addr} {vs : List Value} (X : K.In s.heap) (hlim : s.heap.NoLimit)
    (hmg : s.heap.Ns mainGlobals mg) (hms : mg "super" = none) (hmb : s.heap.Ns builtinsNs mb) (hbb : mb "super" = bootBuiltins "super") (hx : s.heap.get? x = some (PySem.HandSPX.excO C t0)) (hnx : K.lookup x = none)
    (hroom : A.depth < recursionLimit) (hl : vs.length = fs.length) (hf : ∀ v ∈ vs, FmtV v)
    (hq : ∀ h' tk dx t1, (∀ b o, b ≠ x → s.heap.get? b = some o → h'.get? b = some o) → h'.get? x = some { cls := .ref C, dict := some dx, data := .fields #[.ref t1, .none, .none, .none, .bool false, .none] } → s.heap.objs.size ≤ dx → dx ≠ x →
      h'.Ns1 dx (fmap fs vs) → R (.ok (.ret .none)) { s with heap := h', toks := tk }) :
    codeAny (model prog w) A (.call (.ref fI) ⟨.ref x :: vs, []⟩) R s := by
  obtain ⟨oc, od, name, qual, params, v1, v2, vr, p0, p1, p2, p3, p4, p5, sts, scope, doc, pm, an, cda, ct, cc, osl, ccl, cdd, cvs, ccs, file, tf, cl, cld, csl, ar, lk, hcd, hpt, hvr, hline, hst, hcode, hvs2, hfile, hcell, hhead, harg, hk, hco, hgen, hnoc, hks, hkc, hlocs, hbind⟩ := T.fn
  obtain ⟨nm, q, N, bs, bm, sn, sub, ab, col, dd, k0, k1, k2, k3, k5, hC, hbm⟩ := T.cls
  have hcl : clsIn K C = some { name := nm, bases := bs, mro := .ref C :: bm, ns := N, qualname := q, hasDict := true, slotNames := sn, subclasses := sub, abstract := ab, collection := col, hasDel := false } := by unfold clsIn; rw [hC] <;> rfl
  have hbl : (Value.ref x :: vs).length = (("self" : Str) :: fs).length := by simp [hl]
  have hz : ((("self" : Str) :: fs).zip (Value.ref x :: vs)) = (("self" : Str), Value.ref x) :: fs.zip vs := rfl
  -- the frame's map
  have look : ∀ (l : List (Str × Value)), (l.map (·.1)).Nodup → ∀ y v, (y, v) ∈ l → l.reverse.lookup y = some v := by
    intro l
    induction l with
    | nil => intro _ y v h; cases h
    | cons p l ih =>
      intro nd y v h
      rw [List.map_cons, List.nodup_cons] at nd
      rw [List.reverse_cons, List.lookup_append]
      rcases List.mem_cons.mp h with e | h
      · subst e
        have : l.reverse.lookup y = none := by
          rw [List.lookup_eq_none_iff]
          intro p hp
          simp only [bne_iff_ne, ne_eq]
          intro z
          exact nd.1 (by rw [z]; exact List.mem_map_of_mem (f := (·.1)) (List.mem_reverse.mp hp))
        rw [this]
        simp [List.lookup]
      · rw [ih nd.2 y v h]
        rfl
  have zmap : ((("self" : Str) :: fs).zip (Value.ref x :: vs)).map (·.1) = ("self" : Str) :: fs := by
    rw [List.map_fst_zip]
    omega
  have nd : (((("self" : Str) :: fs).zip (Value.ref x :: vs)).map (·.1)).Nodup := by rw [zmap]; exact T.nd
  refine ks_codeAny_call_defAt (body := _) (binds := (("self" : Str) :: fs).zip (Value.ref x :: vs)) hroom (X _ _ lk) rfl hlim (codeRec_of X hcd) rfl (BindsTo.of_eq (hbind _ hbl)) hnoc (fun y hy => hlocs y.1 (List.of_mem_zip hy).1) (fun h₁ hns kp => ?_) hco hgen hk
  have hself : ((("self" : Str) :: fs).zip (Value.ref x :: vs)).reverse.lookup ("self" : Str) = some (.ref x) := look _ nd _ _ (by rw [hz]; exact List.mem_cons_self)
  have hfl : ∀ p ∈ fs.zip vs, ((("self" : Str) :: fs).zip (Value.ref x :: vs)).reverse.lookup p.1 = some p.2 := fun p hp => look _ nd _ _ (by rw [hz]; exact List.mem_cons_of_mem _ hp)
  generalize hm : (fun y => ((("self" : Str) :: fs).zip (Value.ref x :: vs)).reverse.lookup y) = m at hns
  have hsM : m "self" = some (.ref x) := by rw [← hm]; exact hself
  have hfM : ∀ p ∈ fs.zip vs, m p.1 = some p.2 := fun p hp => by rw [← hm]; exact hfl p hp
  clear hself hfl hm
  have X1 : K.In h₁ := X.keeps kp
  have hxs : x < s.heap.objs.size := Heap.lt_size hx
  obtain ⟨h0, g, d, t, os⟩ := s
  simp only at hxs hns kp X1 hx hmg hmb ⊢
  generalize hL : h0.objs.size = L at hns hxs
  generalize henv : callEnv (ksFn name qual params (.Expr (.Call (.Attribute (.Call (.Name "super" p0) [] [] p1) "__init__" p2) [.JoinedStr (v1 :: v2 :: vr) p3] [] p4) p5 :: sts) scope .none .none doc pm an (.ref cda) ct cc) L fI = env
  have e_sc : env.scope = scope := by rw [← henv]; rfl
  have e_lc : env.locals = L := by rw [← henv]; rfl
  have e_gl : env.globals = mainGlobals := by rw [← henv]; rfl
  have e_bl : env.builtins = builtinsNs := by rw [← henv]; rfl
  have e_fu : env.func = some fI := by rw [← henv]; rfl
  have e_co : env.code = .ref cda := by rw [← henv]; rfl
  have e_ce : env.cells.lookup ("__class__" : Str) = some cc := by rw [← henv]; rfl
  have e_k : env.scope.kind = .function := by rw [e_sc]; exact hk
  have e_ks : env.kindOf "super" = some .globalImplicit := by unfold Env.kindOf; rw [e_sc]; exact hks
  have e_kc : env.kindOf "__class__" = some .free := by unfold Env.kindOf; rw [e_sc]; exact hkc
  have e_l : ∀ y ∈ ("self" : Str) :: fs, env.kindOf y = some .local := fun y hy => by unfold Env.kindOf; rw [e_sc]; exact hlocs y hy
  have e_int : interactive env = false := by simp [interactive, e_k]
  have hx1 : h₁.get? x = some (PySem.HandSPX.excO C t0) := kp _ _ hx
  have hbase : ∀ (Q : Value → Shared → Prop), (∀ h' so, (∀ b o, h₁.get? b = some o → h'.get? b = some o) → h'.get? so = some (ks_superObj C x C) → Q (.ref so) ⟨h', g, d, t + ((("self" : Str) :: fs).zip (Value.ref x :: vs)).length, os⟩) →
      _root_.PySem.wpAt (model prog w) (A.deeper env) (.func (.Expr (.Call (.Attribute (.Call (.Name "super" p0) [] [] p1) "__init__" p2) [.JoinedStr (v1 :: v2 :: vr) p3] [] p4) p5 :: sts) env) (attributeBase (.Call (.Name "super" p0) [] [] p1) "__init__" env (eval (.Call (.Name "super" p0) [] [] p1) env)) Q
        (fun e s' => wpAny (model prog w) (A.deeper env) (leaving env e) (fun _ s'' => R (.error e) s'') (fun e' s'' => R (.error e') s'') s') ⟨h₁, g, d, t + ((("self" : Str) :: fs).zip (Value.ref x :: vs)).length, os⟩ := by
    intro Q hQ
    refine ks_wpAt_super_base (env := env) e_ks e_kc (by decide) e_fu (X1 _ _ lk) rfl hhead e_co (X1 _ _ hcode) rfl hvs2 hfile T.top ?_
    refine ks_loadName_global e_k e_ks (Calls.loadGlobal_builtin (by rw [e_gl]; exact hmg.at fun o q => kp _ o q) hms (by rw [e_bl]; exact hmb.at fun o q => kp _ o q) (hbb.trans (show bootBuiltins "super" = some (.type "super") by decide +kernel)) ⟨rfl, ?_⟩)
    refine wpAny_loadName_free e_k e_kc e_ce ⟨_, X1 _ _ hcell, rfl⟩ ?_
    rw [harg]
    refine wpAny_loadName_local e_k (e_l _ List.mem_cons_self) (by rw [e_lc]; exact hns) hsM ?_
    have hD1 := X1 _ _ hC
    refine ks_wpAny_isType_cls hD1 rfl ⟨rfl, ?_⟩
    refine ks_wpAny_call_super hD1 rfl hx1 rfl (fun c e => by cases e) (looks_mroIn X1 T.mr) (fun h' e k => hQ h' _ k e)
  refine ks_wpAt_execs_cons (ks_wpAt_Expr_any ?_ e_int ?_)
  · rw [arm_eval_Call]
    refine PySem.wpAt_bind (hbase _ fun h2 so k2 hso => PySem.wpAt_of_wpAny (wpAny_bind (wpAny_standAt ?_)))
    have hform : methodCallForm (([.JoinedStr (v1 :: v2 :: vr) p3] : List Expr).length + ([] : List Keyword).length) (backTo p4 (starEach [.JoinedStr (v1 :: v2 :: vr) p3] env)) (backToKw p4 (keywordEach [] env)) = true := by rfl
    have hpos : methodCallPos true (.Call (.Name "super" p0) [] [] p1) env p2 p4 = pure p4 := by unfold methodCallPos; simp [hline]
    unfold methodCall
    rw [hform]
    refine wpAny_bind (wpAny_holding ?_)
    show wpAny _ _ (getMethod (.ref so) "__init__" _) _ _ _
    have X2 : K.In h2 := X1.keeps k2
    have hx2 := k2 _ _ hx1
    refine kxs_getMethod kxs_ValueError hso (looks_opaque X2 T.opq) (l₀ := .ref C :: bm) ?_ rfl X2 ?_ ?_ ?_ (by decide) ?_
    · exact fun A Q E s k q => wpAny_bind ((looks_clsIn X2 hcl) A _ E s k (wpAny_pure q))
    · have hs := T.sup
      unfold ks_superIn at hs
      rw [hcl] at hs
      exact hs
    · exact InstAt.type (ox := PySem.HandSPX.excO C t0) (od := none) ⟨hx2, rfl, rfl, trivial⟩ |>.andThen (looks_subIn X2 T.veC)
    · exact ks_ne X2 (ox := PySem.HandSPX.excO C t0) (odx := none) ⟨hx2, rfl, rfl, trivial⟩ hcl
    · refine wpAny_bind (wpAny_of_eq hpos ?_)
      show wpAny _ _ (callWith p4 (.ref h2.objs.size) [] (backTo p4 (starEach (.JoinedStr (v1 :: v2 :: vr) p3 :: []) env)) []) _ _ _
      have he : starEach (.JoinedStr (v1 :: v2 :: vr) p3 :: []) env = (false, eval (.JoinedStr (v1 :: v2 :: vr) p3) env) :: starEach [] env := by rfl
      rw [he]
      refine kxs_callWith (i := "ValueError.__init__") (x := x) rfl (Calls.evalArgs_plain ?_)
      show wpAny _ _ (spliced ((false, eval (.JoinedStr (v1 :: v2 :: vr) p3) env) :: backTo p4 (starEach [] env))) _ _ _
      have hmw : (h2.push (kxs_mw "ValueError.__init__" x)).get? h2.objs.size = some (kxs_mw "ValueError.__init__" x) := Heap.get?_push_size _ rfl
      have k3 : ∀ b o, h2.get? b = some o → (h2.push (kxs_mw "ValueError.__init__" x)).get? b = some o := fun b o e => Heap.get?_push_of_some _ e
      refine Calls.spliced_cons (wpAny_JoinedStr (joins_parts (fs := fs) (m := m) e_k (fun f hf => e_l f (List.mem_cons_of_mem _ hf)) T.dbg (fun f hf' => ?_) hpt Str.empty _ _ ?_ ?_ fun out tk ho => ⟨by rw [sizeLine_eq]; omega, Calls.spliced_nil ⟨hmw, ?_⟩⟩))
      · obtain ⟨i, hi, ei⟩ := List.getElem_of_mem hf'
        have hiv : i < vs.length := by rw [hl]; exact hi
        have hmem : (f, vs[i]) ∈ fs.zip vs := by
          rw [List.mem_iff_getElem]
          exact ⟨i, by rw [List.length_zip]; omega, by rw [List.getElem_zip, ei]⟩
        exact ⟨vs[i], hfM _ hmem, hf _ (List.getElem_mem hiv)⟩
      · rw [e_lc]; exact hns.at fun o q => k3 _ _ (k2 _ _ q)
      · show 0 + 200000 * (vr.length + 1 + 1) ≤ 10000000; omega
      · refine call_bwV (k3 _ _ (k2 _ _ (X1 _ _ hC))) (k3 _ _ hx2) hmw (by show 1 ≤ sizeLine; rw [sizeLine_eq]; omega) fun h4 t1 k4 hx4 => ?_
        refine PySem.wpAt_of_wpAny ?_
        have k04 : ∀ b o, b ≠ x → h0.get? b = some o → h4.get? b = some o := fun b o hb e => k4 b o hb (k3 _ _ (k2 _ _ (kp _ _ e)))
        have X4 : K.In h4 := fun b o e => k04 b o (fun z => by rw [z, hnx] at e; cases e) (X b o e)
        have hxL : x ≠ L := Nat.ne_of_lt hxs
        have hns4 : h4.Ns L m := hns.at fun o q => k4 L o (Ne.symm hxL) (k3 _ _ (k2 _ _ q))
        cases hst with
        | nil => exact absurd T.few.1 (by simp)
        | @cons f fs' sts' q1 q2 q3 q4 r =>
          obtain ⟨v, vs', rfl⟩ : ∃ v vs', vs = v :: vs' := by
            cases vs with
            | nil => simp at hl
            | cons v vs' => exact ⟨v, vs', rfl⟩
          refine wpAny_execs_cons (plainObj_wpAny_Assign_Attribute ?_ (by rfl))
          refine wpAny_Name (wpAny_loadName_local e_k (e_l f (List.mem_cons_of_mem _ List.mem_cons_self)) (by rw [e_lc]; exact hns4) (hfM (f, v) (show (f, v) ∈ (f, v) :: fs'.zip vs' from List.mem_cons_self)) ?_) (T.dbg f List.mem_cons_self)
          refine wpAny_Name (wpAny_loadName_local e_k (e_l _ List.mem_cons_self) (by rw [e_lc]; exact hns4) hsM ?_) (by decide)
          refine set_plain X4 (ox := PySem.HandSPX.excO C t1) (od := none) ⟨hx4, rfl, rfl, trivial⟩ T.sa ?_
          refine PySem.HandSPX.exc_osa X4 hx4 hcl (show PySem.HandSPX.refsVE (.ref C :: bm) = true from hbm) rfl (T.noF f List.mem_cons_self) (fun h5 tk5 dx k5 dn dne hx5 hn5 => ?_)
          have lt4 : L < h4.objs.size := hns4.lt
          have dn : h4.objs.size ≤ dx := dn
          have X5 : K.In h5 := fun b o e => k5 b o (fun z => by rw [z, hnx] at e; cases e) (X4 b o e)
          have hdx : K.lookup dx = none := by
            cases z : K.lookup dx with
            | none => rfl
            | some o => exact absurd (Heap.lt_size (X4 _ _ z)) (Nat.not_lt.mpr dn)
          have hLd : L ≠ dx := Nat.ne_of_lt (Nat.lt_of_lt_of_le lt4 dn)
          refine fields_old hcl (show PySem.HandSPX.refsVE (.ref C :: bm) = true from hbm) rfl T.sa e_k e_lc (e_l _ List.mem_cons_self) hsM r vs' _ [f] ⟨h5, g, d, tk5, os⟩ _ (by simpa using hl) (fun p hp => hfM p (List.mem_cons_of_mem _ hp)) (fun f' hf' => T.noF f' (List.mem_cons_of_mem _ hf')) (fun f' hf' => e_l f' (List.mem_cons_of_mem _ (List.mem_cons_of_mem _ hf'))) (fun f' hf' => T.dbg f' (List.mem_cons_of_mem _ hf'))
            X5 (hns4.at fun o q => k5 L o (Ne.symm hxL) q) hLd hx5 (Ne.symm dne) hn5 (fun y hy => ?_) (by have := T.few.2; rw [List.length_cons] at this; simp; omega) hdx fun h6 tk6 k6 hn6 => ?_
          · by_cases e : y = f
            · rw [e]; simp
            · rw [if_neg e] at hy; exact absurd rfl hy
          · exact hq h6 tk6 dx t1 (fun b o hb e => k6 b o (Nat.ne_of_lt (Nat.lt_of_lt_of_le (Nat.lt_trans (by rw [← hL]; exact Heap.lt_size e) lt4) dn)) (k5 b o hb (k04 b o hb e))) (k6 x _ (Ne.symm dne) hx5) (Nat.le_of_lt (Nat.lt_of_lt_of_le (by rw [hL]; exact lt4) dn)) dne hn6
  · rfl

structure ErrMade (fs : List Str) (vs : List Value) (h h' : Heap) (e C d : Addr) : Prop where
  keep : ∀ b o, h.get? b = some o → h'.get? b = some o
  new : h.objs.size ≤ e
  obj : ∃ oe xs, h'.get? e = some oe ∧ oe.cls = .ref C ∧ oe.dict = some d ∧ oe.data = .fields xs ∧ xs[1]? = some .none
  dbig : h.objs.size ≤ d
  dne : d ≠ e
  ns : h'.Ns1 d (fmap fs vs)
theorem err_made {K : Frag} {C fI : Addr} {fs : List Str} {s : Shared} {mg mb : Str → Option Value} (T : ErrTxt prog K C fI fs) {vs : List Value} (X : K.In s.heap) (hlim : s.heap.NoLimit)
    (hmg : s.heap.Ns mainGlobals mg) (hms : mg "super" = none) (hmb : s.heap.Ns builtinsNs mb) (hbb : mb "super" = bootBuiltins "super") (hroom : A.depth + 1 < recursionLimit) (hl : vs.length = fs.length) (hf : ∀ v ∈ vs, FmtV v)
    (hq : ∀ h' tk e d, ErrMade fs vs s.heap h' e C d → R (.ok (.ret (.ref e))) { s with heap := h', toks := tk }) :
    codeAny (model prog w) A (.call (.ref C) ⟨vs, []⟩) R s := by
  obtain ⟨nm, q, N, bs, bm, sn, sub, ab, col, dd, k0, k1, k2, k3, k5, hC, hbm⟩ := T.cls
  obtain ⟨hp, g, dr, tk, os⟩ := s
  have k : ∀ b o, hp.get? b = some o → ((hp.push (kdv_tup vs)).push (PySem.HandSPX.excO C hp.objs.size)).get? b = some o := fun b o e => Heap.get?_push_of_some _ (Heap.get?_push_of_some _ e)
  have hget : ((hp.push (kdv_tup vs)).push (PySem.HandSPX.excO C hp.objs.size)).get? (hp.objs.size + 1) = some (PySem.HandSPX.excO C hp.objs.size) := by heap_get
  have hnx : K.lookup (hp.objs.size + 1) = none := by
    cases e : K.lookup (hp.objs.size + 1) with
    | none => rfl
    | some o =>
      have z : hp.get? (hp.objs.size + 1) = some o := X _ _ e
      exact absurd (Nat.lt_of_succ_lt (Heap.lt_size z)) (Nat.lt_irrefl _)
  have hrest : vs.length ≤ sizeLine := by
    have := T.few.2
    rw [sizeLine_eq]; omega
  refine PySem.HandSPX.call_own F.excBase_ValueError (fun X => PySem.HandSPX.refsVE_contains X bm hbm) (X _ _ hC) (looks_findIn X T.iC) (fun self => bind_fn X self T.tC) hrest ?_
  refine err_init (s := ⟨(hp.push (kdv_tup vs)).push (PySem.HandSPX.excO C hp.objs.size), g, dr, tk, os⟩) T (X.keeps k) (hlim.keeps k) (hmg.at fun o e => k _ o e) hms (hmb.at fun o e => k _ o e) hbb hget hnx ?_ hl hf fun h' tk' dx t1 k' hx dn dne hns => ?_
  · show A.depth + 1 < recursionLimit
    exact hroom
  · have old : ∀ b o, hp.get? b = some o → h'.get? b = some o := fun b o e => k' b o (Nat.ne_of_lt (Nat.lt_succ_of_lt (Heap.lt_size e))) (k b o e)
    have z : hp.objs.size + 1 + 1 ≤ dx := by
      first
        | (simpa only [Heap.size_push] using dn)
        | exact dn
        | (have q := dn; rw [Heap.size_push, Heap.size_push] at q; exact q)
    exact ⟨rfl, hq h' tk' (hp.objs.size + 1) dx ⟨old, Nat.le_succ _, ⟨_, _, hx, rfl, rfl, rfl, rfl⟩, Nat.le_trans (Nat.le_trans (Nat.le_succ _) (Nat.le_succ _)) z, dne, hns⟩⟩
end

/-! ### raise C(e, ..) over data -/
def fmtD : D → Bool
  | .str y => decide (y.length ≤ 100000)
  | .int i => decide (i.natAbs.log2 < 1920)
  | _ => false
theorem fmt_of {K : PySem.W.Frag} {F : Hp} {v : V} {u : Value} {d : D} (h : Dp K F v d) (r : RelV v u) (f : fmtD d = true) : FmtV u := by
  cases d with
  | str y => cases h; obtain ⟨t, rfl⟩ := r; exact show y.length ≤ 100000 from of_decide_eq_true f
  | int i => cases h; obtain ⟨t, rfl⟩ := r; exact show i.natAbs.log2 < 1920 from of_decide_eq_true f
  | _ => cases f
theorem fmts_of {K : PySem.W.Frag} {F : Hp} : ∀ {vs : List V} {us : List Value} {ds : List D}, DpAll K F vs ds → Vals vs us → ds.all fmtD = true → ∀ u ∈ us, FmtV u
  | _, _, _, .nil, .nil, _ => fun u hu => by cases hu
  | _, _, _, .cons h t, .cons r rt, f => fun u hu => by
    rw [List.all_cons, Bool.and_eq_true] at f
    rcases List.mem_cons.mp hu with rfl | hu
    · exact fmt_of h r f.1
    · exact fmts_of t rt f.2 u hu
theorem relO_fmap (fs : List Str) : ∀ (vs : List V) (us : List Value) (acc : List (Str × V)) (mA : Str → Option Value), Vals vs us → (∀ f, RelO (acc.lookup f) (mA f)) →
    ∀ f, RelO (((fs.zip vs).reverse ++ acc).lookup f) ((fs.zip us).foldl (fun m0 p y => if y = p.1 then some p.2 else m0 y) mA f) := by
  induction fs with
  | nil => intro vs us acc mA r h f; simpa using h f
  | cons g fs ih =>
    intro vs us acc mA r h f
    cases r with
    | nil => simpa using h f
    | @cons v u vs us r1 r2 =>
      rw [List.zip_cons_cons, List.zip_cons_cons, List.reverse_cons, List.foldl_cons, List.append_assoc]
      exact ih vs us ((g, v) :: acc) _ r2 (relO_put r1 h) f
section
variable {X : Cx} {B : Bd} {W : WX} {e : Expr} {es : List Expr} {pos p : Pos}
def errFs (fs : List Str) (vs : List V) : List (Str × V) := (fs.zip vs).reverse
/-- C(e, ..) made to be raised -/
def tMkE (C : Addr) (fs : List Str) (ok : List V → Prop) (ta : TA) : L2.St → Hp → XK → Prop := fun σ H Q => ta σ H fun vs H1 => ok vs ∧ ∀ d, H1 d = none → Q (.ref C) (some d) (upd H1 d (.xd (errFs fs vs)))
theorem pmk_err {C fI : Addr} {fs : List Str} {x : Str} {k : Nat} {ta : TA} {ok : List V → Prop} (T : ErrTxt X.prog X.K C fI fs) (hm : X.mg x = some (.ref C)) (hms : X.mg "super" = none) (hr : Room k X.A) (ha : PA X (e :: es) ta)
    (hok : ∀ vs us, ok vs → Vals vs us → us.length = fs.length ∧ ∀ u ∈ us, FmtV u) (hg : Gl X x := by rfl) (hdb : (x == ("__debug__" : Str)) = false := by decide)
    (he : starEach (e :: es) X.env = (false, eval e X.env) :: starEach es X.env := by rfl) (hpl : (backTo pos (starEach es X.env)).any (·.1) = false := by rfl) :
    PMk X (.Call (.Name x p) (e :: es) [] pos) (tMkE C fs ok ta) := by
  intro pins s σ H Q I h
  refine wpAny_Call_Name_kw (ld_glob I hg hm ?_ hdb)
  refine PySem.W.callWith_K (h₀ := X.base) I.ok.mod.kin T.kC (thn (ha.run pos pins s σ H _ I h) fun us s1 hh => ?_) he hpl
  obtain ⟨vs, H1, I1, r1, okv, q1⟩ := hh
  refine ⟨I1.kIn, ?_⟩
  obtain ⟨hlen, hfm⟩ := hok vs us okv r1
  show wpAny _ _ (call (.ref C) us) _ _ _
  have hlim := I1.nolimit
  obtain ⟨mb, hb1, hb2⟩ := I1.mod.blt
  have hmg := I1.mod.glob.keeps I1.bk
  have hmb := hb1.keeps I1.bk
  obtain ⟨hp, g, dr, tk, os⟩ := s1
  refine wpAny_call (err_made T I1.kIn hlim hmg hms hmb (hb2 _ (by decide)) (by have := hr.dp; omega) hlen hfm fun h' tk' e d M => ?_)
  show MkP X pins σ Q (.ref e) ⟨h', g, dr, tk', os⟩
  obtain ⟨oe, fv, hoe, hc, hd, hdat, h1⟩ := M.obj
  have hns := M.ns
  obtain ⟨G', g1, g2⟩ := restrict h' fun b => decide (b ≠ e)
  have gk : ∀ b, b ≠ e → G'.get? b = h'.get? b := fun b hb => g1 b (decide_eq_true hb)
  have ge : G'.get? e = none := g2 e (by simp)
  have old : ∀ b o, hp.get? b = some o → G'.get? b = some o := fun b o q => (gk b (Nat.ne_of_lt (Nat.lt_of_lt_of_le (Heap.lt_size q) M.new))).trans (M.keep b o q)
  have ob : ObjOk X.prog X.w (upd H1 d (.xd (errFs fs vs))) G' d (.xd (errFs fs vs)) :=
    ⟨_, hns.at (fun o q => (gk d M.dne).trans q), fun f => by
      have z := relO_fmap fs vs us [] (fun _ => none) r1 (fun _ => True.intro) f
      rw [List.append_nil] at z
      exact z⟩
  have J : Inv X pins σ (upd H1 d (.xd (errFs fs vs))) ⟨G', g, dr, tk', os⟩ := I1.laid (t' := tk') old M.dbig ob
  refine ⟨e, oe, fv, ⟨G', g, dr, tk', os⟩, _, .ref C, some d, rfl, J, fun b o q => ?_, ge, hoe, ⟨hc, hd⟩, hdat, h1, ?_, rfl, I1.bare, raises_own T.exC T.tyC, q1 d (I1.hok.fresh M.dbig)⟩
  · by_cases hb : b = e
    · have q' : G'.get? b = some o := q
      rw [hb, ge] at q'; cases q'
    · exact (gk b hb).symm.trans q
  · rw [upd_ne (Ne.symm M.dne)]
    exact I1.hok.fresh M.new
def raiS (cls : Str) (fs : List Str) (fa : Rho → Res (List D)) (ρ : Rho) : Out := Res.out ρ (fa ρ) fun ds => if ds.all fmtD = true then .ex ⟨cls, (fs.zip ds).reverse⟩ ρ else .no
theorem fs_rel {K : PySem.W.Frag} {F : Hp} (fs : List Str) : ∀ {vs : List V} {ds : List D} (acc : List (Str × V)) (acd : List (Str × D)), DpAll K F vs ds → FsR K F acc acd → FsR K F ((fs.zip vs).reverse ++ acc) ((fs.zip ds).reverse ++ acd) := by
  induction fs with
  | nil => intro vs ds acc acd r h; simpa using h
  | cons g fs ih =>
    intro vs ds acc acd r h
    cases r with
    | nil => simpa using h
    | @cons v vs d ds r1 r2 =>
      rw [List.zip_cons_cons, List.zip_cons_cons, List.reverse_cons, List.reverse_cons, List.append_assoc, List.append_assoc]
      refine ih ((g, v) :: acc) ((g, d) :: acd) r2 fun f d' e => ?_
      by_cases hf : f = g
      · subst hf
        simp [List.lookup] at e ⊢
        subst e
        exact r1
      · have hb : (f == g) = false := by simpa using hf
        simp [List.lookup, hb] at e ⊢
        exact h f d' e
theorem ps_rai {C fI : Addr} {fs : List Str} {x : Str} {k : Nat} {pos2 : Pos} {fa : Rho → Res (List D)} (hc : X.calm = true) (T : ErrTxt X.prog X.K C fI fs) (hm : X.mg x = some (.ref C)) (hms : X.mg "super" = none) (hr : Room k X.A) (tk : Takes X W) (ha : PVA X B W (e :: es) fa)
    (hl : (e :: es).length = fs.length := by rfl) (hg : Gl X x := by rfl) (hdb : (x == ("__debug__" : Str)) = false := by decide)
    (he : starEach (e :: es) X.env = (false, eval e X.env) :: starEach es X.env := by rfl) (hpl : (backTo pos (starEach es X.env)).any (·.1) = false := by rfl) :
    PVS X B W (.Raise (some (.Call (.Name x p) (e :: es) [] pos)) none pos2) (raiS x fs fa) := by
  obtain ⟨t, h1, h2⟩ := ha.ex
  refine ⟨_, L2.ps_raise hc tk (pmk_err (ok := fun vs => ∃ F ds, DpAll X.K F vs ds ∧ ds.length = fs.length ∧ ds.all fmtD = true) T hm hms hr h1 (fun vs us ⟨F, ds, r, l, f⟩ rv => ⟨by rw [← rv.length, r.len, l], fmts_of r rv f⟩) hg hdb he hpl), fun ρ σ F H Z S q => h2 ρ σ F H _ S ?_⟩
  unfold raiS at q
  cases e : fa ρ with
  | no => rw [e] at q; exact q
  | ex e' => rw [e] at q; exact xok_of S q
  | ok ds =>
    rw [e] at q
    simp only [Res.ok_out] at q
    intro vs F1 H1 g1 r1
    by_cases hf : ds.all fmtD = true
    · rw [if_pos hf] at q
      refine ⟨⟨F1, ds, r1, (ha.len ρ ds e).trans hl, hf⟩, fun d hd => ?_⟩
      have g2 := Grow.new (o := .xd (errFs fs vs)) g1.fh hd (fun _ z => by cases z)
      refine q σ C d (errFs fs vs) _ _ (g1.trans g2).f (S.grow (g1.trans g2)) hm upd_same ?_
      have z := fs_rel (K := X.K) (F := upd F1 d (.xd (errFs fs vs))) fs [] [] (g2.f.dpAll _ _ r1) (fun f d e => by cases e)
      rw [List.append_nil, List.append_nil] at z
      exact z
    · rw [if_neg hf] at q; exact q.elim
end
end VL

set_option Elab.async false
set_option linter.all false
set_option maxRecDepth 100000
set_option maxHeartbeats 4000000
namespace VL
open PySem PySem.Spec PyProof.Rows L2

/-! ### try .. except X as n .., several clauses -/
/-- behind a clause with a name: the name is gone -/
def endG (D : Ends) (i : Nat) : Ends := { nx := fun σ' H' => D.nx (σ'.set i none) H', rt := D.rt, bk := fun σ' H' => D.bk (σ'.set i none) H', ct := fun σ' H' => D.ct (σ'.set i none) H' }
abbrev Cls3 := Value × Nat × (Addr → Value → Option Addr → TS)
def wAsM (K : PySem.W.Frag) (Wout : WX) (D : Ends) : List Cls3 → WX
  | [] => Wout
  | (c, i, ts) :: r => fun cls d σ H => ∃ b, PySem.W.exmOne K cls c = some b ∧ (b = true → ∀ a, H a = none → ts a cls d (endG D i) (σ.set i (some (.ref a))) H) ∧ (b = false → wAsM K Wout D r cls d σ H)
inductive HdsA (X : Cx) : List ExceptHandler → List Cls3 → Prop
  | nil : HdsA X [] []
  | cons {x n : Str} {c : Value} {i : Nat} {ts : Addr → Value → Option Addr → TS} {b₀ : Stmt} {suite : List Stmt} {np pos' : Pos} {hds : List ExceptHandler} {l : List Cls3} (hc : Names X x c) (hi : X.N[i]? = some n) (hln : X.env.kindOf n = some .local)
      (hsu : ∀ (a : Addr) (oe : Obj) (cls : Value) (d : Option Addr) (pn : List (Addr × Obj)), Zc cls d oe → (∃ vs, oe.data = .fields vs) → PSs (X.suite a ((a, oe) :: pn)) (b₀ :: suite) (ts a cls d)) (r : HdsA X hds l) :
      HdsA X (.ExceptHandler (some (.Name x np)) (some n) (b₀ :: suite) pos' :: hds) ((c, i, ts) :: l)
section
variable {X : Cx} {body : List Stmt} {h₀ : ExceptHandler} {hds : List ExceptHandler} {l : List Cls3} {pos : Pos} {tb : WX → TS} {Wout : WX}
theorem ps_try_asM (hs : X.stack = X.env :: X.outer) (hf : X.env.frame = some X.env.locals) (hN : X.N.Nodup) (tk : Takes X Wout)
    (hb : ∀ (W : WX) (pn : List (Addr × Obj)) (xe : Value → Shared → Prop), Takes (X.tr pn xe) W → PassesOwn (model X.prog X.w) X.A X.env xe → PSs (X.tr pn xe) body (tb W))
    (hh : HdsA X (h₀ :: hds) l) : PS X (.Try body (h₀ :: hds) [] [] pos) (fun D σ H => tb (wAsM X.K Wout D l) D σ H) := by
  refine ⟨fun pins s σ H D I h => ?_⟩
  have ok := I.ok
  have hfr : X.A.frames = some (X.env :: X.outer) := by rw [ok.frames, hs]
  refine wpAny_Try_except ?_
  refine wpAny_mono ((hb (wAsM X.K Wout D l) (X.pn ++ pins) (fun e s₁ => wpAny (model X.prog X.w) X.A (noteFrame e X.env) (fun _ s₂ => wpAny (model X.prog X.w) X.A (setFlight e none) (fun _ s₃ =>
    wpAny (model X.prog X.w) X.A (handleBy e X.env (h₀ :: hds)) (SP X pins D) X.xe s₃) X.xe s₂) X.xe s₁) (fun u s' xx => ?_) PassesOwn.looking).run [] s σ H D (I.toTry _) h) (fun f s1 hsp => ?_) (fun e s1 he => he)
  · obtain ⟨a, B, sI, pins', σ', H', cls, d, rfl, J', nb, up, sky, na, os, ag, w⟩ := xx
    have J : Inv X pins σ' H' sI := J'.ofTry ok
    have sky' : Sky B (X.env :: X.outer) a (Zc cls d) X.env.locals s'.heap := by rw [← hs]; exact sky
    show wpAny (model X.prog X.w) X.A (noteFrame (.ref a) X.env) _ _ _
    refine Sky.land Zc.steady hfr hf sky' fun h3 fl3 up3 => ?_
    have J3 : Inv X pins σ' H' { s' with heap := h3 } := J.landed nb fl3.1 (up.trans up3) os ag
    obtain ⟨oe3, vs3, he3, hz3, hd3⟩ := fl3.there
    have notFr : ∀ {h : Heap} {o : Obj} {vs : Array Value}, h.FunFrames B (X.env :: X.outer) → h.get? a = some o → o.data = .fields vs → a ∉ frs (X.env :: X.outer) := fun {h o vs} ff e dd hm => by
      obtain ⟨_, o', e', hnf⟩ := ff.mem hm
      rw [e] at e'; cases e'
      exact hnf _ dd
    have nfr := notFr fl3.2.2.1 he3 hd3
    have nL : a ≠ X.env.locals := fun z => nfr (List.mem_filterMap.mpr ⟨X.env, List.mem_cons_self, by rw [hf, z]⟩)
    have nF : a ∉ X.fs := fun hm => by
      obtain ⟨e, he, q⟩ := List.mem_filterMap.mp hm
      exact nfr (List.mem_filterMap.mpr ⟨e, List.mem_cons_of_mem _ he, q⟩)
    have S3 := J3.suite he3 hd3 na nL nF
    have go : ∀ {hds' : List ExceptHandler} {l' : List Cls3}, HdsA X hds' l' → wAsM X.K Wout D l' cls d σ' H' →
        wpAny (model X.prog X.w) X.A (handleBy (.ref a) X.env hds') (SP X pins D) X.xe { s' with heap := h3 } := by
      intro hds' l' hk
      induction hk with
      | nil =>
        intro w
        refine wpAny_handleBy_nil ?_
        obtain ⟨k1, k2, k3, oe, vs, T, oT, ts', he, hz, hd, h1, hr⟩ := id fl3
        unfold PySem.passOn
        refine wpAny_bind (wpAny_field he hd h1 ?_)
        rw [if_neg (show ¬ ((Value.ref T == Value.none) = true) from by simp)]
        have fin : wpAny (model X.prog X.w) X.A (setFlight (.ref a) X.env.frame) (fun _ s4 => wpAny (model X.prog X.w) X.A (throw (.ref a) : Sem Flow) (SP X pins D) X.xe s4) X.xe { s' with heap := h3 } := by
          rw [hf]
          refine HandSPX.setFlight_upZ fl3 fun h4 hh4 up4 => wpAny_throw (tk _ _ ?_)
          exact ⟨a, B, sI, pins, σ', H', cls, d, rfl, J, nb, (up.trans up3).trans up4, .inr (.inr (by rw [hs]; exact hh4)), na, os, ag, w⟩
        first
          | exact wpAny_bind (wpAny_pure (wpAny_bind fin))
          | exact wpAny_bind fin
      | @cons x n c i ts b₀ suite np pos' hds2 l2 hc hi hln hsu r ih =>
        intro w
        obtain ⟨b, hb1, hyes, hno⟩ := w
        refine wpAny_handleBy_cons (codeAny_handlers_test ?_) (by intro q; cases q)
        have LT : PySem.W.Looks (model X.prog X.w) h3 (typeOf (.ref a)) cls := fun A Q E s k q => wpAny_typeOf_ref (k _ _ he3) (by rw [hz3.1]; exact q)
        have LM := PySem.W.exm_one (M := model X.prog X.w) (J3.kIn) LT hb1
        have test : ∀ {Q : Value → Shared → Prop} {E : Value → Shared → Prop}, Q c { s' with heap := h3 } → wpAny (model X.prog X.w) (X.A.mark (some (.ref a))) (eval (.Name x np) X.env) Q E { s' with heap := h3 } := fun {Q E} q => by
          obtain ⟨hg, hdbg, hm | ⟨hm, hv, hnn⟩⟩ := hc
          · exact ld_glob (X := X.suite a ((a, oe3) :: (X.pn ++ pins))) S3 hg hm q hdbg
          · exact ld_blt (X := X.suite a ((a, oe3) :: (X.pn ++ pins))) S3 hg hm hv q hnn hdbg
        refine test (LM.here ?_)
        cases b with
        | true =>
          refine codeAny_handlers_suite_as ?_
          refine HandSPX.lands_againZ fl3 fun h4 fl4 up4 => ?_
          have J4 : Inv X pins σ' H' { s' with heap := h4 } := J.landed nb fl4.1 ((up.trans up3).trans up4) os ag
          obtain ⟨oe4, vs4, he4, hz4, hd4⟩ := fl4.there
          have S4 := J4.suite he4 hd4 na nL nF
          refine store_ok (X := X.suite a ((a, oe4) :: (X.pn ++ pins))) (v := .ref a) S4 hN hi (.inl hln) rfl (fun s5 S5 => ?_) (.inr hln)
          refine wpAny_mono ((hsu a oe4 cls d (X.pn ++ pins) hz4 ⟨_, hd4⟩).run [] s5 _ H' _ S5 (hyes rfl a na)) (fun f s6 hsp => ?_) (fun _ _ z => False.elim z)
          have end_ : ∀ {σ6 : L2.St} {H6 : Hp} {Q : Shared → Prop}, Inv (X.suite a ((a, oe4) :: (X.pn ++ pins))) [] σ6 H6 s6 → (∀ s7, Inv X pins (σ6.set i none) H6 s7 → Q s7) →
              wpAny (model X.prog X.w) X.A (do bindName X.env n .none; unbindBehindTheSuite X.env n pos') (fun _ s7 => Q s7) X.xe s6 := fun {σ6 H6 Q} S6 hq => gone_ok (S6.unsuite ok) hN hi hln hq
          cases f with
          | next =>
            obtain ⟨σ6, H6, S6, q6⟩ := hsp
            exact end_ S6 fun s7 J7 => ⟨_, _, J7, q6⟩
          | brk =>
            obtain ⟨σ6, H6, S6, q6⟩ := hsp
            exact end_ S6 fun s7 J7 => ⟨_, _, J7, q6⟩
          | cont =>
            obtain ⟨σ6, H6, S6, q6⟩ := hsp
            exact end_ S6 fun s7 J7 => ⟨_, _, J7, q6⟩
          | ret u =>
            obtain ⟨v6, σ6, H6, S6, r6, q6⟩ := hsp
            exact end_ S6 fun s7 J7 => ⟨_, _, _, J7, r6, q6⟩
        | false =>
          show wpAny _ X.A (handleBy (.ref a) X.env hds2) _ _ _
          exact ih (hno rfl)
    exact go hh w
  · cases f with
    | next =>
      obtain ⟨σ', H', J', q⟩ := hsp
      exact wpAny_execs_nil ⟨σ', H', J'.ofTry ok, q⟩
    | brk =>
      obtain ⟨σ', H', J', q⟩ := hsp
      exact ⟨σ', H', J'.ofTry ok, q⟩
    | cont =>
      obtain ⟨σ', H', J', q⟩ := hsp
      exact ⟨σ', H', J'.ofTry ok, q⟩
    | ret u =>
      obtain ⟨v, σ', H', J', r, q⟩ := hsp
      exact ⟨v, σ', H', J'.ofTry ok, r, q⟩
end

/-! ### .. by data -/
def clrE (ρ : Rho) : Rho := ρ.map fun o => match o with
  | some (.er _) => none
  | o => o
section
variable {X : Cx} {B : Bd} {W : WX} {f : Rho → Res D} {g : Rho → Out}
theorem clrE_some {ρ : Rho} {i : Nat} {lv : LV} (h : (clrE ρ)[i]? = some (some lv)) : ρ[i]? = some (some lv) ∧ ∀ e, lv ≠ .er e := by
  unfold clrE at h
  rw [List.getElem?_map] at h
  cases q : ρ[i]? with
  | none => rw [q] at h; cases h
  | some o =>
    rw [q] at h
    cases o with
    | none => cases h
    | some u =>
      cases u with
      | er e => cases h
      | fz d => cases h; exact ⟨rfl, fun e z => by cases z⟩
      | ow d => cases h; exact ⟨rfl, fun e z => by cases z⟩
theorem Sta.clr {K : PySem.W.Frag} {ρ : Rho} {σ : L2.St} {F H : Hp} (S : Sta K B ρ σ F H) (x : Option (Addr × Value × Option Addr)) (m : Str → Option Value) : Sta K { B with xi := x, mg := m } (clrE ρ) σ F H := by
  refine ⟨by unfold clrE; rw [List.length_map, S.len], S.g, fun i lv e => ?_, fun i j v ⟨di, oi⟩ ⟨dj, oj⟩ ei ej => S.dj i j v ⟨di, (clrE_some oi).1⟩ ⟨dj, (clrE_some oj).1⟩ ei ej⟩
  obtain ⟨e1, n⟩ := clrE_some e
  obtain ⟨v, h1, h2⟩ := S.sl i lv e1
  refine ⟨v, h1, ?_⟩
  cases lv with
  | er e' => exact absurd rfl (n e')
  | fz d => exact h2
  | ow d => exact h2
theorem Sta.setE {K : PySem.W.Frag} {ρ : Rho} {σ : L2.St} {F H : Hp} (S : Sta K B ρ σ F H) {i : Nat} {v : V} {e : Err} (h : Slot K B F H v (.er e)) : Sta K B (ρ.set i (some (.er e))) (σ.set i (some v)) F H := by
  have nw : ∀ j, Own (ρ.set i (some (.er e))) j → i ≠ j ∧ Own ρ j := fun j ⟨dj, oj⟩ => by
    have : i ≠ j := fun z => by
      subst z
      rw [List.getElem?_set] at oj
      simp only [if_true] at oj
      split at oj <;> simp at oj
    rw [List.getElem?_set_ne this] at oj
    exact ⟨this, dj, oj⟩
  refine ⟨by rw [List.length_set, List.length_set, S.len], S.g, fun j lv q => ?_, fun j k u oj ok ej ek => ?_⟩
  · rw [List.getElem?_set] at q
    by_cases hij : i = j
    · subst hij
      rw [if_pos rfl] at q
      split at q
      · cases q
        exact ⟨v, by rw [List.getElem?_set_self (by rw [← S.len]; assumption)], h⟩
      · cases q
    · rw [if_neg hij] at q
      obtain ⟨u, h1, h2⟩ := S.sl j lv q
      exact ⟨u, by rw [List.getElem?_set_ne hij]; exact h1, h2⟩
  · obtain ⟨nj, oj⟩ := nw j oj
    obtain ⟨nk, ok⟩ := nw k ok
    rw [List.getElem?_set_ne nj] at ej
    rw [List.getElem?_set_ne nk] at ek
    exact S.dj j k u oj ok ej ek
theorem Sta.setN {K : PySem.W.Frag} {ρ : Rho} {σ : L2.St} {F H : Hp} (S : Sta K B ρ σ F H) (i : Nat) : Sta K B (ρ.set i none) (σ.set i none) F H := by
  have nw : ∀ {j : Nat} {lv : LV}, (ρ.set i none)[j]? = some (some lv) → i ≠ j ∧ ρ[j]? = some (some lv) := fun {j lv} q => by
    have : i ≠ j := fun z => by
      subst z
      rw [List.getElem?_set] at q
      simp only [if_true] at q
      split at q <;> simp at q
    rw [List.getElem?_set_ne this] at q
    exact ⟨this, q⟩
  refine ⟨by rw [List.length_set, List.length_set, S.len], S.g, fun j lv q => ?_, fun j k u ⟨dj, oj⟩ ⟨dk, ok⟩ ej ek => ?_⟩
  · obtain ⟨n, q⟩ := nw q
    obtain ⟨u, h1, h2⟩ := S.sl j lv q
    exact ⟨u, by rw [List.getElem?_set_ne n]; exact h1, h2⟩
  · obtain ⟨nj, oj⟩ := nw oj
    obtain ⟨nk, ok⟩ := nw ok
    rw [List.getElem?_set_ne nj] at ej
    rw [List.getElem?_set_ne nk] at ek
    exact S.dj j k u ⟨dj, oj⟩ ⟨dk, ok⟩ ej ek
/-- the suite of a clause -/
def sxB (X : Cx) (B : Bd) (a : Addr) (cls : Value) (d : Option Addr) : Bd := { B with xi := some (a, cls, d), mg := X.mg }
def tsO (X : Cx) (B : Bd) (W : WX) (g : Rho → Out) : TS := fun Z σ H => ∃ ρ F, Sta X.K B ρ σ F H ∧ Post X B W F Z (g ρ)
theorem PVB.pss {st : List Stmt} (h : PVB X B W st g) : PSs X st (tsO X B W g) := by
  obtain ⟨t, h1, h2⟩ := h.ex
  exact ⟨fun pins s σ H Z I ⟨ρ, F, S, q⟩ => h1.run pins s σ H Z I (h2 ρ σ F H Z S q)⟩
/-- behind the suite -/
def behS (i : Nat) : Out → Out
  | .nx ρ => .nx ((clrE ρ).set i none)
  | .bk ρ => .bk ((clrE ρ).set i none)
  | .ct ρ => .ct ((clrE ρ).set i none)
  | .rt d => .rt d
  | _ => .no
/-- the clauses: the names of the classes that each takes, its slot, its suite -/
abbrev Hd3 := List Str × Nat × (Rho → Out)
def hdlS : List Hd3 → Err → Rho → Out
  | [], e, ρ => .ex e ρ
  | (ns, i, g) :: r, e, ρ => if ns.contains e.cls = true then behS i (g ((clrE ρ).set i (some (.er e)))) else hdlS r e ρ
structure PVH (X : Cx) (B : Bd) (W : WX) (all : List Str) (hds : List ExceptHandler) (hs : List Hd3) : Prop where
  ex : ∃ l, HdsA X hds l ∧ ∀ (e : Err) (ρ : Rho) (σ : L2.St) (C d : Addr) (fs : List (Str × V)) (F H : Hp) (Z : Ends), Sta X.K B ρ σ F H → X.mg e.cls = some (.ref C) → F d = some (.xd fs) → FsR X.K F fs e.fs → all.contains e.cls = true → Post X B W F Z (hdlS hs e ρ) →
    wAsM X.K W Z l (.ref C) (some d) σ H
theorem ph_nil {all : List Str} : PVH X B W all [] [] := ⟨[], .nil, fun e ρ σ C d fs F H Z S h1 h2 h3 h4 q => q σ C d fs F H (Sub.refl F) S h1 h2 h3⟩
theorem ph_cons {all ns : List Str} {x n : Str} {c : Value} {b₀ : Stmt} {suite : List Stmt} {np pos' : Pos} {hds : List ExceptHandler} {hs : List Hd3} (i : Nat) (hm : X.mg x = some c) (ex : ∀ nm C, all.contains nm = true → X.mg nm = some (.ref C) → PySem.W.exmOne X.K (.ref C) c = some (ns.contains nm))
    (hsu : ∀ (a : Addr) (oe : Obj) (cls : Value) (d : Option Addr) (pn : List (Addr × Obj)), Zc cls d oe → (∃ vs, oe.data = .fields vs) → PVB (X.suite a ((a, oe) :: pn)) (sxB X B a cls d) W0 (b₀ :: suite) g) (r : PVH X B W all hds hs)
    (hi : X.N[i]? = some n := by rfl) (hln : X.env.kindOf n = some .local := by rfl) (hg : Gl X x := by rfl) (hdb : (x == ("__debug__" : Str)) = false := by decide) :
    PVH X B W all (.ExceptHandler (some (.Name x np)) (some n) (b₀ :: suite) pos' :: hds) ((ns, i, g) :: hs) := by
  obtain ⟨l, l1, l2⟩ := r.ex
  refine ⟨(c, i, fun a cls d => tsO X (sxB X B a cls d) W0 g) :: l, .cons ⟨hg, hdb, .inl hm⟩ hi hln (fun a oe cls d pn hz hv => (hsu a oe cls d pn hz hv).pss) l1, fun e ρ σ C d fs F H Z S h1 h2 h3 h4 q => ?_⟩
  refine ⟨_, ex _ _ h4 h1, fun hb a ha => ?_, fun hb => ?_⟩
  · unfold hdlS at q
    rw [if_pos hb] at q
    refine ⟨_, F, (S.clr (some (a, .ref C, some d)) X.mg).setE ⟨a, C, d, fs, rfl, rfl, h1, h2, h3⟩, ?_⟩
    cases e2 : g ((clrE ρ).set i (some (.er e))) with
    | nx ρ' => rw [e2] at q; exact fun σ' F' H' s S' => q _ F' H' s ((S'.clr B.xi B.mg).setN i)
    | bk ρ' => rw [e2] at q; exact fun σ' F' H' s S' => q _ F' H' s ((S'.clr B.xi B.mg).setN i)
    | ct ρ' => rw [e2] at q; exact fun σ' F' H' s S' => q _ F' H' s ((S'.clr B.xi B.mg).setN i)
    | rt dd => rw [e2] at q; exact fun v ρ' σ' F' H' s S' r => q v _ σ' F' H' s (S'.clr B.xi B.mg) r
    | ex _ _ => rw [e2] at q; exact q.elim
    | no => rw [e2] at q; exact q.elim
  · unfold hdlS at q
    rw [if_neg (by rw [hb]; decide)] at q
    exact l2 e ρ σ C d fs F H Z S h1 h2 h3 h4 q
def tryS (all : List Str) (g : Rho → Out) (hs : List Hd3) (ρ : Rho) : Out := match g ρ with
  | .ex e ρ' => if all.contains e.cls = true then hdlS hs e ρ' else .no
  | o => o
theorem ps_try {all : List Str} {body : List Stmt} {h₀ : ExceptHandler} {hds : List ExceptHandler} {hs : List Hd3} {pos : Pos} (hN : X.N.Nodup) (tk : Takes X W)
    (hb : ∀ (W : WX) (pn : List (Addr × Obj)) (xe : Value → Shared → Prop), Takes (X.tr pn xe) W → PassesOwn (model X.prog X.w) X.A X.env xe → PVB (X.tr pn xe) B W body g) (hh : PVH X B W all (h₀ :: hds) hs)
    (hst : X.stack = X.env :: X.outer := by rfl) (hf : X.env.frame = some X.env.locals := by rfl) : PVS X B W (.Try body (h₀ :: hds) [] [] pos) (tryS all g hs) := by
  obtain ⟨l, l1, l2⟩ := hh.ex
  refine ⟨_, ps_try_asM (tb := fun W => tsO X B W g) hst hf hN tk (fun W pn xe t p => (hb W pn xe t p).pss) l1, fun ρ σ F H Z S q => ⟨ρ, F, S, ?_⟩⟩
  unfold tryS at q
  cases e : g ρ with
  | nx ρ' => rw [e] at q; exact q
  | bk ρ' => rw [e] at q; exact q
  | ct ρ' => rw [e] at q; exact q
  | rt d => rw [e] at q; exact q
  | no => rw [e] at q; exact q.elim
  | ex er ρ' =>
    rw [e] at q
    simp only at q
    split at q
    · rename_i hc
      exact fun σ' C d fs F' H' s S' h1 h2 h3 => l2 er ρ' σ' C d fs F' H' Z S' h1 h2 h3 hc (Post.mono s q)
    · exact q.elim
/-- n.f of the error that the suite holds -/
def xfV (nm : Str) (fl : Str) (i : Nat) (ρ : Rho) : Res D := match ρ[i]? with
  | some (some (.er e)) => if e.cls = nm then Res.of (e.fs.lookup fl) else .no
  | _ => .no
theorem pv_xf {a C : Addr} {oe : Obj} {cls : Value} {d : Option Addr} {pn : List (Addr × Obj)} {x nm fl : Str} {pos p2 : Pos} (i : Nat) (T : XfC X.K C) (hm : X.mg nm = some (.ref C)) (hno : PySem.W.findIn X.K (.ref C) fl = some none) (hz : Zc cls d oe) (hf : ∃ vs, oe.data = .fields vs)
    (hN : X.N[i]? = some x := by rfl) (hv : Vis X.env.scope x := by first | exact Or.inl rfl | exact Or.inr (Or.inl rfl) | exact Or.inr (Or.inr rfl)) (hd : (x == ("__debug__" : Str)) = false := by decide) (hcd : (x == ("__classdict__" : Str)) = false := by decide)
    (hb : attributeBase (.Name x p2) fl X.env (eval (.Name x p2) X.env) = eval (.Name x p2) X.env := by rfl) : PVE (X.suite a ((a, oe) :: pn)) (sxB X B a cls d) W (.Attribute (.Name x p2) fl pos) (xfV nm fl i) := by
  refine ⟨_, pe_xf T hno hz hf (pe_var (X := X.suite a ((a, oe) :: pn)) hN hv hd hcd) hb, fun ρ σ F H Q S q => ?_⟩
  unfold xfV at q
  split at q
  · rename_i e er
    split at q
    · rename_i hc
      obtain ⟨v, h1, h2⟩ := S.sl i _ er
      obtain ⟨a', C', dd, fs, hxi, rfl, h4, h5, h6⟩ := h2
      have e1 : (a, cls, d) = (a', Value.ref C', some dd) := Option.some.inj hxi
      cases e1
      have h4' : X.mg e.cls = some (.ref C') := h4
      rw [hc, hm] at h4'
      cases h4'
      cases e2 : e.fs.lookup fl with
      | none => rw [e2] at q; exact q.elim
      | some dv =>
        rw [e2] at q
        obtain ⟨w, k1, k2⟩ := h6 fl dv e2
        exact ⟨_, h1, rfl, rfl, dd, fs, w, rfl, S.fh.xd h5, k1, q w F H (.refl S.fh) k2⟩
    · exact q.elim
  · exact q.elim
end
end VL

set_option Elab.async false
set_option linter.all false
set_option maxRecDepth 100000
set_option maxHeartbeats 4000000
namespace VL
open PySem PySem.Spec PyProof.Rows L2

section
variable {X : Cx} {B : Bd} {W : WX} {a b c e : Expr} {es : List Expr} {fa fb fc f : Rho → Res D} {pos p : Pos}

/-! ### chains of comparisons -/
structure PCh (X : Cx) (ops : List CmpOp) (bs : List Expr) (t : V → L2.St → Hp → (Bool → Hp → Prop) → Prop) : Prop where
  tst : ∀ (pos : Pos) (pins : List (Addr × Obj)) (s : Shared) (σ : L2.St) (H : Hp) (x : V) (v : Value) (Q : Bool → Hp → Prop), Inv X pins σ H s → RelV x v → t x σ H Q → wpAny (model X.prog X.w) X.A (testChain pos v ops (evalEach bs X.env)) (TP X pins σ Q) X.xe s
  val : ∀ (pos : Pos) (pins : List (Addr × Obj)) (s : Shared) (σ : L2.St) (H : Hp) (x : V) (v : Value) (Q : Bool → Hp → Prop), Inv X pins σ H s → RelV x v → t x σ H Q → wpAny (model X.prog X.w) X.A (compareChain pos v ops (evalEach bs X.env)) (EP X pins σ fun y H => ∃ k, y = .bl k ∧ Q k H) X.xe s
theorem pch_last {op : CmpOp} {r : R2} {tb : TE} (ho : OpR X (compareOp op) r) (hb : PE X b tb) : PCh X [op] [b] (fun x σ H Q => tb σ H fun y H1 => r x y H1 fun z H2 => ∃ k, z = .bl k ∧ Q k H2) := by
  refine ⟨fun pos pins s σ H x v Q I rx h => ?_, fun pos pins s σ H x v Q I rx h => ?_⟩
  · refine test_last (thn (hb.run pins s σ H _ I h) fun u s1 ⟨y, H1, I1, r1, q1⟩ => thn (ho pins s1 σ H1 x y v u _ I1 rx r1 q1) fun d s2 ⟨z, H2, I2, r2, k, ez, q2⟩ => ?_)
    subst ez
    cases r2
    exact wpAny_truthy_bool ⟨H2, I2, q2⟩
  · exact chain_last (thn (hb.run pins s σ H _ I h) fun u s1 ⟨y, H1, I1, r1, q1⟩ => ho pins s1 σ H1 x y v u _ I1 rx r1 q1)
theorem pch_cons {op op' : CmpOp} {ops : List CmpOp} {b b' : Expr} {bs : List Expr} {r : R2} {tb : TE} {t : V → L2.St → Hp → (Bool → Hp → Prop) → Prop} (ho : OpR X (compareOp op) r) (hb : PE X b tb) (hr : PCh X (op' :: ops) (b' :: bs) t) :
    PCh X (op :: op' :: ops) (b :: b' :: bs) (fun x σ H Q => tb σ H fun y H1 => r x y H1 fun z H2 => ∃ k, z = .bl k ∧ if k = true then t y σ H2 Q else Q false H2) := by
  refine ⟨fun pos pins s σ H x v Q I rx h => ?_, fun pos pins s σ H x v Q I rx h => ?_⟩
  · refine test_link (thn (hb.run pins s σ H _ I h) fun u s1 ⟨y, H1, I1, r1, q1⟩ => thn (ho pins s1 σ H1 x y v u _ I1 rx r1 q1) fun d s2 ⟨z, H2, I2, r2, k, ez, q2⟩ => ?_)
    subst ez
    cases r2
    refine wpAny_truthy_bool ?_
    cases k with
    | true => exact ite_tt (hr.tst pos pins s2 σ H2 y u Q I2 r1 q2)
    | false => exact ite_ff ⟨H2, I2, q2⟩
  · refine chain_link (thn (hb.run pins s σ H _ I h) fun u s1 ⟨y, H1, I1, r1, q1⟩ => thn (ho pins s1 σ H1 x y v u _ I1 rx r1 q1) fun d s2 ⟨z, H2, I2, r2, k, ez, q2⟩ => ?_)
    subst ez
    cases r2
    refine wpAny_truthy_bool ?_
    cases k with
    | true => exact ite_tt (hr.val pos pins s2 σ H2 y u Q I2 r1 q2)
    | false => exact ite_ff ⟨.bl false, H2, I2, rfl, false, rfl, q2⟩
structure PVL (X : Cx) (B : Bd) (W : WX) (ops : List CmpOp) (bs : List Expr) (f : D → Rho → Res Bool) : Prop where
  ex : ∃ t, PCh X ops bs t ∧ ∀ ρ σ F H v d Q, Sta X.K B ρ σ F H → RdV X.K F H v d → EPt X W σ F H Q (f d ρ) → t v σ H Q
def lkL (fb : Rho → Res D) (g : D → D → Option Bool) (d : D) (ρ : Rho) : Res Bool := (fb ρ).bind fun y => Res.of (g d y)
def lkC (fb : Rho → Res D) (g : D → D → Option Bool) (h : D → Rho → Res Bool) (d : D) (ρ : Rho) : Res Bool := (fb ρ).bind fun y => (Res.of (g d y)).bind fun k => if k = true then h y ρ else .ok false
theorem lk_last {op : CmpOp} {r : R2} {g : D → D → Option Bool} (ho : OpR X (compareOp op) r) (hv : OpB X.K r g) (hb : PVR X B W b fb) : PVL X B W [op] [b] (lkL fb g) := by
  obtain ⟨tb, b1, b2⟩ := hb.ex
  refine ⟨_, pch_last ho b1, fun ρ σ F H v d Q S r0 q => b2 ρ σ F H _ S ?_⟩
  unfold lkL at q
  cases e : fb ρ with
  | no => rw [e] at q; exact q
  | ex e' => rw [e] at q; exact q
  | ok db =>
    rw [e] at q
    simp only [Res.ok_bind] at q
    intro y F1 H1 g1 r1
    cases e2 : g d db with
    | none => rw [e2] at q; exact q.elim
    | some k => rw [e2] at q; exact hv v y F1 H1 _ d db k g1.fh (r0.grow g1) r1 e2 fun F2 H2 g2 => ⟨k, rfl, q F2 H2 (g1.trans g2)⟩
theorem lk_cons {op op' : CmpOp} {ops : List CmpOp} {b' : Expr} {bs : List Expr} {r : R2} {g : D → D → Option Bool} {h : D → Rho → Res Bool} (ho : OpR X (compareOp op) r) (hv : OpB X.K r g) (hb : PVR X B W b fb) (hr : PVL X B W (op' :: ops) (b' :: bs) h) :
    PVL X B W (op :: op' :: ops) (b :: b' :: bs) (lkC fb g h) := by
  obtain ⟨tb, b1, b2⟩ := hb.ex
  obtain ⟨t, c1, c2⟩ := hr.ex
  refine ⟨_, pch_cons ho b1 c1, fun ρ σ F H v d Q S r0 q => b2 ρ σ F H _ S ?_⟩
  unfold lkC at q
  cases e : fb ρ with
  | no => rw [e] at q; exact q
  | ex e' => rw [e] at q; exact q
  | ok db =>
    rw [e] at q
    simp only [Res.ok_bind] at q
    intro y F1 H1 g1 r1
    cases e2 : g d db with
    | none => rw [e2] at q; exact q.elim
    | some k =>
      rw [e2] at q
      simp only [Res.of_some, Res.ok_bind] at q
      refine hv v y F1 H1 _ d db k g1.fh (r0.grow g1) r1 e2 fun F2 H2 g2 => ⟨k, rfl, ?_⟩
      cases k with
      | true => rw [if_pos rfl] at q ⊢; exact c2 ρ σ F2 H2 y db Q (S.grow (g1.trans g2)) (r1.grow g2) (EPt.grow (W := W) (X := X) (σ := σ) (g1.trans g2) q)
      | false => rw [if_neg (by decide)] at q ⊢; exact q F2 H2 (g1.trans g2)
def chnT (fa : Rho → Res D) (h : D → Rho → Res Bool) (ρ : Rho) : Res Bool := (fa ρ).bind fun x => h x ρ
theorem pt_chn {op₁ op₂ : CmpOp} {ops : List CmpOp} {r₁ r₂ : Expr} {rs : List Expr} {h : D → Rho → Res Bool} (ha : PVR X B W a fa) (hr : PVL X B W (op₁ :: op₂ :: ops) (r₁ :: r₂ :: rs) h)
    (hm : lastMarks (op₁ :: op₂ :: ops) (r₁ :: r₂ :: rs) = false := by with_unfolding_all rfl) : PVT X B W (.Compare a (op₁ :: op₂ :: ops) (r₁ :: r₂ :: rs) pos) (chnT fa h) := by
  obtain ⟨ta, a1, a2⟩ := ha.ex
  obtain ⟨t, c1, c2⟩ := hr.ex
  refine ⟨fun σ H Q => ta σ H fun x H1 => t x σ H1 Q, ⟨fun pins s σ H Q I z => isTrue_chain (thn (a1.run pins s σ H _ I z) fun v s1 ⟨x, H1, I1, r1, q1⟩ => c1.tst pos pins s1 σ H1 x v Q I1 r1 q1) hm⟩, fun ρ σ F H Q S q => a2 ρ σ F H _ S ?_⟩
  unfold chnT at q
  cases e : fa ρ with
  | no => rw [e] at q; exact q
  | ex e' => rw [e] at q; exact q
  | ok d => rw [e] at q; exact fun v F1 H1 g1 r1 => c2 ρ σ F1 H1 v d Q (S.grow g1) r1 (EPt.grow (W := W) (X := X) (σ := σ) g1 q)
theorem pv_chn {op₁ op₂ : CmpOp} {ops : List CmpOp} {r₁ r₂ : Expr} {rs : List Expr} {h : D → Rho → Res Bool} (ha : PVR X B W a fa) (hr : PVL X B W (op₁ :: op₂ :: ops) (r₁ :: r₂ :: rs) h)
    (hm : lastMarks (op₁ :: op₂ :: ops) (r₁ :: r₂ :: rs) = false := by with_unfolding_all rfl) : PVE X B W (.Compare a (op₁ :: op₂ :: ops) (r₁ :: r₂ :: rs) pos) (vB (chnT fa h)) := by
  obtain ⟨ta, a1, a2⟩ := ha.ex
  obtain ⟨t, c1, c2⟩ := hr.ex
  refine ⟨fun σ H Q => ta σ H fun x H1 => t x σ H1 fun k H2 => Q (.bl k) H2, ⟨fun pins s σ H Q I z => Compare_chain (thn (a1.run pins s σ H _ I z) fun v s1 ⟨x, H1, I1, r1, q1⟩ => thn (c1.val pos pins s1 σ H1 x v _ I1 r1 q1) fun u s2 ⟨y, H2, I2, r2, k, ey, q2⟩ => ⟨y, H2, I2, r2, by rw [ey]; exact q2⟩) hm⟩, fun ρ σ F H Q S q => a2 ρ σ F H _ S ?_⟩
  unfold vB chnT at q
  cases e : fa ρ with
  | no => rw [e] at q; exact q
  | ex e' => rw [e] at q; exact q
  | ok d =>
    rw [e] at q
    simp only [Res.ok_bind] at q
    intro v F1 H1 g1 r1
    refine c2 ρ σ F1 H1 v d _ (S.grow g1) r1 ?_
    cases e2 : h d ρ with
    | no => rw [e2] at q; exact q
    | ex e' => rw [e2] at q; exact XOk.grow g1 q
    | ok k => rw [e2] at q; exact fun F2 H2 g2 => q _ F2 H2 (g1.trans g2) (.bl k)

/-! ### new lists -/
theorem po_cat (ha : PVR X B W a fa) (hb : PVR X B W b fb) : PVO X B W (.BinOp a .Add b pos) (fun ρ => (fa ρ).bind fun x => (fb ρ).bind fun y => Res.of (dCat x y)) := by
  obtain ⟨ta, a1, a2⟩ := ha.ex
  obtain ⟨tb, b1, b2⟩ := hb.ex
  refine ⟨_, pe_op op_catS a1 b1, fun ρ σ F H Q S q => ?_⟩
  have grow : ∀ (F H F' H' : Hp) (r : Res (List D)), Grow F H F' H' → EPl X W σ F H Q r → EPl X W σ F' H' Q r := fun F H F' H' r g z => by
    cases r with
    | ok ds => exact fun a xs F2 H2 g2 h1 h2 h3 => z a xs F2 H2 (g.trans g2) h1 h2 (g.h.free h3)
    | ex e => exact XOk.grow g z
    | no => exact z
  refine two (Z := fun F H r => EPl X W σ F H Q r) (R := fun x y H => rCatS X.K x y H Q) (h := fun x y => Res.of (dCat x y)) S a2 b2 (fun _ _ _ z => z) (fun _ _ z => z) grow q fun x y da db F' H' gr r1 r2 z => ?_
  cases e : dCat da db with
  | none => rw [e] at z; exact z.elim
  | some ds =>
    rw [e] at z
    unfold dCat at e
    split at e
    · split at e
      · rename_i hl
        cases e
        obtain ⟨p1, xs, rfl, h1, r1⟩ := r1
        obtain ⟨p2, ys, rfl, h2, r2⟩ := r2
        exact ⟨p1, p2, xs, ys, rfl, rfl, h1, h2, by rw [r1.len, r2.len]; exact hl, fun p hp => z p _ F' _ ⟨Sub.refl F', upd_sub hp, gr.fh.trans (upd_sub hp), fun _ _ => rfl⟩ upd_same (gr.fh.free hp) hp (r1.append r2)⟩
      · cases e
    · cases e
def repO (f : Rho → Res (List D)) (fb : Rho → Res D) (ρ : Rho) : Res (List D) := (f ρ).bind fun ds => (fb ρ).bind fun y => match y with
  | .int k => if -(2 ^ 63) ≤ k ∧ k < 2 ^ 63 ∧ ds.length * k.toNat ≤ sizeLine then .ok (List.replicate k.toNat ds).flatten else .no
  | _ => .no
/-- [..] * n -/
theorem po_rep {f : Rho → Res (List D)} (ha : PVO X B W a f) (hb : PVR X B W b fb) : PVO X B W (.BinOp a .Mult b pos) (repO f fb) := by
  obtain ⟨ta, a1, a2⟩ := ha.ex
  obtain ⟨tb, b1, b2⟩ := hb.ex
  refine ⟨_, pe_op op_rep a1 b1, fun ρ σ F H Q S q => a2 ρ σ F H _ S ?_⟩
  unfold repO at q
  cases e : f ρ with
  | no => rw [e] at q; exact q
  | ex e' => rw [e] at q; exact q
  | ok ds =>
    rw [e] at q
    simp only [Res.ok_bind] at q
    intro p xs F1 H1 g1 h1 h2 h3 r1
    refine b2 ρ σ F1 H1 _ (S.grow g1) ?_
    cases e2 : fb ρ with
    | no => rw [e2] at q; exact q
    | ex e' => rw [e2] at q; exact XOk.grow g1 q
    | ok y =>
      rw [e2] at q
      simp only [Res.ok_bind] at q
      intro v F2 H2 g2 r2
      cases y with
      | int k =>
        simp only at q
        split at q
        · rename_i hk
          cases r2
          have g := g1.trans g2
          refine ⟨p, k, xs, rfl, rfl, g2.h.lst h1, hk.1, hk.2.1, by rw [r1.len]; exact hk.2.2, fun p' hp => ?_⟩
          exact q p' _ F2 _ ⟨g.f, g.h.trans (upd_sub hp), g.fh.trans (upd_sub hp), g.ag⟩ upd_same (g.fh.free hp) (g.h.free hp) ((g2.f.dpAll _ _ r1).flat k.toNat)
        · exact q.elim
      | _ => exact q.elim
/-- list(range(..)) -/
theorem rgV_dp {K : PySem.W.Frag} {F : Hp} (i j : Int) : DpAll K F (rgV i j) (rngD i (j - i).toNat) := by
  unfold rgV rngD
  induction (List.range (j - i).toNat) with
  | nil => exact .nil
  | cons k l ih => exact .cons (.int _) ih
instance (a b : Int) : Decidable (RgOk a b) := by unfold RgOk; infer_instance
def lrg1 (f : Rho → Res D) (ρ : Rho) : Res (List D) := (f ρ).bind fun d => match d with
  | .int n => if RgOk 0 n then .ok (rngD 0 n.toNat) else .no
  | _ => .no

theorem EPl.of_rg {σ : L2.St} {F H F1 H1 : Hp} {Q : VK} {i j : Int} (g1 : Grow F H F1 H1) (q : EPl X W σ F H Q (.ok (rngD i (j - i).toNat))) : ∀ p, H1 p = none → Q (.ref p) (upd H1 p (.lst (rgV i j))) := fun p hp =>
  q p _ F1 _ ⟨g1.f, g1.h.trans (upd_sub hp), g1.fh.trans (upd_sub hp), g1.ag⟩ upd_same (g1.fh.free hp) (g1.h.free hp) (rgV_dp i j)
theorem po_lrg1 {p2 pos2 : Pos} (hc : X.calm = true) (hm : X.mg "list" = none) (hm2 : X.mg "range" = none) (ha : PVR X B W a fa) (hg : Gl X "list" := by rfl) (hg2 : Gl X "range" := by rfl)
    (na : starEach [a] X.env = (false, eval a X.env) :: starEach [] X.env := by rfl) (na2 : starEach [.Call (.Name "range" p2) [a] [] pos2] X.env = (false, eval (.Call (.Name "range" p2) [a] [] pos2) X.env) :: starEach [] X.env := by rfl) :
    PVO X B W (.Call (.Name "list" p) [.Call (.Name "range" p2) [a] [] pos2] [] pos) (lrg1 fa) := by
  obtain ⟨ta, a1, a2⟩ := ha.ex
  refine ⟨_, pe_listRg hc hg hm (prg_1 hg2 hm2 a1 na) na2, fun ρ σ F H Q S q => a2 ρ σ F H _ S ?_⟩
  unfold lrg1 at q
  cases e : fa ρ with
  | no => rw [e] at q; exact q
  | ex e' => rw [e] at q; exact q
  | ok d =>
    rw [e] at q
    simp only [Res.ok_bind] at q
    intro v F1 H1 g1 r1
    cases d with
    | int n =>
      simp only at q
      split at q
      · rename_i hk
        cases r1
        refine ⟨n, rfl, hk, EPl.of_rg (i := 0) (j := n) g1 (by rw [Int.sub_zero]; exact q)⟩
      · exact q.elim
    | _ => exact q.elim
def lrg2 (f g : Rho → Res D) (ρ : Rho) : Res (List D) := (f ρ).bind fun d => (g ρ).bind fun e => match d, e with
  | .int i, .int j => if RgOk i j then .ok (rngD i (j - i).toNat) else .no
  | _, _ => .no
theorem po_lrg2 {p2 pos2 : Pos} (hc : X.calm = true) (hm : X.mg "list" = none) (hm2 : X.mg "range" = none) (ha : PVR X B W a fa) (hb : PVR X B W b fb) (hg : Gl X "list" := by rfl) (hg2 : Gl X "range" := by rfl)
    (na : starEach [a, b] X.env = (false, eval a X.env) :: starEach [b] X.env := by rfl) (nb : starEach [b] X.env = (false, eval b X.env) :: starEach [] X.env := by rfl) (hp : (backTo pos2 (starEach [b] X.env)).any (·.1) = false := by rfl)
    (na2 : starEach [.Call (.Name "range" p2) [a, b] [] pos2] X.env = (false, eval (.Call (.Name "range" p2) [a, b] [] pos2) X.env) :: starEach [] X.env := by rfl) :
    PVO X B W (.Call (.Name "list" p) [.Call (.Name "range" p2) [a, b] [] pos2] [] pos) (lrg2 fa fb) := by
  obtain ⟨ta, a1, a2⟩ := ha.ex
  obtain ⟨tb, b1, b2⟩ := hb.ex
  refine ⟨_, pe_listRg hc hg hm (prg_2 hg2 hm2 a1 b1 na nb hp) na2, fun ρ σ F H Q S q => a2 ρ σ F H _ S ?_⟩
  unfold lrg2 at q
  cases e : fa ρ with
  | no => rw [e] at q; exact q
  | ex e' => rw [e] at q; exact q
  | ok d =>
    rw [e] at q
    simp only [Res.ok_bind] at q
    intro v F1 H1 g1 r1
    refine b2 ρ σ F1 H1 _ (S.grow g1) ?_
    cases e2 : fb ρ with
    | no => rw [e2] at q; exact q
    | ex e' => rw [e2] at q; exact XOk.grow g1 q
    | ok d2 =>
      rw [e2] at q
      simp only [Res.ok_bind] at q
      intro v2 F2 H2 g2 r2
      cases d with
      | int i =>
        cases d2 with
        | int j =>
          simp only at q
          split at q
          · rename_i hk
            cases r1
            cases r2
            exact ⟨i, j, rfl, rfl, hk, EPl.of_rg (g1.trans g2) q⟩
          · exact q.elim
        | _ => exact q.elim
      | _ => exact q.elim
def sl1O (f : Rho → Res D) (l h : Rho → Res (Option Int)) (ρ : Rho) : Res (List D) := (f ρ).bind fun d => (l ρ).bind fun lo => (h ρ).bind fun hi => match d with
  | .list ds => .ok (cutD ds lo hi)
  | _ => .no
theorem po_slice {l h : Rho → Res (Option Int)} {lo hi : Option Expr} {p2 : Pos} (he : PVR X B W e f) (hl : PVP X B W lo l) (hh : PVP X B W hi h) : PVO X B W (.Subscript e (.Slice lo hi none p2) pos) (sl1O f l h) := by
  obtain ⟨t, h1, h2⟩ := he.ex
  obtain ⟨u, k1, k2⟩ := hl.ex
  obtain ⟨w, m1, m2⟩ := hh.ex
  refine ⟨_, pe_slice sl_list h1 k1 m1, fun ρ σ F H Q S q => h2 ρ σ F H _ S ?_⟩
  unfold sl1O at q
  cases e : f ρ with
  | no => rw [e] at q; exact q
  | ex e' => rw [e] at q; exact q
  | ok d =>
    rw [e] at q
    intro v F1 H1 g1 r1
    refine k2 ρ σ F1 H1 _ (S.grow g1) ?_
    cases e2 : l ρ with
    | no => rw [e2] at q; exact q
    | ex e' => rw [e2] at q; exact XOk.grow g1 q
    | ok lo =>
      rw [e2] at q
      intro F2 H2 g2
      refine m2 ρ σ F2 H2 _ (S.grow (g1.trans g2)) ?_
      cases e3 : h ρ with
      | no => rw [e3] at q; exact q
      | ex e' => rw [e3] at q; exact XOk.grow (g1.trans g2) q
      | ok hi =>
        rw [e3] at q
        intro F3 H3 g3
        have g := g1.trans (g2.trans g3)
        have r := r1.grow (g2.trans g3)
        cases d with
        | list ds =>
          obtain ⟨p, xs, rfl, h1, r⟩ := r
          exact ⟨p, xs, rfl, h1, fun b hb => q b _ F3 _ ⟨g.f, g.h.trans (upd_sub hb), g.fh.trans (upd_sub hb), g.ag⟩ upd_same (g.fh.free hb) (g.h.free hb) (cut_dp r lo hi)⟩
        | _ => exact q.elim
end

/-! ### sorted(x), x a list of alike data -/
def alikeB (ds : List D) : Bool := ds.all fun d => ds.all fun e => PySem.W.alike d e
def tupB : D → Bool
  | .tuple (_ :: _) => true
  | _ => false
def othB : D → Bool
  | .none => false
  | .tuple _ => false
  | _ => true
def sortB (ds : List D) : Bool := alikeB ds && (ds.all tupB || ds.all othB) && ds.all fun d => decide (d.depth ≤ 64)
theorem sortB_ok {ds : List D} (h : sortB ds = true) : PySem.W.AllAlike ds ∧ PySem.W.Sortable ds ∧ ∀ d ∈ ds, d.depth ≤ 64 := by
  unfold sortB at h
  rw [Bool.and_eq_true, Bool.and_eq_true] at h
  obtain ⟨⟨h1, h2⟩, h3⟩ := h
  refine ⟨fun d hd e he => ?_, ?_, fun d hd => ?_⟩
  · unfold alikeB at h1
    exact List.all_eq_true.mp (List.all_eq_true.mp h1 d hd) e he
  · rcases Bool.or_eq_true_iff.mp h2 with h2 | h2
    · refine .inl fun d hd => ?_
      have z := List.all_eq_true.mp h2 d hd
      cases d with
      | tuple xs => cases xs with
        | nil => cases z
        | cons x r => exact ⟨x, r, rfl⟩
      | _ => cases z
    · refine .inr fun d hd => ?_
      have z := List.all_eq_true.mp h2 d hd
      cases d <;> simp [othB] at z ⊢
  · have z := List.all_eq_true.mp h3 d hd
    exact of_decide_eq_true z
def srtD (ds : List D) : List D := ds.mergeSort (PySem.W.dataLe false fun d => d)
def dSort : D → Option (List D)
  | .list ds => if sortB ds = true ∧ ds.length ≤ sizeLine then some (srtD ds) else none
  | _ => none
def rSortD (K : PySem.W.Frag) : List V → Hp → VK → Prop := fun vs H Q => ∃ (a : Addr) (xs : List V) (ds : List D), vs = [V.ref a] ∧ SqL K H a xs ∧ DpAll K H xs ds ∧ sortB ds = true ∧ ds.length ≤ sizeLine ∧
  ∀ p, H p = none → Q (.ref p) (upd H p (.lst (((xs.zip ds).mergeSort (PySem.W.dataLe false (·.2))).map (·.1))))
theorem each_zip {β : Type} : ∀ {us : List Value} {xs : List V} {ds : List D}, Vals xs us → xs.length = ds.length → PySem.W.EachIs (fun (v : Value) (b : V × D) => RelV b.1 v) us (xs.zip ds)
  | _, _, [], .nil, _ => .nil
  | _, _, d :: ds, .cons r t, h => .cons r (each_zip (β := β) t (by simpa using h))
theorem each_vals : ∀ {out : List Value} {bs : List (V × D)}, PySem.W.EachIs (fun (v : Value) (b : V × D) => RelV b.1 v) out bs → Vals (bs.map (·.1)) out
  | _, _, .nil => .nil
  | _, _, .cons r t => .cons r (each_vals t)
theorem each_reads {h : Heap} : ∀ {us : List Value} {xs : List V} {ds : List D} {as : List Addr}, ReadsAll h us ds as → xs.length = ds.length → PySem.W.EachIs (fun (v : Value) (b : V × D) => ∃ as, Reads h v b.2 as) us (xs.zip ds)
  | _, [], _, _, .nil, _ => .nil
  | _, x :: xs, _, _, .cons r t, h => .cons ⟨_, r⟩ (each_reads t (by simpa using h))
section
variable {X : Cx}
theorem cr_sortD {k : Nat} (hr : Room k X.A) : CallR X (.builtin "sorted") (rSortD X.K) := by
  intro pins s σ H vs us Q I r h
  obtain ⟨a, xs, ds, rfl, hs, hd, hb, hl, q⟩ := h
  obtain ⟨its, rv, pl, _⟩ := I.list hs
  rw [Vals.ref1 r]
  obtain ⟨hal, hso, hde⟩ := sortB_ok hb
  obtain ⟨as, hrd⟩ := Dp.readsAll I ds xs its hd rv
  have hlen := hd.len
  have m2 : (xs.zip ds).map (·.2) = ds := List.map_snd_zip (by omega)
  refine PySem.W.sorted_data (enc := fun b : V × D => b.2) (R := fun (v : Value) (b : V × D) => RelV b.1 v) pl.isList (each_zip (β := Unit) rv hlen) (each_reads hrd hlen) (by rw [m2]; exact hal) (by rw [m2]; exact hso) (by rw [List.length_zip]; omega) (fun b hb => ?_) fun out h1 h2 => ?_
  · have z := hde b.2 (by rw [← m2]; exact List.mem_map_of_mem hb)
    have := hr.un
    omega
  · have hv := each_vals h2
    have e1 : ((xs.zip ds).mergeSort (PySem.W.dataLe false fun b : V × D => b.2)).length = ds.length := by rw [List.length_mergeSort, List.length_zip]; omega
    obtain ⟨ep, he'⟩ := PyProof.Rows.sortedAll_at s.heap its (List.toArray out)
    refine ⟨.ref _, upd H (s.heap.objs.size + 1) (.lst _), I.laid (t' := s.toks) (fun _ _ => PyProof.Rows.sortedAll_old) (Nat.le_succ _) ⟨?_, out, ep, hv, ?_⟩, rfl, q _ (I.hok.fresh (Nat.le_succ _))⟩
    · rw [List.length_map, e1]; exact hl
    · simpa using he'
theorem dpa_zip {K : PySem.W.Frag} {F : Hp} : ∀ {xs : List V} {ds : List D}, DpAll K F xs ds → ∀ b ∈ xs.zip ds, Dp K F b.1 b.2
  | _, _, .nil => fun b hb => by cases hb
  | _, _, .cons r t => fun b hb => by
    rcases List.mem_cons.mp (show b ∈ _ :: _ from hb) with rfl | hb
    · exact r
    · exact dpa_zip t b hb
theorem zip_dpa {K : PySem.W.Frag} {F : Hp} : ∀ (bs : List (V × D)), (∀ b ∈ bs, Dp K F b.1 b.2) → DpAll K F (bs.map (·.1)) (bs.map (·.2))
  | [], _ => .nil
  | b :: bs, h => .cons (h b List.mem_cons_self) (zip_dpa bs fun c hc => h c (List.mem_cons_of_mem _ hc))
theorem co_sort {K : PySem.W.Frag} : C1O K (rSortD K) dSort := by
  intro x F H Q a ds s ra e q
  unfold dSort at e
  split at e
  · rename_i ds0
    split at e
    · rename_i hk
      cases e
      obtain ⟨p, xs, rfl, h1, r1⟩ := ra
      refine ⟨p, xs, ds0, rfl, h1, s.dpAll _ _ r1, hk.1, hk.2, fun l hl => ?_⟩
      refine q l _ F _ ⟨Sub.refl F, upd_sub hl, s.trans (upd_sub hl), fun _ _ => rfl⟩ upd_same (s.free hl) hl ?_
      have z := zip_dpa (K := K) (F := F) ((xs.zip ds0).mergeSort (PySem.W.dataLe false (·.2))) fun b hb => dpa_zip r1 b (List.mem_mergeSort.mp hb)
      have e2 : ((xs.zip ds0).mergeSort (PySem.W.dataLe false (·.2))).map (·.2) = srtD ds0 := by
        have m2 : (xs.zip ds0).map (·.2) = ds0 := List.map_snd_zip (by rw [r1.len]; omega)
        have e3 := PySem.W.sort_maps (r := PySem.W.dataLe false fun b : V × D => b.2) (s := PySem.W.dataLe false fun d => d) (fun b : V × D => b.2) (l := xs.zip ds0) (fun _ _ _ _ => rfl)
        rw [m2] at e3
        exact e3
      rw [e2] at z
      exact z
    · cases e
  · cases e
end
end VL

set_option Elab.async false
set_option linter.all false
set_option maxRecDepth 100000
set_option maxHeartbeats 4000000
namespace VL
open PySem PySem.Spec PyProof.Rows L2

abbrev kI (i : Int) : Rho → Res D := fun _ => .ok (.int i)
abbrev kB (b : Bool) : Rho → Res D := fun _ => .ok (.bool b)
abbrev kS (x : Str) : Rho → Res D := fun _ => .ok (.str x)
abbrev kN : Rho → Res D := fun _ => .ok .none
abbrev nilA : Rho → Res (List D) := fun _ => .ok []
abbrev tT : Rho → Res Bool := fun _ => .ok true
abbrev noO : Rho → Res (Option Int) := fun _ => .ok none
abbrev catO (fa fb : Rho → Res D) : Rho → Res (List D) := fun ρ => (fa ρ).bind fun x => (fb ρ).bind fun y => Res.of (dCat x y)
abbrev vO (f : Rho → Res (List D)) : Rho → Res D := fun ρ => lstD (f ρ)

theorem bt_len : bootBuiltins "len" = some (.builtin "len") := by decide +kernel
theorem bt_sum : bootBuiltins "sum" = some (.builtin "sum") := by decide +kernel
theorem bt_max : bootBuiltins "max" = some (.builtin "max") := by decide +kernel
theorem bt_min : bootBuiltins "min" = some (.builtin "min") := by decide +kernel
theorem bt_abs : bootBuiltins "abs" = some (.builtin "abs") := by decide +kernel
theorem bt_isinstance : bootBuiltins "isinstance" = some (.builtin "isinstance") := by decide +kernel
theorem bt_sorted : bootBuiltins "sorted" = some (.builtin "sorted") := by decide +kernel
theorem bt_any : bootBuiltins "any" = some (.builtin "any") := by decide +kernel
theorem bt_all : bootBuiltins "all" = some (.builtin "all") := by decide +kernel
theorem bt_int : bootBuiltins "int" = some (.type "int") := by decide +kernel
theorem bt_bool : bootBuiltins "bool" = some (.type "bool") := by decide +kernel
theorem bt_str : bootBuiltins "str" = some (.type "str") := by decide +kernel
theorem bt_list : bootBuiltins "list" = some (.type "list") := by decide +kernel
theorem bt_tuple : bootBuiltins "tuple" = some (.type "tuple") := by decide +kernel
theorem bt_dict : bootBuiltins "dict" = some (.type "dict") := by decide +kernel
theorem bt_set : bootBuiltins "set" = some (.type "set") := by decide +kernel
theorem units65 {k : Nat} {A : Around} (r : Room k A) : A.units + 65 < cLine := by have := r.un; omega

section
variable {X : Cx} {B : Bd} {W : WX} {a b c e : Expr} {es : List Expr} {fa fb fc f : Rho → Res D} {pos : Pos}
/-- x, y, z = a, b, c -/
def parS3 (i j l : Nat) (g : Rho → Res (List D)) (ρ : Rho) : Out := Res.out ρ (g ρ) fun ds => match ds with
  | [d, d', d2] => .nx (((ρ.set i (some (.fz d))).set j (some (.fz d'))).set l (some (.fz d2)))
  | _ => .no
theorem ps_par3 (i j l : Nat) {x y z : Str} {g : Rho → Res (List D)} {px py pz pt : Pos} {kt k2 pt2} (hc : X.calm = true) (hN : X.N.Nodup) (hp : PVA X B W [a, b, c] g) (hi : X.N[i]? = some x := by rfl) (hj : X.N[j]? = some y := by rfl) (hl : X.N[l]? = some z := by rfl)
    (hij : i ≠ j := by decide) (hil : i ≠ l := by decide) (hjl : j ≠ l := by decide)
    (hx : X.env.scope.names.lookup x = some .local := by rfl) (hy : X.env.scope.names.lookup y = some .local := by rfl) (hz : X.env.scope.names.lookup z = some .local := by rfl)
    (hw : swappedStores [.Tuple [.Name x px, .Name y py, .Name z pz] kt pt] (.Tuple [a, b, c] k2 pt2) X.env = pure (some [x, y, z]) := by rfl)
    (hs : swapsWithSole [.Tuple [.Name x px, .Name y py, .Name z pz] kt pt] (.Tuple [a, b, c] k2 pt2) pos.line X.env = pure false := by rfl) :
    PVS X B W (.Assign [.Tuple [.Name x px, .Name y py, .Name z pz] kt pt] (.Tuple [a, b, c] k2 pt2) pos) (parS3 i j l g) := by
  obtain ⟨u, a1, a2⟩ := hp.ex
  refine ⟨_, L2.ps_par3 hc hN hi hj hl hij hil hjl hx hy hz a1 hw hs, fun ρ σ F H Z S q => a2 ρ σ F H _ S ?_⟩
  unfold parS3 at q
  cases e : g ρ with
  | no => rw [e] at q; exact q
  | ex e' => rw [e] at q; exact xok_of S q
  | ok ds =>
    rw [e] at q
    simp only [Res.ok_out] at q
    intro vs F1 H1 g1 r1
    match ds, q, r1 with
    | [d, d', d2], q, .cons r (.cons r' (.cons r2 .nil)) => exact ⟨_, _, _, rfl, q _ F1 H1 g1.f ((((S.grow g1).set r).set r').set r2)⟩
end
section
variable {K : PySem.W.Frag}
theorem kit_of {T : String} (h : ∀ U, U ∈ ["NoneType", "bool", "int", "str", "list", "tuple"] → L2.kitB U T = some (U == T || (T == "int" && U == "bool"))) : KitT K T := ⟨fun U hU => kit_ty (h U hU)⟩
theorem kit_int : KitT K "int" := kit_of (by decide +kernel)
theorem kit_bool : KitT K "bool" := kit_of (by decide +kernel)
theorem kit_str : KitT K "str" := kit_of (by decide +kernel)
theorem kit_list : KitT K "list" := kit_of (by decide +kernel)
theorem kit_tuple : KitT K "tuple" := kit_of (by decide +kernel)
end
section
variable {P : Program} {w : World} {K : PySem.W.Frag} {mg : Str → Option Value} {base : Heap}
theorem fn_no {x qual : Str} {st : Stmt} {f : Addr} {fd : FuncData} {N ps : List Str} {k n : Nat} {Ps : List Addr} (Fu : Fun K x qual st f fd) (S : FnScope N ps (defScope st)) (hn : n = ps.length) : FnOk P w K mg base (L2.CX P w) (k + 1) f fd ps (spV K mg Ps (fun _ => .no) n) := by
  refine Fu.okX S (fun vs H Q E h => by rw [spV_len h, hn]) fun cdv A outer s H vs Q E hr h => ?_
  obtain ⟨F, ds, _, _, _, _, q⟩ := h
  exact q.elim
end
/-! ### the end -/
section
variable {K : PySem.W.Frag}
theorem exm_of {C S : Addr} {b : Bool} (h1 : PySem.W.subIn K (.ref S) (.type "BaseException") = some true) (h2 : PySem.W.isClsIn K S = true) (h3 : PySem.W.typeIn K (.ref S) = some (.type "type")) (h4 : PySem.W.subIn K (.ref C) (.ref S) = some b) : PySem.W.exmOne K (.ref C) (.ref S) = some b := by
  unfold PySem.W.exmOne
  rw [h1]
  unfold PySem.W.isClsIn at h2
  simp [PySem.W.kitCls, h2, h3, h4]
theorem exm_eq {mg : Str → Option Value} {x : Str} {C C' : Addr} {c : Value} {b : Option Bool} (h1 : mg x = some (.ref C')) (h2 : mg x = some (.ref C)) (h : PySem.W.exmOne K (.ref C') c = b) : PySem.W.exmOne K (.ref C) c = b := by
  rw [h1] at h2
  cases h2
  exact h
theorem sup_of {C E N : Addr} {nm q : Str} {bs bm : List Value} {sn : List Str} {sub : List Value} {ab : Bool} {col : Option Bool} {dd : Option Addr} {m0 m1 m2 m3 m5 : Option Value} {t : String} {r : Option Value}
    (l : K.lookup C = some (excClassObj nm q C N bs bm true sn sub ab col dd m0 m1 m2 m3 m5 t)) {ce : ClassData} {c1 : Value} {d1 : Option Addr} {s1 : Array (Option Value)} (h1 : K.lookup E = some ⟨c1, d1, .cls ce, s1⟩) (h2 : ce.mro = bm) (h3 : PySem.W.findIn K (.ref E) "__init__" = some r) : PySem.W.ks_superIn K C C "__init__" = some r := by
  have h3' : (match K.lookup E with | some ⟨_, _, .cls cd, _⟩ => PySem.W.alongIn K "__init__" cd.mro | _ => none) = some r := h3
  rw [h1] at h3'
  have h4 : PySem.W.alongIn K "__init__" bm = some r := by rw [← h2]; exact h3'
  rw [← h4]
  unfold PySem.W.ks_superIn PySem.W.clsIn
  rw [l]
  show (Option.bind (some _) _) = _
  simp [excClassObj]
/-- the law's promise: true for every script -/
def spL (K : PySem.W.Frag) (Ps : List Addr) (g : List D → Res D) : Sp := fun vs H Q E => ∃ (a : Addr) (ns : List Int), vs = [.ref a] ∧ TabsOk Ps H ∧ SqL K H a (ns.map V.int) ∧ g [.list (ns.map .int)] = .ok (.bool true) ∧ ∀ H', Q (.bl true) H'
theorem spL_V {mg : Str → Option Value} {Ps : List Addr} {g : List D → Res D} {vs : List V} {H : Hp} {Q : VK} {E : XK} (h : spL K Ps g vs H Q E) : spV K mg Ps g 1 vs H Q E := by
  obtain ⟨a, ns, rfl, hT, hS, e, q⟩ := h
  refine ⟨H, [.list (ns.map .int)], .refl H, hT, .cons (.lst hS (ints_dpa ns)) .nil, rfl, ?_⟩
  rw [e]
  intro v F' H' g r
  cases r
  exact q H'
theorem spL_ok {g : List D → Res D} (h : ∀ ns : List Int, ns.length ≤ 63 → g [.list (ns.map .int)] = .ok (.bool true)) {Ps : List Addr} {a : Addr} {ns : List Int} {H : Hp} (hl : ns.length ≤ 63) (hT : TabsOk Ps H) (hS : SqL K H a (ns.map V.int)) : spL K Ps g [.ref a] H (fun v _ => v = .bl true) fun _ _ _ => False :=
  ⟨a, ns, rfl, hT, hS, h ns hl, fun _ => rfl⟩
theorem no_cx {P : Program} {w : World} {o : List Env} {H : Hp} {s s' : Shared} {e : Value} (h : L2.CX P w o H s (fun _ _ _ => False) e s') : False := by
  obtain ⟨_, _, _, _, _, _, _, _, _, _, _, _, z⟩ := h
  exact z
end
end VL

set_option Elab.async false
set_option linter.all false
set_option maxRecDepth 100000
set_option maxHeartbeats 4000000
namespace VL
open PySem PySem.Spec PyProof.Rows L2 PySem.W

/-! ### min, max of a list of alike data: the first of the least, of the greatest -/
def mmB (ds : List D) : Bool := alikeB ds && ds.all (fun d => match d with | .none => false | _ => true) && decide (PyData.depthAll ds ≤ 64)
theorem mmB_ok {ds : List D} (h : mmB ds = true) : AlikeAll ds ∧ PyData.depthAll ds ≤ 64 := by
  unfold mmB at h
  obtain ⟨h12, h3⟩ := Bool.and_eq_true_iff.mp h
  obtain ⟨h1, h2⟩ := Bool.and_eq_true_iff.mp h12
  refine ⟨⟨fun x hx y hy => List.all_eq_true.mp (List.all_eq_true.mp h1 x hx) y hy, fun x hx e => ?_⟩, of_decide_eq_true h3⟩
  have z := List.all_eq_true.mp h2 x hx
  rw [e] at z
  cases z
def rMM (K : PySem.W.Frag) (m : D → List D → D) : List V → Hp → VK → Prop := fun vs H Q => ∃ (a : Addr) (xs : List V) (d : D) (ds : List D), vs = [V.ref a] ∧ SqL K H a xs ∧ DpAll K H xs (d :: ds) ∧ mmB (d :: ds) = true ∧
  ∀ (i : Nat) (x : V), xs[i]? = some x → (d :: ds)[i]? = some (m d ds) → Q x H
theorem reads_get {h : Heap} : ∀ {us : List Value} {ds : List D} {as : List Addr} {i : Nat} {u : Value}, ReadsAll h us ds as → us[i]? = some u → ∃ d bs, ds[i]? = some d ∧ Reads h u d bs
  | _, _, _, 0, _, .cons r _, e => by cases e; exact ⟨_, _, rfl, r⟩
  | _, _, _, i + 1, _, .cons _ t, e => by
    obtain ⟨d, bs, h1, h2⟩ := reads_get (i := i) t (by simpa using e)
    exact ⟨d, bs, by simpa using h1, h2⟩
  | _, _, _, _, _, .nil, e => by simp at e
theorem vals_back : ∀ {xs : List V} {us : List Value} {i : Nat} {u : Value}, Vals xs us → us[i]? = some u → ∃ x, xs[i]? = some x ∧ RelV x u
  | _, _, 0, _, .cons r _, e => by cases e; exact ⟨_, rfl, r⟩
  | _, _, i + 1, _, .cons _ t, e => by
    obtain ⟨x, h1, h2⟩ := vals_back (i := i) t (by simpa using e)
    exact ⟨x, by simpa using h1, h2⟩
  | _, _, _, _, .nil, e => by simp at e
section
variable {X : Cx}
theorem cr_minA {k : Nat} (hr : Room k X.A) : CallR X (.builtin "min") (rMM X.K minD) := by
  intro pins s σ H vs us Q I r h
  obtain ⟨a, xs, d, ds, rfl, hs, hd, hb, q⟩ := h
  obtain ⟨its, rv, pl, _⟩ := I.list hs
  rw [Vals.ref1 r]
  obtain ⟨hal, hde⟩ := mmB_ok hb
  obtain ⟨as, hrd⟩ := Dp.readsAll I (d :: ds) xs its hd rv
  refine min_list_data hr.hd pl.isList (by simpa using hrd) hal (by have := hr.un; omega) fun i v h' tk bs hi hv hk => ?_
  have hi' : its[i]? = some v := by simpa using hi
  obtain ⟨x, hx, hxv⟩ := vals_back rv hi'
  obtain ⟨e, cs, he, hre⟩ := reads_get hrd hi'
  have e1 : minD d ds = e := (Reads.unique hv e cs (reads_keeps hk hre)).1
  exact ⟨x, H, I.kept hk, hxv, q i x hx (by rw [he, e1])⟩
theorem cr_maxA {k : Nat} (hr : Room k X.A) : CallR X (.builtin "max") (rMM X.K maxD) := by
  intro pins s σ H vs us Q I r h
  obtain ⟨a, xs, d, ds, rfl, hs, hd, hb, q⟩ := h
  obtain ⟨its, rv, pl, _⟩ := I.list hs
  rw [Vals.ref1 r]
  obtain ⟨hal, hde⟩ := mmB_ok hb
  obtain ⟨as, hrd⟩ := Dp.readsAll I (d :: ds) xs its hd rv
  refine max_list_data hr.hd pl.isList (by simpa using hrd) hal (by have := hr.un; omega) fun i v h' tk bs hi hv hk => ?_
  have hi' : its[i]? = some v := by simpa using hi
  obtain ⟨x, hx, hxv⟩ := vals_back rv hi'
  obtain ⟨e, cs, he, hre⟩ := reads_get hrd hi'
  have e1 : maxD d ds = e := (Reads.unique hv e cs (reads_keeps hk hre)).1
  exact ⟨x, H, I.kept hk, hxv, q i x hx (by rw [he, e1])⟩
end
def mmD (m : D → List D → D) : D → Option D
  | .list (d :: ds) => if mmB (d :: ds) = true then some (m d ds) else none
  | _ => none
abbrev dMinA : D → Option D := mmD minD
abbrev dMaxA : D → Option D := mmD maxD
theorem cv_mm {K : PySem.W.Frag} {m : D → List D → D} : C1V K (rMM K m) (mmD m) := by
  intro x F H Q a d s ra e q
  unfold mmD at e
  split at e
  · rename_i d0 ds0
    split at e
    · rename_i hb
      cases e
      obtain ⟨p, xs, rfl, h1, r1⟩ := ra
      refine ⟨p, xs, d0, ds0, rfl, h1, s.dpAll _ _ r1, hb, fun i y hy hd => ?_⟩
      obtain ⟨d', h2, h3⟩ := r1.get hy
      rw [hd] at h2
      cases h2
      exact q y F H (.refl s) h3
    · cases e
  · cases e
/-! the equations of these over ints -/
theorem alike_ints (ns : List Int) : mmB (ns.map .int) = true := by
  unfold mmB alikeB
  simp only [Bool.and_eq_true, List.all_eq_true, List.mem_map, forall_exists_index, and_imp, forall_apply_eq_imp_iff₂, decide_eq_true_eq]
  refine ⟨⟨fun a _ b _ => rfl, fun a _ => trivial⟩, ?_⟩
  have : ∀ l : List Int, PyData.depthAll (l.map .int) = 0 := by
    intro l
    induction l with
    | nil => simp [PyData.depthAll]
    | cons a l ih => simp [PyData.depthAll, PyData.depth, ih]
  rw [this]
  omega
theorem dMinA_ints (n : Int) (ns : List Int) : dMinA (.list (.int n :: ns.map .int)) = some (.int (ns.foldl min n)) := by
  show (if mmB ((n :: ns).map .int) = true then some (minD (.int n) (ns.map .int)) else none) = _
  rw [if_pos (alike_ints _), minD_ints]
theorem dMaxA_ints (n : Int) (ns : List Int) : dMaxA (.list (.int n :: ns.map .int)) = some (.int (ns.foldl max n)) := by
  show (if mmB ((n :: ns).map .int) = true then some (maxD (.int n) (ns.map .int)) else none) = _
  rw [if_pos (alike_ints _), maxD_ints]
end VL

set_option Elab.async false
set_option linter.all false
set_option maxRecDepth 100000
set_option maxHeartbeats 4000000
namespace VL
open PySem PySem.Spec PyProof.Rows L2

theorem sz_le {n : Nat} (h : n ≤ 1000000) : n ≤ sizeLine := Nat.le_trans h (by decide)
theorem sz_lt {n : Nat} (h : n < 1000000) : n < sizeLine := Nat.lt_of_lt_of_le h (by decide)
theorem sz0 : (0 ≤ sizeLine) = True := eq_true (by decide)
theorem sz1 : (1 ≤ sizeLine) = True := eq_true (by decide)
theorem sz2 : (2 ≤ sizeLine) = True := eq_true (by decide)
theorem sz3 : (3 ≤ sizeLine) = True := eq_true (by decide)
theorem sz4 : (4 ≤ sizeLine) = True := eq_true (by decide)
theorem sz5 : (5 ≤ sizeLine) = True := eq_true (by decide)
theorem sz6 : (6 ≤ sizeLine) = True := eq_true (by decide)
theorem sz7 : (7 ≤ sizeLine) = True := eq_true (by decide)
theorem sz8 : (8 ≤ sizeLine) = True := eq_true (by decide)
theorem sz9 : (9 ≤ sizeLine) = True := eq_true (by decide)

/-! ### products: their widths -/
def Wd (n : Nat) (i : Int) : Prop := i.natAbs < 2 ^ n
theorem Wd.mono {n m : Nat} {i : Int} (h : Wd n i) (k : n ≤ m) : Wd m i := Nat.lt_of_lt_of_le h (Nat.pow_le_pow_right (by decide) k)
theorem Wd.mul {n m : Nat} {i j : Int} (h : Wd n i) (k : Wd m j) : Wd (n + m) (i * j) := by
  unfold Wd at *
  rw [Int.natAbs_mul, Nat.pow_add]
  exact Nat.mul_lt_mul'' h k
theorem Wd.add {n m : Nat} {i j : Int} (h : Wd n i) (k : Wd m j) : Wd (n + m + 1) (i + j) := by
  unfold Wd at *
  have h1 : 2 ^ n ≤ 2 ^ (n + m) := Nat.pow_le_pow_right (by decide) (by omega)
  have h2 : 2 ^ m ≤ 2 ^ (n + m) := Nat.pow_le_pow_right (by decide) (by omega)
  rw [Nat.pow_succ]
  omega
theorem Wd.neg {n : Nat} {i : Int} (h : Wd n i) : Wd n (-i) := by unfold Wd at *; omega
theorem Wd.sub {n m : Nat} {i j : Int} (h : Wd n i) (k : Wd m j) : Wd (n + m + 1) (i - j) := by
  have := h.add k.neg
  rwa [← Int.sub_eq_add_neg] at this
theorem Wd.of {i : Int} (h1 : -1000000000000 ≤ i) (h2 : i ≤ 1000000000000) : Wd 40 i := by
  unfold Wd
  have : (2 : Nat) ^ 40 = 1099511627776 := by decide
  omega
theorem Wd.log {n : Nat} {i : Int} (h : Wd n i) : i.natAbs.log2 ≤ n := by
  by_cases c : i.natAbs = 0
  · rw [c]; simp
  · exact Nat.le_of_lt ((Nat.log2_lt c).mpr h)
theorem mulW {n m : Nat} {i j : Int} (h : Wd n i) (k : Wd m j) (q : n + m < 1000000 := by decide) : CMulW i j := by
  have := h.log
  have := k.log
  unfold CMulW
  omega
theorem dMul_w {n m : Nat} {i j : Int} (h : Wd n i) (k : Wd m j) (q : n + m < 1000000 := by decide) : dMul (.int i) (.int j) = some (.int (i * j)) := if_pos (mulW h k q)
theorem divW {n : Nat} {i j : Int} (h : 0 < j) (k : Wd n j) (q : n < 9000 := by decide) : CDivW i j := ⟨h, Nat.lt_of_le_of_lt k.log q⟩
theorem dDiv_w {n : Nat} {i j : Int} (h : 0 < j) (k : Wd n j) (q : n < 9000 := by decide) : dDiv (.int i) (.int j) = some (.int (i / j)) := if_pos (divW h k q)
theorem dMod_p {i j : Int} (h : 0 < j) : dMod (.int i) (.int j) = some (.int (i % j)) := if_pos h
/-- small numbers -/
theorem dMul_s {i j : Int} (h1 : -1000000000000 ≤ i) (h2 : i ≤ 1000000000000) (h3 : -1000000000000 ≤ j) (h4 : j ≤ 1000000000000) : dMul (.int i) (.int j) = some (.int (i * j)) := dMul_w (.of h1 h2) (.of h3 h4)
theorem dDiv_s {i j : Int} (h : 0 < j) (h4 : j ≤ 1000000000000) : dDiv (.int i) (.int j) = some (.int (i / j)) := dDiv_w h (.of (by omega) h4)

/-! ### places -/
theorem atI_nat {α : Type} {xs : List α} {n : Nat} (h : n < xs.length) : atI xs (n : Int) = xs[n]? := by
  unfold atI ixN
  rw [if_pos (by omega), if_pos (by omega)]
  simp
theorem atI_get {α : Type} {xs : List α} {i : Int} {n : Nat} {x : α} (h : i = n) (e : xs[n]? = some x) : atI xs i = some x := by
  subst h
  rw [atI_nat (List.getElem?_eq_some_iff.mp e).1, e]
theorem atI_last {α : Type} {xs : List α} {x : α} (e : xs.getLast? = some x) : atI xs (-1) = some x := by
  have hl : 0 < xs.length := by
    cases xs with
    | nil => simp at e
    | cons a l => simp
  unfold atI ixN
  rw [if_neg (by omega), if_pos (by omega)]
  have e2 : ((-1 : Int) + (xs.length : Nat)).toNat = xs.length - 1 := by omega
  simp only [Option.bind_some, e2]
  rw [← List.getLast?_eq_getElem?]
  exact e
theorem dIx_l {xs : List D} {i : Int} {n : Nat} {x : D} (h : i = n) (e : xs[n]? = some x) : dIx (.list xs) (.int i) = some x := atI_get h e
theorem dIx_t {xs : List D} {i : Int} {n : Nat} {x : D} (h : i = n) (e : xs[n]? = some x) : dIx (.tuple xs) (.int i) = some x := atI_get h e
theorem dIx_ll {xs : List D} {x : D} (e : xs.getLast? = some x) : dIx (.list xs) (.int (-1)) = some x := atI_last e
theorem dIx_tl {xs : List D} {x : D} (e : xs.getLast? = some x) : dIx (.tuple xs) (.int (-1)) = some x := atI_last e
/-- places of a display -/
theorem dIx_t0 {a : D} {l : List D} : dIx (.tuple (a :: l)) (.int 0) = some a := dIx_t (n := 0) rfl rfl
theorem dIx_t1 {a b : D} {l : List D} : dIx (.tuple (a :: b :: l)) (.int 1) = some b := dIx_t (n := 1) rfl rfl
theorem dIx_t2 {a b c : D} {l : List D} : dIx (.tuple (a :: b :: c :: l)) (.int 2) = some c := dIx_t (n := 2) rfl rfl
theorem dIx_t3 {a b c d : D} {l : List D} : dIx (.tuple (a :: b :: c :: d :: l)) (.int 3) = some d := dIx_t (n := 3) rfl rfl
theorem dIx_l0 {a : D} {l : List D} : dIx (.list (a :: l)) (.int 0) = some a := dIx_l (n := 0) rfl rfl
theorem dIx_l1 {a b : D} {l : List D} : dIx (.list (a :: b :: l)) (.int 1) = some b := dIx_l (n := 1) rfl rfl
theorem dIx_l2 {a b c : D} {l : List D} : dIx (.list (a :: b :: c :: l)) (.int 2) = some c := dIx_l (n := 2) rfl rfl
theorem dIx_l3 {a b c d : D} {l : List D} : dIx (.list (a :: b :: c :: d :: l)) (.int 3) = some d := dIx_l (n := 3) rfl rfl
theorem dIx_l4 {a b c d e : D} {l : List D} : dIx (.list (a :: b :: c :: d :: e :: l)) (.int 4) = some e := dIx_l (n := 4) rfl rfl
theorem dIx_l5 {a b c d e f : D} {l : List D} : dIx (.list (a :: b :: c :: d :: e :: f :: l)) (.int 5) = some f := dIx_l (n := 5) rfl rfl
theorem dIx_l6 {a b c d e f g : D} {l : List D} : dIx (.list (a :: b :: c :: d :: e :: f :: g :: l)) (.int 6) = some g := dIx_l (n := 6) rfl rfl
theorem dIx_l7 {a b c d e f g h : D} {l : List D} : dIx (.list (a :: b :: c :: d :: e :: f :: g :: h :: l)) (.int 7) = some h := dIx_l (n := 7) rfl rfl
theorem dIx_l8 {a b c d e f g h i : D} {l : List D} : dIx (.list (a :: b :: c :: d :: e :: f :: g :: h :: i :: l)) (.int 8) = some i := dIx_l (n := 8) rfl rfl

/-! ### loops -/
theorem forL_inv {t : D → Rho → Option Rho} {g : Rho → Out} (P : Nat → Rho → Prop) : ∀ (ds : List D) (k : Nat) (ρ : Rho), P k ρ →
    (∀ i d ρ, ds[i]? = some d → P (k + i) ρ → ∃ ρ1 ρ2, t d ρ = some ρ1 ∧ (g ρ1 = .nx ρ2 ∨ g ρ1 = .ct ρ2) ∧ P (k + i + 1) ρ2) → ∃ ρ', forL t g ds ρ = .nx ρ' ∧ P (k + ds.length) ρ'
  | [], k, ρ, h0, _ => ⟨ρ, rfl, h0⟩
  | d :: ds, k, ρ, h0, hs => by
    obtain ⟨ρ1, ρ2, h1, h2, h3⟩ := hs 0 d ρ rfl h0
    obtain ⟨ρ', h4, h5⟩ := forL_inv P ds (k + 1) ρ2 h3 fun i d' ρ3 e p => by
      have := hs (i + 1) d' ρ3 (by simpa using e) (by rw [show k + (i + 1) = k + 1 + i by omega]; exact p)
      rw [show k + (i + 1) + 1 = k + 1 + i + 1 by omega] at this
      exact this
    refine ⟨ρ', ?_, by rw [List.length_cons, show k + (ds.length + 1) = k + 1 + ds.length by omega]; exact h5⟩
    unfold forL
    rw [h1]
    rcases h2 with h2 | h2
    · simp only [h2]; exact h4
    · simp only [h2]; exact h4
theorem for_all {t : D → Rho → Option Rho} {g : Rho → Out} {fi : Rho → Res (List D)} (P : Nat → Rho → Prop) {ρ : Rho} {ds : List D} (hi : fi ρ = .ok ds) (h0 : P 0 ρ)
    (hs : ∀ i d ρ, ds[i]? = some d → P i ρ → ∃ ρ1 ρ2, t d ρ = some ρ1 ∧ (g ρ1 = .nx ρ2 ∨ g ρ1 = .ct ρ2) ∧ P (i + 1) ρ2) : ∃ ρ', forS fi t g ρ = .nx ρ' ∧ P ds.length ρ' := by
  unfold forS
  rw [hi]
  obtain ⟨ρ', h1, h2⟩ := forL_inv P ds 0 ρ h0 fun i d ρ e p => by rw [Nat.zero_add] at *; exact hs i d ρ e p
  exact ⟨ρ', h1, by rw [Nat.zero_add] at h2; exact h2⟩
/-- up to the k-th turn, which ends otherwise -/
def Out.stop : Out → Option Out
  | .nx _ => none
  | .ct _ => none
  | .bk ρ => some (.nx ρ)
  | o => some o
theorem forL_stop {t : D → Rho → Option Rho} {g : Rho → Out} (P : Nat → Rho → Prop) : ∀ (ds : List D) (k m : Nat) (ρ : Rho) (d : D) (o : Out), P k ρ → ds[m]? = some d →
    (∀ i d ρ, i < m → ds[i]? = some d → P (k + i) ρ → ∃ ρ1 ρ2, t d ρ = some ρ1 ∧ (g ρ1 = .nx ρ2 ∨ g ρ1 = .ct ρ2) ∧ P (k + i + 1) ρ2) →
    (∀ ρ, P (k + m) ρ → ∃ ρ1, t d ρ = some ρ1 ∧ (g ρ1).stop = some o) → forL t g ds ρ = o
  | d0 :: ds, k, 0, ρ, d, o, h0, e, _, he => by
    cases e
    obtain ⟨ρ1, h1, h2⟩ := he ρ h0
    unfold forL
    rw [h1]
    cases q : g ρ1 with
    | nx _ => rw [q] at h2; cases h2
    | ct _ => rw [q] at h2; cases h2
    | bk _ => rw [q] at h2; cases h2; simp only [q]
    | rt _ => rw [q] at h2; cases h2; simp only [q]
    | ex _ _ => rw [q] at h2; cases h2; simp only [q]
    | no => rw [q] at h2; cases h2; simp only [q]
  | d0 :: ds, k, m + 1, ρ, d, o, h0, e, hs, he => by
    obtain ⟨ρ1, ρ2, h1, h2, h3⟩ := hs 0 d0 ρ (by omega) rfl h0
    have h4 := forL_stop P ds (k + 1) m ρ2 d o h3 (by simpa using e) (fun i d' ρ3 hi e p => by
      have := hs (i + 1) d' ρ3 (by omega) (by simpa using e) (by rw [show k + (i + 1) = k + 1 + i by omega]; exact p)
      rw [show k + (i + 1) + 1 = k + 1 + i + 1 by omega] at this
      exact this) (fun ρ3 p => he ρ3 (by rw [show k + (m + 1) = k + 1 + m by omega]; exact p))
    unfold forL
    rw [h1]
    rcases h2 with h2 | h2
    · simp only [h2]; exact h4
    · simp only [h2]; exact h4
  | [], _, _, _, _, _, _, e, _, _ => by simp at e
theorem for_stop {t : D → Rho → Option Rho} {g : Rho → Out} {fi : Rho → Res (List D)} (P : Nat → Rho → Prop) {ρ : Rho} {ds : List D} {m : Nat} {d : D} {o : Out} (hi : fi ρ = .ok ds) (h0 : P 0 ρ) (hm : ds[m]? = some d)
    (hs : ∀ i d ρ, i < m → ds[i]? = some d → P i ρ → ∃ ρ1 ρ2, t d ρ = some ρ1 ∧ (g ρ1 = .nx ρ2 ∨ g ρ1 = .ct ρ2) ∧ P (i + 1) ρ2) (he : ∀ ρ, P m ρ → ∃ ρ1, t d ρ = some ρ1 ∧ (g ρ1).stop = some o) : forS fi t g ρ = o := by
  unfold forS
  rw [hi]
  exact forL_stop P ds 0 m ρ d o h0 hm (fun i d ρ hi e p => by rw [Nat.zero_add] at *; exact hs i d ρ hi e p) fun ρ p => by rw [Nat.zero_add] at p; exact he ρ p
/-- what the turn leaves -/
def OutQ (o : Out) (Q : Rho → Prop) : Prop := match o with
  | .nx ρ => Q ρ
  | .ct ρ => Q ρ
  | _ => False
theorem OutQ_nx {ρ : Rho} {Q : Rho → Prop} : OutQ (.nx ρ) Q = Q ρ := rfl
theorem OutQ_ct {ρ : Rho} {Q : Rho → Prop} : OutQ (.ct ρ) Q = Q ρ := rfl
theorem OutQ.ex {o : Out} {Q : Rho → Prop} (h : OutQ o Q) : ∃ ρ, (o = .nx ρ ∨ o = .ct ρ) ∧ Q ρ := by
  cases o with
  | nx ρ => exact ⟨ρ, .inl rfl, h⟩
  | ct ρ => exact ⟨ρ, .inr rfl, h⟩
  | _ => exact h.elim
theorem fors {t : D → Rho → Option Rho} {g : Rho → Out} {fi : Rho → Res (List D)} (P : Nat → Rho → Prop) {ρ : Rho} {ds : List D} (hi : fi ρ = .ok ds) (h0 : P 0 ρ)
    (hs : ∀ i d ρ, ds[i]? = some d → P i ρ → ∃ ρ1, t d ρ = some ρ1 ∧ OutQ (g ρ1) (P (i + 1))) : ∃ ρ', forS fi t g ρ = .nx ρ' ∧ P ds.length ρ' :=
  for_all P hi h0 fun i d ρ e p => by
    obtain ⟨ρ1, h1, h2⟩ := hs i d ρ e p
    obtain ⟨ρ2, h3, h4⟩ := h2.ex
    exact ⟨ρ1, ρ2, h1, h3, h4⟩
theorem fors_stop {t : D → Rho → Option Rho} {g : Rho → Out} {fi : Rho → Res (List D)} (P : Nat → Rho → Prop) (m : Nat) (d : D) (o : Out) {ρ : Rho} {ds : List D} (hi : fi ρ = .ok ds) (h0 : P 0 ρ) (hm : ds[m]? = some d)
    (hs : ∀ i d ρ, i < m → ds[i]? = some d → P i ρ → ∃ ρ1, t d ρ = some ρ1 ∧ OutQ (g ρ1) (P (i + 1))) (he : ∀ ρ, P m ρ → ∃ ρ1, t d ρ = some ρ1 ∧ (g ρ1).stop = some o) : forS fi t g ρ = o :=
  for_stop P hi h0 hm (fun i d ρ hl e p => by
    obtain ⟨ρ1, h1, h2⟩ := hs i d ρ hl e p
    obtain ⟨ρ2, h3, h4⟩ := h2.ex
    exact ⟨ρ1, ρ2, h1, h3, h4⟩) he
theorem rngD_get' {lo : Int} {n i : Nat} {d : D} (h : (rngD lo n)[i]? = some d) : i < n ∧ d = .int (lo + (i : Nat)) := by
  have hi : i < n := by
    have := (List.getElem?_eq_some_iff.mp h).1
    rwa [rngD_len] at this
  rw [rngD_get hi] at h
  exact ⟨hi, (Option.some.inj h).symm⟩
theorem p62 : (2 : Int) ^ 62 = 4611686018427387904 := by decide
theorem inR {j : Int} (h1 : -1000000000000 ≤ j) (h2 : j ≤ 1000000000000) : InR j := by
  unfold InR
  rw [p62]
  omega
theorem rng1_of {g : Rho → Res (List D)} {ρ : Rho} {j : Int} (n : Nat) (e : g ρ = .ok [.int j]) (h : j = n) (hn : n ≤ 1000000) : rng1 g ρ = .ok (rngD 0 n) := by
  have h2 : j.toNat = n := by omega
  unfold rng1
  rw [e]
  simp only [Res.ok_bind]
  rw [if_pos (inR (by omega) (by omega)), h2]
theorem rng2_of {g : Rho → Res (List D)} {ρ : Rho} {i j : Int} (n : Nat) (e : g ρ = .ok [.int i, .int j]) (h : (j - i).toNat = n) (h1 : -1000000000000 ≤ i) (h2 : i ≤ 1000000000000) (h3 : -1000000000000 ≤ j) (h4 : j ≤ 1000000000000) : rng2 g ρ = .ok (rngD i n) := by
  subst h
  unfold rng2
  rw [e]
  simp only [Res.ok_bind]
  rw [if_pos ⟨inR h1 h2, inR h3 h4⟩]
theorem seq_nx {g h : Rho → Out} {ρ ρ' : Rho} (e : g ρ = .nx ρ') : seqS g h ρ = h ρ' := by unfold seqS; rw [e]
theorem seq_rt {g h : Rho → Out} {ρ : Rho} {d : D} (e : g ρ = .rt d) : seqS g h ρ = .rt d := by unfold seqS; rw [e]
theorem seq_ex {g h : Rho → Out} {ρ ρ' : Rho} {e' : Err} (e : g ρ = .ex e' ρ') : seqS g h ρ = .ex e' ρ' := by unfold seqS; rw [e]
/-- comprehensions without tests -/
theorem lcL_map {t : D → Rho → Option Rho} {f : Rho → Res D} {ρ : Rho} (h : D → D) : ∀ (ds : List D), (∀ d ∈ ds, ∃ ρ1, t d ρ = some ρ1 ∧ f ρ1 = .ok (h d)) → lcL t tT f ρ ds = .ok (ds.map h)
  | [], _ => rfl
  | d :: ds, hs => by
    obtain ⟨ρ1, h1, h2⟩ := hs d List.mem_cons_self
    unfold lcL
    rw [h1]
    simp only [noX_ok, Res.ok_bind, if_true, h2, lcL_map h ds fun d' hd => hs d' (List.mem_cons_of_mem _ hd), List.map_cons]
theorem lcL_filt {t : D → Rho → Option Rho} {c : Rho → Res Bool} {f : Rho → Res D} {ρ : Rho} (p : D → Bool) (h : D → D) : ∀ (ds : List D), (∀ d ∈ ds, ∃ ρ1, t d ρ = some ρ1 ∧ c ρ1 = .ok (p d) ∧ (p d = true → f ρ1 = .ok (h d))) → lcL t c f ρ ds = .ok ((ds.filter p).map h)
  | [], _ => rfl
  | d :: ds, hs => by
    obtain ⟨ρ1, h1, h2, h3⟩ := hs d List.mem_cons_self
    have ih := lcL_filt p h ds fun d' hd => hs d' (List.mem_cons_of_mem _ hd)
    unfold lcL
    rw [h1]
    cases q : p d with
    | true => simp only [h2, noX_ok, Res.ok_bind, q, if_true, h3 q, ih, List.filter_cons_of_pos q, List.map_cons]
    | false => simp only [h2, noX_ok, Res.ok_bind, q, Bool.false_eq_true, if_false, ih, List.filter_cons, List.map_cons]
theorem lcV_map {fi : Rho → Res (List D)} {t : D → Rho → Option Rho} {f : Rho → Res D} {vs : List Nat} {ρ : Rho} {ds : List D} (h : D → D) (hi : fi ρ = .ok ds) (hl : ds.length ≤ 1000000) (hs : ∀ d ∈ ds, ∃ ρ1, t d (wipeR ρ vs) = some ρ1 ∧ f ρ1 = .ok (h d)) : lcV fi t tT f vs ρ = .ok (ds.map h) := by
  unfold lcV
  rw [hi]
  simp only [Res.ok_bind, if_pos (sz_le hl), lcL_map h ds hs, noX_ok]
theorem lcV_filt {fi : Rho → Res (List D)} {t : D → Rho → Option Rho} {c : Rho → Res Bool} {f : Rho → Res D} {vs : List Nat} {ρ : Rho} {ds : List D} (p : D → Bool) (h : D → D) (hi : fi ρ = .ok ds) (hl : ds.length ≤ 1000000) (hs : ∀ d ∈ ds, ∃ ρ1, t d (wipeR ρ vs) = some ρ1 ∧ c ρ1 = .ok (p d) ∧ (p d = true → f ρ1 = .ok (h d))) :
    lcV fi t c f vs ρ = .ok ((ds.filter p).map h) := by
  unfold lcV
  rw [hi]
  simp only [Res.ok_bind, if_pos (sz_le hl), lcL_filt p h ds hs, noX_ok]
/-! ### equations -/
theorem dAdd_ii {a b : Int} : dAdd (.int a) (.int b) = some (.int (a + b)) := rfl
theorem dAdd_ll {a b : List D} (h : a.length + b.length ≤ 1000000) : dAdd (.list a) (.list b) = some (.list (a ++ b)) := if_pos (sz_le h)
theorem dCat_ll {a b : List D} (h : a.length + b.length ≤ 1000000) : dCat (.list a) (.list b) = some (a ++ b) := if_pos (sz_le h)
theorem dSub_ii {a b : Int} : dSub (.int a) (.int b) = some (.int (a - b)) := rfl
theorem dNeg_i {a : Int} : dNeg (.int a) = some (.int (-a)) := rfl
theorem dLt_ii {a b : Int} : dLt (.int a) (.int b) = some (decide (a < b)) := rfl
theorem dLe_ii {a b : Int} : dLe (.int a) (.int b) = some (decide (a ≤ b)) := rfl
theorem dGt_ii {a b : Int} : dGt (.int a) (.int b) = some (decide (b < a)) := rfl
theorem dGe_ii {a b : Int} : dGe (.int a) (.int b) = some (decide (b ≤ a)) := rfl
theorem dIsN_n : dIsN .none .none = some true := rfl
theorem dIsN_i {a : Int} : dIsN (.int a) .none = some false := rfl
theorem dIsN_b {a : Bool} : dIsN (.bool a) .none = some false := rfl
theorem dIsN_s {a : Str} : dIsN (.str a) .none = some false := rfl
theorem dIsN_l {a : List D} : dIsN (.list a) .none = some false := rfl
theorem dIsN_t {a : List D} : dIsN (.tuple a) .none = some false := rfl
theorem dNotN_n : dNotN .none .none = some false := rfl
theorem dNotN_i {a : Int} : dNotN (.int a) .none = some true := rfl
theorem dNotN_s {a : Str} : dNotN (.str a) .none = some true := rfl
theorem dNotN_l {a : List D} : dNotN (.list a) .none = some true := rfl
theorem dNotN_t {a : List D} : dNotN (.tuple a) .none = some true := rfl
theorem dLen_l {a : List D} : dLen (.list a) = some (.int a.length) := rfl
theorem dLen_t {a : List D} : dLen (.tuple a) = some (.int a.length) := rfl
theorem dAbs_i {a : Int} : dAbs (.int a) = some (.int (if a < 0 then -a else a)) := rfl
theorem dMax2_ii {i j : Int} : dMax2 (.int i) (.int j) = some (.int (if j > i then j else i)) := rfl
theorem dMin2_ii {i j : Int} : dMin2 (.int i) (.int j) = some (.int (if j < i then j else i)) := rfl
theorem dList_l {a : List D} : dList (.list a) = some a := rfl
theorem dList_t {a : List D} : dList (.tuple a) = some a := rfl
theorem dTup_l {a : List D} : dTup (.list a) = some (.tuple a) := rfl
theorem dTup_t {a : List D} : dTup (.tuple a) = some (.tuple a) := rfl
theorem dAddI_ii {a b : Int} : dAddI (.int a) (.int b) = some (.int (a + b)) := rfl
theorem dIter_l {a : List D} : dIter (.list a) = some a := rfl
theorem dIter_t {a : List D} : dIter (.tuple a) = some a := rfl
theorem tyName_n : tyName .none = "NoneType" := rfl
theorem tyName_i {a : Int} : tyName (.int a) = "int" := rfl
theorem tyName_b {a : Bool} : tyName (.bool a) = "bool" := rfl
theorem tyName_s {a : Str} : tyName (.str a) = "str" := rfl
theorem tyName_l {a : List D} : tyName (.list a) = "list" := rfl
theorem tyName_t {a : List D} : tyName (.tuple a) = "tuple" := rfl
theorem ty_ii : ("int" == "int") = true := by decide
theorem ty_bb : ("bool" == "bool") = true := by decide
theorem ty_ib : ("int" == "bool") = false := by decide
theorem ty_bi : ("bool" == "int") = false := by decide
theorem ty_si : ("str" == "int") = false := by decide
theorem ty_sb : ("str" == "bool") = false := by decide
theorem ty_ni : ("NoneType" == "int") = false := by decide
theorem ty_nb : ("NoneType" == "bool") = false := by decide
theorem ty_is : ("int" == "str") = false := by decide
theorem ty_ss : ("str" == "str") = true := by decide
theorem ty_ti : ("tuple" == "int") = false := by decide
theorem ty_tb : ("tuple" == "bool") = false := by decide
theorem ty_ts : ("tuple" == "str") = false := by decide
theorem ty_tt : ("tuple" == "tuple") = true := by decide
theorem ty_tl : ("tuple" == "list") = false := by decide
theorem ty_li : ("list" == "int") = false := by decide
theorem ty_lb : ("list" == "bool") = false := by decide
theorem ty_ls : ("list" == "str") = false := by decide
theorem ty_lt : ("list" == "tuple") = false := by decide
theorem ty_ll : ("list" == "list") = true := by decide
/-! ### evaluation, each step only when its parts are known -/
section
variable {ρ ρ' : Rho} {g h : Rho → Out} {t t2 : Rho → Res Bool} {f f2 : Rho → Res D} {fs : Rho → Res (List D)} {d d2 d3 : D} {ds : List D} {e : Err} {k : Bool} {i j l : Nat} {op : D → D → Option D} {ob : D → D → Option Bool} {ou : D → Option D} {oo : D → Option (List D)}
def contS (o : Out) (h : Rho → Out) : Out := match o with
  | .nx ρ => h ρ
  | o => o
theorem seqS_e : seqS g h ρ = contS (g ρ) h := rfl
theorem contS_nx : contS (.nx ρ) h = h ρ := rfl
theorem contS_rt : contS (.rt d) h = .rt d := rfl
theorem contS_ex : contS (.ex e ρ) h = .ex e ρ := rfl
theorem contS_ct : contS (.ct ρ) h = .ct ρ := rfl
theorem contS_bk : contS (.bk ρ) h = .bk ρ := rfl
def iteS (r : Res Bool) (g h : Rho → Out) (ρ : Rho) : Out := Res.out ρ r fun k => if k = true then g ρ else h ρ
theorem ifS_e : ifS t g h ρ = iteS (t ρ) g h ρ := rfl
theorem iteS_t : iteS (.ok true) g h ρ = g ρ := rfl
theorem iteS_f : iteS (.ok false) g h ρ = h ρ := rfl
theorem iteS_x : iteS (.ex e) g h ρ = .ex e ρ := rfl
def retR (r : Res D) (ρ : Rho) : Out := Res.out ρ r .rt
theorem retS_e : retS f ρ = retR (f ρ) ρ := rfl
theorem retR_ok : retR (.ok d) ρ = .rt d := rfl
theorem retR_ex : retR (.ex e) ρ = .ex e ρ := rfl
def expR (r : Res D) (ρ : Rho) : Out := Res.out ρ r fun _ => .nx ρ
theorem expS_e : expS f ρ = expR (f ρ) ρ := rfl
theorem expR_ok : expR (.ok d) ρ = .nx ρ := rfl
theorem expR_ex : expR (.ex e) ρ = .ex e ρ := rfl
def asgR (i : Nat) (r : Res D) (ρ : Rho) : Out := Res.out ρ r fun d => .nx (ρ.set i (some (.fz d)))
theorem asgS_e : asgS i f ρ = asgR i (f ρ) ρ := rfl
theorem asgR_ok : asgR i (.ok d) ρ = .nx (ρ.set i (some (.fz d))) := rfl
theorem asgR_ex : asgR i (.ex e) ρ = .ex e ρ := rfl
def asgOR (i : Nat) (r : Res (List D)) (ρ : Rho) : Out := Res.out ρ r fun ds => .nx (ρ.set i (some (.ow ds)))
theorem asgO_e : asgO i fs ρ = asgOR i (fs ρ) ρ := rfl
theorem asgOR_ok : asgOR i (.ok ds) ρ = .nx (ρ.set i (some (.ow ds))) := rfl
theorem asgOR_ex : asgOR i (.ex e) ρ = .ex e ρ := rfl
def outO (o : Option Rho) : Out := match o with
  | some ρ => .nx ρ
  | none => .no
theorem outO_some : outO (some ρ) = .nx ρ := rfl
def asgGR (tg : D → Rho → Option Rho) (r : Res D) (ρ : Rho) : Out := Res.out ρ r fun d => outO (tg d ρ)
theorem asgG_e {tg : D → Rho → Option Rho} : asgG tg f ρ = asgGR tg (f ρ) ρ := by
  unfold asgG asgGR outO
  cases f ρ <;> rfl
theorem asgGR_ok {tg : D → Rho → Option Rho} : asgGR tg (.ok d) ρ = outO (tg d ρ) := rfl
theorem asgGR_ex {tg : D → Rho → Option Rho} : asgGR tg (.ex e) ρ = .ex e ρ := rfl
theorem tgN_e : tgN i d ρ = some (ρ.set i (some (.fz d))) := rfl
theorem tgT_e {n : Nat} {u : List D → Rho → Option Rho} (hl : ds.length = n) : tgT n u (.tuple ds) ρ = u ds ρ := if_pos hl
theorem tgT_2 {u : List D → Rho → Option Rho} : tgT 2 u (.tuple [d, d2]) ρ = u [d, d2] ρ := rfl
theorem tgT_3 {u : List D → Rho → Option Rho} : tgT 3 u (.tuple [d, d2, d3]) ρ = u [d, d2, d3] ρ := rfl
theorem tgT_4 {d4 : D} {u : List D → Rho → Option Rho} : tgT 4 u (.tuple [d, d2, d3, d4]) ρ = u [d, d2, d3, d4] ρ := rfl
def tgB (o : Option Rho) (u : List D → Rho → Option Rho) (ds : List D) : Option Rho := o.bind (u ds)
theorem tgCons_e {tg : D → Rho → Option Rho} {u : List D → Rho → Option Rho} : tgCons tg u (d :: ds) ρ = tgB (tg d ρ) u ds := rfl
theorem tgB_e {u : List D → Rho → Option Rho} : tgB (some ρ) u ds = u ds ρ := rfl
theorem tgNil_e : tgNil [] ρ = some ρ := rfl
def parR (i j : Nat) (r : Res (List D)) (ρ : Rho) : Out := Res.out ρ r fun ds => match ds with
  | [d, d'] => .nx ((ρ.set i (some (.fz d))).set j (some (.fz d')))
  | _ => .no
theorem parS_e : parS i j fs ρ = parR i j (fs ρ) ρ := rfl
theorem parR_ok : parR i j (.ok [d, d2]) ρ = .nx ((ρ.set i (some (.fz d))).set j (some (.fz d2))) := rfl
theorem parR_ex : parR i j (.ex e) ρ = .ex e ρ := rfl
def parR3 (i j l : Nat) (r : Res (List D)) (ρ : Rho) : Out := Res.out ρ r fun ds => match ds with
  | [d, d', d2] => .nx (((ρ.set i (some (.fz d))).set j (some (.fz d'))).set l (some (.fz d2)))
  | _ => .no
theorem parS3_e : parS3 i j l fs ρ = parR3 i j l (fs ρ) ρ := rfl
theorem parR3_ok : parR3 i j l (.ok [d, d2, d3]) ρ = .nx (((ρ.set i (some (.fz d))).set j (some (.fz d2))).set l (some (.fz d3))) := rfl
def augR (i : Nat) (a b : Res D) (op : D → D → Option D) (ρ : Rho) : Out := Res.out ρ (a.bind fun x => b.bind fun y => Res.of (op x y)) fun d => .nx (ρ.set i (some (.fz d)))
theorem augS_e : augS i f op ρ = augR i (var i ρ) (f ρ) op ρ := rfl
def augN (i : Nat) (o : Option D) (ρ : Rho) : Out := Res.out ρ (Res.of o) fun d => .nx (ρ.set i (some (.fz d)))
theorem augR_ok : augR i (.ok d) (.ok d2) op ρ = augN i (op d d2) ρ := rfl
theorem augN_ok : augN i (some d) ρ = .nx (ρ.set i (some (.fz d))) := rfl
def appR (i : Nat) (o : Option (Option LV)) (r : Res D) (ρ : Rho) : Out := match o with
  | some (some (.ow ds)) => Res.out ρ r fun d => if ds.length < sizeLine then .nx (ρ.set i (some (.ow (ds ++ [d])))) else .no
  | _ => .no
theorem appS_e : appS i f ρ = appR i ρ[i]? (f ρ) ρ := rfl
theorem appR_ok (hl : ds.length < 1000000) : appR i (some (some (.ow ds))) (.ok d) ρ = .nx (ρ.set i (some (.ow (ds ++ [d])))) := if_pos (sz_lt hl)
theorem appR_0 : appR i (some (some (.ow []))) (.ok d) ρ = .nx (ρ.set i (some (.ow [d]))) := appR_ok (by simp)
def frzG (i : Nat) (o : Option (Option LV)) (g : Rho → Out) (ρ : Rho) : Out := g (match o with
  | some (some (.ow ds)) => ρ.set i (some (.fz (.list ds)))
  | _ => ρ)
theorem frzS_e : frzS i g ρ = frzG i ρ[i]? g ρ := rfl
theorem frzG_ow : frzG i (some (some (.ow ds))) g ρ = g (ρ.set i (some (.fz (.list ds)))) := rfl
theorem frzG_fz : frzG i (some (some (.fz d))) g ρ = g ρ := rfl
theorem frzG_none : frzG i (some none) g ρ = g ρ := rfl
def varG (o : Option (Option LV)) : Res D := match o with
  | some (some (.fz d)) => .ok d
  | _ => .no
theorem var_e : var i ρ = varG ρ[i]? := rfl
theorem varG_fz : varG (some (some (.fz d))) = .ok d := rfl
def varGR (o : Option (Option LV)) : Res D := match o with
  | some (some (.fz d)) => .ok d
  | some (some (.ow ds)) => .ok (.list ds)
  | _ => .no
theorem varR_e : varR i ρ = varGR ρ[i]? := rfl
theorem varGR_fz : varGR (some (some (.fz d))) = .ok d := rfl
theorem varGR_ow : varGR (some (some (.ow ds))) = .ok (.list ds) := rfl
def binR (a b : Res D) (op : D → D → Option D) : Res D := a.bind fun x => b.bind fun y => Res.of (op x y)
theorem bin_e : bin f f2 op ρ = binR (f ρ) (f2 ρ) op := rfl
theorem binR_ok : binR (.ok d) (.ok d2) op = Res.of (op d d2) := rfl
theorem binR_ex {r : Res D} : binR (.ex e) r op = .ex e := rfl
theorem binR_ex2 : binR (.ok d) (.ex e) op = .ex e := rfl
def binBR (a b : Res D) (op : D → D → Option Bool) : Res Bool := a.bind fun x => b.bind fun y => Res.of (op x y)
theorem binB_e : binB f f2 ob ρ = binBR (f ρ) (f2 ρ) ob := rfl
theorem binBR_ok : binBR (.ok d) (.ok d2) ob = Res.of (ob d d2) := rfl
theorem binBR_ex {r : Res D} : binBR (.ex e) r ob = .ex e := rfl
def unR (a : Res D) (op : D → Option D) : Res D := a.bind fun x => Res.of (op x)
theorem un_e : un f ou ρ = unR (f ρ) ou := rfl
theorem unR_ok : unR (.ok d) ou = Res.of (ou d) := rfl
theorem unR_ex : unR (.ex e) ou = .ex e := rfl
def unOR (a : Res D) (op : D → Option (List D)) : Res (List D) := a.bind fun x => Res.of (op x)
theorem unO_e : unO f oo ρ = unOR (f ρ) oo := rfl
theorem unOR_ok : unOR (.ok d) oo = Res.of (oo d) := rfl
theorem unOR_ex : unOR (.ex e) oo = .ex e := rfl
def callR (F : List D → Res D) (r : Res (List D)) : Res D := r.bind F
theorem callV_e {F : List D → Res D} : callV F fs ρ = callR F (fs ρ) := rfl
theorem callR_ok {F : List D → Res D} : callR F (.ok ds) = F ds := rfl
theorem callR_ex {F : List D → Res D} : callR F (.ex e) = .ex e := rfl
def consR (a : Res D) (b : Res (List D)) : Res (List D) := a.bind fun d => b.bind fun ds => .ok (d :: ds)
theorem consA_e : consA f fs ρ = consR (f ρ) (fs ρ) := rfl
theorem consR_ok : consR (.ok d) (.ok ds) = .ok (d :: ds) := rfl
theorem consR_ex {r : Res (List D)} : consR (.ex e) r = .ex e := rfl
theorem consR_ex2 : consR (.ok d) (.ex e) = .ex e := rfl
def tupR (r : Res (List D)) : Res D := r.bind fun ds => if ds.length ≤ sizeLine then .ok (.tuple ds) else .no
theorem tupV_e : tupV fs ρ = tupR (fs ρ) := rfl
theorem tupR_ok (hl : ds.length ≤ 1000000) : tupR (.ok ds) = .ok (.tuple ds) := if_pos (sz_le hl)
theorem tupR_0 : tupR (.ok []) = .ok (.tuple []) := tupR_ok (by simp)
theorem tupR_1 : tupR (.ok [d]) = .ok (.tuple [d]) := tupR_ok (by simp)
theorem tupR_2 : tupR (.ok [d, d2]) = .ok (.tuple [d, d2]) := tupR_ok (by simp)
theorem tupR_3 : tupR (.ok [d, d2, d3]) = .ok (.tuple [d, d2, d3]) := tupR_ok (by simp)
theorem tupR_4 {d4 : D} : tupR (.ok [d, d2, d3, d4]) = .ok (.tuple [d, d2, d3, d4]) := tupR_ok (by simp)
theorem tupR_5 {d4 d5 : D} : tupR (.ok [d, d2, d3, d4, d5]) = .ok (.tuple [d, d2, d3, d4, d5]) := tupR_ok (by simp)
theorem tupR_ex : tupR (.ex e) = .ex e := rfl
def lstR (r : Res (List D)) : Res (List D) := r.bind fun ds => if ds.length ≤ sizeLine then .ok ds else .no
theorem lstO_e : lstO fs ρ = lstR (fs ρ) := rfl
theorem lstR_ok (hl : ds.length ≤ 1000000) : lstR (.ok ds) = .ok ds := if_pos (sz_le hl)
theorem lstR_0 : lstR (.ok []) = .ok [] := lstR_ok (by simp)
theorem lstR_1 : lstR (.ok [d]) = .ok [d] := lstR_ok (by simp)
theorem lstR_2 : lstR (.ok [d, d2]) = .ok [d, d2] := lstR_ok (by simp)
theorem lstR_3 : lstR (.ok [d, d2, d3]) = .ok [d, d2, d3] := lstR_ok (by simp)
theorem lstR_4 {d4 : D} : lstR (.ok [d, d2, d3, d4]) = .ok [d, d2, d3, d4] := lstR_ok (by simp)
theorem lstR_5 {d4 d5 : D} : lstR (.ok [d, d2, d3, d4, d5]) = .ok [d, d2, d3, d4, d5] := lstR_ok (by simp)
theorem lstR_6 {d4 d5 d6 : D} : lstR (.ok [d, d2, d3, d4, d5, d6]) = .ok [d, d2, d3, d4, d5, d6] := lstR_ok (by simp)
theorem lstR_7 {d4 d5 d6 d7 : D} : lstR (.ok [d, d2, d3, d4, d5, d6, d7]) = .ok [d, d2, d3, d4, d5, d6, d7] := lstR_ok (by simp)
theorem lstR_8 {d4 d5 d6 d7 d8 : D} : lstR (.ok [d, d2, d3, d4, d5, d6, d7, d8]) = .ok [d, d2, d3, d4, d5, d6, d7, d8] := lstR_ok (by simp)
theorem lstR_9 {d4 d5 d6 d7 d8 d9 : D} : lstR (.ok [d, d2, d3, d4, d5, d6, d7, d8, d9]) = .ok [d, d2, d3, d4, d5, d6, d7, d8, d9] := lstR_ok (by simp)
theorem lstR_10 {d4 d5 d6 d7 d8 d9 d10 : D} : lstR (.ok [d, d2, d3, d4, d5, d6, d7, d8, d9, d10]) = .ok [d, d2, d3, d4, d5, d6, d7, d8, d9, d10] := lstR_ok (by simp)
theorem lstR_11 {d4 d5 d6 d7 d8 d9 d10 d11 : D} : lstR (.ok [d, d2, d3, d4, d5, d6, d7, d8, d9, d10, d11]) = .ok [d, d2, d3, d4, d5, d6, d7, d8, d9, d10, d11] := lstR_ok (by simp)
theorem lstR_ex : lstR (.ex e) = .ex e := rfl
def iteV (r : Res Bool) (f f2 : Rho → Res D) (ρ : Rho) : Res D := r.bind fun k => if k = true then f ρ else f2 ρ
theorem ifV_e : ifV t f f2 ρ = iteV (t ρ) f f2 ρ := rfl
theorem iteV_t : iteV (.ok true) f f2 ρ = f ρ := rfl
theorem iteV_f : iteV (.ok false) f f2 ρ = f2 ρ := rfl
def andVR (r : Res D) (g : Rho → Res D) (ρ : Rho) : Res D := r.bind fun d => match d with | .bool true => g ρ | .bool false => .ok (.bool false) | _ => .no
theorem andV_e : andV f f2 ρ = andVR (f ρ) f2 ρ := rfl
theorem andVR_t : andVR (.ok (.bool true)) f ρ = f ρ := rfl
theorem andVR_f : andVR (.ok (.bool false)) f ρ = .ok (.bool false) := rfl
def orVR (r : Res D) (g : Rho → Res D) (ρ : Rho) : Res D := r.bind fun d => match d with | .bool true => .ok (.bool true) | .bool false => g ρ | _ => .no
theorem orV_e : orV f f2 ρ = orVR (f ρ) f2 ρ := rfl
theorem orVR_t : orVR (.ok (.bool true)) f ρ = .ok (.bool true) := rfl
theorem orVR_f : orVR (.ok (.bool false)) f ρ = f ρ := rfl
def notVR (r : Res D) : Res D := r.bind fun d => match d with | .bool k => .ok (.bool (!k)) | _ => .no
theorem notV_e : notV f ρ = notVR (f ρ) := rfl
theorem notVR_ok : notVR (.ok (.bool k)) = .ok (.bool (!k)) := rfl
def vBR (r : Res Bool) : Res D := r.bind fun k => .ok (.bool k)
theorem vB_e : vB t ρ = vBR (t ρ) := rfl
theorem vBR_ok : vBR (.ok k) = .ok (.bool k) := rfl
def isBR (r : Res D) : Res Bool := r.bind fun d => match d with | .bool k => .ok k | _ => .no
theorem isB_e : isB f ρ = isBR (f ρ) := rfl
theorem isBR_ok : isBR (.ok (.bool k)) = .ok k := rfl
theorem isBR_ex : isBR (.ex e) = .ex e := rfl
def isiR (T : String) (r : Res D) : Res D := r.bind fun d => .ok (.bool (isTy T d))
theorem isiV_e {T : String} : isiV T f ρ = isiR T (f ρ) := rfl
theorem isiR_ok {T : String} : isiR T (.ok d) = .ok (.bool (isTy T d)) := rfl
def andTR (r : Res Bool) (t : Rho → Res Bool) (ρ : Rho) : Res Bool := r.bind fun k => if k = true then t ρ else .ok false
theorem andT_e : andT t t2 ρ = andTR (t ρ) t2 ρ := rfl
theorem andTR_t : andTR (.ok true) t ρ = t ρ := rfl
theorem andTR_f : andTR (.ok false) t ρ = .ok false := rfl
def orTR (r : Res Bool) (t : Rho → Res Bool) (ρ : Rho) : Res Bool := r.bind fun k => if k = true then .ok true else t ρ
theorem orT_e : orT t t2 ρ = orTR (t ρ) t2 ρ := rfl
theorem orTR_t : orTR (.ok true) t ρ = .ok true := rfl
theorem orTR_f : orTR (.ok false) t ρ = t ρ := rfl
def notTR (r : Res Bool) : Res Bool := r.bind fun k => .ok (!k)
theorem notT_e : notT t ρ = notTR (t ρ) := rfl
theorem notTR_ok : notTR (.ok k) = .ok (!k) := rfl
theorem notTR_ex : notTR (.ex e) = .ex e := rfl
def chnR (r : Res D) (h : D → Rho → Res Bool) (ρ : Rho) : Res Bool := r.bind fun x => h x ρ
theorem chnT_e {h : D → Rho → Res Bool} : chnT f h ρ = chnR (f ρ) h ρ := rfl
theorem chnR_ok {h : D → Rho → Res Bool} : chnR (.ok d) h ρ = h d ρ := rfl
def lkCR (d : D) (r : Res D) (g : D → D → Option Bool) (h : D → Rho → Res Bool) (ρ : Rho) : Res Bool := r.bind fun y => (Res.of (g d y)).bind fun k => if k = true then h y ρ else .ok false
theorem lkC_e {h : D → Rho → Res Bool} : lkC f ob h d ρ = lkCR d (f ρ) ob h ρ := rfl
def lkCN (o : Option Bool) (y : D) (h : D → Rho → Res Bool) (ρ : Rho) : Res Bool := (Res.of o).bind fun k => if k = true then h y ρ else .ok false
theorem lkCR_ok {h : D → Rho → Res Bool} : lkCR d (.ok d2) ob h ρ = lkCN (ob d d2) d2 h ρ := rfl
theorem lkCN_t {h : D → Rho → Res Bool} : lkCN (some true) d h ρ = h d ρ := rfl
theorem lkCN_f {h : D → Rho → Res Bool} : lkCN (some false) d h ρ = .ok false := rfl
theorem lkL_e : lkL f ob d ρ = binBR (.ok d) (f ρ) ob := rfl
def asIR (r : Res D) : Res (Option Int) := r.bind fun d => match d with | .int i => .ok (some i) | _ => .no
theorem asI_e : asI f ρ = asIR (f ρ) := rfl
theorem asIR_ok {z : Int} : asIR (.ok (.int z)) = .ok (some z) := rfl
def slcR (r : Res D) (a b : Res (Option Int)) : Res D := r.bind fun d => a.bind fun lo => b.bind fun hi => Res.of (dSl d lo hi)
theorem slc_e {a b : Rho → Res (Option Int)} : slc f a b ρ = slcR (f ρ) (a ρ) (b ρ) := rfl
theorem slcR_l {a b : Option Int} : slcR (.ok (.list ds)) (.ok a) (.ok b) = .ok (.list (cutD ds a b)) := rfl
theorem slcR_t {a b : Option Int} : slcR (.ok (.tuple ds)) (.ok a) (.ok b) = .ok (.tuple (cutD ds a b)) := rfl
def raiR (cls : Str) (fl : List Str) (r : Res (List D)) (ρ : Rho) : Out := Res.out ρ r fun ds => if ds.all fmtD = true then .ex ⟨cls, (fl.zip ds).reverse⟩ ρ else .no
theorem raiS_e {cls : Str} {fl : List Str} : raiS cls fl fs ρ = raiR cls fl (fs ρ) ρ := rfl
def catR (a b : Res D) : Res (List D) := a.bind fun x => b.bind fun y => Res.of (dCat x y)
theorem catO_e : catO f f2 ρ = catR (f ρ) (f2 ρ) := rfl
theorem vO_e : vO fs ρ = lstD (fs ρ) := rfl
theorem catR_ok : catR (.ok d) (.ok d2) = Res.of (dCat d d2) := rfl
theorem itR_e : itR f ρ = unOR (f ρ) dIter := rfl
def outR (r : Out) : Res D := match r with
  | .nx _ => .ok .none
  | .rt d => .ok d
  | .ex e _ => .ex e
  | _ => .no
theorem bodyV_e {n : Nat} : bodyV n g ds = outR (g (startV n ds)) := rfl
theorem outR_nx : outR (.nx ρ) = .ok .none := rfl
theorem outR_rt : outR (.rt d) = .ok d := rfl
theorem outR_ex : outR (.ex e ρ) = .ex e := rfl
theorem nxS_e : nxS ρ = .nx ρ := rfl
theorem brkS_e : brkS ρ = .bk ρ := rfl
theorem cntS_e : cntS ρ = .ct ρ := rfl
theorem retN_e : retN ρ = .rt .none := rfl
theorem stop_rt : Out.stop (.rt d) = some (.rt d) := rfl
theorem stop_ex : Out.stop (.ex e ρ) = some (.ex e ρ) := rfl
theorem stop_bk : Out.stop (.bk ρ) = some (.nx ρ) := rfl
end
end VL

local macro_rules
  | `(tactic| simp! [$ls,*] $[$loc:location]?) => `(tactic| simp only [
      VL.seqS_e, VL.contS_nx, VL.contS_rt, VL.contS_ex, VL.contS_ct, VL.contS_bk, VL.ifS_e, VL.iteS_t, VL.iteS_f, VL.iteS_x, VL.retS_e, VL.retR_ok, VL.retR_ex, VL.expS_e, VL.expR_ok, VL.expR_ex,
      VL.asgS_e, VL.asgR_ok, VL.asgR_ex, VL.asgO_e, VL.asgOR_ok, VL.asgOR_ex, VL.outO_some, VL.asgG_e, VL.asgGR_ok, VL.asgGR_ex, VL.tgN_e, VL.tgT_2, VL.tgT_3, VL.tgT_4, VL.tgCons_e, VL.tgB_e,
      VL.tgNil_e, VL.parS_e, VL.parR_ok, VL.parR_ex, VL.parS3_e, VL.parR3_ok, VL.augS_e, VL.augR_ok, VL.augN_ok, VL.appS_e, VL.appR_0, VL.frzS_e, VL.frzG_ow, VL.frzG_fz, VL.frzG_none, VL.var_e,
      VL.varG_fz, VL.varR_e, VL.varGR_fz, VL.varGR_ow, VL.bin_e, VL.binR_ok, VL.binR_ex, VL.binR_ex2, VL.binB_e, VL.binBR_ok, VL.binBR_ex, VL.un_e, VL.unR_ok, VL.unR_ex, VL.unO_e, VL.unOR_ok,
      VL.unOR_ex, VL.callV_e, VL.callR_ok, VL.callR_ex, VL.consA_e, VL.consR_ok, VL.consR_ex, VL.consR_ex2, VL.tupV_e, VL.tupR_0, VL.tupR_1, VL.tupR_2, VL.tupR_3, VL.tupR_4, VL.tupR_5, VL.tupR_ex,
      VL.lstO_e, VL.lstR_0, VL.lstR_1, VL.lstR_2, VL.lstR_3, VL.lstR_4, VL.lstR_5, VL.lstR_6, VL.lstR_7, VL.lstR_8, VL.lstR_9, VL.lstR_10, VL.lstR_11, VL.lstR_ex, VL.ifV_e, VL.iteV_t, VL.iteV_f,
      VL.andV_e, VL.andVR_t, VL.andVR_f, VL.orV_e, VL.orVR_t, VL.orVR_f, VL.notV_e, VL.notVR_ok, VL.vB_e, VL.vBR_ok, VL.isB_e, VL.isBR_ok, VL.isBR_ex, VL.isiV_e, VL.isiR_ok, VL.andT_e, VL.andTR_t,
      VL.andTR_f, VL.orT_e, VL.orTR_t, VL.orTR_f, VL.notT_e, VL.notTR_ok, VL.notTR_ex, VL.chnT_e, VL.chnR_ok, VL.lkC_e, VL.lkCR_ok, VL.lkCN_t, VL.lkCN_f, VL.lkL_e, VL.asI_e, VL.asIR_ok, VL.slc_e,
      VL.slcR_l, VL.slcR_t, VL.catO_e, VL.vO_e, VL.catR_ok, VL.itR_e, VL.bodyV_e, VL.outR_nx, VL.outR_rt, VL.outR_ex, VL.nxS_e, VL.brkS_e, VL.cntS_e, VL.retN_e, VL.stop_rt, VL.stop_ex, VL.stop_bk,
      VL.dAdd_ii, VL.dSub_ii, VL.dNeg_i, VL.dLt_ii, VL.dLe_ii, VL.dGt_ii, VL.dGe_ii, VL.dIsN_n, VL.dIsN_i, VL.dIsN_b, VL.dIsN_s, VL.dIsN_l, VL.dIsN_t, VL.dNotN_n, VL.dNotN_i, VL.dNotN_s, VL.dNotN_l,
      VL.dNotN_t, VL.dLen_l, VL.dLen_t, VL.dAbs_i, VL.dMax2_ii, VL.dMin2_ii, VL.dList_l, VL.dList_t, VL.dTup_l, VL.dTup_t, VL.dAddI_ii, VL.dIter_l, VL.dIter_t, VL.isTy, VL.tyName_n, VL.tyName_i,
      VL.tyName_b, VL.tyName_s, VL.tyName_l, VL.tyName_t, VL.ty_ii, VL.ty_bb, VL.ty_ib, VL.ty_bi, VL.ty_si, VL.ty_sb, VL.ty_ni, VL.ty_nb, VL.ty_is, VL.ty_ss, VL.ty_ti, VL.ty_tb, VL.ty_ts, VL.ty_tt,
      VL.ty_tl, VL.ty_li, VL.ty_lb, VL.ty_ls, VL.ty_lt, VL.ty_ll, VL.dIx_t0, VL.dIx_t1, VL.dIx_t2, VL.dIx_t3, VL.dIx_l0, VL.dIx_l1, VL.dIx_l2, VL.dIx_l3, VL.dIx_l4, VL.dIx_l5, VL.dIx_l6, VL.dIx_l7,
      VL.dIx_l8, VL.Res.of_some, VL.Res.of_none, VL.lstD_ok, VL.lstD_ex, VL.Res.ok_out, VL.Res.ex_out, VL.Res.no_out, VL.Res.ok_bind, VL.Res.ex_bind, VL.Res.no_bind, VL.startV, List.getElem?_cons_zero,
      List.getElem?_cons_succ, List.getElem?_nil, List.set_cons_zero, List.set_cons_succ, List.set_nil, List.length_cons, List.length_nil, List.map_cons, List.map_nil, List.cons_append, List.nil_append,
      List.length_map, List.length_range, List.replicate_succ, List.replicate_zero, Nat.zero_add, Int.natCast_zero, Option.map_some, Option.map_none, if_true, if_false, ite_true, ite_false, Bool.false_eq_true,
      Bool.true_eq_false, decide_true, decide_false, decide_eq_true_eq, decide_eq_false_iff_not, Bool.not_true, Bool.not_false, Bool.not_eq_true', Bool.and_true, Bool.true_and, Bool.and_false,
      Bool.false_and, Bool.or_true, Bool.true_or, Bool.or_false, Bool.false_or, and_true, true_and, and_false, false_and, and_self, or_true, true_or, or_false, false_or, or_self, ne_eq, not_true,
      not_false_iff, not_true_eq_false, not_false_eq_true, beq_self_eq_true, VL.OutQ_nx, VL.OutQ_ct, Nat.reduceAdd, Nat.reduceSub, Nat.reduceMul, reduceIte, $ls,*] $[$loc]?)
set_option Elab.async false
set_option linter.all false
set_option maxRecDepth 100000
namespace VL
open PySem PySem.Spec PyProof.Rows L2
noncomputable section
/-! ### is_number -/
def g_is_number_0 : Rho → Out := (retS (andV (isiV "int" (var 0)) (andV (notV (isiV "bool" (var 0))) (andV (vB (binB (var 1) (var 0) dLe)) (vB (binB (var 0) (var 2) dLe))))))
def G_is_number : Rho → Out := g_is_number_0
def F_is_number : List D → Res D := bodyV 3 G_is_number
/-! ### _law_cell -/
def g__law_cell_0 : Rho → Out := (ifS (binB (var 1) (un (var 0) dLen) dLt) (retS (bin (var 0) (var 1) dIx)) nxS)
def g__law_cell_1 : Rho → Out := (retS (kI 0))
def G__law_cell : Rho → Out := (seqS g__law_cell_0 g__law_cell_1)
def F__law_cell : List D → Res D := bodyV 2 G__law_cell
/-! ### _law_draw -/
def g__law_draw_0 : Rho → Out := (asgS 3 (callV F__law_cell (consA (var 0) (consA (var 1) nilA))))
def g__law_draw_1 : Rho → Out := (ifS (binB (var 3) (kI 0) dLt) (asgS 3 (un (var 3) dNeg)) nxS)
def g__law_draw_2 : Rho → Out := (asgO 4 (lstO nilA))
def g__law_draw_3a_1b : Rho → Out := (seqS (appS 4 (bin (var 3) (var 5) dMod)) (asgS 3 (bin (var 3) (var 5) dDiv)))
def g__law_draw_3 : Rho → Out := (ifS (binB (var 3) (bin (kI 10) (kI 18) dPow) dGe) (seqS (asgS 3 (bin (var 3) (bin (kI 10) (kI 18) dPow) dSub)) (seqS (forS (itR (var 2)) (tgN 5) g__law_draw_3a_1b) (frzS 4 (retS (var 4))))) nxS)
def g__law_draw_4 : Rho → Out := (asgS 6 (bin (bin (bin (var 3) (kI 1) dAdd) (bin (kI 31) (var 1) dMul) dAdd) (kI 2147483647) dMod))
def g__law_draw_5b : Rho → Out := (seqS (asgS 6 (bin (bin (bin (bin (var 6) (kI 48271) dMul) (kI 11) dAdd) (var 7) dAdd) (kI 2147483647) dMod)) (seqS (asgS 6 (bin (bin (bin (var 6) (kI 69621) dMul) (kI 3) dAdd) (kI 2147483647) dMod)) (appS 4 (bin (bin (var 6) (kI 7) dDiv) (bin (var 2) (var 7) dIx) dMod))))
def g__law_draw_5 : Rho → Out := (forS (rng1 (consA (un (var 2) dLen) nilA)) (tgN 7) g__law_draw_5b)
def g__law_draw_6 : Rho → Out := (frzS 4 (retS (var 4)))
def G__law_draw : Rho → Out := (seqS g__law_draw_0 (seqS g__law_draw_1 (seqS g__law_draw_2 (seqS g__law_draw_3 (seqS g__law_draw_4 (seqS g__law_draw_5 g__law_draw_6))))))
def F__law_draw : List D → Res D := bodyV 8 G__law_draw
/-! ### _law_strictly -/
def g__law_strictly_0 (S : List D → Res D) : Rho → Out := (ifS (binB (var 0) kN dIsN) (retS (vB (binB (var 1) kN dIsN))) nxS)
def g__law_strictly_1 (S : List D → Res D) : Rho → Out := (ifS (isB (isiV "bool" (var 0))) (retS (andV (isiV "int" (var 1)) (vB (binB (var 1) (var 0) dEq)))) nxS)
def g__law_strictly_2 (S : List D → Res D) : Rho → Out := (ifS (isB (isiV "int" (var 0))) (retS (andV (isiV "int" (var 1)) (andV (notV (isiV "bool" (var 1))) (vB (binB (var 1) (var 0) dEq))))) nxS)
def g__law_strictly_3 (S : List D → Res D) : Rho → Out := (ifS (isB (isiV "str" (var 0))) (retS (andV (isiV "str" (var 1)) (vB (binB (var 1) (var 0) dEq)))) nxS)
def g__law_strictly_4 (S : List D → Res D) : Rho → Out := (ifS (orT (binB (isiV "tuple" (var 0)) (isiV "tuple" (var 1)) dNe) (binB (isiV "list" (var 0)) (isiV "list" (var 1)) dNe)) (retS (kB false)) nxS)
def g__law_strictly_5a_1b (S : List D → Res D) : Rho → Out := (ifS (notT (isB (callV S (consA (bin (var 0) (var 2) dIx) (consA (bin (var 1) (var 2) dIx) nilA))))) (retS (kB false)) nxS)
def g__law_strictly_5 (S : List D → Res D) : Rho → Out := (ifS (orT (isB (isiV "tuple" (var 0))) (isB (isiV "list" (var 0)))) (seqS (ifS (binB (un (var 1) dLen) (un (var 0) dLen) dNe) (retS (kB false)) nxS) (seqS (forS (rng1 (consA (un (var 0) dLen) nilA)) (tgN 2) (g__law_strictly_5a_1b S)) (retS (kB true)))) nxS)
def g__law_strictly_6 (S : List D → Res D) : Rho → Out := (retS (vB (binB (var 1) (var 0) dEq)))
def G__law_strictly (S : List D → Res D) : Rho → Out := (seqS (g__law_strictly_0 S) (seqS (g__law_strictly_1 S) (seqS (g__law_strictly_2 S) (seqS (g__law_strictly_3 S) (seqS (g__law_strictly_4 S) (seqS (g__law_strictly_5 S) (g__law_strictly_6 S)))))))
def F__law_strictly : Nat → List D → Res D
  | 0 => fun _ => .no
  | n + 1 => bodyV 3 (G__law_strictly (F__law_strictly n))
/-! ### gcd_of -/
def g_gcd_of_0b : Rho → Out := (parS 0 1 (consA (var 1) (consA (bin (var 0) (var 1) dMod) nilA)))
def g_gcd_of_0 : Rho → Out := (whlN (binB (var 1) (kI 0) dNe) g_gcd_of_0b 10000)
def g_gcd_of_1 : Rho → Out := (retS (var 0))
def G_gcd_of : Rho → Out := (seqS g_gcd_of_0 g_gcd_of_1)
def F_gcd_of : List D → Res D := bodyV 2 G_gcd_of
/-! ### ratio -/
def g_ratio_0 : Rho → Out := (asgS 2 (callV F_gcd_of (consA (var 0) (consA (var 1) nilA))))
def g_ratio_1 : Rho → Out := (retS (tupV (consA (bin (var 0) (var 2) dDiv) (consA (bin (var 1) (var 2) dDiv) nilA))))
def G_ratio : Rho → Out := (seqS g_ratio_0 g_ratio_1)
def F_ratio : List D → Res D := bodyV 3 G_ratio
/-! ### less -/
def g_less_0 : Rho → Out := (retS (vB (binB (bin (bin (var 0) (kI 0) dIx) (bin (var 1) (kI 1) dIx) dMul) (bin (bin (var 1) (kI 0) dIx) (bin (var 0) (kI 1) dIx) dMul) dLt)))
def G_less : Rho → Out := g_less_0
def F_less : List D → Res D := bodyV 2 G_less
/-! ### _law_gcd -/
def g__law_gcd_0b : Rho → Out := (seqS (ifS (binB (var 1) (kI 0) dEq) (retS (var 0)) nxS) (parS 0 1 (consA (var 1) (consA (bin (var 0) (var 1) dMod) nilA))))
def g__law_gcd_0 : Rho → Out := (forS (rng1 (consA (kI 200) nilA)) (tgN 2) g__law_gcd_0b)
def g__law_gcd_1 : Rho → Out := (retS (var 0))
def G__law_gcd : Rho → Out := (seqS g__law_gcd_0 g__law_gcd_1)
def F__law_gcd : List D → Res D := bodyV 3 G__law_gcd
/-! ### _law_ratio -/
def g__law_ratio_0 : Rho → Out := (asgS 2 (callV F__law_gcd (consA (var 0) (consA (var 1) nilA))))
def g__law_ratio_1 : Rho → Out := (retS (tupV (consA (bin (var 0) (var 2) dDiv) (consA (bin (var 1) (var 2) dDiv) nilA))))
def G__law_ratio : Rho → Out := (seqS g__law_ratio_0 g__law_ratio_1)
def F__law_ratio : List D → Res D := bodyV 3 G__law_ratio
end
end VL

set_option Elab.async false
set_option linter.all false
set_option maxRecDepth 100000
set_option maxHeartbeats 4000000
namespace VL
open PySem PySem.Spec PyProof.Rows L2

/-! ### is_number -/
theorem num_i {a lo hi : Int} : F_is_number [.int a, .int lo, .int hi] = .ok (.bool (decide (lo ≤ a ∧ a ≤ hi))) := by
  unfold F_is_number G_is_number g_is_number_0
  by_cases h1 : lo ≤ a <;> by_cases h2 : a ≤ hi <;> simp! [h1, h2]
theorem num_yes {a lo hi : Int} (h : lo ≤ a ∧ a ≤ hi) : F_is_number [.int a, .int lo, .int hi] = .ok (.bool true) := by rw [num_i, decide_eq_true h]
theorem num_no {a lo hi : Int} (h : ¬ (lo ≤ a ∧ a ≤ hi)) : F_is_number [.int a, .int lo, .int hi] = .ok (.bool false) := by rw [num_i, decide_eq_false h]
theorem num_b {b : Bool} {x y : D} : F_is_number [.bool b, x, y] = .ok (.bool false) := by
  unfold F_is_number G_is_number g_is_number_0
  simp! []

/-! ### _law_strictly -/
def okD : Nat → D → Prop
  | 0, .list _ => False
  | 0, .tuple _ => False
  | n + 1, .list ds => ds.length < 1000000 ∧ ∀ e ∈ ds, okD n e
  | n + 1, .tuple ds => ds.length < 1000000 ∧ ∀ e ∈ ds, okD n e
  | _, .dict _ => False
  | _, .str x => PyData.strOk x = true
  | _, _ => True
theorem dEq_b {a b : Bool} : dEq (.bool a) (.bool b) = some (a == b) := by
  unfold dEq
  rw [if_pos ⟨by decide +revert, by decide +revert⟩]
  simp [PyData.eqv]
theorem sh_int {a : Int} : SeqAt.shaped (.int a) = true := by simp [SeqAt.shaped, PyData.canLay0, PyData.depth]
theorem sh_bool {a : Bool} : SeqAt.shaped (.bool a) = true := by simp [SeqAt.shaped, PyData.canLay0, PyData.depth]
theorem sh_non : SeqAt.shaped .none = true := by simp [SeqAt.shaped, PyData.canLay0, PyData.depth]
theorem sh_str {x : Str} (h : PyData.strOk x = true) : SeqAt.shaped (.str x) = true := by simp [SeqAt.shaped, PyData.canLay0, PyData.depth, h]
theorem dEq_i {a b : Int} : dEq (.int a) (.int b) = some (decide (a = b)) := by
  unfold dEq
  rw [if_pos ⟨sh_int, sh_int⟩]
  simp [PyData.eqv]
  exact rfl
theorem dNe_i {a b : Int} : dNe (.int a) (.int b) = some (decide (a ≠ b)) := by
  unfold dNe
  rw [if_pos ⟨sh_int, sh_int⟩]
  simp only [PyData.eqv]
  by_cases h : a = b
  · subst h; simp
  · simp [h]
theorem dNe_b {a b : Bool} : dNe (.bool a) (.bool b) = some (!(a == b)) := by
  unfold dNe
  rw [if_pos ⟨sh_bool, sh_bool⟩]
  simp [PyData.eqv]
theorem dEq_s {x : Str} (h : PyData.strOk x = true) : dEq (.str x) (.str x) = some true := by
  unfold dEq
  rw [if_pos ⟨sh_str h, sh_str h⟩]
  simp [PyData.eqv]
theorem strict_loop (S : List D → Res D) {v : D} {ds : List D} (hv : v = .tuple ds ∨ v = .list ds) (hS : ∀ e ∈ ds, S [e, e] = .ok (.bool true)) (hl : ds.length < 1000000) (x : Option LV) :
    ∃ y, forS (rng1 (consA (un (var 0) dLen) nilA)) (tgN 2) (g__law_strictly_5a_1b S) [some (.fz v), some (.fz v), x] = .nx [some (.fz v), some (.fz v), y] := by
  have hlen : dLen v = some (.int ds.length) := by rcases hv with rfl | rfl <;> rfl
  obtain ⟨ρ', h1, y, rfl⟩ := fors (t := tgN 2) (g := g__law_strictly_5a_1b S) (fi := rng1 (consA (un (var 0) dLen) nilA)) (fun _ ρ => ∃ y, ρ = [some (.fz v), some (.fz v), y]) (ρ := [some (.fz v), some (.fz v), x])
    (rng1_of ds.length (by simp! [hlen]) rfl (by omega)) ⟨x, rfl⟩ (by
      rintro i d ρ hi ⟨y, rfl⟩
      obtain ⟨hi2, rfl⟩ := rngD_get' hi
      obtain ⟨e, he⟩ : ∃ e, ds[i]? = some e := ⟨_, List.getElem?_eq_getElem hi2⟩
      have hx : dIx v (.int (0 + (i : Nat))) = some e := by
        rcases hv with rfl | rfl
        · exact dIx_t (n := i) (by omega) he
        · exact dIx_l (n := i) (by omega) he
      refine ⟨_, rfl, ?_⟩
      unfold g__law_strictly_5a_1b
      simp! [hx, hS e (List.mem_of_getElem? he)]
      exact ⟨_, rfl⟩)
  exact ⟨y, h1⟩
theorem strict_seq (n : Nat) {v : D} {ds : List D} (hv : v = .tuple ds ∨ v = .list ds) (hS : ∀ e ∈ ds, F__law_strictly n [e, e] = .ok (.bool true)) (hl : ds.length < 1000000) : F__law_strictly (n + 1) [v, v] = .ok (.bool true) := by
  obtain ⟨y, hy⟩ := strict_loop (F__law_strictly n) hv hS hl none
  unfold F__law_strictly G__law_strictly
  unfold g__law_strictly_0 g__law_strictly_1 g__law_strictly_2 g__law_strictly_3 g__law_strictly_4 g__law_strictly_5
  rcases hv with rfl | rfl <;> simp! [dNe_b, dNe_i, hy]
theorem strict_leaf (n : Nat) (d : D) (h : okD 0 d) : F__law_strictly (n + 1) [d, d] = .ok (.bool true) := by
  unfold F__law_strictly G__law_strictly
  cases d with
  | none =>
    unfold g__law_strictly_0
    simp! []
  | bool b =>
    unfold g__law_strictly_0 g__law_strictly_1
    simp! [dEq_b]
  | int i =>
    unfold g__law_strictly_0 g__law_strictly_1 g__law_strictly_2
    simp! [dEq_i]
  | str x =>
    have hx : PyData.strOk x = true := h
    unfold g__law_strictly_0 g__law_strictly_1 g__law_strictly_2 g__law_strictly_3
    simp! [dEq_s hx]
  | list ds => exact h.elim
  | tuple ds => exact h.elim
  | dict _ => exact h.elim
theorem strict_refl : ∀ (n : Nat) (d : D), okD n d → F__law_strictly (n + 1) [d, d] = .ok (.bool true)
  | 0, d, h => strict_leaf 0 d h
  | n + 1, .none, h => strict_leaf _ _ h
  | n + 1, .bool _, h => strict_leaf _ _ h
  | n + 1, .int _, h => strict_leaf _ _ h
  | n + 1, .str _, h => strict_leaf _ _ h
  | n + 1, .list ds, h => strict_seq _ (.inr rfl) (fun e he => strict_refl n e (h.2 e he)) h.1
  | n + 1, .tuple ds, h => strict_seq _ (.inl rfl) (fun e he => strict_refl n e (h.2 e he)) h.1
  | n + 1, .dict _, h => h.elim

/-! ### _law_cell, _law_draw -/
theorem cell_ok {ns : List Int} {k : Int} (h0 : 0 ≤ k) : ∃ c : Int, F__law_cell [.list (ns.map .int), .int k] = .ok (.int c) := by
  unfold F__law_cell G__law_cell g__law_cell_0 g__law_cell_1
  by_cases h : k < (ns.length : Int)
  · obtain ⟨c, hc⟩ : ∃ c, ns[k.toNat]? = some c := ⟨_, List.getElem?_eq_getElem (by omega)⟩
    refine ⟨c, ?_⟩
    have hx : dIx (.list (ns.map .int)) (.int k) = some (.int c) := dIx_l (n := k.toNat) (by omega) (by rw [List.getElem?_map, hc]; rfl)
    simp! [h, hx]
  · refine ⟨0, ?_⟩
    simp! [h]
/-- each of the numbers is within its size -/
def Fits : List Int → List Int → Prop
  | [], [] => True
  | d :: ds, s :: ss => 0 ≤ d ∧ d < s ∧ Fits ds ss
  | _, _ => False
theorem Fits.snoc : ∀ {ds ss : List Int} {d s : Int}, Fits ds ss → 0 ≤ d → d < s → Fits (ds ++ [d]) (ss ++ [s])
  | [], [], _, _, _, h1, h2 => ⟨h1, h2, trivial⟩
  | _ :: _, _ :: _, _, _, h, h1, h2 => ⟨h.1, h.2.1, Fits.snoc h.2.2 h1 h2⟩
theorem Fits.len : ∀ {ds ss : List Int}, Fits ds ss → ds.length = ss.length
  | [], [], _ => rfl
  | _ :: _, _ :: _, h => by rw [List.length_cons, List.length_cons, h.2.2.len]
theorem take_succ' {α : Type} {l : List α} {i : Nat} {x : α} (h : l[i]? = some x) : l.take (i + 1) = l.take i ++ [x] := by
  rw [List.take_succ, h]
  rfl
theorem pow1018 : dPow (.int 10) (.int 18) = some (.int 1000000000000000000) := by
  show (if CPow 10 18 then some (PyData.int ((10 : Int) ^ (18 : Int).toNat)) else none) = _
  rw [if_pos ⟨by decide, by decide, by decide⟩]
  rfl
theorem draw_ok {ns : List Int} {k : Int} {ss : List Int} (h0 : 0 ≤ k) (h1 : k ≤ 1000000) (hl : ss.length ≤ 1000) (hs : ∀ s ∈ ss, 0 < s ∧ s ≤ 1000000000) :
    ∃ ds : List Int, F__law_draw [.list (ns.map .int), .int k, .list (ss.map .int)] = .ok (.list (ds.map .int)) ∧ Fits ds ss := by
  obtain ⟨c, hc⟩ := cell_ok (ns := ns) h0
  unfold F__law_draw G__law_draw
  -- the cell's size
  obtain ⟨c1, hc1⟩ : ∃ c1 : Int, ∀ x4 x5 x6 x7, seqS g__law_draw_0 (seqS g__law_draw_1 (seqS g__law_draw_2 (seqS g__law_draw_3 (seqS g__law_draw_4 (seqS g__law_draw_5 g__law_draw_6))))) [some (.fz (.list (ns.map .int))), some (.fz (.int k)), some (.fz (.list (ss.map .int))), none, x4, x5, x6, x7] =
      seqS g__law_draw_3 (seqS g__law_draw_4 (seqS g__law_draw_5 g__law_draw_6)) [some (.fz (.list (ns.map .int))), some (.fz (.int k)), some (.fz (.list (ss.map .int))), some (.fz (.int c1)), some (.ow []), x5, x6, x7] := by
    by_cases hn : c < 0
    · refine ⟨-c, fun x4 x5 x6 x7 => ?_⟩
      rw [seq_nx (ρ' := [some (.fz (.list (ns.map .int))), some (.fz (.int k)), some (.fz (.list (ss.map .int))), some (.fz (.int c)), x4, x5, x6, x7]) (by unfold g__law_draw_0; simp! [hc])]
      rw [seq_nx (ρ' := [some (.fz (.list (ns.map .int))), some (.fz (.int k)), some (.fz (.list (ss.map .int))), some (.fz (.int (-c))), x4, x5, x6, x7]) (by unfold g__law_draw_1; simp! [hn])]
      rw [seq_nx (by unfold g__law_draw_2; simp! []; rfl)]
    · refine ⟨c, fun x4 x5 x6 x7 => ?_⟩
      rw [seq_nx (ρ' := [some (.fz (.list (ns.map .int))), some (.fz (.int k)), some (.fz (.list (ss.map .int))), some (.fz (.int c)), x4, x5, x6, x7]) (by unfold g__law_draw_0; simp! [hc])]
      rw [seq_nx (ρ' := [some (.fz (.list (ns.map .int))), some (.fz (.int k)), some (.fz (.list (ss.map .int))), some (.fz (.int c)), x4, x5, x6, x7]) (by unfold g__law_draw_1; simp! [hn])]
      rw [seq_nx (by unfold g__law_draw_2; simp! []; rfl)]
  have hstart : startV 8 [PyData.list (ns.map .int), .int k, .list (ss.map .int)] = [some (.fz (.list (ns.map .int))), some (.fz (.int k)), some (.fz (.list (ss.map .int))), none, none, none, none, none] := rfl
  unfold bodyV
  rw [hstart, hc1]
  by_cases hb : (1000000000000000000 : Int) ≤ c1
  · -- the numbers one by one
    obtain ⟨ρ', h2, ds, q, x5, hf, rfl⟩ := fors (t := tgN 5) (g := g__law_draw_3a_1b) (fi := itR (var 2)) (ρ := [some (.fz (.list (ns.map .int))), some (.fz (.int k)), some (.fz (.list (ss.map .int))), some (.fz (.int (c1 - 1000000000000000000))), some (.ow []), none, none, none])
      (fun i ρ => ∃ (ds : List Int) (q : Int) (x5 : Option LV), Fits ds (ss.take i) ∧ ρ = [some (.fz (.list (ns.map .int))), some (.fz (.int k)), some (.fz (.list (ss.map .int))), some (.fz (.int q)), some (.ow (ds.map .int)), x5, none, none])
      (ds := ss.map .int) (by simp! []) ⟨[], _, _, trivial, rfl⟩ (by
        rintro i d ρ hi ⟨ds, q, x5, hf, rfl⟩
        rw [List.getElem?_map] at hi
        obtain ⟨s, hs1, rfl⟩ := Option.map_eq_some_iff.mp hi
        have hs2 := hs s (List.mem_of_getElem? hs1)
        have hlen := hf.len
        rw [List.length_take] at hlen
        refine ⟨_, rfl, ?_⟩
        unfold g__law_draw_3a_1b
        simp! [dMod_p hs2.1, dDiv_s hs2.1 (by omega : s ≤ 1000000000000), appR_ok (ds := ds.map .int) (by rw [List.length_map]; omega)]
        refine ⟨ds ++ [q % s], q / s, _, ?_, by rw [List.map_append]; rfl⟩
        rw [take_succ' hs1]
        exact hf.snoc (Int.emod_nonneg _ (by omega)) (Int.emod_lt_of_pos _ hs2.1))
    refine ⟨ds, ?_, by rw [List.length_map, List.take_length] at hf; exact hf⟩
    rw [seq_rt (d := .list (ds.map .int)) (by unfold g__law_draw_3; simp! [pow1018, hb, h2])]
  · obtain ⟨m, hm⟩ : ∃ m : Int, seqS g__law_draw_3 (seqS g__law_draw_4 (seqS g__law_draw_5 g__law_draw_6)) [some (.fz (.list (ns.map .int))), some (.fz (.int k)), some (.fz (.list (ss.map .int))), some (.fz (.int c1)), some (.ow []), none, none, none] =
        seqS g__law_draw_5 g__law_draw_6 [some (.fz (.list (ns.map .int))), some (.fz (.int k)), some (.fz (.list (ss.map .int))), some (.fz (.int c1)), some (.ow []), none, some (.fz (.int (m % 2147483647))), none] := by
      refine ⟨c1 + 1 + 31 * k, ?_⟩
      rw [seq_nx (by unfold g__law_draw_3; simp! [pow1018, hb]; rfl)]
      rw [seq_nx (by unfold g__law_draw_4; simp! [dMul_s (i := 31) (j := k) (by omega) (by omega) (by omega) (by omega), dMod_p (show (0 : Int) < 2147483647 by omega)]; rfl)]
    rw [hm]
    obtain ⟨ρ', h2, ds, q, x7, hf, rfl⟩ := fors (t := tgN 7) (g := g__law_draw_5b) (fi := rng1 (consA (un (var 2) dLen) nilA)) (ρ := [some (.fz (.list (ns.map .int))), some (.fz (.int k)), some (.fz (.list (ss.map .int))), some (.fz (.int c1)), some (.ow []), none, some (.fz (.int (m % 2147483647))), none])
      (fun i ρ => ∃ (ds : List Int) (q : Int) (x7 : Option LV), Fits ds (ss.take i) ∧ ρ = [some (.fz (.list (ns.map .int))), some (.fz (.int k)), some (.fz (.list (ss.map .int))), some (.fz (.int c1)), some (.ow (ds.map .int)), none, some (.fz (.int (q % 2147483647))), x7])
      (rng1_of ss.length (by simp! []) rfl (by omega)) ⟨[], _, _, trivial, rfl⟩ (by
        rintro i d ρ hi ⟨ds, q, x7, hf, rfl⟩
        obtain ⟨hi2, rfl⟩ := rngD_get' hi
        obtain ⟨s, hs1⟩ : ∃ s, ss[i]? = some s := ⟨_, List.getElem?_eq_getElem hi2⟩
        have hs2 := hs s (List.mem_of_getElem? hs1)
        have hlen := hf.len
        rw [List.length_take] at hlen
        have hx : dIx (.list (ss.map .int)) (.int (0 + (i : Nat))) = some (.int s) := dIx_l (n := i) (by omega) (by rw [List.getElem?_map, hs1]; rfl)
        have b1 := Int.emod_nonneg q (show (2147483647 : Int) ≠ 0 by omega)
        have b2 := Int.emod_lt_of_pos q (show (0 : Int) < 2147483647 by omega)
        have e1 := dMul_s (i := q % 2147483647) (j := 48271) (by omega) (by omega) (by omega) (by omega)
        have b3 := Int.emod_nonneg (q % 2147483647 * 48271 + 11 + (0 + (i : Nat))) (show (2147483647 : Int) ≠ 0 by omega)
        have b4 := Int.emod_lt_of_pos (q % 2147483647 * 48271 + 11 + (0 + (i : Nat))) (show (0 : Int) < 2147483647 by omega)
        have e2 := dMul_s (i := (q % 2147483647 * 48271 + 11 + (0 + (i : Nat))) % 2147483647) (j := 69621) (by omega) (by omega) (by omega) (by omega)
        refine ⟨_, rfl, ?_⟩
        unfold g__law_draw_5b
        simp! [hx, dMod_p hs2.1, dMod_p (show (0 : Int) < 2147483647 by omega), e1, e2, dDiv_s (show (0 : Int) < 7 by omega) (by omega), appR_ok (ds := ds.map .int) (by rw [List.length_map]; omega)]
        refine ⟨ds ++ [_], _, _, ?_, by rw [List.map_append]; rfl⟩
        rw [take_succ' hs1]
        exact hf.snoc (Int.emod_nonneg _ (by omega)) (Int.emod_lt_of_pos _ hs2.1))
    refine ⟨ds, ?_, by rw [rngD_len, List.take_length] at hf; exact hf⟩
    rw [seq_nx (by unfold g__law_draw_5; exact h2)]
    unfold g__law_draw_6
    simp! []

/-! ### gcd, ratio -/
theorem natMod (a b : Nat) : ((a : Int) % (b : Int)) = ((a % b : Nat) : Int) := (Int.natCast_emod a b).symm
theorem half_mod {b r : Nat} (h : 0 < r) (h2 : r < b) : 2 * (b % r) < b := by
  have h3 : b % r < r := Nat.mod_lt _ h
  have h4 : b % r ≤ b - r := by
    have e := Nat.mod_add_div b r
    have q : 1 ≤ b / r := Nat.div_pos (Nat.le_of_lt h2) h
    have := Nat.mul_le_mul (Nat.le_refl r) q
    omega
  omega
/-- Euclid's loop, whichever form: c the test, g the turn -/
theorem whl_gcd : ∀ (n a b fuel : Nat), b < 2 ^ n → 2 * n + 1 ≤ fuel → whlN (binB (var 1) (kI 0) dNe) g_gcd_of_0b fuel [some (.fz (.int a)), some (.fz (.int b))] = .nx [some (.fz (.int (Nat.gcd a b))), some (.fz (.int 0))] := by
  have zero : ∀ (a fuel : Nat), 1 ≤ fuel → whlN (binB (var 1) (kI 0) dNe) g_gcd_of_0b fuel [some (.fz (.int a)), some (.fz (.int 0))] = .nx [some (.fz (.int (Nat.gcd a 0))), some (.fz (.int 0))] := by
    intro a fuel hf
    obtain ⟨f, rfl⟩ : ∃ f, fuel = f + 1 := ⟨fuel - 1, by omega⟩
    unfold whlN
    simp! [dNe_i, Nat.gcd_zero_right]
  have one : ∀ (a b fuel : Nat), 0 < b → whlN (binB (var 1) (kI 0) dNe) g_gcd_of_0b (fuel + 1) [some (.fz (.int a)), some (.fz (.int b))] = whlN (binB (var 1) (kI 0) dNe) g_gcd_of_0b fuel [some (.fz (.int b)), some (.fz (.int ((a % b : Nat) : Int)))] := by
    intro a b fuel hb
    have hne : ¬ ((b : Int) = 0) := by omega
    rw [whlN]
    unfold g_gcd_of_0b
    simp! [dNe_i, hne, dMod_p (show (0 : Int) < (b : Int) by omega), natMod]
  intro n
  induction n with
  | zero =>
    intro a b fuel hb hf
    have : b = 0 := by simpa using hb
    subst this
    exact zero a fuel (by omega)
  | succ n ih =>
    intro a b fuel hb hf
    by_cases h0 : b = 0
    · subst h0; exact zero a fuel (by omega)
    · obtain ⟨f, rfl⟩ : ∃ f, fuel = f + 2 := ⟨fuel - 2, by omega⟩
      rw [one a b (f + 1) (by omega)]
      by_cases h1 : a % b = 0
      · rw [h1, show ((0 : Nat) : Int) = 0 from rfl, zero b (f + 1) (by omega), Nat.gcd_zero_right]
        have : Nat.gcd a b = b := by rw [Nat.gcd_comm, Nat.gcd_rec, h1]; simp
        rw [this]
      · have h2 : a % b < b := Nat.mod_lt _ (by omega)
        rw [one b (a % b) f (by omega)]
        have h3 := half_mod (by omega) h2
        rw [ih (a % b) (b % (a % b)) f (by rw [Nat.pow_succ] at hb; omega) (by omega)]
        have e1 : Nat.gcd (a % b) (b % (a % b)) = Nat.gcd a b := by
          rw [Nat.gcd_comm (a % b), ← Nat.gcd_rec, ← Nat.gcd_rec, Nat.gcd_comm]
        rw [e1]
theorem law_gcd_loop : ∀ (n a b : Nat) (ds : List D) (x : Option LV), b < 2 ^ n → 2 * n + 1 ≤ ds.length → forL (tgN 2) g__law_gcd_0b ds [some (.fz (.int a)), some (.fz (.int b)), x] = .rt (.int (Nat.gcd a b)) := by
  have zero : ∀ (a : Nat) (ds : List D) (x : Option LV), 1 ≤ ds.length → forL (tgN 2) g__law_gcd_0b ds [some (.fz (.int a)), some (.fz (.int 0)), x] = .rt (.int (Nat.gcd a 0)) := by
    intro a ds x hf
    cases ds with
    | nil => simp at hf
    | cons d ds =>
      unfold forL g__law_gcd_0b
      simp! [dEq_i, Nat.gcd_zero_right]
  have one : ∀ (a b : Nat) (d : D) (ds : List D) (x : Option LV), 0 < b → forL (tgN 2) g__law_gcd_0b (d :: ds) [some (.fz (.int a)), some (.fz (.int b)), x] = forL (tgN 2) g__law_gcd_0b ds [some (.fz (.int b)), some (.fz (.int ((a % b : Nat) : Int))), some (.fz d)] := by
    intro a b d ds x hb
    have hne : ¬ ((b : Int) = 0) := by omega
    rw [forL]
    have e : g__law_gcd_0b [some (.fz (.int a)), some (.fz (.int b)), some (.fz d)] = .nx [some (.fz (.int b)), some (.fz (.int ((a % b : Nat) : Int))), some (.fz d)] := by
      unfold g__law_gcd_0b
      simp! [dEq_i, hne, dMod_p (show (0 : Int) < (b : Int) by omega), natMod]
    simp! [e]
  intro n
  induction n with
  | zero =>
    intro a b ds x hb hf
    have : b = 0 := by simpa using hb
    subst this
    exact zero a ds x (by omega)
  | succ n ih =>
    intro a b ds x hb hf
    by_cases h0 : b = 0
    · subst h0; exact zero a ds x (by omega)
    · match ds, hf with
      | d1 :: d2 :: ds, hf =>
        simp only [List.length_cons] at hf
        rw [one a b d1 _ x (by omega)]
        by_cases h1 : a % b = 0
        · rw [h1, show ((0 : Nat) : Int) = 0 from rfl, zero b _ _ (by simp), Nat.gcd_zero_right]
          have : Nat.gcd a b = b := by rw [Nat.gcd_comm, Nat.gcd_rec, h1]; simp
          rw [this]
        · have h2 : a % b < b := Nat.mod_lt _ (by omega)
          rw [one b (a % b) d2 ds _ (by omega)]
          have h3 := half_mod (by omega) h2
          rw [ih (a % b) (b % (a % b)) ds _ (by rw [Nat.pow_succ] at hb; omega) (by omega)]
          have e1 : Nat.gcd (a % b) (b % (a % b)) = Nat.gcd a b := by
            rw [Nat.gcd_comm (a % b), ← Nat.gcd_rec, ← Nat.gcd_rec, Nat.gcd_comm]
          rw [e1]
def gcdI (a b : Int) : Int := (Nat.gcd a.toNat b.toNat : Nat)
theorem gcd_ok {a b : Int} (ha : 0 ≤ a) (hb : 0 ≤ b) (h : b < 2 ^ 90) : F_gcd_of [.int a, .int b] = .ok (.int (gcdI a b)) := by
  obtain ⟨a, rfl⟩ := Int.eq_ofNat_of_zero_le ha
  obtain ⟨b, rfl⟩ := Int.eq_ofNat_of_zero_le hb
  have h' : b < 2 ^ 90 := by
    have e : ((2 : Int) ^ 90) = ((2 ^ 90 : Nat) : Int) := by decide
    omega
  unfold F_gcd_of G_gcd_of bodyV
  have hs : startV 2 [PyData.int a, .int b] = [some (.fz (.int a)), some (.fz (.int b))] := rfl
  rw [hs, seq_nx (by unfold g_gcd_of_0; exact whl_gcd 90 a b 10000 h' (by omega))]
  unfold g_gcd_of_1
  simp! []
  rfl
theorem lgcd_ok {a b : Int} (ha : 0 ≤ a) (hb : 0 ≤ b) (h : b < 2 ^ 90) : F__law_gcd [.int a, .int b] = .ok (.int (gcdI a b)) := by
  obtain ⟨a, rfl⟩ := Int.eq_ofNat_of_zero_le ha
  obtain ⟨b, rfl⟩ := Int.eq_ofNat_of_zero_le hb
  have h' : b < 2 ^ 90 := by
    have e : ((2 : Int) ^ 90) = ((2 ^ 90 : Nat) : Int) := by decide
    omega
  unfold F__law_gcd G__law_gcd bodyV
  have hs : startV 3 [PyData.int a, .int b] = [some (.fz (.int a)), some (.fz (.int b)), none] := rfl
  have hr : rng1 (consA (kI 200) nilA) [some (.fz (.int a)), some (.fz (.int b)), none] = .ok (rngD 0 200) := rng1_of (j := 200) 200 (by simp! []) rfl (by decide)
  rw [hs, seq_rt (d := .int (gcdI a b)) (by unfold g__law_gcd_0 forS; rw [hr]; exact law_gcd_loop 90 a b _ none h' (by rw [rngD_len]; decide))]
theorem gcdI_pos {a b : Int} (hb : 0 < b) : 0 < gcdI a b := by
  unfold gcdI
  have := Nat.gcd_pos_of_pos_right a.toNat (show 0 < b.toNat by omega)
  omega
theorem gcdI_le {a b : Int} (hb : 0 < b) : gcdI a b ≤ b := by
  unfold gcdI
  have := Nat.gcd_le_right a.toNat (show 0 < b.toNat by omega)
  omega
/-- a share in its least terms -/
def rat (t b : Int) : D := .tuple [.int (t / gcdI t b), .int (b / gcdI t b)]
theorem ratio_ok {t b : Int} (ht : 0 ≤ t) (hb : 0 < b) (h : b ≤ 1000000000000) : F_ratio [.int t, .int b] = .ok (rat t b) := by
  have h1 := gcdI_pos (a := t) hb
  have h2 := gcdI_le (a := t) hb
  have e : ((2 : Int) ^ 90) = 1237940039285380274899124224 := by decide
  unfold F_ratio G_ratio g_ratio_0 g_ratio_1
  simp! [gcd_ok ht (Int.le_of_lt hb) (by omega), dDiv_s h1 (by omega)]
  rfl
theorem lratio_ok {t b : Int} (ht : 0 ≤ t) (hb : 0 < b) (h : b ≤ 1000000000000) : F__law_ratio [.int t, .int b] = .ok (rat t b) := by
  have h1 := gcdI_pos (a := t) hb
  have h2 := gcdI_le (a := t) hb
  have e : ((2 : Int) ^ 90) = 1237940039285380274899124224 := by decide
  unfold F__law_ratio G__law_ratio g__law_ratio_0 g__law_ratio_1
  simp! [lgcd_ok ht (Int.le_of_lt hb) (by omega), dDiv_s h1 (by omega)]
  rfl
theorem rat_zero {b : Int} (hb : 0 < b) : rat 0 b = .tuple [.int 0, .int 1] := by
  unfold rat
  have e : gcdI 0 b = b := by
    unfold gcdI
    simp
    omega
  rw [e, Int.zero_ediv, Int.ediv_self (by omega)]
theorem less_ok {a b c d : Int} (h1 : -1000000000000 ≤ a) (h2 : a ≤ 1000000000000) (h3 : -1000000000000 ≤ b) (h4 : b ≤ 1000000000000) (h5 : -1000000000000 ≤ c) (h6 : c ≤ 1000000000000) (h7 : -1000000000000 ≤ d) (h8 : d ≤ 1000000000000) :
   F_less [.tuple [.int a, .int b], .tuple [.int c, .int d]] = .ok (.bool (decide (a * d < c * b))) := by
  unfold F_less G_less g_less_0
  simp! [dMul_s h1 h2 h7 h8, dMul_s h5 h6 h3 h4]
/-- in least terms: the cross products tell the same -/
theorem gcdI_dvd_l {a b : Int} (ha : 0 ≤ a) : gcdI a b ∣ a := by
  unfold gcdI
  obtain ⟨k, hk⟩ := Nat.gcd_dvd_left a.toNat b.toNat
  exact ⟨(k : Int), by rw [← Int.natCast_mul, ← hk]; omega⟩
theorem gcdI_dvd_r {a b : Int} (hb : 0 ≤ b) : gcdI a b ∣ b := by
  unfold gcdI
  obtain ⟨k, hk⟩ := Nat.gcd_dvd_right a.toNat b.toNat
  exact ⟨(k : Int), by rw [← Int.natCast_mul, ← hk]; omega⟩

/-! ### the program's errors -/
def planE (w : Str) (i : Int) : Err := ⟨"PlanError", [("place", .int i), ("what", .str w)]⟩
theorem fmt2 {w : Str} {i : Int} (hw : w.length ≤ 1000) (h1 : -1000000000000 ≤ i) (h2 : i ≤ 1000000000000) : ([PyData.str w, PyData.int i].all fmtD) = true := by
  have h3 := (Wd.of h1 h2).log
  simp [fmtD]
  omega
theorem rai2 {fa : Rho → Res (List D)} {ρ : Rho} {w : Str} {i : Int} (e : fa ρ = .ok [.str w, .int i]) (hw : w.length ≤ 1000) (h1 : -1000000000000 ≤ i) (h2 : i ≤ 1000000000000) : raiS "PlanError" ["what", "place"] fa ρ = .ex (planE w i) ρ := by
  unfold raiS
  rw [e]
  simp only [Res.ok_out]
  rw [if_pos (fmt2 hw h1 h2)]
  rfl
theorem planC : (["PlanError"] : List Str).contains "PlanError" = true := by decide
theorem told_rt {g : Rho → Out} {h : List Hd3} {ρ : Rho} {d : D} (e : g ρ = .rt d) : tryS ["PlanError"] g h ρ = .rt d := by unfold tryS; rw [e]
theorem told_ex {g : Rho → Out} {s : Nat} {ρ ρ' : Rho} {w : Str} {i : Int} (e : g ρ = .ex (planE w i) ρ') (hs : s < ρ'.length) :
    tryS ["PlanError"] g [(["PlanError"], s, retS (tupV (consA (xfV "PlanError" "what" s) (consA (xfV "PlanError" "place" s) nilA))))] ρ = .rt (.tuple [.str w, .int i]) := by
  have hx : ((clrE ρ').set s (some (.er (planE w i))))[s]? = some (some (.er (planE w i))) := List.getElem?_set_self (by unfold clrE; rw [List.length_map]; exact hs)
  have h1 : xfV "PlanError" "what" s ((clrE ρ').set s (some (.er (planE w i)))) = .ok (.str w) := by
    unfold xfV
    rw [hx]
    rfl
  have h2 : xfV "PlanError" "place" s ((clrE ρ').set s (some (.er (planE w i)))) = .ok (.int i) := by
    unfold xfV
    rw [hx]
    rfl
  unfold tryS
  rw [e]
  show (if (["PlanError"] : List Str).contains "PlanError" = true then hdlS _ _ _ else _) = _
  rw [if_pos planC]
  show (if (["PlanError"] : List Str).contains "PlanError" = true then behS _ _ else _) = _
  rw [if_pos planC]
  simp! [h1, h2]
  rfl

/-! ### lists of rows -/
theorem first_of {α : Type} (p : α → Bool) : ∀ l : List α, ((∀ x ∈ l, p x = false) ∧ l.filter p = []) ∨ ∃ (m : Nat) (x : α) (r : List α), l[m]? = some x ∧ p x = true ∧ (∀ i y, i < m → l[i]? = some y → p y = false) ∧ l.filter p = x :: r
  | [] => .inl ⟨fun x h => by simp at h, rfl⟩
  | a :: l => by
    cases q : p a with
    | true => exact .inr ⟨0, a, l.filter p, rfl, q, fun i y h => absurd h (Nat.not_lt_zero _), by rw [List.filter_cons_of_pos q]⟩
    | false =>
      rcases first_of p l with ⟨h1, h2⟩ | ⟨m, x, r, h1, h2, h3, h4⟩
      · refine .inl ⟨fun x hx => ?_, by rw [List.filter_cons, q]; simpa using h2⟩
        rcases List.mem_cons.mp hx with rfl | hx
        · exact q
        · exact h1 x hx
      · refine .inr ⟨m + 1, x, r, by simpa using h1, h2, fun i y hi hy => ?_, by rw [List.filter_cons, q]; simpa using h4⟩
        cases i with
        | zero => simp at hy; rw [← hy]; exact q
        | succ i => exact h3 i y (by omega) (by simpa using hy)
theorem fits_cons : ∀ {ds ss : List Int} {s : Int}, Fits ds (s :: ss) → ∃ d ds', ds = d :: ds' ∧ 0 ≤ d ∧ d < s ∧ Fits ds' ss
  | d :: ds', _, _, h => ⟨d, ds', rfl, h.1, h.2.1, h.2.2⟩
theorem fits_nil : ∀ {ds : List Int}, Fits ds [] → ds = []
  | [], _ => rfl
theorem strict_ok {n : Nat} {d : D} (h : okD n d) : F__law_strictly (n + 1) [d, d] = .ok (.bool true) := strict_refl n d h
theorem okD_int (n : Nat) (i : Int) : okD n (.int i) := by cases n <;> trivial
theorem okD_non (n : Nat) : okD n .none := by cases n <;> trivial
theorem okD_bool (n : Nat) (b : Bool) : okD n (.bool b) := by cases n <;> trivial
theorem okD_str (n : Nat) {x : Str} (h : PyData.strOk x = true) : okD n (.str x) := by cases n <;> exact h
theorem okD_list {n : Nat} {ds : List D} (hl : ds.length < 1000000) (h : ∀ e ∈ ds, okD n e) : okD (n + 1) (.list ds) := ⟨hl, h⟩
theorem okD_tuple {n : Nat} {ds : List D} (hl : ds.length < 1000000) (h : ∀ e ∈ ds, okD n e) : okD (n + 1) (.tuple ds) := ⟨hl, h⟩
theorem okD_pair {n : Nat} {a b : D} (ha : okD n a) (hb : okD n b) : okD (n + 1) (.tuple [a, b]) := okD_tuple (by simp) fun e he => by
  rcases List.mem_cons.mp he with rfl | he
  · exact ha
  · have : e = b := by simpa using he
    rw [this]; exact hb
theorem st_nx {g k : Rho → Out} {ρ ρ' : Rho} {X : Res D} (e : g ρ = .nx ρ') (h : outR (k ρ') = X) : outR (seqS g k ρ) = X := by rw [seq_nx e]; exact h
theorem st_rt {g k : Rho → Out} {ρ : Rho} {d : D} (e : g ρ = .rt d) : outR (seqS g k ρ) = .ok d := by rw [seq_rt e]; rfl
theorem st_for {g0 k : Rho → Out} {t : D → Rho → Option Rho} {g : Rho → Out} {fi : Rho → Res (List D)} {ρ : Rho} {X : Res D} {ds : List D} (P : Nat → Rho → Prop) (hg : g0 = forS fi t g) (hi : fi ρ = .ok ds) (h0 : P 0 ρ)
    (hs : ∀ i d ρ, ds[i]? = some d → P i ρ → ∃ ρ1, t d ρ = some ρ1 ∧ OutQ (g ρ1) (P (i + 1))) (h : ∀ ρ', P ds.length ρ' → outR (k ρ') = X) : outR (seqS g0 k ρ) = X := by
  obtain ⟨ρ', h1, h2⟩ := fors P hi h0 hs
  rw [seq_nx (by rw [hg]; exact h1)]
  exact h ρ' h2
/-- an error's word and place, compared -/
theorem sh_told {w : Str} {i : Int} (h : PyData.strOk w = true) : SeqAt.shaped (.tuple [.str w, .int i]) = true := by simp [SeqAt.shaped, PyData.canLay0, PyData.canLayAll0, PyData.depth, PyData.depthAll, h]
theorem dNe_told {w : Str} {i : Int} (h : PyData.strOk w = true) : dNe (.tuple [.str w, .int i]) (.tuple [.str w, .int i]) = some false := by
  unfold dNe
  rw [if_pos ⟨sh_told h, sh_told h⟩]
  simp [PyData.eqv, PyData.eqvAll]
theorem dEq_told {w : Str} {i : Int} (h : PyData.strOk w = true) : dEq (.tuple [.str w, .int i]) (.tuple [.str w, .int i]) = some true := by
  unfold dEq
  rw [if_pos ⟨sh_told h, sh_told h⟩]
  simp [PyData.eqv, PyData.eqvAll]
end VL

set_option Elab.async false
set_option linter.all false
set_option maxRecDepth 100000
set_option maxHeartbeats 4000000
namespace VL
open PySem PySem.Spec PyProof.Rows L2

/-! ### pure elements of a generator expression: by the machine's own values -/
structure RawAt (N : List Str) (mg : Str → Option Value) (sc : Scope) (env : Env) (ρ : Rho) (s : Shared) : Prop where
  kind : env.scope.kind = .function
  nm : ∀ (i : Nat) (d : D) (x : Str), ρ[i]? = some (some (.fz d)) → N[i]? = some x → ∃ (v : Value) (as : List Addr), Reads s.heap v d as ∧
    ((env.kindOf x = some .local ∧ ∃ m, s.heap.Ns env.locals m ∧ m x = some v) ∨ (env.kindOf x = some .free ∧ ∃ c, env.cells.lookup x = some c ∧ s.heap.IsCell c (some v)))
  glob : s.heap.Ns env.globals mg
  scp : env.scope = sc
def dAddN : D → D → Option D
  | .int i, .int j => some (.int (i + j))
  | _, _ => none
def dLtN : D → D → Option Bool
  | .int i, .int j => some (decide (i < j))
  | _, _ => none
theorem kpR (s : Shared) : Keeps s s := ⟨s.heap, s.toks, rfl, fun _ _ e => e⟩
theorem kpTok (s : Shared) (k : Nat) : Keeps s { s with toks := k } := ⟨s.heap, k, rfl, fun _ _ e => e⟩
theorem kpTrans {a b c : Shared} (h : Keeps a b) (k : Keeps b c) : Keeps a c := by
  obtain ⟨h1, k1, rfl, p1⟩ := h
  obtain ⟨h2, k2, rfl, p2⟩ := k
  exact ⟨h2, k2, rfl, fun b o e => p2 b o (p1 b o e)⟩
theorem kpHp {a b : Shared} (h : Keeps a b) : ∀ c o, a.heap.get? c = some o → b.heap.get? c = some o := by
  obtain ⟨h1, k1, rfl, p1⟩ := h
  exact p1
theorem RawAt.keeps {N : List Str} {mg : Str → Option Value} {sc : Scope} {env : Env} {ρ : Rho} {s s' : Shared} (R : RawAt N mg sc env ρ s) (k : Keeps s s') : RawAt N mg sc env ρ s' :=
  ⟨R.kind, fun i d x h1 h2 => by
    obtain ⟨v, as, r, h⟩ := R.nm i d x h1 h2
    refine ⟨v, as, Reads.keeps (kpHp k) r, ?_⟩
    rcases h with ⟨h3, m, h4, h5⟩ | ⟨h3, c, h4, h5⟩
    · exact .inl ⟨h3, m, h4.keeps (kpHp k), h5⟩
    · exact .inr ⟨h3, c, h4, h5.keeps (kpHp k)⟩, R.glob.keeps (kpHp k), R.scp⟩
/-- a pure expression in a generator's frame -/
def RE (P : Program) (w : World) (N : List Str) (mg : Str → Option Value) (sc : Scope) (e : Expr) (f : Rho → Res D) : Prop :=
  ∀ (env : Env) (A : Around) (E : Value → Shared → Prop) (s : Shared) (ρ : Rho) (d : D) (Q : Value → Shared → Prop), A.units + 64 < cLine → RawAt N mg sc env ρ s → f ρ = .ok d →
    (∀ (v : Value) (s' : Shared) (as : List Addr), Keeps s s' → Reads s'.heap v d as → Q v s') → wpAny (model P w) A (eval e env) Q E s
def RT (P : Program) (w : World) (N : List Str) (mg : Str → Option Value) (sc : Scope) (e : Expr) (f : Rho → Res Bool) : Prop :=
  ∀ (env : Env) (A : Around) (E : Value → Shared → Prop) (s : Shared) (ρ : Rho) (b : Bool) (Q : Bool → Shared → Prop), A.units + 64 < cLine → RawAt N mg sc env ρ s → f ρ = .ok b →
    (∀ (s' : Shared), Keeps s s' → Q b s') → wpAny (model P w) A (isTrue e env (eval e env)) Q E s
section
variable {P : Program} {w : World} {N : List Str} {mg : Str → Option Value} {sc : Scope} {a b e : Expr} {fa fb f : Rho → Res D} {pos : Pos}
theorem re_int {i : Int} {j} : RE P w N mg sc (.Constant (.int i) j pos) (kI i) := fun env A E s ρ d Q _ R hd h => by
  cases hd
  exact wpAny_Constant_int (h _ _ [] (kpTok s _) (.int i _))
theorem re_var (i : Nat) {x : Str} (hN : N[i]? = some x := by rfl) (hd : (x == ("__debug__" : Str)) = false := by decide) (hcd : (x == ("__classdict__" : Str)) = false := by decide) : RE P w N mg sc (.Name x pos) (var i) := fun env A E s ρ d Q _ R hv h => by
  unfold var at hv
  split at hv
  · rename_i d' hr
    cases hv
    obtain ⟨v, as, r, q⟩ := R.nm i _ x hr hN
    rcases q with ⟨h3, m, h4, h5⟩ | ⟨h3, c, h4, h5⟩
    · exact wpAny_Name (wpAny_loadName_local R.kind h3 h4 h5 (h v s as (kpR s) r)) hd
    · exact wpAny_Name (wpAny_loadName_free R.kind h3 h4 h5 (h v s as (kpR s) r) hcd) hd
  · cases hv
/-- the operator's rule serves the function of data, by values -/
def OpRaw (P : Program) (w : World) (op : Value → Value → Sem Value) (g : D → D → Option D) : Prop :=
  ∀ (A : Around) (E : Value → Shared → Prop) (s : Shared) (x y : Value) (as bs : List Addr) (da db d : D) (Q : Value → Shared → Prop), A.units + 64 < cLine → Reads s.heap x da as → Reads s.heap y db bs → g da db = some d →
    (∀ (v : Value) (s' : Shared) (cs : List Addr), Keeps s s' → Reads s'.heap v d cs → Q v s') → wpAny (model P w) A (op x y) Q E s
theorem re_bin {op : Operator} {g : D → D → Option D} (ho : OpRaw P w (binaryOp op) g) (ha : RE P w N mg sc a fa) (hb : RE P w N mg sc b fb) : RE P w N mg sc (.BinOp a op b pos) (bin fa fb g) := fun env A E s ρ d Q hu R hd h => by
  unfold bin at hd
  cases e1 : fa ρ with
  | no => rw [e1] at hd; cases hd
  | ex _ => rw [e1] at hd; cases hd
  | ok da =>
    rw [e1] at hd
    cases e2 : fb ρ with
    | no => simp only [Res.ok_bind, e2, Res.no_bind] at hd; cases hd
    | ex _ => simp only [Res.ok_bind, e2, Res.ex_bind] at hd; cases hd
    | ok db =>
      simp only [Res.ok_bind, e2] at hd
      cases e3 : g da db with
      | none => rw [e3] at hd; cases hd
      | some dd =>
        rw [e3] at hd
        cases hd
        refine wpAny_BinOp (ha env A E s ρ da _ hu R e1 fun v1 s1 as k1 r1 => hb env A E s1 ρ db _ hu (R.keeps k1) e2 fun v2 s2 bs k2 r2 => ?_)
        exact ho A E s2 v1 v2 as bs da db _ Q hu (Reads.keeps (kpHp k2) r1) r2 e3 fun v3 s3 cs k3 r3 => h v3 s3 cs (kpTrans (kpTrans k1 k2) k3) r3
theorem raw_sub : OpRaw P w (binaryOp .Sub) dSub := fun A E s x y as bs da db d Q hu r1 r2 e h => by
  unfold dSub at e
  split at e
  · cases e
    cases r1
    cases r2
    exact sub_int (h _ _ [] (kpTok s _) (.int _ _))
  · cases e
theorem raw_add : OpRaw P w (binaryOp .Add) dAddN := fun A E s x y as bs da db d Q hu r1 r2 e h => by
  unfold dAddN at e
  split at e
  · cases e
    cases r1
    cases r2
    exact add_int (h _ _ [] (kpTok s _) (.int _ _))
  · cases e
theorem raw_mul : OpRaw P w (binaryOp .Mult) dMul := fun A E s x y as bs da db d Q hu r1 r2 e h => by
  unfold dMul at e
  split at e
  · split at e
    · rename_i hc
      cases e
      cases r1
      cases r2
      exact mul_int (h _ _ [] (kpTok s _) (.int _ _)) hc.ok
    · cases e
  · cases e
def OpRawB (P : Program) (w : World) (op : Value → Value → Sem Value) (g : D → D → Option Bool) : Prop :=
  ∀ (A : Around) (E : Value → Shared → Prop) (s : Shared) (x y : Value) (as bs : List Addr) (da db : D) (k : Bool) (Q : Value → Shared → Prop), A.units + 64 < cLine → Reads s.heap x da as → Reads s.heap y db bs → g da db = some k →
    (∀ (s' : Shared), Keeps s s' → Q (.bool k) s') → wpAny (model P w) A (op x y) Q E s
theorem rawb_lt : OpRawB P w (compareOp .Lt) dLtN := fun A E s x y as bs da db d Q hu r1 r2 e h => by
  unfold dLtN at e
  split at e
  · cases e
    cases r1
    cases r2
    exact lt_int (h _ (kpR s))
  · cases e
theorem rawb_le : OpRawB P w (compareOp .LtE) dLe := fun A E s x y as bs da db d Q hu r1 r2 e h => by
  unfold dLe at e
  split at e
  · cases e
    cases r1
    cases r2
    exact le_int (h _ (kpR s))
  · cases e
theorem rawb_eq : OpRawB P w (compareOp .Eq) dEq := fun A E s x y as bs da db d Q hu r1 r2 e h => by
  unfold dEq at e
  split at e
  · rename_i hc
    cases e
    exact SeqAt.compareEq_shaped r1 r2 hc.1 hc.2 hu (h _ (kpR s))
  · cases e
theorem rawb_ne : OpRawB P w (compareOp .NotEq) dNe := fun A E s x y as bs da db d Q hu r1 r2 e h => by
  unfold dNe at e
  split at e
  · rename_i hc
    cases e
    exact SeqAt.compareNe_shaped r1 r2 hc.1 hc.2 hu (h _ (kpR s))
  · cases e
theorem two_raw {env : Env} {A : Around} {E : Value → Shared → Prop} {s : Shared} {ρ : Rho} {da db : D} {Q : Value → Value → Shared → Prop} (ha : RE P w N mg sc a fa) (hb : RE P w N mg sc b fb) (hu : A.units + 64 < cLine) (R : RawAt N mg sc env ρ s) (e1 : fa ρ = .ok da) (e2 : fb ρ = .ok db)
    (h : ∀ v1 v2 as bs s2, Keeps s s2 → Reads s2.heap v1 da as → Reads s2.heap v2 db bs → Q v1 v2 s2) :
    wpAny (model P w) A (eval a env) (fun v1 s1 => wpAny (model P w) A (eval b env) (fun v2 s2 => Q v1 v2 s2) E s1) E s :=
  ha env A E s ρ da _ hu R e1 fun v1 s1 as k1 r1 => hb env A E s1 ρ db _ hu (R.keeps k1) e2 fun v2 s2 bs k2 r2 => h v1 v2 as bs s2 (kpTrans k1 k2) (Reads.keeps (kpHp k2) r1) r2
theorem binB_of {g : D → D → Option Bool} {ρ : Rho} {k : Bool} (hd : binB fa fb g ρ = .ok k) : ∃ da db, fa ρ = .ok da ∧ fb ρ = .ok db ∧ g da db = some k := by
  unfold binB at hd
  cases e1 : fa ρ with
  | no => rw [e1] at hd; cases hd
  | ex _ => rw [e1] at hd; cases hd
  | ok da =>
    rw [e1] at hd
    cases e2 : fb ρ with
    | no => simp only [Res.ok_bind, e2, Res.no_bind] at hd; cases hd
    | ex _ => simp only [Res.ok_bind, e2, Res.ex_bind] at hd; cases hd
    | ok db =>
      simp only [Res.ok_bind, e2] at hd
      cases e3 : g da db with
      | none => rw [e3] at hd; cases hd
      | some dd =>
        rw [e3] at hd
        cases hd
        exact ⟨da, db, rfl, rfl, e3⟩
theorem rt_cmp {op : CmpOp} {g : D → D → Option Bool} (ho : OpRawB P w (compareOp op) g) (ha : RE P w N mg sc a fa) (hb : RE P w N mg sc b fb) (hm : behindInMarks op b = false) : RT P w N mg sc (.Compare a [op] [b] pos) (binB fa fb g) := fun env A E s ρ k Q hu R hd h => by
  obtain ⟨da, db, e1, e2, e3⟩ := binB_of hd
  refine wpAny_isTrue_Compare1 (two_raw ha hb hu R e1 e2 fun v1 v2 as bs s2 kk r1 r2 => ?_) hm
  exact ho A E s2 v1 v2 as bs da db k _ hu r1 r2 e3 fun s3 k3 => wpAny_truthy_bool (h s3 (kpTrans kk k3))
theorem re_cmp {op : CmpOp} {g : D → D → Option Bool} (ho : OpRawB P w (compareOp op) g) (ha : RE P w N mg sc a fa) (hb : RE P w N mg sc b fb) (hm : behindInMarks op b = false) : RE P w N mg sc (.Compare a [op] [b] pos) (vB (binB fa fb g)) := fun env A E s ρ d Q hu R hd h => by
  unfold vB at hd
  cases e : binB fa fb g ρ with
  | no => rw [e] at hd; cases hd
  | ex _ => rw [e] at hd; cases hd
  | ok k =>
    rw [e] at hd
    cases hd
    obtain ⟨da, db, e1, e2, e3⟩ := binB_of e
    refine wpAny_Compare1 (two_raw ha hb hu R e1 e2 fun v1 v2 as bs s2 kk r1 r2 => ?_) hm
    exact ho A E s2 v1 v2 as bs da db k _ hu r1 r2 e3 fun s3 k3 => h _ s3 [] (kpTrans kk k3) (.bool k)
/-- a[i] -/
noncomputable def dIxN : D → D → Option D
  | .list ds, .int i => if ds.length ≤ sizeLine then atI ds i else none
  | .tuple ds, .int i => if ds.length ≤ sizeLine then atI ds i else none
  | _, _ => none
theorem reads_at {h : Heap} : ∀ {us : List Value} {ds : List D} {as : List Addr} {i : Nat} {d : D}, ReadsAll h us ds as → ds[i]? = some d → ∃ u bs, us[i]? = some u ∧ Reads h u d bs
  | _, _, _, 0, _, .cons r _, e => by cases e; exact ⟨_, _, rfl, r⟩
  | _, _, _, i + 1, d, .cons _ t, e => by
    obtain ⟨u, bs, h1, h2⟩ := reads_at (i := i) (d := d) t (by simpa using e)
    exact ⟨u, bs, by simpa using h1, h2⟩
  | _, _, _, _, _, .nil, e => by simp at e
theorem readsAll_length {h : Heap} : ∀ {us : List Value} {ds : List D} {as : List Addr}, ReadsAll h us ds as → us.length = ds.length
  | _, _, _, .nil => rfl
  | _, _, _, .cons _ t => by rw [List.length_cons, List.length_cons, readsAll_length t]
theorem re_ix (ha : RE P w N mg sc a fa) (hb : RE P w N mg sc b fb) (hs : PlainIx b := by exact fun _ _ => rfl) : RE P w N mg sc (.Subscript a b pos) (bin fa fb dIxN) := fun env A E s ρ d Q hu R hd h => by
  have sz : sizeLine = 16777216 := rfl
  obtain ⟨da, db, e1, e2, e3⟩ : ∃ da db, fa ρ = .ok da ∧ fb ρ = .ok db ∧ dIxN da db = some d := by
    unfold bin at hd
    cases e1 : fa ρ with
    | no => rw [e1] at hd; cases hd
    | ex _ => rw [e1] at hd; cases hd
    | ok da =>
      rw [e1] at hd
      cases e2 : fb ρ with
      | no => simp only [Res.ok_bind, e2, Res.no_bind] at hd; cases hd
      | ex _ => simp only [Res.ok_bind, e2, Res.ex_bind] at hd; cases hd
      | ok db =>
        simp only [Res.ok_bind, e2] at hd
        cases e3 : dIxN da db with
        | none => rw [e3] at hd; cases hd
        | some dd => rw [e3] at hd; cases hd; exact ⟨da, db, rfl, rfl, e3⟩
  refine Subscript_ (two_raw ha hb hu R e1 e2 fun v1 v2 as bs s2 kk r1 r2 => ?_)
  have hn := line63
  unfold dIxN at e3
  split at e3
  · rename_i ds i
    split at e3
    · rename_i hsz
      obtain ⟨j, h1, h2, h3, h4, h5⟩ := L2.atI_get e3
      cases r2
      cases r1 with
      | list g1 g2 g3 g4 =>
        rename_i l o vs n as'
        have hl := readsAll_length g4
        rw [Array.length_toList] at hl
        obtain ⟨u, cs, hu1, hu2⟩ := reads_at g4 h2
        have il : s2.heap.IsList l vs := ⟨o, g1, g2, n, g3⟩
        have hu3 : vs[j]? = some u := by simpa using hu1
        have fin := h u s2 cs kk hu2
        by_cases h0 : 0 ≤ i
        · have hj : i.toNat = j := by
            rw [seqIndex_of h0 h5] at h1
            exact Option.some.inj h1
          exact item_listR il h0 (by omega) (by rw [hj]; exact hu3) fin (hs _ _)
        · have hj : (i + (vs.size : Int)).toNat = j := by
            rw [seqIndex_neg (by omega) h4] at h1
            rw [hl]
            exact Option.some.inj h1
          exact subscriptTail_builtinR (x := u) il.typeIs slot_list_getitem.lookup
            (wpAny_getItem_list_neg (Q := fun r s' => r = u ∧ Q r s') il (by omega) (by omega) (by omega) (by rw [hj]; exact hu3) ⟨rfl, fin⟩) (hs _ _)
    · cases e3
  · rename_i ds i
    split at e3
    · rename_i hsz
      obtain ⟨j, h1, h2, h3, h4, h5⟩ := L2.atI_get e3
      cases r2
      cases r1 with
      | tuple g1 g2 g3 g4 =>
        rename_i l o vs n
        have hl := readsAll_length g4
        rw [Array.length_toList] at hl
        obtain ⟨u, cs, hu1, hu2⟩ := reads_at g4 h2
        have il : s2.heap.IsTuple l vs := ⟨o, g1, g2, n, g3⟩
        have hu3 : vs[j]? = some u := by simpa using hu1
        have fin := h u s2 cs kk hu2
        exact subscriptTail_builtinR (x := u) il.typeIs slot_tuple_getitem.lookup
          (getItem_tuple (j := j) (Q := fun r s' => r = u ∧ Q r s') il (by omega) (by omega) (by rw [hl]; exact h1) hu3 ⟨rfl, fin⟩) (hs _ _)
    · cases e3
  · cases e3
theorem rt_val (h : RE P w N mg sc e f) (he : ∀ env whole, isTrue e env whole = (do let v ← whole; standAt e.pos; holding [v] (truthy v)) := by intro _ _; rfl) : RT P w N mg sc e (isB f) := fun env A E s ρ b Q hu R hd k => by
  unfold isB at hd
  cases e1 : f ρ with
  | no => rw [e1] at hd; cases hd
  | ex _ => rw [e1] at hd; cases hd
  | ok d =>
    rw [e1] at hd
    cases d with
    | bool c =>
      cases hd
      rw [he]
      refine wpAny_bind (h env A E s ρ _ _ hu R e1 fun v s1 as kk r => ?_)
      cases r
      exact wpAny_bind (wpAny_standAt (wpAny_holding (wpAny_truthy_bool (k s1 kk))))
    | _ => cases hd
theorem re_one {op} (h : RE P w N mg sc a fa) : RE P w N mg sc (.BoolOp op [a] pos) fa := fun env A E s ρ d Q hu R hd k => BoolOp_one (h env A E s ρ d Q hu R hd k)
theorem re_and {rest : List Expr} (ha : RE P w N mg sc a fa) (hb : RE P w N mg sc (.BoolOp .And (b :: rest) pos) fb) : RE P w N mg sc (.BoolOp .And (a :: b :: rest) pos) (andV fa fb) := fun env A E s ρ d Q hu R hd h => by
  unfold andV at hd
  cases e1 : fa ρ with
  | no => rw [e1] at hd; cases hd
  | ex _ => rw [e1] at hd; cases hd
  | ok da =>
    rw [e1] at hd
    cases da with
    | bool c =>
      refine BoolOp_and (ha env A E s ρ _ _ hu R e1 fun v s1 as k1 r1 => ?_)
      cases r1
      refine wpAny_truthy_bool ?_
      cases c with
      | true => exact hb env A E s1 ρ d Q hu (R.keeps k1) hd fun v s2 bs k2 r2 => h v s2 bs (kpTrans k1 k2) r2
      | false => cases hd; exact h _ s1 [] k1 (.bool false)
    | _ => cases hd
theorem re_or {rest : List Expr} (ha : RE P w N mg sc a fa) (hb : RE P w N mg sc (.BoolOp .Or (b :: rest) pos) fb) : RE P w N mg sc (.BoolOp .Or (a :: b :: rest) pos) (orV fa fb) := fun env A E s ρ d Q hu R hd h => by
  unfold orV at hd
  cases e1 : fa ρ with
  | no => rw [e1] at hd; cases hd
  | ex _ => rw [e1] at hd; cases hd
  | ok da =>
    rw [e1] at hd
    cases da with
    | bool c =>
      refine BoolOp_or (ha env A E s ρ _ _ hu R e1 fun v s1 as k1 r1 => ?_)
      cases r1
      refine wpAny_truthy_bool ?_
      cases c with
      | true => cases hd; exact h _ s1 [] k1 (.bool true)
      | false => exact hb env A E s1 ρ d Q hu (R.keeps k1) hd fun v s2 bs k2 r2 => h v s2 bs (kpTrans k1 k2) r2
    | _ => cases hd
theorem rawb_in : OpRawB P w (compareOp .In) (fun a b => match a, b with | .str i, .str j => some (inS i j) | _, _ => none) := fun A E s x y as bs da db d Q hu r1 r2 e h => by
  cases da <;> cases db <;> try cases e
  cases r1
  cases r2
  exact in_str (h _ (kpR s))
theorem re_gstr {x : Str} {i : Str} {t : Tok} (hm : mg x = some (.str i t)) (hg : sc.names.lookup x = some .globalImplicit := by rfl) (hd : (x == ("__debug__" : Str)) = false := by decide) : RE P w N mg sc (.Name x pos) (kS i) := fun env A E s ρ d Q _ R hv h => by
  cases hv
  exact Calls.Name_function_global R.kind (by show env.scope.names.lookup x = _; rw [R.scp]; exact hg) (Calls.loadGlobal_global R.glob hm (h _ s [] (kpR s) (.str i t))) hd
theorem re_str {i : Str} {j} : RE P w N mg sc (.Constant (.str i) j pos) (kS i) := fun env A E s ρ d Q _ R hd h => by
  cases hd
  exact wpAny_Constant_str (h _ _ [] (kpTok s _) (.str i _))
end
end VL

set_option Elab.async false
set_option linter.all false
set_option maxRecDepth 100000
set_option maxHeartbeats 4000000
namespace VL
open PySem PySem.Spec PyProof.Rows L2

/-- a test of a generator expression, of none or one clause -/
def RTs (P : Program) (w : World) (N : List Str) (mg : Str → Option Value) (sc : Scope) (ifs : List Expr) (f : Rho → Res Bool) : Prop :=
  ∀ (env : Env) (A : Around) (E : Value → Shared → Prop) (s : Shared) (ρ : Rho) (b : Bool) (Q : Bool → Shared → Prop), A.units + 64 < cLine → RawAt N mg sc env ρ s → f ρ = .ok b → (∀ (s' : Shared), Keeps s s' → Q b s') →
    wpAny (model P w) A (forIn ifs true fun c r => if r = true then do let ok ← isTrue c env (eval c env); pure (ForInStep.yield ok) else pure (ForInStep.yield r)) Q E s
section
variable {P : Program} {w : World} {N : List Str} {mg : Str → Option Value} {sc : Scope}
theorem rts_nil : RTs P w N mg sc [] (fun _ => .ok true) := fun env A E s ρ b Q _ R hd h => by
  cases hd
  simp only [List.forIn_nil]
  exact wpAny_pure (h s (kpR s))
theorem rts_one {c : Expr} {f : Rho → Res Bool} (hc : RT P w N mg sc c f) : RTs P w N mg sc [c] f := fun env A E s ρ b Q hu R hd h => by
  simp only [List.forIn_cons, List.forIn_nil, if_true]
  refine wpAny_bind (wpAny_bind (hc env A E s ρ b _ hu R hd fun s' k => ?_))
  exact wpAny_pure (wpAny_pure (h s' k))
end
/-! ### a generator expression over a list or a tuple, its elements plain -/
/-- a plain value -/
inductive Scal : D → Value → Prop
  | int (i : Int) (t : Tok) : Scal (.int i) (.int i t)
  | bool (b : Bool) : Scal (.bool b) (.bool b)
  | str (x : Str) (t : Tok) : Scal (.str x) (.str x t)
def scalB : D → Bool
  | .int _ => true
  | .bool _ => true
  | .str _ => true
  | _ => false
theorem scal_of {h : Heap} {d : D} {v : Value} {as : List Addr} (r : Reads h v d as) (b : scalB d = true) : Scal d v := by
  cases d with
  | int i => cases r; exact .int _ _
  | bool k => cases r; exact .bool _
  | str x => cases r; exact .str _ _
  | _ => cases b
/-- the generator g, ready to be walked, gives ys -/
def ReadyV (X : Cx) (pins : List (Addr × Obj)) (σ : L2.St) (H1 : Hp) (P : Addr) (ys : List D) (g : Addr) (s5 : Shared) : Prop :=
  ∃ (fp wr : List Addr) (G : Array GenState → Array GenState → Prop) (F : Nat → Value → Prop) (St : Nat → Shared → Prop),
    WalksS X.prog X.w X.A.in1 g fp wr G ys.length F St ∧ St 0 s5 ∧ (∀ b ∈ fp, b < s5.heap.objs.size) ∧
    (∀ j v, F j v → ∃ d, ys[j]? = some d ∧ Scal d v) ∧
    ∀ s', Moved wr G s5 s' → ∃ H2, GxR.Tabbed P H1 H2 ∧ Inv X pins σ H2 s'
/-- the slots that the generator's frame captures -/
def maskR : List Bool → Rho → Rho
  | true :: m, o :: ρ => o :: maskR m ρ
  | false :: m, _ :: ρ => none :: maskR m ρ
  | _, _ => []
theorem maskR_some : ∀ {m : List Bool} {ρ : Rho} {j : Nat} {lv : LV}, (maskR m ρ)[j]? = some (some lv) → ρ[j]? = some (some lv) ∧ m[j]? = some true
  | true :: m, o :: ρ, 0, lv, h => by simp [maskR] at h; simp [h]
  | true :: m, o :: ρ, j + 1, lv, h => by simp [maskR] at h; simpa using maskR_some h
  | false :: m, o :: ρ, 0, lv, h => by simp [maskR] at h
  | false :: m, o :: ρ, j + 1, lv, h => by simp [maskR] at h; simpa using maskR_some h
  | [], _, _, _, h => by simp [maskR] at h
  | true :: _, [], _, _, h => by simp [maskR] at h
  | false :: _, [], _, _, h => by simp [maskR] at h
theorem maskR_length : ∀ {m : List Bool} {ρ : Rho}, m.length = ρ.length → (maskR m ρ).length = ρ.length
  | true :: m, o :: ρ, h => by simp [maskR]; exact maskR_length (by simpa using h)
  | false :: m, o :: ρ, h => by simp [maskR]; exact maskR_length (by simpa using h)
  | [], [], _ => rfl
  | [], _ :: _, h => by simp at h
  | _ :: _, [], h => by simp at h
/-- what the generator gives: the elements of the items that pass -/
def gxL (i : Nat) (m : List Bool) (c : Rho → Res Bool) (f : Rho → Res D) (ρ : Rho) : List D → Res (List D)
  | [] => .ok []
  | d :: ds => (noX (c ((maskR m ρ).set i (some (.fz d))))).bind fun k => if k = true then (noX (f ((maskR m ρ).set i (some (.fz d))))).bind fun y => if scalB y = true then (gxL i m c f ρ ds).bind fun ys => .ok (y :: ys) else .no else gxL i m c f ρ ds
end VL

set_option Elab.async false
set_option linter.all false
set_option maxRecDepth 100000
set_option maxHeartbeats 4000000
namespace VL
open PySem PySem.Spec PyProof.Rows L2
/-! ### data are read still where all but some plain objects are kept -/
mutual
theorem reads_but {h h' : Heap} {P : Addr} (hP : ∀ o, h.get? P = some o → ∃ vs, o.data = .fields vs) (hk : ∀ b o, b ≠ P → h.get? b = some o → h'.get? b = some o) : ∀ {v : Value} {d : D} {as : List Addr}, Reads h v d as → Reads h' v d as
  | _, _, _, .none => .none
  | _, _, _, .bool b => .bool b
  | _, _, _, .int i t => .int i t
  | _, _, _, .str x t => .str x t
  | _, _, _, .list (a := a) (o := o) e1 e2 e3 r => .list (hk _ _ (fun z => by
      subst z
      obtain ⟨vs, q⟩ := hP _ e1
      rw [e3] at q; cases q) e1) e2 e3 (reads_butAll hP hk r)
  | _, _, _, .tuple e1 e2 e3 r => .tuple (hk _ _ (fun z => by
      subst z
      obtain ⟨vs, q⟩ := hP _ e1
      rw [e3] at q; cases q) e1) e2 e3 (reads_butAll hP hk r)
  | _, _, _, .dict e1 e2 e3 r t => .dict (hk _ _ (fun z => by
      subst z
      obtain ⟨vs, q⟩ := hP _ e1
      rw [e3] at q; cases q) e1) e2 e3 (reads_butAll hP hk r) (reads_butAll hP hk t)
theorem reads_butAll {h h' : Heap} {P : Addr} (hP : ∀ o, h.get? P = some o → ∃ vs, o.data = .fields vs) (hk : ∀ b o, b ≠ P → h.get? b = some o → h'.get? b = some o) : ∀ {vs : List Value} {ds : List D} {as : List Addr}, ReadsAll h vs ds as → ReadsAll h' vs ds as
  | _, _, _, .nil => .nil
  | _, _, _, .cons r t => .cons (reads_but hP hk r) (reads_butAll hP hk t)
end
/-! ### what is given, place by place -/
def sub1 (i : Nat) (m : List Bool) (ρ : Rho) (d : D) : Rho := (maskR m ρ).set i (some (.fz d))
def pzD (i : Nat) (m : List Bool) (c : Rho → Res Bool) (ρ : Rho) (ds : List D) (j : Nat) : Bool := match ds[j]? with
  | some d => (match c (sub1 i m ρ d) with
    | .ok b => b
    | _ => false)
  | none => false
theorem filt_succ (p : Nat → Bool) (n : Nat) : (List.range (n + 1)).filter p = (if p 0 = true then [0] else []) ++ ((List.range n).filter fun j => p (j + 1)).map (· + 1) := by
  rw [List.range_succ_eq_map, List.filter_cons, List.filter_map]
  split <;> rfl
theorem gx_places {i : Nat} {m : List Bool} {c : Rho → Res Bool} {f : Rho → Res D} {ρ : Rho} : ∀ {ds ys : List D}, gxL i m c f ρ ds = .ok ys → 
    (∀ j, j < ds.length → ∃ b, ∀ d, ds[j]? = some d → c (sub1 i m ρ d) = .ok b) ∧
    ((List.range ds.length).filter (pzD i m c ρ ds)).length = ys.length ∧ ∀ (k j : Nat), ((List.range ds.length).filter (pzD i m c ρ ds))[k]? = some j → ∃ d z, ds[j]? = some d ∧ f (sub1 i m ρ d) = .ok z ∧ scalB z = true ∧ ys[k]? = some z
  | [], ys, h => by
    cases h
    exact ⟨fun j hj => absurd hj (by simp), rfl, fun k j hk => by simp at hk⟩
  | d :: ds, ys, h => by
    unfold gxL at h
    cases e : c ((maskR m ρ).set i (some (.fz d))) with
    | ex x => rw [e] at h; cases h
    | no => rw [e] at h; cases h
    | ok b =>
      rw [e] at h
      simp only [noX_ok, Res.ok_bind] at h
      have hp0 : pzD i m c ρ (d :: ds) 0 = b := by
        unfold pzD
        simp only [List.getElem?_cons_zero]
        unfold sub1
        rw [e]
      have hps : (fun j => pzD i m c ρ (d :: ds) (j + 1)) = pzD i m c ρ ds := by
        funext j
        unfold pzD
        simp only [List.getElem?_cons_succ]
      have hc0 : ∀ {q : Nat → Prop}, q 0 → (∀ j, q (j + 1)) → ∀ j, q j := fun h0 h1 j => by cases j <;> first | exact h0 | exact h1 _
      cases b with
      | false =>
        rw [if_neg (by decide)] at h
        obtain ⟨g0, g1, g2⟩ := gx_places h
        rw [List.length_cons, filt_succ, hp0, hps]
        refine ⟨fun j hj => ?_, ?_, fun k j hk => ?_⟩
        · cases j with
          | zero => exact ⟨false, fun d' hd => by cases hd; exact e⟩
          | succ j => 
            obtain ⟨b, hb⟩ := g0 j (by simpa using hj)
            exact ⟨b, fun d' hd => hb d' (by simpa using hd)⟩
        · simpa using g1
        · rw [if_neg (by decide), List.nil_append, List.getElem?_map] at hk
          cases q : ((List.range ds.length).filter (pzD i m c ρ ds))[k]? with
          | none => rw [q] at hk; cases hk
          | some j' =>
            rw [q] at hk
            cases hk
            obtain ⟨d', z, h1, h2⟩ := g2 k j' q
            exact ⟨d', z, by simpa using h1, h2⟩
      | true =>
        rw [if_pos rfl] at h
        cases e2 : f ((maskR m ρ).set i (some (.fz d))) with
        | ex x => rw [e2] at h; cases h
        | no => rw [e2] at h; cases h
        | ok z =>
          rw [e2] at h
          simp only [noX_ok, Res.ok_bind] at h
          by_cases hz : scalB z = true
          · rw [if_pos hz] at h
            cases e3 : gxL i m c f ρ ds with
            | ex x => rw [e3] at h; cases h
            | no => rw [e3] at h; cases h
            | ok zs =>
              rw [e3] at h
              cases h
              obtain ⟨g0, g1, g2⟩ := gx_places e3
              rw [List.length_cons, filt_succ, hp0, hps]
              refine ⟨fun j hj => ?_, ?_, fun k j hk => ?_⟩
              · cases j with
                | zero => exact ⟨true, fun d' hd => by cases hd; exact e⟩
                | succ j => 
                  obtain ⟨b, hb⟩ := g0 j (by simpa using hj)
                  exact ⟨b, fun d' hd => hb d' (by simpa using hd)⟩
              · simp [g1]
              · rw [if_pos rfl] at hk
                cases k with
                | zero =>
                  simp at hk
                  subst hk
                  exact ⟨d, z, rfl, e2, hz, rfl⟩
                | succ k =>
                  simp only [List.cons_append, List.nil_append, List.getElem?_cons_succ, List.getElem?_map] at hk
                  cases q : ((List.range ds.length).filter (pzD i m c ρ ds))[k]? with
                  | none => rw [q] at hk; cases hk
                  | some j' =>
                    rw [q] at hk
                    cases hk
                    obtain ⟨d', z', h1, h2⟩ := g2 k j' q
                    exact ⟨d', z', by simpa using h1, h2⟩
          · rw [if_neg hz] at h; cases h
/-! ### a table that grew -/
theorem grow_tab {F H H2 : Hp} {P : Addr} (s : Sub F H) (hP : GxR.TabG H P) (ht : GxR.Tabbed P H H2) : Grow F H F H2 := by
  obtain ⟨ps, hp, tp⟩ := hP
  obtain ⟨⟨qs, hq, tq⟩, hb⟩ := ht
  have hs : Sub H H2 := ⟨fun a o e n => by
    rw [hb a fun z => by rw [z, hp] at e; cases e; exact n ps rfl]; exact e, fun a rs e t => by
    by_cases z : a = P
    · subst z; exact ⟨qs, hq, tq⟩
    · exact ⟨rs, by rw [hb a z]; exact e, t⟩, fun a e => by
    by_cases z : a = P
    · subst z; rw [hq]; simp
    · rw [hb a z]; exact e⟩
  exact ⟨Sub.refl F, hs, s.trans hs, fun _ _ => rfl⟩
theorem tab_of {F H : Hp} {P : Addr} (s : Sub F H) (h : GxR.TabG F P) : GxR.TabG H P := by
  obtain ⟨ps, hp, tp⟩ := h
  obtain ⟨qs, h1, h2⟩ := s.tb P ps hp tp
  exact ⟨qs, h1, h2⟩
/-- the data of a list, of a tuple -/
def seqD : D → Option (List D)
  | .list ds => some ds
  | .tuple ds => some ds
  | .str z => some (z.cps.toList.map fun c => .str ⟨#[c]⟩)
  | _ => none
/-- the names that the generator's frame captures -/
structure CapOk (X : Cx) (scope : Scope) (m : List Bool) (x : Str) : Prop where
  free : ∀ (j : Nat) (y : Str), m[j]? = some true → X.N[j]? = some y → scope.names.lookup y = some .free ∧ Vis X.env.scope y ∧ y ≠ x ∧ (X.env.kindOf y = some .cell ∨ X.env.kindOf y = some .free)
theorem clo_lookup {cells : List (Str × Addr)} : ∀ {names : List (Str × NameKind)} {acc : List (Str × Addr)} {y : Str}, (y, NameKind.free) ∈ names ∨ (∃ c, acc.lookup y = some c ∧ acc.lookup y = some ((cells.lookup y).getD 0)) → (cloFrom cells names acc).lookup y = some ((cells.lookup y).getD 0)
  | [], acc, y, h => by
    rcases h with h | ⟨c, _, h⟩
    · cases h
    · exact h
  | (n, k) :: r, acc, y, h => by
    unfold cloFrom
    split
    · rename_i hk
      have hk : k = .free := by simpa using hk
      subst hk
      refine clo_lookup ?_
      by_cases hy : y = n
      · subst hy
        exact .inr ⟨(cells.lookup y).getD 0, by simp, by simp⟩
      · rcases h with h | ⟨c, h1, h2⟩
        · rcases List.mem_cons.mp h with h | h
          · injection h with h _; exact absurd h hy
          · exact .inl h
        · have : (y == n) = false := by simpa using hy
          refine .inr ⟨c, ?_, ?_⟩ <;> (rw [List.lookup_cons, this]; assumption)
    · rename_i hk
      refine clo_lookup ?_
      rcases h with h | h
      · rcases List.mem_cons.mp h with h | h
        · injection h with _ h2
          subst h2
          exact absurd rfl hk
        · exact .inl h
      · exact .inr h
theorem lookup_mem' {β : Type} {y : Str} {k : β} : ∀ {l : List (Str × β)}, l.lookup y = some k → (y, k) ∈ l
  | (n, k') :: r, h => by
    rw [List.lookup_cons] at h
    split at h
    · rename_i e
      have : y = n := by simpa using e
      cases h; subst this; simp
    · exact List.mem_cons_of_mem _ (lookup_mem' h)
section
variable {X : Cx} {B : Bd} {W : WX} {pins : List (Addr × Obj)} {σ : L2.St} {F H : Hp} {s : Shared} {ρ : Rho} {fi fe : Rho → Res D} {fc : Rho → Res Bool}
theorem gen_core {c P : Addr} {elt iter : Expr} {x : Str} {px gpos : Pos} {scope : Scope} {ifs : List Expr} {i k : Nat} {m : List Bool} {Q' : Value → Shared → Prop} {F1 H1 : Hp} {s1 : Shared} {ds ys : List D} {o : Obj} {rest : List Addr} {n₀ : Nat} {Pf : Nat → Value → Prop} {St0 : Nat → Heap → Prop}
    (hr : Room k X.A) (TB : GxR.TabB X.base X.mg c P) (hcode : X.env.code = .ref c) (S : GxR.GenS X.env scope x) (hPT : GxR.TabG B.F P)
    (hN : X.N[i]? = some x) (hC : CapOk X scope m x) (hml : m.length = X.N.length) (hc : RTs X.prog X.w X.N X.mg scope ifs fc) (he : RE X.prog X.w X.N X.mg scope elt fe)
    (I : Inv X pins σ H s) (St : Sta X.K B ρ σ F H) (I1 : Inv X pins σ H1 s1) (g1 : Grow F H F1 H1) (hgx : gxL i m fc fe ρ ds = .ok ys)
    (W : ∀ A' : Around, A'.handled = none → Walks X.prog X.w A' s1.heap.objs.size (s1.heap.objs.size :: rest) [s1.heap.objs.size] n₀ Pf St0) (hst : St0 0 (s1.heap.push o))
    (hrest : ∀ b ∈ rest, b < s1.heap.objs.size ∧ ∀ vs, ∀ ob, s1.heap.get? b = some ob → ob.data ≠ .fields vs) (hn0 : n₀ = ds.length) (hPf : ∀ j v, Pf j v → ∃ d bs, ds[j]? = some d ∧ Reads s1.heap v d bs)
    (hQ : ∀ F1 H1 g s5, Grow F H F1 H1 → ReadyV X pins σ H1 P ys g s5 → Q' (.ref g) s5) :
    (s1.heap.push o).NoLimit ∧ wpAny (model X.prog X.w) X.A (genexprCode X.env gpos (X.env.qual ++ "<genexpr>") scope) (fun code s₃ => wpAny (model X.prog X.w) X.A (builtinsFor X.env.globals X.env.builtins) (fun bi s₄ =>
        ∃ Ia fp wr n₀ Pf St₀ pz F, Value.ref s1.heap.objs.size = .ref Ia ∧ (∀ A' : Around, A'.handled = none → Walks X.prog X.w A' Ia fp wr n₀ Pf St₀) ∧ St₀ 0 s₄.heap ∧ (∀ b ∈ fp, b < s₄.heap.objs.size) ∧ s₄.heap.NoLimit ∧ cStatics ∉ wr ∧
          (∀ href : Heap, (∀ b o, s₄.heap.get? b = some o → href.get? b = some o) →
            QuietGenD X.prog X.w (genEnv scope (cloFrom X.env.cells scope.names []) s₄.heap.objs.size code bi X.env) x ifs elt (List.range s₄.heap.objs.size) wr Pf pz F href (X.A.depth + 1) (X.A.units + 8)) ∧
          (∀ a h₅ tk gs, gs.bare = true → s₄.heap.objs.size < a → h₅.objs.size = a + 1 → (∀ b o, s₄.heap.get? b = some o → h₅.get? b = some o) →
            WalksS X.prog X.w X.A.in4 a (a :: s₄.heap.objs.size :: List.range s₄.heap.objs.size) (s₄.heap.objs.size :: wr) (GenOnlyQ s₄.gens.size) (passing pz n₀ 0).length
              (fun j y => ∃ i, (passing pz n₀ 0)[j]? = some i ∧ F i y) (GenAt X.prog X.w X.A.in4 a s₄.gens.size s₄.heap.objs.size (List.range s₄.heap.objs.size) wr pz n₀ F) →
            GenAt X.prog X.w X.A.in4 a s₄.gens.size s₄.heap.objs.size (List.range s₄.heap.objs.size) wr pz n₀ F 0 { s₄ with gens := s₄.gens.push gs, toks := tk, heap := h₅ } →
            Q' (.ref a) { s₄ with gens := s₄.gens.push gs, toks := tk, heap := h₅ })) X.xe s₃) X.xe { s1 with heap := s1.heap.push o } := by
  have hu : X.A.units + 80 < cLine := by have := hr.un; omega
  obtain ⟨gx0, gx1, gx2⟩ := gx_places hgx
  have sB : Sub B.F H1 := (St.g.f.trans g1.f).trans g1.fh
  obtain ⟨ps, hP, ht⟩ := tab_of sB hPT
  have hPs : s1.heap.get? P = some { cls := .none, data := .fields ps } := I1.hok P _ hP
  have hPlt : P < s1.heap.objs.size := Heap.lt_size hPs
  have hPd : ∀ ob, s1.heap.get? P = some ob → ∃ vs, ob.data = .fields vs := fun ob e => by rw [hPs] at e; cases e; exact ⟨_, rfl⟩
  have hP2 : (s1.heap.push o).get? P = some { cls := .none, data := .fields ps } := Heap.get?_push_of_some _ hPs
  have cd : PySem.W.CodeHd (s1.heap.push o) c P := TB.code.keeps fun b u e => Heap.get?_push_of_some _ (I1.bk b u e)
  have lim2 : (s1.heap.push o).NoLimit := I1.nolimit.push o
  have cont : ∀ (code : Value) (h3 : Heap) (tk : Nat) (ps' : Array Value), Heap.ExtBut P (s1.heap.push o) h3 → (s1.heap.push o).objs.size ≤ h3.objs.size → h3.get? P = some { cls := .none, data := .fields ps' } → (∃ more, ps' = ps ++ more) → TriplesOk ps'.toList →
      wpAny (model X.prog X.w) X.A (builtinsFor X.env.globals X.env.builtins) (fun bi s₄ =>
        ∃ Ia fp wr n₀ Pf St₀ pz F, Value.ref s1.heap.objs.size = .ref Ia ∧ (∀ A' : Around, A'.handled = none → Walks X.prog X.w A' Ia fp wr n₀ Pf St₀) ∧ St₀ 0 s₄.heap ∧ (∀ b ∈ fp, b < s₄.heap.objs.size) ∧ s₄.heap.NoLimit ∧ cStatics ∉ wr ∧
          (∀ href : Heap, (∀ b o, s₄.heap.get? b = some o → href.get? b = some o) →
            QuietGenD X.prog X.w (genEnv scope (cloFrom X.env.cells scope.names []) s₄.heap.objs.size code bi X.env) x ifs elt (List.range s₄.heap.objs.size) wr Pf pz F href (X.A.depth + 1) (X.A.units + 8)) ∧
          (∀ a h₅ tk gs, gs.bare = true → s₄.heap.objs.size < a → h₅.objs.size = a + 1 → (∀ b o, s₄.heap.get? b = some o → h₅.get? b = some o) →
            WalksS X.prog X.w X.A.in4 a (a :: s₄.heap.objs.size :: List.range s₄.heap.objs.size) (s₄.heap.objs.size :: wr) (GenOnlyQ s₄.gens.size) (passing pz n₀ 0).length
              (fun j y => ∃ i, (passing pz n₀ 0)[j]? = some i ∧ F i y) (GenAt X.prog X.w X.A.in4 a s₄.gens.size s₄.heap.objs.size (List.range s₄.heap.objs.size) wr pz n₀ F) →
            GenAt X.prog X.w X.A.in4 a s₄.gens.size s₄.heap.objs.size (List.range s₄.heap.objs.size) wr pz n₀ F 0 { s₄ with gens := s₄.gens.push gs, toks := tk, heap := h₅ } →
            Q' (.ref a) { s₄ with gens := s₄.gens.push gs, toks := tk, heap := h₅ })) X.xe { s1 with heap := h3, toks := tk } := by
    intro code h3 tk ps' hx hsz hP3 hmore ht3
    obtain ⟨bm, ob, e1, e2, e3, e4, e5, e6, e7, e8⟩ := TB.bm
    have hcP : cStatics ≠ P := fun e => by
      obtain ⟨_, hns, _⟩ := I1.nolimit
      obtain ⟨o', es, ep, ho, hd, _⟩ := hns
      rw [e, hPs] at ho
      cases ho
      cases hd
    have hcl : cStatics < s1.heap.objs.size := let ⟨_, hns, _⟩ := I1.nolimit; hns.lt
    have sz2 : (s1.heap.push o).objs.size = s1.heap.objs.size + 1 := Heap.size_push ..
    have hle13 : s1.heap.objs.size ≤ h3.objs.size := by omega
    have keep3 : ∀ b u, b ≠ P → s1.heap.get? b = some u → h3.get? b = some u := fun b u hb e => hx b u hb (Heap.get?_push_of_some _ e)
    refine wpAny_builtinsFor (m := X.mg) (by rw [I1.ok.glob]; exact ((I1.mod.glob.keeps I1.bk).push o).extBut hx TB.gP) e1 e2 (keep3 _ _ e4 (I1.bk _ _ e5)) e6 e7 e8 ?_
    refine ⟨s1.heap.objs.size, s1.heap.objs.size :: rest, [s1.heap.objs.size], n₀, Pf, St0, pzD i m fc ρ ds, (fun j y => ∃ d z, ds[j]? = some d ∧ fe (sub1 i m ρ d) = .ok z ∧ Scal z y), rfl, W, ?_, ?_, lim2.extBut hx hcP, ?_, ?_, ?_⟩
    · refine (W X.A hr.hd).frame _ _ _ hst fun b hb u e => hx b u (fun z => ?_) e
      rcases List.mem_cons.mp hb with z2 | z2
      · exact Nat.ne_of_lt hPlt (z.symm.trans z2)
      · rw [z] at z2
        exact (hrest P z2).2 _ _ hPs rfl
    · intro b hb
      rcases List.mem_cons.mp hb with z | z
      · rw [z]
        show s1.heap.objs.size < h3.objs.size
        omega
      · exact Nat.lt_of_lt_of_le (hrest b z).1 hle13
    · intro z
      rcases List.mem_cons.mp z with z | z
      · exact Nat.ne_of_lt hcl z
      · cases z
    · intro href hhref
      -- what the generator's frame knows
      have frame : ∀ (s₂ : Shared) (bi : Addr) (v : Value) (m₂ : Str → Option Value) (d : D) (bs0 : List Addr), Reads s1.heap v d bs0 → s₂.heap.Ns h3.objs.size m₂ → m₂ x = some v →
          (∀ b ∈ List.range h3.objs.size, b ∉ [s1.heap.objs.size] → ∀ o, href.get? b = some o → s₂.heap.get? b = some o) →
          RawAt X.N X.mg scope (genEnv scope (cloFrom X.env.cells scope.names []) h3.objs.size code bi X.env) (sub1 i m ρ d) s₂ := by
        intro s₂ bi v m₂ d bs0 hv hn hm hk
        have keepS : ∀ b u, b ≠ P → s1.heap.get? b = some u → s₂.heap.get? b = some u := fun b u hb e => by
          have hl := Heap.lt_size e
          refine hk b (List.mem_range.mpr (Nat.lt_of_lt_of_le hl hle13)) (fun z => ?_) u (hhref b u (keep3 b u hb e))
          have : b = s1.heap.objs.size := by simpa using z
          rw [this] at hl
          exact Nat.lt_irrefl _ hl
        refine ⟨S.kind, fun j' d' y e1 e2 => ?_, ?_, rfl⟩
        · by_cases hj : i = j'
          · subst hj
            have hil : i < (maskR m ρ).length := by
              rw [maskR_length (hml.trans (by rw [St.len, I.len]))]
              rw [St.len, I.len]
              exact (List.getElem?_eq_some_iff.mp hN).1
            unfold sub1 at e1
            rw [List.getElem?_set_self hil] at e1
            cases e1
            rw [hN] at e2
            cases e2
            exact ⟨v, bs0, reads_but hPd keepS hv, .inl ⟨S.loc, m₂, hn, hm⟩⟩
          · unfold sub1 at e1
            rw [List.getElem?_set_ne hj] at e1
            obtain ⟨a1, a2⟩ := maskR_some e1
            obtain ⟨c1, c2, c3, c4⟩ := hC.free j' y a2 e2
            obtain ⟨vv, b1, b2⟩ := St.sl j' _ a1
            obtain ⟨mm, _, hlook⟩ := I1.loc
            obtain ⟨u, ru, lk⟩ := hlook j' y vv e2 b1 c2
            have dpv : Dp X.K H1 vv d' := g1.fh.dp _ _ (g1.f.dp _ _ b2)
            obtain ⟨bs, rdu⟩ := Dp.reads I1 d' vv u dpv ru
            refine ⟨u, bs, reads_but hPd keepS rdu, .inr ⟨c1, ?_⟩⟩
            have hcell : ∃ cc, X.env.cells.lookup y = some cc ∧ s1.heap.IsCell cc (some u) := by
              rcases lk with ⟨k1, _⟩ | ⟨_, k2⟩
              · rcases c4 with c4 | c4 <;> (rw [k1] at c4; cases c4)
              · exact k2
            obtain ⟨cc, k1, k2⟩ := hcell
            refine ⟨cc, ?_, ?_⟩
            · have := clo_lookup (cells := X.env.cells) (names := scope.names) (acc := []) (y := y) (.inl (lookup_mem' c1))
              rw [k1] at this
              exact this
            · obtain ⟨oc, ho, hd⟩ := k2
              refine ⟨oc, keepS cc oc (fun z => ?_) ho, hd⟩
              subst z
              obtain ⟨vs, e⟩ := hPd _ ho
              rw [hd] at e; cases e
        · show s₂.heap.Ns X.env.globals X.mg
          rw [I1.ok.glob]
          exact (I1.mod.glob.keeps I1.bk).at' fun ob e => keepS _ ob TB.gP e
      refine ⟨fun A' E' j v s₂ m₂ hA hD hU hPv hn hm hk => ?_, fun A' E' j v s₂ m₂ hA hD hU hPv hp hn hm hk => ?_⟩
      · obtain ⟨d, bs0, hd, hv⟩ := hPf j v hPv
        have hj := (List.getElem?_eq_some_iff.mp hd).1
        obtain ⟨b, hb⟩ := gx0 j hj
        refine hc _ A' E' s₂ (sub1 i m ρ d) b _ (by omega) (frame s₂ _ v m₂ d bs0 hv hn hm hk) (hb d hd) fun s' k => ⟨?_, k⟩
        unfold pzD
        rw [hd]
        simp only [hb d hd]
      · obtain ⟨d, bs0, hd, hv⟩ := hPf j v hPv
        have hj := (List.getElem?_eq_some_iff.mp hd).1
        have hmem : j ∈ (List.range ds.length).filter (pzD i m fc ρ ds) := List.mem_filter.mpr ⟨List.mem_range.mpr hj, hp⟩
        obtain ⟨k, hk2⟩ := List.getElem?_of_mem hmem
        obtain ⟨d', z, a1, a2, a3, a4⟩ := gx2 k j hk2
        rw [hd] at a1
        cases a1
        exact he _ A' E' s₂ (sub1 i m ρ d) z _ (by omega) (frame s₂ _ v m₂ d bs0 hv hn hm hk) a2 fun v' s' as kp rv => ⟨⟨d, z, hd, a2, scal_of rv a3⟩, kp⟩
    · intro g h5 tk5 gs hgb hag hsz5 hk5 W5 hat
      have epass : passing (pzD i m fc ρ ds) n₀ 0 = (List.range ds.length).filter (pzD i m fc ρ ds) := by
        unfold passing
        rw [List.drop_zero, hn0]
      rw [epass, gx1] at W5
      refine hQ F1 H1 g _ g1 ⟨_, _, _, _, _, W5.in4_1, hat, ?_, ?_, fun s' hm => ?_⟩
      · intro b hb
        show b < h5.objs.size
        have hag' : (h3.objs.size : Nat) < g := hag
        have hs5 : (h5.objs.size : Nat) = g + 1 := hsz5
        rcases List.mem_cons.mp hb with z | z
        · rw [z, hs5]; exact Nat.lt_succ_self _
        · rcases List.mem_cons.mp z with z | z
          · rw [z, hs5]; exact Nat.lt_succ_of_lt hag'
          · rw [hs5]; exact Nat.lt_succ_of_lt (Nat.lt_trans (List.mem_range.mp z) hag')
      · rintro j y ⟨i', h1, d', z, h2, h3', h4⟩
        obtain ⟨d2, z2, a1, a2, a3, a4⟩ := gx2 j i' h1
        rw [h2] at a1
        cases a1
        rw [h3'] at a2
        cases a2
        exact ⟨z, a4, h4⟩
      · obtain ⟨more, em⟩ := hmore
        have nwr : ∀ b u, s1.heap.get? b = some u → b ∉ h3.objs.size :: [s1.heap.objs.size] := fun b u e hb => by
          have hl := Heap.lt_size e
          rcases List.mem_cons.mp hb with z | z
          · rw [z] at hl
            have h9 : (h3.objs.size : Nat) < s1.heap.objs.size := hl
            omega
          · rcases List.mem_cons.mp z with z | z
            · rw [z] at hl
              exact Nat.lt_irrefl _ hl
            · cases z
        have J := GxR.inv_tab (more := more) (h' := s'.heap) (g' := s'.gens) (d' := s'.drawn) (t' := s'.toks) I1 hP (fun b u hb e => hm.heap b u (nwr b u e) (hk5 b u (keep3 b u hb e)))
          (by rw [← em]; exact hm.heap P _ (nwr P _ hPs) (hk5 P _ hP3)) (AllBare.movedS (I1.bare.push hgb) hm)
        rw [GxR.sh_eta s1 s' hm.os] at J
        refine ⟨upd H1 P (.tbl (ps ++ more)), ⟨⟨ps ++ more, upd_same, by rw [← em]; exact ht3⟩, fun b hb => upd_ne hb⟩, J⟩
  refine ⟨lim2, ?_⟩
  cases hf : codeAmong gpos ps.toList with
  | none =>
    refine wpAny_genexprCodeX hcode (cd.code hP2 ht) (cd.tab hP2) hf fun c' h' tk hx hge hlt hco' _ htab' _ => ?_
    obtain ⟨o1, vs, f1, tf, fl, tg, inF, tx, tt, op, _, _, _, _, _, _, _, _, _, htr, _⟩ := hco'
    exact cont _ h' tk _ hx (Nat.le_trans hge (Nat.le_of_lt hlt)) htab'.2 ⟨_, rfl⟩ htr
  | some cv =>
    refine wpAny_genexprCode_hit hcode (cd.code hP2 ht) hf ?_
    exact cont cv (s1.heap.push o) s1.toks ps (Heap.ExtBut.refl _ _) (Nat.le_refl _) hP2 ⟨#[], by simp⟩ ht
theorem gen_seq {c P : Addr} {elt iter : Expr} {x : Str} {px gpos : Pos} {scope : Scope} {ifs : List Expr} {i k : Nat} {m : List Bool} {Q' : Value → Shared → Prop}
    (hr : Room k X.A) (TB : GxR.TabB X.base X.mg c P) (hcode : X.env.code = .ref c) (S : GxR.GenS X.env scope x) (hPT : GxR.TabG B.F P)
    (hN : X.N[i]? = some x) (hC : CapOk X scope m x) (hml : m.length = X.N.length) (hc : RTs X.prog X.w X.N X.mg scope ifs fc) (he : RE X.prog X.w X.N X.mg scope elt fe)
    (hi : PVR X B W iter fi) (hs : ∀ v, genFold iter X.env v = pure v) (I : Inv X pins σ H s) (St : Sta X.K B ρ σ F H)
    (q : match fi ρ with
      | .ok d => ∃ ds ys, seqD d = some ds ∧ gxL i m fc fe ρ ds = .ok ys ∧ ∀ F1 H1 g s5, Grow F H F1 H1 → ReadyV X pins σ H1 P ys g s5 → Q' (.ref g) s5
      | .ex e => XOk X W σ F H e
      | .no => False) :
    wpAny (model X.prog X.w) X.A (eval (.GeneratorExp elt [⟨.Name x px, iter, ifs, 0⟩] scope gpos) X.env) Q' X.xe s := by
  obtain ⟨te, i1, i2⟩ := hi.ex
  refine wpAny_GeneratorExp_walksQD hr.hd S.co (closure_ok S.free) S.cell S.dot S.loc S.kind (by have := hr.dp; omega) ?_ hs
  have hR : te σ H (fun v H1 => ∃ F1 d, fi ρ = .ok d ∧ Grow F H F1 H1 ∧ RdV X.K F1 H1 v d) := by
    refine i2 ρ σ F H _ St ?_
    cases e : fi ρ with
    | ok d => exact fun v F1 H1 g r => ⟨F1, d, rfl, g, r⟩
    | ex e' => rw [e] at q; exact q
    | no => rw [e] at q; exact q.elim
  refine thn (i1.run pins s σ H _ I hR) fun xv s1 ⟨v, H1, I1, r1, F1, d, ed, g1, rd⟩ => ?_
  rw [ed] at q
  obtain ⟨ds, ys, hsq, hgx, hQ⟩ := q
  obtain ⟨as1, rdv⟩ := Dp.reads I1 d v xv (rd.dpH g1.fh) r1
  have seqC : ∀ {a : Addr} {ob : Obj} {items : Array Value} {n : Nat} {asI : List Addr}, s1.heap.get? a = some ob → ob.data = .seq items n → ReadsAll s1.heap items.toList ds asI →
      (∀ b ∈ [a], b < s1.heap.objs.size ∧ ∀ vs, ∀ ob, s1.heap.get? b = some ob → ob.data ≠ .fields vs) ∧ items.size = ds.length ∧ ∀ (j : Nat) (v : Value), items[j]? = some v → ∃ d bs, ds[j]? = some d ∧ Reads s1.heap v d bs := by
    intro a ob items n asI e1 e3 r
    refine ⟨fun b hb => ?_, by have := readsAll_length r; simpa using this, fun j v hv => ?_⟩
    · have : b = a := by simpa using hb
      subst this
      exact ⟨Heap.lt_size e1, fun vs ob' e z => by rw [e1] at e; cases e; rw [e3] at z; cases z⟩
    · have hv' : items.toList[j]? = some v := by rw [Array.getElem?_toList]; exact hv
      exact reads_get r hv'
  cases rdv with
  | none => cases hsq
  | bool b => cases hsq
  | int i t => cases hsq
  | dict => cases hsq
  | str z t =>
    cases hsq
    refine wpAny_pyIter_str fun o St0 W0 hst => ?_
    refine gen_core (elt := elt) (iter := iter) (px := px) (gpos := gpos) (rest := []) hr TB hcode S hPT hN hC hml hc he I St I1 g1 hgx W0 hst (fun b hb => by cases hb) (by simp) (fun j v hv => ?_) hQ
    obtain ⟨cc, u, hcc, rfl⟩ := hv
    refine ⟨.str ⟨#[cc]⟩, [], ?_, .str _ _⟩
    rw [List.getElem?_map, Array.getElem?_toList, hcc]; rfl
  | @list a ob vs n xs asI e1 e2 e3 r =>
    cases hsq
    have hl : s1.heap.IsList a vs := ⟨ob, e1, e2, n, e3⟩
    have hne : a ≠ s1.heap.objs.size := Nat.ne_of_lt (Heap.lt_size e1)
    obtain ⟨k1, k2, k3⟩ := seqC e1 e3 r
    exact wpAny_pyIter_list hl (gen_core (elt := elt) (iter := iter) (px := px) (gpos := gpos) (rest := [a]) (St0 := fun i h => h.IsListIter s1.heap.objs.size a i ∧ h.IsList a vs) hr TB hcode S hPT hN hC hml hc he I St I1 g1 hgx (fun A' hh => Walks.list hh _ a hne vs) ⟨⟨_, Heap.get?_push_size _ rfl, rfl, rfl⟩, hl.at fun o e => Heap.get?_push_of_some _ e⟩ k1 k2 k3 hQ)
  | @tuple a ob vs n xs asI e1 e2 e3 r =>
    cases hsq
    have hl : s1.heap.IsTuple a vs := ⟨ob, e1, e2, n, e3⟩
    have hne : a ≠ s1.heap.objs.size := Nat.ne_of_lt (Heap.lt_size e1)
    obtain ⟨k1, k2, k3⟩ := seqC e1 e3 r
    exact wpAny_pyIter_tuple hl (gen_core (elt := elt) (iter := iter) (px := px) (gpos := gpos) (rest := [a]) (St0 := fun i h => h.IsTupleIter s1.heap.objs.size a i ∧ h.IsTuple a vs) hr TB hcode S hPT hN hC hml hc he I St I1 g1 hgx (fun A' hh => Walks.tuple hh _ a hne vs) ⟨⟨_, Heap.get?_push_size _ rfl, rfl, rfl⟩, hl.at fun o e => Heap.get?_push_of_some _ e⟩ k1 k2 k3 hQ)
end
end VL

set_option Elab.async false
set_option linter.all false
set_option maxRecDepth 100000
set_option maxHeartbeats 4000000
namespace VL
open PySem PySem.Spec PyProof.Rows L2
/-! ### all, any, sum of a generator expression -/
def gxV (i : Nat) (m : List Bool) (fi : Rho → Res D) (fc : Rho → Res Bool) (fe : Rho → Res D) (ρ : Rho) : Res (List D) := (fi ρ).bind fun d => match seqD d with
  | some ds => gxL i m fc fe ρ ds
  | none => .no
def asBools : List D → Option (List Bool)
  | [] => some []
  | .bool b :: ds => (asBools ds).map (b :: ·)
  | _ :: _ => none
theorem asBools_eq : ∀ {ds : List D} {bs : List Bool}, asBools ds = some bs → ds = bs.map .bool
  | [], bs, e => by cases e; rfl
  | d :: ds, bs, e => by
    cases d with
    | bool b =>
      unfold asBools at e
      cases q : asBools ds with
      | none => rw [q] at e; cases e
      | some cs => rw [q] at e; cases e; rw [asBools_eq q]; rfl
    | _ => cases e
theorem asBools_map : ∀ bs : List Bool, asBools (bs.map .bool) = some bs
  | [] => rfl
  | b :: bs => by show (asBools (bs.map .bool)).map (b :: ·) = _; rw [asBools_map bs]; rfl
def dAllL (ys : List D) : Option D := (asBools ys).map fun bs => .bool (bs.all id)
def dAnyL (ys : List D) : Option D := (asBools ys).map fun bs => .bool (bs.any id)
def sumOk (ns : List Int) : Bool := ns.all (fun n => decide (-1000000000000 ≤ n) && decide (n ≤ 1000000000000)) && decide (ns.length ≤ 1000000)
def dSumL (ys : List D) : Option D := (asInts ys).bind fun ns => if sumOk ns = true then some (.int ns.sum) else none
def gxK (g : List D → Option D) (f : Rho → Res (List D)) (ρ : Rho) : Res D := (f ρ).bind fun ys => Res.of (g ys)
def trB (bs : List Bool) (j : Nat) : Bool := bs.getD j false
theorem all_range : ∀ bs : List Bool, (List.range bs.length).all (trB bs) = bs.all id
  | [] => rfl
  | b :: bs => by
    rw [List.length_cons, List.range_succ_eq_map, List.all_cons, List.all_map, List.all_cons, ← all_range bs]
    rfl
theorem any_range : ∀ bs : List Bool, (List.range bs.length).any (trB bs) = bs.any id
  | [] => rfl
  | b :: bs => by
    rw [List.length_cons, List.range_succ_eq_map, List.any_cons, List.any_map, List.any_cons, ← any_range bs]
    rfl
section
variable {X : Cx} {B : Bd} {W : WX} {fi fe : Rho → Res D} {fc : Rho → Res Bool}
theorem gx_ready {c P : Addr} {elt iter : Expr} {x : Str} {px gpos : Pos} {scope : Scope} {ifs : List Expr} {i k : Nat} {m : List Bool} {g : List D → Option D} {Q' : Value → Shared → Prop} {pins : List (Addr × Obj)} {σ : L2.St} {F H : Hp} {s : Shared} {ρ : Rho} {Q : VK}
    (hr : Room k X.A) (TB : GxR.TabB X.base X.mg c P) (hcode : X.env.code = .ref c) (S : GxR.GenS X.env scope x) (hi : PVR X B W iter fi) (hPT : GxR.TabG B.F P)
    (hN : X.N[i]? = some x) (hC : CapOk X scope m x) (hml : m.length = X.N.length)
    (hc : RTs X.prog X.w X.N X.mg scope ifs fc) (he : RE X.prog X.w X.N X.mg scope elt fe) (hs : ∀ v, genFold iter X.env v = pure v) (I : Inv X pins σ H s) (St : Sta X.K B ρ σ F H)
    (q : EPo X W σ F H Q (gxK g (gxV i m fi fc fe) ρ))
    (h : ∀ ys d F1 H1 a s5, g ys = some d → GxR.TabG H1 P → (∀ v F2 H2, GxR.Tabbed P H1 H2 → (∀ K, Dp K F2 v d) → F2 = F1 → Q v H2) → ReadyV X pins σ H1 P ys a s5 → Q' (.ref a) s5) :
    wpAny (model X.prog X.w) X.A (eval (.GeneratorExp elt [⟨.Name x px, iter, ifs, 0⟩] scope gpos) X.env) Q' X.xe s := by
  refine gen_seq hr TB hcode S hPT hN hC hml hc he hi hs I St ?_
  unfold gxK gxV at q
  cases e : fi ρ with
  | no => rw [e] at q; exact q
  | ex e' => rw [e] at q; exact q
  | ok d =>
    rw [e] at q
    simp only [Res.ok_bind] at q ⊢
    cases e1 : seqD d with
    | none => rw [e1] at q; exact q.elim
    | some ds =>
      rw [e1] at q
      simp only at q
      cases e2 : gxL i m fc fe ρ ds with
      | no => rw [e2] at q; exact q.elim
      | ex e' => 
        exfalso
        have : ∀ (ds : List D) (e' : Err), gxL i m fc fe ρ ds ≠ .ex e' := by
          intro ds
          induction ds with
          | nil => intro e' h; cases h
          | cons d ds ih =>
            intro e' h
            unfold gxL at h
            cases q1 : fc ((maskR m ρ).set i (some (.fz d))) with
            | ex x => rw [q1] at h; cases h
            | no => rw [q1] at h; cases h
            | ok b =>
              rw [q1] at h
              simp only [noX_ok, Res.ok_bind] at h
              split at h
              · cases q2 : fe ((maskR m ρ).set i (some (.fz d))) with
                | ex x => rw [q2] at h; cases h
                | no => rw [q2] at h; cases h
                | ok z =>
                  rw [q2] at h
                  simp only [noX_ok, Res.ok_bind] at h
                  split at h
                  · cases q3 : gxL i m fc fe ρ ds with
                    | ex x => exact ih x q3
                    | no => rw [q3] at h; cases h
                    | ok zs => rw [q3] at h; cases h
                  · cases h
              · exact ih e' h
        exact this ds e' e2
      | ok ys =>
        rw [e2] at q
        simp only [Res.ok_bind] at q
        cases e3 : g ys with
        | none => rw [e3] at q; exact q.elim
        | some z =>
          rw [e3] at q
          refine ⟨ds, ys, rfl, e2, fun F1 H1 a s5 g1 hR => ?_⟩
          have sB : Sub B.F H1 := (St.g.f.trans g1.f).trans g1.fh
          have hT := tab_of sB hPT
          exact h ys z F1 H1 a s5 e3 hT (fun v F2 H2 ht hd hF => by
            subst hF
            exact q v F2 H2 (g1.trans (grow_tab g1.fh hT ht)) (hd X.K)) hR
theorem pv_gx {nm : String} {x : Str} {c P : Addr} {elt iter : Expr} {px p pos gpos : Pos} {scope : Scope} {ifs : List Expr} {i k : Nat} {m : List Bool} {nms : Str} {g : List D → Option D}
    (hcall : ∀ {pins : List (Addr × Obj)} {σ : L2.St} {H1 : Hp} {ys : List D} {a : Addr} {d : D} {s5 : Shared} {Q : Value → Shared → Prop}, g ys = some d → ReadyV X pins σ H1 P ys a s5 → (∀ v' u s' H2, RelV v' u → (∀ K F, Dp K F v' d) → GxR.Tabbed P H1 H2 → Inv X pins σ H2 s' → Q u s') → wpAny (model X.prog X.w) X.A (call (.builtin nm) [.ref a]) Q X.xe s5)
    (hr : Room k X.A) (hg : Gl X nms) (hm : X.mg nms = none) (hbt : bootBuiltins nms = some (.builtin nm)) (hn1 : nms ≠ "__name__") (hn2 : (nms == ("__debug__" : Str)) = false)
    (TB : GxR.TabB X.base X.mg c P) (hcode : X.env.code = .ref c) (S : GxR.GenS X.env scope x) (hi : PVR X B W iter fi) (hPT : GxR.TabG B.F P)
    (hN : X.N[i]? = some x) (hC : CapOk X scope m x) (hml : m.length = X.N.length)
    (hc : RTs X.prog X.w X.N X.mg scope ifs fc) (he' : RE X.prog X.w X.N X.mg scope elt fe) (hs : ∀ v, genFold iter X.env v = pure v)
    (he : starEach [.GeneratorExp elt [⟨.Name x px, iter, ifs, 0⟩] scope gpos] X.env = (false, eval (.GeneratorExp elt [⟨.Name x px, iter, ifs, 0⟩] scope gpos) X.env) :: starEach [] X.env := by rfl) :
    PVE X B W (.Call (.Name nms p) [.GeneratorExp elt [⟨.Name x px, iter, ifs, 0⟩] scope gpos] [] pos) (gxK g (gxV i m fi fc fe)) := by
  refine ⟨teO X B W (gxK g (gxV i m fi fc fe)), ⟨fun pins s σ H Q I h => ?_⟩, fun ρ σ F H Q S' q => ⟨ρ, F, S', q⟩⟩
  obtain ⟨ρ, F, St, q⟩ := h
  refine wpAny_Call_Name_kw (ld_blt I hg hm hbt ?_ hn1 hn2)
  refine PyProof.Rows.callWith_builtin1 ?_ he (by rfl)
  rw [he]
  show wpAny _ _ (spliced ((false, eval (.GeneratorExp elt [⟨.Name x px, iter, ifs, 0⟩] scope gpos) X.env) :: backTo pos (starEach [] X.env))) _ _ s
  refine Calls.spliced_cons (gx_ready hr TB hcode S hi hPT hN hC hml hc he' hs I St q fun ys d F1 H1 a s5 hgd hT hQ hR => ?_)
  refine Calls.spliced_nil ?_
  exact hcall hgd hR fun v' u s' H2 rv hd ht J => ⟨v', H2, J, rv, hQ v' F1 H2 ht (fun K => hd K F1) rfl⟩
theorem call_allG {pins : List (Addr × Obj)} {σ : L2.St} {H1 : Hp} {P : Addr} {ys : List D} {a : Addr} {d : D} {s5 : Shared} {Q : Value → Shared → Prop} (hd : dAllL ys = some d) (hR : ReadyV X pins σ H1 P ys a s5) (hQ : ∀ v' u s' H2, RelV v' u → (∀ K F, Dp K F v' d) → GxR.Tabbed P H1 H2 → Inv X pins σ H2 s' → Q u s') :
    wpAny (model X.prog X.w) X.A (call (.builtin "all") [.ref a]) Q X.xe s5 := by
  unfold dAllL at hd
  cases e : asBools ys with
  | none => rw [e] at hd; cases hd
  | some bs =>
    rw [e] at hd
    cases hd
    have hy := asBools_eq e
    subst hy
    obtain ⟨fp, wr, G, F, St, W', hst, hfp, hv, hI⟩ := hR
    refine call_all_walkS (W'.self 0 _ _ _ hst ⟨a, fp, wr, G, _, F, St, trB bs, rfl, W', hst, ?_, fun s' hmv => ?_⟩)
    · intro j y sj Qj Ej hy hQj
      obtain ⟨d, h1, h2⟩ := hv j y hy
      rw [List.getElem?_map] at h1
      cases q : bs[j]? with
      | none => rw [q] at h1; cases h1
      | some b =>
        rw [q] at h1
        cases h1
        cases h2
        have : trB bs j = b := by unfold trB; rw [List.getD_eq_getElem?_getD, q]; rfl
        have hQ2 : Qj (trB bs j) sj := hQj
        rw [this] at hQ2
        exact wpAny_truthy_bool hQ2
    · obtain ⟨H2, hT, J⟩ := hI s' hmv
      rw [List.length_map, all_range]
      exact hQ (.bl (bs.all id)) _ s' H2 rfl (fun _ _ => .bl _) hT J
theorem call_anyG {pins : List (Addr × Obj)} {σ : L2.St} {H1 : Hp} {P : Addr} {ys : List D} {a : Addr} {d : D} {s5 : Shared} {Q : Value → Shared → Prop} (hd : dAnyL ys = some d) (hR : ReadyV X pins σ H1 P ys a s5) (hQ : ∀ v' u s' H2, RelV v' u → (∀ K F, Dp K F v' d) → GxR.Tabbed P H1 H2 → Inv X pins σ H2 s' → Q u s') :
    wpAny (model X.prog X.w) X.A (call (.builtin "any") [.ref a]) Q X.xe s5 := by
  unfold dAnyL at hd
  cases e : asBools ys with
  | none => rw [e] at hd; cases hd
  | some bs =>
    rw [e] at hd
    cases hd
    have hy := asBools_eq e
    subst hy
    obtain ⟨fp, wr, G, F, St, W', hst, hfp, hv, hI⟩ := hR
    refine call_any_walkS (W'.self 0 _ _ _ hst ⟨a, fp, wr, G, _, F, St, trB bs, rfl, W', hst, ?_, fun s' hmv => ?_⟩)
    · intro j y sj Qj Ej hy hQj
      obtain ⟨d, h1, h2⟩ := hv j y hy
      rw [List.getElem?_map] at h1
      cases q : bs[j]? with
      | none => rw [q] at h1; cases h1
      | some b =>
        rw [q] at h1
        cases h1
        cases h2
        have : trB bs j = b := by unfold trB; rw [List.getD_eq_getElem?_getD, q]; rfl
        have hQ2 : Qj (trB bs j) sj := hQj
        rw [this] at hQ2
        exact wpAny_truthy_bool hQ2
    · obtain ⟨H2, hT, J⟩ := hI s' hmv
      rw [List.length_map, any_range]
      exact hQ (.bl (bs.any id)) _ s' H2 rfl (fun _ _ => .bl _) hT J
theorem call_sumG {pins : List (Addr × Obj)} {σ : L2.St} {H1 : Hp} {P : Addr} {ys : List D} {a : Addr} {d : D} {s5 : Shared} {Q : Value → Shared → Prop} (hd : dSumL ys = some d) (hR : ReadyV X pins σ H1 P ys a s5) (hQ : ∀ v' u s' H2, RelV v' u → (∀ K F, Dp K F v' d) → GxR.Tabbed P H1 H2 → Inv X pins σ H2 s' → Q u s') :
    wpAny (model X.prog X.w) X.A (call (.builtin "sum") [.ref a]) Q X.xe s5 := by
  unfold dSumL at hd
  cases e : asInts ys with
  | none => rw [e] at hd; cases hd
  | some ns =>
    rw [e] at hd
    simp only [Option.bind_some] at hd
    split at hd
    · rename_i hok
      cases hd
      have hy := asInts_eq e
      subst hy
      obtain ⟨fp, wr, G, F, St, W', hst, hfp, hv, hI⟩ := hR
      unfold sumOk at hok
      rw [Bool.and_eq_true, List.all_eq_true, decide_eq_true_eq] at hok
      have hnb : ∀ j, -1000000000000 ≤ ns.getD j 0 ∧ ns.getD j 0 ≤ 1000000000000 := fun j => by
        rw [List.getD_eq_getElem?_getD]
        cases q : ns[j]? with
        | none => exact ⟨by decide, by decide⟩
        | some n =>
          have := hok.1 n (List.mem_of_getElem? q)
          simp only [Bool.and_eq_true, decide_eq_true_eq] at this
          exact this
      have hps : ∀ j, j ≤ ns.length → preSum (fun j => ns.getD j 0) j = (ns.take j).sum := by
        intro j
        induction j with
        | zero => intro _; rfl
        | succ j ih =>
          intro hj
          show preSum (fun j => ns.getD j 0) j + ns.getD j 0 = _
          rw [ih (by omega), List.take_add_one, List.sum_append, List.getD_eq_getElem?_getD]
          have : ns[j]? = some ns[j] := List.getElem?_eq_getElem (by omega)
          rw [this]
          simp
      refine call_sum_walkS (W'.self 0 _ _ _ hst ⟨a, fp, wr, G, _, F, St, fun j => ns.getD j 0, rfl, W', hst, hfp, ?_, ?_, fun s' t' hmv => ?_⟩)
      · intro j y hy
        obtain ⟨d, h1, h2⟩ := hv j y hy
        rw [List.getElem?_map] at h1
        cases q : ns[j]? with
        | none => rw [q] at h1; cases h1
        | some n =>
          rw [q] at h1
          cases h1
          cases h2
          have e9 : ns.getD j 0 = n := by rw [List.getD_eq_getElem?_getD, q]; rfl
          exact ⟨_, by show _ = Value.int (ns.getD j 0) _; rw [e9]⟩
      · intro j hj
        rw [List.length_map] at hj
        have hb : ∀ k : Nat, k ≤ ns.length → -(1000000000000 * (k : Int)) ≤ preSum (fun j => ns.getD j 0) k ∧ preSum (fun j => ns.getD j 0) k ≤ 1000000000000 * (k : Int) := by
          intro k
          induction k with
          | zero => intro _; exact ⟨by simp [preSum], by simp [preSum]⟩
          | succ k ih =>
            intro hk
            have h1 := ih (by omega)
            have h2 := hnb k
            show _ ≤ preSum (fun j => ns.getD j 0) k + ns.getD k 0 ∧ preSum (fun j => ns.getD j 0) k + ns.getD k 0 ≤ _
            omega
        have h1 := hb (j + 1) (by omega)
        have h2 := hnb j
        have h3 := hok.2
        have p63 : (2 : Int) ^ 63 = 9223372036854775808 := by decide
        refine ⟨?_, ?_⟩
        · show -(2 ^ 63) ≤ ns.getD j 0 ∧ ns.getD j 0 < 2 ^ 63
          rw [p63]; omega
        · unfold InLong
          rw [p63]; omega
      · obtain ⟨H2, hT, J⟩ := hI s' hmv
        rw [List.length_map, hps _ (Nat.le_refl _), List.take_length]
        exact hQ (.int ns.sum) _ s' H2 ⟨t', rfl⟩ (fun _ _ => .int _) hT J
    · cases hd
end
end VL

set_option Elab.async false
set_option linter.all false
set_option maxRecDepth 100000
set_option maxHeartbeats 4000000
namespace VL
open PySem PySem.Spec PyProof.Rows L2
/-! ### what the printed proofs of generator expressions ask -/
theorem genS_of {env : Env} {scope : Scope} {x : Str} (h1 : scope.kind = .function) (h2 : scope.isCoroutine = false) (h3 : (scope.names.all fun y => y.2 != .cell) = true) (h4 : scope.names.lookup (".0" : Str) = some NameKind.local) (h5 : scope.names.lookup x = some .local)
    (h6 : (scope.names.all fun y => y.2 != .free || (env.cells.lookup y.1).isSome) = true) : GxR.GenS env scope x :=
  ⟨h1, h2, fun y hy z => by
    have := List.all_eq_true.mp h3 y hy
    rw [z] at this
    exact absurd this (by decide), h4, h5, fun y hy z => by
    have := List.all_eq_true.mp h6 y hy
    rw [z] at this
    exact Option.isSome_iff_exists.mp (by simpa using this)⟩
def capB : List Bool → List Str → Scope → Scope → Str → Bool
  | true :: m, y :: N, scope, sc, x => decide (scope.names.lookup y = some .free) && decide (sc.names.lookup y = some .cell) && !(y == x) && capB m N scope sc x
  | false :: m, _ :: N, scope, sc, x => capB m N scope sc x
  | _, _, _, _, _ => true
theorem capB_get : ∀ {m : List Bool} {N : List Str} {scope sc : Scope} {x y : Str} {j : Nat}, capB m N scope sc x = true → m[j]? = some true → N[j]? = some y → scope.names.lookup y = some .free ∧ sc.names.lookup y = some .cell ∧ y ≠ x
  | true :: m, n :: N, scope, sc, x, y, 0, h, _, e => by
    cases e
    unfold capB at h
    simp only [Bool.and_eq_true, decide_eq_true_eq, Bool.not_eq_true', beq_eq_false_iff_ne] at h
    exact ⟨h.1.1.1, h.1.1.2, h.1.2⟩
  | true :: m, n :: N, scope, sc, x, y, j + 1, h, e1, e2 => by
    unfold capB at h
    simp only [Bool.and_eq_true] at h
    exact capB_get h.2 (by simpa using e1) (by simpa using e2)
  | false :: m, n :: N, scope, sc, x, y, 0, h, e, _ => by cases e
  | false :: m, n :: N, scope, sc, x, y, j + 1, h, e1, e2 => by
    unfold capB at h
    exact capB_get h (by simpa using e1) (by simpa using e2)
  | [], _, _, _, _, _, _, _, e, _ => by simp at e
  | _ :: _, [], _, _, _, _, _, _, _, e => by simp at e
theorem capOk_of {X : Cx} {scope : Scope} {m : List Bool} {x : Str} (h : capB m X.N scope X.env.scope x = true) : CapOk X scope m x :=
  ⟨fun j y e1 e2 => by
    obtain ⟨h1, h2, h3⟩ := capB_get h e1 e2
    exact ⟨h1, .inr (.inl h2), h3, .inl h2⟩⟩
theorem capOk_by {X : Cx} {N : List Str} {sc scope : Scope} {m : List Bool} {x : Str} (hN : X.N = N) (hs : X.env.scope = sc) (h : capB m N scope sc x = true) : CapOk X scope m x := capOk_of (by rw [hN, hs]; exact h)
/-- a comprehension within a comprehension -/
theorem blkOk_nest {X : Cx} {N : List Str} {sc0 scope1 scope : Scope} {own : List (Str × Nat)} {s : Shared} {H : Hp} {cl : List (Str × Addr)} {C : Addr} {fp : List Addr} (hN : X.N = N) (hs : X.env.scope = sc0) (h : blkC N (relS scope1 sc0) scope own = true) :
    BlkOk (X.blk s H scope1 (compEnvC scope1 cl C X.env) fp).N (X.blk s H scope1 (compEnvC scope1 cl C X.env) fp).env.scope scope own := by
  subst hN
  subst hs
  exact blkOk_by h
theorem tabG_of {B : Bd} {Ps : List Addr} {P : Addr} (hB : B.T = Ps) (h : P ∈ Ps) : GxR.TabG B.F P := B.tb P (by rw [hB]; exact h)
section
variable {P : Program} {w : World} {N : List Str} {mg : Str → Option Value} {sc : Scope} {a b e : Expr} {fa fb f : Rho → Res D} {pos : Pos}
def inSS : D → D → Option Bool
  | .str i, .str j => some (inS i j)
  | _, _ => none
theorem rawb_inS : OpRawB P w (compareOp .In) inSS := fun A E s x y as bs da db d Q hu r1 r2 e h => by
  cases da <;> cases db <;> try cases e
  cases r1
  cases r2
  exact in_str (h _ (kpR s))
theorem rawb_gt : OpRawB P w (compareOp .Gt) dGt := fun A E s x y as bs da db d Q hu r1 r2 e h => by
  unfold dGt at e
  split at e
  · cases e
    cases r1
    cases r2
    exact gt_int (h _ (kpR s))
  · cases e
theorem rawb_ge : OpRawB P w (compareOp .GtE) dGe := fun A E s x y as bs da db d Q hu r1 r2 e h => by
  unfold dGe at e
  split at e
  · cases e
    cases r1
    cases r2
    exact ge_int (h _ (kpR s))
  · cases e
end
end VL

set_option Elab.async false
set_option linter.all false
set_option maxRecDepth 100000
set_option maxHeartbeats 4000000
/-! VE: the end, with the defs' tables of code objects -/
namespace VL
open PySem PySem.Spec PyProof.Rows L2 LamX
/-- what all_mk gives -/
def LawGot (P : Program) (g : List D → Res D) (w : World) (K : PySem.W.Frag) (k : Nat) (mg : Str → Option Value) (fa : Addr) (h : Heap) : Prop :=
  ∃ (fd : FuncData) (cs : List (Addr × Addr)), (∀ p ∈ cs, h.get? p.2 = some { cls := .none, data := .fields #[] }) ∧ (∀ p ∈ cs, K.lookup p.2 = none) ∧ (∀ p ∈ cs, PySem.W.CodeHd h p.1 p.2) ∧ (∀ (s : Shared) (v : Value), BindsTo s fd ⟨[v], []⟩ [("script", v)]) ∧
    ∀ base : Heap, K.In base → base.Ns mainGlobals mg → (∀ p ∈ cs, LamX.TabB base mg p.1 p.2) → FnOk P w K mg base (L2.CX P w) k fa fd ["script"] (spV K mg (cs.map (·.2)) g 1)
theorem tab_conv {base : Heap} {mg : Str → Option Value} {c P : Addr} (t : LamX.TabB base mg c P) : GxR.TabB base mg c P := ⟨t.code, t.bm, t.gP⟩
theorem walk_got {l : PySem.W.OpenLaw} {k : Nat} {q : Program} {loose : List Str} {XP : (Str → Option Value) → Heap → Prop} {YP : World → Heap → Prop} {d : DefRec} {K : Params → PySem.W.Frag} {g : List D → Res D} (names : List Str)
    (ht : ∀ ns : List Int, ns.length ≤ 63 → g [.list (ns.map .int)] = .ok (.bool true))
    (hn : l.most = some 63) (hdf : d.params.defaults = []) (hr : Room k callerA) (hrec : (names.all fun nm => (recsOf q).any fun e => e.name == nm) = true) (hY : ∀ (w : World) (h : Heap), YP w h → (K w.params).In h)
    (F : ∀ (w : World) (mg : Str → Option Value) (fa : Addr) (h : Heap), (K w.params).In h → h.Ns mainGlobals mg → mg d.name = some (.ref fa) → (∀ nm ∈ names, ∃ f, mg nm = some (.ref f) ∧ LamX.OwnTab (K w.params) f h) → LawGot l.prog g w (K w.params) k mg fa h) :
    PySem.W.WalkO q loose XP YP l.row.toRowW d [] (fun f vs => PySem.call f vs) := by
  refine Att.attach_callB hn hdf fun w s₀ s₁ mg mb fa o pm cd doc a vs ns G Y ho hd hcd hmg hobj hints hlen hbits hg => ?_
  have KX := hY w _ Y
  have own : ∀ nm ∈ names, ∃ f, mg nm = some (.ref f) ∧ LamX.OwnTab (K w.params) f s₁.heap := fun nm hnm => by
    obtain ⟨dL, hm, hn1⟩ := List.any_eq_true.mp (List.all_eq_true.mp hrec nm hnm)
    have hn2 : dL.name = nm := beq_iff_eq.mp hn1
    obtain ⟨a', o', fd', c', P', h1, h2, h3, h4, h5, h6⟩ := G.T.tab dL hm
    rw [hn2] at h1
    refine ⟨a', h1, fun c P o1 fd1 e dd vs1 sl k1 k2 k3 k4 k5 => ?_⟩
    have g1 := KX _ _ k1
    rw [g1] at h2
    cases h2
    rw [k2] at h3
    cases h3
    rw [k3] at h4
    cases h4
    obtain ⟨⟨oc, vc, e1, _, e3, e4⟩, hP⟩ := h6
    have g2 := KX _ _ k4
    rw [g2] at e1
    cases e1
    cases e3
    rw [k5] at e4
    cases e4
    exact hP
  obtain ⟨fd, cs, hT, nT, C, hb, hF⟩ := F w mg fa _ KX G.T.g hmg own
  refine LamX.law_callTs (sp := spL (K w.params) (cs.map (·.2)) g) KX G.T.g G.T.b G.T.builtins G.T.nolimit hg hT nT C G.T.bmain hobj hints (Nat.le_trans hlen (by decide)) hr (fun base a b c => (hF base a b c).imp fun vs H Q E q => spL_V q) hb (fun H hH hS => spL_ok ht hlen (fun P hP => ?_) hS) fun H e s' z => no_cx z
  obtain ⟨p, hp, e⟩ := List.mem_map.mp hP
  subst e
  exact ⟨#[], hH p hp, by simp [TriplesOk]⟩
end VL

set_option Elab.async false
set_option linter.all false
set_option maxRecDepth 100000
set_option maxHeartbeats 4000000
namespace VL
open PySem PySem.Spec PyProof.Rows L2

section
variable {X : Cx} {B : Bd} {W : WX} {a b c e : Expr} {es : List Expr} {fa fb fc f : Rho → Res D} {pos p : Pos}
/-- an item of a list, read alone -/
theorem get_list : PGet X (rIxL X.K) := by
  intro pins s σ H x y v u Q I rx ry h
  obtain ⟨p, xs, i, z, rfl, rfl, hq, he, q⟩ := h
  cases rx
  obtain ⟨t, rfl⟩ := ry
  obtain ⟨its, r, pl, hz⟩ := I.list hq
  obtain ⟨j, h1, h2, h3, h4, h5⟩ := L2.atI_get he
  obtain ⟨w, ew, rw'⟩ := r.get h2
  have hl := r.length
  have hn := line63
  have fin : EP X pins σ Q w s := ⟨z, H, I, rw', q⟩
  by_cases h0 : 0 ≤ i
  · have hj : i.toNat = j := by
      rw [seqIndex_of h0 h5] at h1
      exact Option.some.inj h1
    exact wpAny_getItem_list (x := w) pl.isList h0 (by omega) (by rw [hj]; simpa using ew) fin
  · have hj : (i + (its.toArray.size : Int)).toNat = j := by
      rw [seqIndex_neg (by omega) h4] at h1
      rw [List.size_toArray, ← hl]
      exact Option.some.inj h1
    exact wpAny_getItem_list_neg (x := w) pl.isList (by omega) (by rw [List.size_toArray] <;> omega) (by omega) (by rw [hj]; simpa using ew) fin
/-- name[j] op= e -/
def augI (i : Nat) (fj f : Rho → Res D) (g : D → D → Option D) (ρ : Rho) : Out := match ρ[i]? with
  | some (some (.ow ds)) => Res.out ρ (fj ρ) fun j => match j with
    | .int z => (match ixN ds.length z with
      | some k => (match ds[k]? with
        | some x => Res.out ρ (f ρ) fun y => (match g x y with
          | some w => .nx (ρ.set i (some (.ow (ds.set k w))))
          | none => .no)
        | none => .no)
      | none => .no)
    | _ => .no
  | _ => .no
theorem ps_augI (i : Nat) {x : Str} {p2 spos : Pos} {j : Expr} {fj : Rho → Res D} {op : Operator} {r : R2} {g : D → D → Option D} (ho : OpR X (inplaceOp op) r) (hg : OpV X.K r g) (he : PVE X B W e f) (hj : PVE X B W j fj) (hN : X.N[i]? = some x := by rfl) (hv : Vis X.env.scope x := by first | exact Or.inl rfl | exact Or.inr (Or.inl rfl) | exact Or.inr (Or.inr rfl)) (hd : (x == ("__debug__" : Str)) = false := by decide) (hcd : (x == ("__classdict__" : Str)) = false := by decide)
    (ha : ∀ ov iv new, augStore j ov iv new = (do holding [new, ov, iv] (setItem ov iv new); release [new, ov, iv] []; pure .next) := by intros; rfl) :
    PVS X B W (.AugAssign (.Subscript (.Name x p2) j spos) op e pos) (augI i fj f g) := by
  obtain ⟨t, a1, a2⟩ := he.ex
  obtain ⟨u, b1, b2⟩ := hj.ex
  refine ⟨_, L2.ps_augS (pe_var hN hv hd hcd) b1 get_list a1 (tip := r) (fun pins s σ H x y v u Q I r1 r2 h => ho pins s σ H x y v u Q I r1 r2 h) set_list ha, fun ρ σ F H Z S q => ?_⟩
  unfold augI at q
  split at q
  · rename_i ds er
    obtain ⟨a, xs, h1, h2, h3, h4, h5⟩ := S.own er
    refine ⟨_, h1, b2 ρ σ F H _ S ?_⟩
    cases e2 : fj ρ with
    | no => rw [e2] at q; exact q
    | ex e' => rw [e2] at q; exact xok_of S q
    | ok dj =>
      rw [e2] at q
      simp only [Res.ok_out] at q
      intro vj F1 H1 g1 r1
      cases dj with
      | int z =>
        cases r1
        simp only at q
        cases e3 : ixN ds.length z with
        | none => rw [e3] at q; exact q.elim
        | some k =>
          rw [e3] at q
          simp only at q
          cases e4 : ds[k]? with
          | none => rw [e4] at q; exact q.elim
          | some dx =>
            rw [e4] at q
            simp only at q
            have e5 : atI ds z = some dx := by
              unfold atI
              rw [e3]
              exact e4
            obtain ⟨vx, h6, h7⟩ := atI_dp h5 e5
            refine ⟨a, xs, z, vx, rfl, rfl, .inl (.of (g1.h.lst h2)), h6, a2 ρ σ F1 H1 _ (S.grow g1) ?_⟩
            cases e6 : f ρ with
            | no => rw [e6] at q; exact q
            | ex e' => rw [e6] at q; exact XOk.grow g1 (xok_of S q)
            | ok dy =>
              rw [e6] at q
              simp only [Res.ok_out] at q
              intro vy F2 H2 g2 r2
              cases e7 : g dx dy with
              | none => rw [e7] at q; exact q.elim
              | some dw =>
                rw [e7] at q
                have g12 := g1.trans g2
                refine hg vx vy F2 H2 _ dx dy dw g12.fh (.of g12.fh (g12.f.dp _ _ h7)) (.of g12.fh r2) e7 fun vw F3 H3 g3 r3 => ?_
                have g := g12.trans g3
                refine ⟨a, xs, z, k, rfl, rfl, g.h.lst h2, by rw [h5.len]; exact e3, ?_⟩
                exact q σ F3 _ g.f (sta_ow S g er h1 h2 h5 r3 (k := fun l => l.set k vw) (k' := fun l => l.set k dw) ((g.f.dpAll _ _ h5).set r3 k))
      | _ => exact q.elim
  · exact q.elim
end
end VL

set_option Elab.async false
set_option linter.all false
set_option maxRecDepth 100000
set_option maxHeartbeats 4000000
namespace VL
open PySem PySem.Spec PyProof.Rows L2 PySem.W

/-! ### min, max of a list with default= -/
def rMMD (K : PySem.W.Frag) (m : D → List D → D) : List V → List V → Hp → VK → Prop := fun vs zs H Q => ∃ (a : Addr) (xs : List V) (ds : List D) (z : V), vs = [V.ref a] ∧ zs = [z] ∧ SqL K H a xs ∧ DpAll K H xs ds ∧ mmB ds = true ∧ (ds = [] → Q z H) ∧
  ∀ (y : D) (ys : List D) (i : Nat) (x : V), ds = y :: ys → xs[i]? = some x → ds[i]? = some (m y ys) → Q x H
section
variable {X : Cx} {B : Bd} {W : WX} {a b : Expr} {fa fb : Rho → Res D} {pos p kp : Pos}
theorem cr_minAD {k : Nat} (hr : Room k X.A) : CallRK X (.builtin "min") [Str.ofString "default"] (rMMD X.K minD) := by
  intro pins s σ H vs zs us ws Q I r rz h
  obtain ⟨a, xs, ds, z, rfl, rfl, hs, hd, hb, q0, q⟩ := h
  obtain ⟨its, rv, pl, _⟩ := I.list hs
  rw [Vals.ref1 r]
  obtain ⟨w1, rfl, e1⟩ := vals1 rz
  obtain ⟨hal, hde⟩ := mmB_ok hb
  obtain ⟨as, hrd⟩ := Dp.readsAll I ds xs its hd rv
  refine min_list_default hr.hd pl.isList (by simpa using hrd) hal (by have := hr.un; omega) (fun e h' tk hk => ⟨z, H, I.kept hk, e1, q0 e⟩) fun y ys i v h' tk bs hy hi hv hk => ?_
  have hi' : its[i]? = some v := by simpa using hi
  obtain ⟨x, hx, hxv⟩ := vals_back rv hi'
  obtain ⟨e, cs, he, hre⟩ := reads_get hrd hi'
  have e2 : minD y ys = e := (Reads.unique hv e cs (reads_keeps hk hre)).1
  exact ⟨x, H, I.kept hk, hxv, q y ys i x hy hx (by rw [he, e2])⟩
theorem cr_maxAD {k : Nat} (hr : Room k X.A) : CallRK X (.builtin "max") [Str.ofString "default"] (rMMD X.K maxD) := by
  intro pins s σ H vs zs us ws Q I r rz h
  obtain ⟨a, xs, ds, z, rfl, rfl, hs, hd, hb, q0, q⟩ := h
  obtain ⟨its, rv, pl, _⟩ := I.list hs
  rw [Vals.ref1 r]
  obtain ⟨w1, rfl, e1⟩ := vals1 rz
  obtain ⟨hal, hde⟩ := mmB_ok hb
  obtain ⟨as, hrd⟩ := Dp.readsAll I ds xs its hd rv
  refine max_list_default hr.hd pl.isList (by simpa using hrd) hal (by have := hr.un; omega) (fun e h' tk hk => ⟨z, H, I.kept hk, e1, q0 e⟩) fun y ys i v h' tk bs hy hi hv hk => ?_
  have hi' : its[i]? = some v := by simpa using hi
  obtain ⟨x, hx, hxv⟩ := vals_back rv hi'
  obtain ⟨e, cs, he, hre⟩ := reads_get hrd hi'
  have e2 : maxD y ys = e := (Reads.unique hv e cs (reads_keeps hk hre)).1
  exact ⟨x, H, I.kept hk, hxv, q y ys i x hy hx (by rw [he, e2])⟩
def mmDef (m : D → List D → D) : D → D → Option D
  | .list ds, z => if mmB ds = true then (match ds with | [] => some z | y :: ys => some (m y ys)) else none
  | _, _ => none
abbrev dMinDef : D → D → Option D := mmDef minD
abbrev dMaxDef : D → D → Option D := mmDef maxD
theorem pv_mmD {id : String} {m : D → List D → D} {x : Str} (hc : CallRK X (.builtin id) [Str.ofString "default"] (rMMD X.K m)) (hm : X.mg x = none) (hv : bootBuiltins x = some (.builtin id)) (ha : PVR X B W a fa) (hb : PVE X B W b fb) (hg : Gl X x := by rfl) (hn : x ≠ "__name__" := by decide) (hdb : (x == ("__debug__" : Str)) = false := by decide)
    (he : starEach (a :: []) X.env = (false, eval a X.env) :: starEach [] X.env := by rfl) (he2 : backTo pos (starEach (a :: []) X.env) = (false, eval a X.env) :: backTo pos (starEach [] X.env) := by rfl) (hpl : (backTo pos (starEach (a :: []) X.env)).any (·.1) = false := by rfl)
    (hall : (backToKw pos (keywordEach [⟨some "default", b, kp⟩] X.env)).all (·.1.isSome) = true := by rfl) (hnone : (backToKw pos (keywordEach [⟨some "default", b, kp⟩] X.env)).any (·.1.isNone) = false := by rfl) (hks : (backToKw pos (keywordEach [⟨some "default", b, kp⟩] X.env)).filterMap (·.1) = [Str.ofString "default"] := by rfl) :
    PVE X B W (.Call (.Name x p) [a] [⟨some "default", b, kp⟩] pos) (bin fa fb (mmDef m)) := by
  obtain ⟨ta, a1, a2⟩ := ha.ex
  obtain ⟨tb, b1, b2⟩ := hb.ex
  refine ⟨_, pe_callBK hc hg hm hv (L2.pa_cons a1 L2.pa_nil he) (pk_cons b1 pk_nil) hn hdb he2 hpl hall hnone hks, fun ρ σ F H Q S q => a2 ρ σ F H _ S ?_⟩
  unfold bin at q
  cases e : fa ρ with
  | no => rw [e] at q; exact q
  | ex e' => rw [e] at q; exact q
  | ok d =>
    rw [e] at q
    simp only [Res.ok_bind] at q
    intro v F1 H1 g1 r1
    refine b2 ρ σ F1 H1 _ (S.grow g1) ?_
    cases e2 : fb ρ with
    | no => rw [e2] at q; exact q
    | ex e' => rw [e2] at q; exact EPo.grow g1 q
    | ok z =>
      rw [e2] at q
      simp only [Res.ok_bind] at q
      intro vz F2 H2 g2 r2
      have g := g1.trans g2
      have r1' := r1.grow g2
      unfold mmDef at q
      split at q
      · rename_i ds
        split at q
        · rename_i hb
          obtain ⟨pa, xs, rfl, h1, h2⟩ := r1'
          refine ⟨pa, xs, ds, vz, rfl, rfl, h1, g.fh.dpAll _ _ h2, hb, fun hd => ?_, fun y ys i x hd hx hi => ?_⟩
          · subst hd
            exact q vz F2 H2 g r2
          · subst hd
            obtain ⟨d', h3, h4⟩ := h2.get hx
            rw [hi] at h3
            cases h3
            exact q x F2 H2 g h4
        · exact q.elim
      · exact q.elim
end
end VL

set_option Elab.async false
set_option linter.all false
set_option maxRecDepth 100000
set_option maxHeartbeats 4000000
/-! VT: a layer of types over VL. A reading by data is refined by a typed function. -/
namespace VT
open PySem PySem.Spec PyProof.Rows L2 VL
noncomputable section

class Enc (α : Type) where
  enc : α → D
open Enc
structure Tu (α : Type) where
  l : List α
deriving DecidableEq
structure T1 (α : Type) where
  a : α
deriving DecidableEq
structure T3 (α β γ : Type) where
  a : α
  b : β
  c : γ
deriving DecidableEq
structure T4 (α β γ δ : Type) where
  a : α
  b : β
  c : γ
  d : δ
deriving DecidableEq
structure T5 (α β γ δ ε : Type) where
  a : α
  b : β
  c : γ
  d : δ
  e : ε
deriving DecidableEq
structure T6 (α β γ δ ε ζ : Type) where
  a : α
  b : β
  c : γ
  d : δ
  e : ε
  f : ζ
deriving DecidableEq
structure T8 (α β γ δ ε ζ η θ : Type) where
  a : α
  b : β
  c : γ
  d : δ
  e : ε
  f : ζ
  g : η
  h : θ
deriving DecidableEq
structure T0 where
deriving DecidableEq
section
variable {α β γ δ ε ζ η θ σ : Type}
variable [Enc α] [Enc β] [Enc γ] [Enc δ] [Enc ε] [Enc ζ] [Enc η] [Enc θ]
instance : Enc Int := ⟨.int⟩
instance : Enc Bool := ⟨.bool⟩
instance : Enc Str := ⟨.str⟩
instance : Enc Unit := ⟨fun _ => .none⟩
instance : Enc D := ⟨id⟩
instance : Enc (Option α) := ⟨fun o => match o with | none => .none | some a => enc a⟩
instance : Enc (List α) := ⟨fun l => .list (l.map enc)⟩
instance : Enc (Tu α) := ⟨fun t => .tuple (t.l.map enc)⟩
instance : Enc T0 := ⟨fun _ => .tuple []⟩
instance : Enc (T1 α) := ⟨fun p => .tuple [enc p.a]⟩
instance : Enc (α × β) := ⟨fun p => .tuple [enc p.1, enc p.2]⟩
instance : Enc (T3 α β γ) := ⟨fun p => .tuple [enc p.a, enc p.b, enc p.c]⟩
instance : Enc (T4 α β γ δ) := ⟨fun p => .tuple [enc p.a, enc p.b, enc p.c, enc p.d]⟩
instance : Enc (T5 α β γ δ ε) := ⟨fun p => .tuple [enc p.a, enc p.b, enc p.c, enc p.d, enc p.e]⟩
instance : Enc (T6 α β γ δ ε ζ) := ⟨fun p => .tuple [enc p.a, enc p.b, enc p.c, enc p.d, enc p.e, enc p.f]⟩
instance : Enc (T8 α β γ δ ε ζ η θ) := ⟨fun p => .tuple [enc p.a, enc p.b, enc p.c, enc p.d, enc p.e, enc p.f, enc p.g, enc p.h]⟩

abbrev fz (a : α) : Option LV := some (.fz (enc a))
abbrev ow (l : List α) : Option LV := some (.ow (l.map enc))

/-! ### the relations -/
def Rf {A B : Type} (f : A → B) (r : Res B) : Res A → Prop
  | .ok a => r = .ok (f a)
  | .ex e => r = .ex e
  | .no => True
abbrev Ref (r : Res D) (m : Res α) : Prop := Rf enc r m
abbrev RefB (r : Res Bool) (m : Res Bool) : Prop := Rf id r m
abbrev RefA (r : Res (List D)) (m : Res (List D)) : Prop := Rf id r m
abbrev RefL (r : Res (List D)) (m : Res (List α)) : Prop := Rf (List.map enc) r m
theorem Rf.bind {A B A' B' : Type} {f : A → B} {f' : A' → B'} {r : Res B} {m : Res A} {k : B → Res B'} {k' : A → Res A'} (h : Rf f r m) (hk : ∀ a, Rf f' (k (f a)) (k' a)) : Rf f' (r.bind k) (m.bind k') := by
  cases m with
  | ok a => cases h; exact hk a
  | ex e => cases h; exact rfl
  | no => exact trivial
theorem Rf.no {A B : Type} {f : A → B} {r : Res B} : Rf f r .no := trivial
theorem Rf.noX {A B : Type} {f : A → B} {r : Res B} {m : Res A} (h : Rf f r m) : Rf f (VL.noX r) (VL.noX m) := by
  cases m with
  | ok a => cases h; exact rfl
  | ex e => exact trivial
  | no => exact trivial
theorem bind_assoc {A B C : Type} {m : Res A} {f : A → Res B} {g : B → Res C} : (m.bind f).bind g = m.bind fun a => (f a).bind g := by cases m <;> rfl
theorem bind_ok {A : Type} {m : Res A} : (m.bind fun a => .ok a) = m := by cases m <;> rfl

/-! ### coercions -/
theorem r_c {r : Res D} {a : α} {g : α → β} (hc : ∀ a, enc (g a) = enc a) (h : Ref r (.ok a)) : Ref r (.ok (g a)) := by
  have e : r = .ok (enc a) := h
  exact e.trans (by rw [hc])
theorem r_cE {r : Res D} {m : Res α} (g : α → β) (hc : ∀ a, enc (g a) = enc a) (h : Ref r m) : Ref r (m.bind fun a => .ok (g a)) := by
  cases m with
  | ok a => exact r_c hc h
  | ex e => exact h
  | no => exact trivial
theorem c_id (a : α) : enc (id a) = enc a := rfl
theorem c_none (a : Unit) : enc (none : Option β) = enc a := rfl
theorem c_some (a : α) : enc (some a) = enc a := rfl
theorem c_opt {g : α → β} (hc : ∀ a, enc (g a) = enc a) (a : Option α) : enc (a.map g) = enc a := by
  cases a with
  | none => rfl
  | some a => exact hc a
theorem c_osome {g : α → β} (hc : ∀ a, enc (g a) = enc a) (a : α) : enc (some (g a)) = enc a := hc a
theorem c_D (a : α) : enc (enc a : D) = enc a := rfl
theorem c_map {g : α → β} (hc : ∀ a, enc (g a) = enc a) (l : List α) : (l.map g).map enc = l.map enc := by rw [List.map_map]; exact List.map_congr_left fun a _ => hc a
theorem c_list {g : α → β} (hc : ∀ a, enc (g a) = enc a) (l : List α) : enc (l.map g) = enc l := congrArg PyData.list (c_map hc l)
theorem c_tu {g : α → β} (hc : ∀ a, enc (g a) = enc a) (t : Tu α) : enc (Tu.mk (t.l.map g)) = enc t := congrArg PyData.tuple (c_map hc t.l)
theorem c_pair {g : α → γ} {h : β → δ} (hg : ∀ a, enc (g a) = enc a) (hh : ∀ a, enc (h a) = enc a) (p : α × β) : enc (g p.1, h p.2) = enc p := by
  show PyData.tuple [enc (g p.1), enc (h p.2)] = _
  rw [hg, hh]; rfl
theorem c_t3 {α' β' γ' : Type} [Enc α'] [Enc β'] [Enc γ'] {g : α → α'} {h : β → β'} {k : γ → γ'} (hg : ∀ a, enc (g a) = enc a) (hh : ∀ a, enc (h a) = enc a) (hk : ∀ a, enc (k a) = enc a) (p : T3 α β γ) : enc (T3.mk (g p.a) (h p.b) (k p.c)) = enc p := by
  show PyData.tuple [enc (g p.a), enc (h p.b), enc (k p.c)] = _
  rw [hg, hh, hk]; rfl
/-- fixed tuples of one type as tuples of any length -/
theorem c_t0u (p : T0) : enc (Tu.mk ([] : List α)) = enc p := rfl
theorem c_t1u (p : T1 α) : enc (Tu.mk [p.a]) = enc p := rfl
theorem c_t2u (p : α × α) : enc (Tu.mk [p.1, p.2]) = enc p := rfl
theorem c_t3u (p : T3 α α α) : enc (Tu.mk [p.a, p.b, p.c]) = enc p := rfl
theorem c_t4u (p : T4 α α α α) : enc (Tu.mk [p.a, p.b, p.c, p.d]) = enc p := rfl
theorem rl_c {r : Res (List D)} {a : List α} {g : α → β} (hc : ∀ a, enc (g a) = enc a) (h : RefL r (.ok a)) : RefL r (.ok (a.map g)) := by
  have e : r = .ok (a.map enc) := h
  exact e.trans (by rw [c_map hc])
theorem rl_cE {r : Res (List D)} {m : Res (List α)} (g : α → β) (hc : ∀ a, enc (g a) = enc a) (h : RefL r m) : RefL r (m.bind fun a => .ok (a.map g)) := by
  cases m with
  | ok a => exact rl_c hc h
  | ex e => exact h
  | no => exact trivial
/-- of an option what it holds -/
def unw (o : Option α) : Res α := match o with
  | some a => .ok a
  | none => .no
theorem unw_some (a : α) : unw (some a) = .ok a := rfl
theorem r_unw {r : Res D} {o : Option α} (h : Ref r (.ok o)) : Ref r (unw o) := by
  cases o with
  | some a => exact h
  | none => exact trivial
theorem r_unwE {r : Res D} {m : Res (Option α)} (h : Ref r m) : Ref r (m.bind unw) := by
  cases m with
  | ok o => exact r_unw h
  | ex e => exact h
  | no => exact trivial
open Classical in
/-- data of a known shape -/
def castD (d : D) : Res α := if h : ∃ a : α, d = enc a then .ok h.choose else .no
theorem r_cast {r : Res D} {d : D} (h : Ref r (.ok d)) : Ref r (castD d : Res α) := by
  unfold castD
  split
  · rename_i q
    exact Eq.trans h (congrArg Res.ok q.choose_spec)
  · exact trivial
theorem r_castE {r : Res D} {m : Res D} (h : Ref r m) : Ref r (m.bind fun d => (castD d : Res α)) := by
  cases m with
  | ok d => exact r_cast h
  | ex e => exact h
  | no => exact trivial
class Inj (α : Type) [Enc α] : Prop where
  inj : ∀ a b : α, enc a = enc b → a = b
theorem castD_enc [Inj α] (a : α) : (castD (enc a) : Res α) = .ok a := by
  unfold castD
  rw [dif_pos ⟨a, rfl⟩]
  exact congrArg Res.ok (Inj.inj _ _ (Exists.choose_spec (p := fun b : α => enc a = enc b) ⟨a, rfl⟩).symm)
instance : Inj Int := ⟨fun a b h => by cases h; rfl⟩
instance : Inj Bool := ⟨fun a b h => by cases h; rfl⟩
instance : Inj Str := ⟨fun a b h => by cases h; rfl⟩
instance : Inj D := ⟨fun a b h => h⟩
theorem map_inj {A B : Type} {f : A → B} (h : ∀ a b, f a = f b → a = b) : ∀ l m : List A, l.map f = m.map f → l = m
  | [], [], _ => rfl
  | [], b :: m, e => by simp at e
  | a :: l, [], e => by simp at e
  | a :: l, b :: m, e => by
    rw [List.map_cons, List.map_cons] at e
    injection e with e1 e2
    rw [h _ _ e1, map_inj h l m e2]
instance [Inj α] : Inj (List α) := ⟨fun a b h => map_inj Inj.inj a b (by injection h)⟩
instance [Inj α] : Inj (Tu α) := ⟨fun a b h => by
  cases a; cases b
  have := map_inj Inj.inj _ _ (PyData.tuple.inj h)
  exact congrArg Tu.mk this⟩
instance [Inj α] [Inj β] : Inj (α × β) := ⟨fun a b h => by
  obtain ⟨a1, a2⟩ := a; obtain ⟨b1, b2⟩ := b
  have e := PyData.tuple.inj h
  injection e with e1 e2
  injection e2 with e2 e3
  rw [Inj.inj a1 b1 e1, Inj.inj a2 b2 e2]⟩
instance [Inj α] [Inj β] [Inj γ] : Inj (T3 α β γ) := ⟨fun a b h => by
  obtain ⟨a1, a2, a3⟩ := a; obtain ⟨b1, b2, b3⟩ := b
  have e := PyData.tuple.inj h
  injection e with e1 e2
  injection e2 with e2 e3
  injection e3 with e3 e4
  rw [Inj.inj a1 b1 e1, Inj.inj a2 b2 e2, Inj.inj a3 b3 e3]⟩
instance [Inj α] [Inj β] [Inj γ] [Inj δ] : Inj (T4 α β γ δ) := ⟨fun a b h => by
  obtain ⟨a1, a2, a3, a4⟩ := a; obtain ⟨b1, b2, b3, b4⟩ := b
  have e := PyData.tuple.inj h
  injection e with e1 e2
  injection e2 with e2 e3
  injection e3 with e3 e4
  injection e4 with e4 e5
  rw [Inj.inj a1 b1 e1, Inj.inj a2 b2 e2, Inj.inj a3 b3 e3, Inj.inj a4 b4 e4]⟩
/-- no value of the type reads as None -/
class NN (α : Type) [Enc α] : Prop where
  nn : ∀ a : α, enc a ≠ .none
instance : NN Int := ⟨fun _ h => by cases h⟩
instance : NN Bool := ⟨fun _ h => by cases h⟩
instance : NN Str := ⟨fun _ h => by cases h⟩
instance : NN (List α) := ⟨fun _ h => by cases h⟩
instance : NN (Tu α) := ⟨fun _ h => by cases h⟩
instance : NN (α × β) := ⟨fun _ h => by cases h⟩
instance : NN (T1 α) := ⟨fun _ h => by cases h⟩
instance : NN (T3 α β γ) := ⟨fun _ h => by cases h⟩
instance : NN (T4 α β γ δ) := ⟨fun _ h => by cases h⟩
instance : NN (T5 α β γ δ ε) := ⟨fun _ h => by cases h⟩
instance : NN (T6 α β γ δ ε ζ) := ⟨fun _ h => by cases h⟩
instance : NN (T8 α β γ δ ε ζ η θ) := ⟨fun _ h => by cases h⟩
instance [NN α] [Inj α] : Inj (Option α) := ⟨fun a b h => by
  cases a with
  | none => cases b with
    | none => rfl
    | some b => exact absurd h.symm (NN.nn b)
  | some a => cases b with
    | none => exact absurd h (NN.nn a)
    | some b => rw [Inj.inj a b h]⟩

/-! ### expressions -/
variable {ρ : Rho} {f fa fb fc fd : Rho → Res D} {ta tb : Rho → Res Bool} {ga gb : Rho → Res (List D)} {i j k : Nat}
theorem r_var {a : α} (h : ρ[i]? = some (fz a)) : Ref (var i ρ) (.ok a) := by unfold var; rw [h]; rfl
theorem r_varR {a : α} (h : ρ[i]? = some (fz a)) : Ref (varR i ρ) (.ok a) := by unfold varR; rw [h]; rfl
theorem r_varO {a : List α} (h : ρ[i]? = some (ow a)) : Ref (varR i ρ) (.ok a) := by unfold varR; rw [h]; rfl
theorem r_k {d : D} {a : α} (h : d = enc a) : Ref (Res.ok d) (.ok a) := congrArg Res.ok h

/-- two operands -/
theorem r_bin {g : D → D → Option D} {op : α → β → Res γ} (ho : ∀ a b, Ref (Res.of (g (enc a) (enc b))) (op a b)) {ma : Res α} {mb : Res β} (ha : Ref (fa ρ) ma) (hb : Ref (fb ρ) mb) : Ref (bin fa fb g ρ) (ma.bind fun a => mb.bind fun b => op a b) :=
  ha.bind fun a => hb.bind fun b => ho a b
theorem r_binB {g : D → D → Option Bool} {op : α → β → Res Bool} (ho : ∀ a b, RefB (Res.of (g (enc a) (enc b))) (op a b)) {ma : Res α} {mb : Res β} (ha : Ref (fa ρ) ma) (hb : Ref (fb ρ) mb) : RefB (binB fa fb g ρ) (ma.bind fun a => mb.bind fun b => op a b) :=
  ha.bind fun a => hb.bind fun b => ho a b
theorem r_un {g : D → Option D} {op : α → Res γ} (ho : ∀ a, Ref (Res.of (g (enc a))) (op a)) {ma : Res α} (ha : Ref (fa ρ) ma) : Ref (un fa g ρ) (ma.bind op) :=
  ha.bind ho
theorem r_unO {g : D → Option (List D)} {op : α → Res (List γ)} (ho : ∀ a, RefL (Res.of (g (enc a))) (op a)) {ma : Res α} (ha : Ref (fa ρ) ma) : RefL (unO fa g ρ) (ma.bind op) :=
  ha.bind ho
/-- pure operands -/
theorem r_binP {g : D → D → Option D} {op : α → β → Res γ} (ho : ∀ a b, Ref (Res.of (g (enc a) (enc b))) (op a b)) {a : α} {b : β} (ha : Ref (fa ρ) (.ok a)) (hb : Ref (fb ρ) (.ok b)) : Ref (bin fa fb g ρ) (op a b) := by
  have e1 : fa ρ = .ok (enc a) := ha
  have e2 : fb ρ = .ok (enc b) := hb
  unfold VL.bin
  rw [e1, e2]
  exact ho a b
theorem r_binBP {g : D → D → Option Bool} {op : α → β → Res Bool} (ho : ∀ a b, RefB (Res.of (g (enc a) (enc b))) (op a b)) {a : α} {b : β} (ha : Ref (fa ρ) (.ok a)) (hb : Ref (fb ρ) (.ok b)) : RefB (binB fa fb g ρ) (op a b) := by
  have e1 : fa ρ = .ok (enc a) := ha
  have e2 : fb ρ = .ok (enc b) := hb
  unfold binB
  rw [e1, e2]
  exact ho a b
theorem r_unP {g : D → Option D} {op : α → Res γ} (ho : ∀ a, Ref (Res.of (g (enc a))) (op a)) {a : α} (ha : Ref (fa ρ) (.ok a)) : Ref (un fa g ρ) (op a) := by
  have e1 : fa ρ = .ok (enc a) := ha
  unfold un
  rw [e1]
  exact ho a
theorem r_unOP {g : D → Option (List D)} {op : α → Res (List γ)} (ho : ∀ a, RefL (Res.of (g (enc a))) (op a)) {a : α} (ha : Ref (fa ρ) (.ok a)) : RefL (unO fa g ρ) (op a) := by
  have e1 : fa ρ = .ok (enc a) := ha
  unfold unO
  rw [e1]
  exact ho a
/-- a subscript, a sum of fixed tuples: by computation -/
theorem r_binX {g : D → D → Option D} {a : α} {b : β} {c : γ} (ha : Ref (fa ρ) (.ok a)) (hb : Ref (fb ρ) (.ok b)) (h : g (enc a) (enc b) = some (enc c)) : Ref (bin fa fb g ρ) (.ok c) := by
  have e1 : fa ρ = .ok (enc a) := ha
  have e2 : fb ρ = .ok (enc b) := hb
  unfold VL.bin
  rw [e1, e2]
  show Res.of (g (enc a) (enc b)) = _
  rw [h]; rfl
theorem r_binXE {g : D → D → Option D} {b : β} {c : α → γ} {m : Res α} (ha : Ref (fa ρ) m) (hb : Ref (fb ρ) (.ok b)) (h : ∀ a, g (enc a) (enc b) = some (enc (c a))) : Ref (bin fa fb g ρ) (m.bind fun a => .ok (c a)) := by
  have e2 : fb ρ = .ok (enc b) := hb
  refine ha.bind fun a => ?_
  rw [e2]
  show Res.of (g (enc a) (enc b)) = _
  rw [h]; rfl

/-! operators -/
theorem o_add (a b : Int) : Ref (Res.of (dAdd (enc a) (enc b))) (.ok (a + b)) := rfl
theorem o_sub (a b : Int) : Ref (Res.of (dSub (enc a) (enc b))) (.ok (a - b)) := rfl
theorem o_addI (a b : Int) : Ref (Res.of (dAddI (enc a) (enc b))) (.ok (a + b)) := rfl
def mulz (a b : Int) : Res Int := if CMulW a b then .ok (a * b) else .no
def divz (a b : Int) : Res Int := if CDivW a b then .ok (a / b) else .no
def modz (a b : Int) : Res Int := if 0 < b then .ok (a % b) else .no
def powz (a b : Int) : Res Int := if CPow a b then .ok (a ^ b.toNat) else .no
theorem Ref_ite {c : Prop} [Decidable c] {d : D} {a : α} (h : d = enc a) : Ref (Res.of (if c then some d else none)) (if c then .ok a else .no) := by
  split
  · exact congrArg Res.ok h
  · exact trivial
theorem o_mul (a b : Int) : Ref (Res.of (dMul (enc a) (enc b))) (mulz a b) := Ref_ite rfl
theorem o_div (a b : Int) : Ref (Res.of (dDiv (enc a) (enc b))) (divz a b) := Ref_ite rfl
theorem o_mod (a b : Int) : Ref (Res.of (dMod (enc a) (enc b))) (modz a b) := Ref_ite rfl
theorem o_pow (a b : Int) : Ref (Res.of (dPow (enc a) (enc b))) (powz a b) := Ref_ite rfl
def catS (a b : Str) : Res Str := if a.length + b.length ≤ sizeLine then .ok (a ++ b) else .no
theorem o_addS (a b : Str) : Ref (Res.of (dAdd (enc a) (enc b))) (catS a b) := Ref_ite rfl
theorem o_addIS (a b : Str) : Ref (Res.of (dAddI (enc a) (enc b))) (catS a b) := Ref_ite rfl
def cat (a b : List α) : Res (List α) := if a.length + b.length ≤ sizeLine then .ok (a ++ b) else .no
def catU (a b : Tu α) : Res (Tu α) := if a.l.length + b.l.length ≤ sizeLine then .ok ⟨a.l ++ b.l⟩ else .no
theorem o_addL (a b : List α) : Ref (Res.of (dAdd (enc a) (enc b))) (cat a b) := by
  show Ref (Res.of (if (a.map enc).length + (b.map enc).length ≤ sizeLine then some (PyData.list (a.map enc ++ b.map enc)) else none)) _
  rw [List.length_map, List.length_map, ← List.map_append]
  exact Ref_ite rfl
theorem o_addU (a b : Tu α) : Ref (Res.of (dAdd (enc a) (enc b))) (catU a b) := by
  show Ref (Res.of (if (a.l.map enc).length + (b.l.map enc).length ≤ sizeLine then some (PyData.tuple (a.l.map enc ++ b.l.map enc)) else none)) _
  rw [List.length_map, List.length_map, ← List.map_append]
  exact Ref_ite rfl
theorem o_neg (a : Int) : Ref (Res.of (dNeg (enc a))) (.ok (-a)) := rfl
theorem RefL_ite {c : Prop} [Decidable c] {d : List D} {a : List α} (h : d = a.map enc) : RefL (Res.of (if c then some d else none)) (if c then .ok a else .no) := by
  split
  · exact congrArg Res.ok h
  · exact trivial
theorem rl_cat {a b : List α} (ha : Ref (fa ρ) (.ok a)) (hb : Ref (fb ρ) (.ok b)) : RefL (catO fa fb ρ) (cat a b) := by
  have e1 : fa ρ = .ok (enc a) := ha
  have e2 : fb ρ = .ok (enc b) := hb
  show RefL ((fa ρ).bind fun x => (fb ρ).bind fun y => Res.of (dCat x y)) _
  rw [e1, e2]
  show RefL (Res.of (if (a.map enc).length + (b.map enc).length ≤ sizeLine then some (a.map enc ++ b.map enc) else none)) _
  rw [List.length_map, List.length_map, ← List.map_append]
  exact RefL_ite rfl
theorem rl_catE {ma mb : Res (List α)} (ha : Ref (fa ρ) ma) (hb : Ref (fb ρ) mb) : RefL (catO fa fb ρ) (ma.bind fun a => mb.bind fun b => cat a b) := by
  show RefL ((fa ρ).bind fun x => (fb ρ).bind fun y => Res.of (dCat x y)) _
  refine ha.bind fun a => hb.bind fun b => ?_
  show RefL (Res.of (if (a.map enc).length + (b.map enc).length ≤ sizeLine then some (a.map enc ++ b.map enc) else none)) _
  rw [List.length_map, List.length_map, ← List.map_append]
  exact RefL_ite rfl
/-- any operator over data -/
theorem o_any (g : D → D → Option D) (a : α) (b : β) : Ref (Res.of (g (enc a) (enc b))) (Res.of (g (enc a) (enc b)) : Res D) := by
  cases g (enc a) (enc b) with
  | none => exact trivial
  | some d => exact rfl
theorem o_anyB (g : D → D → Option Bool) (a : α) (b : β) : RefB (Res.of (g (enc a) (enc b))) (Res.of (g (enc a) (enc b))) := by
  cases g (enc a) (enc b) with
  | none => exact trivial
  | some d => exact rfl
theorem o_any1 (g : D → Option D) (a : α) : Ref (Res.of (g (enc a))) (Res.of (g (enc a)) : Res D) := by
  cases g (enc a) with
  | none => exact trivial
  | some d => exact rfl

/-! subscripts -/
def ix (l : List α) (i : Int) : Res α := Res.of (atI l i)
def ixU (t : Tu α) (i : Int) : Res α := Res.of (atI t.l i)
def ixS (z : Str) (i : Int) : Res Str := if z.length ≤ sizeLine then Res.of ((atI z.cps.toList i).map fun c => ⟨#[c]⟩) else .no
theorem atI_map (l : List α) (i : Int) : atI (l.map enc) i = (atI l i).map enc := by
  unfold atI
  rw [List.length_map]
  cases ixN l.length i with
  | none => rfl
  | some j => exact List.getElem?_map
theorem Ref_of (o : Option α) : Ref (Res.of (o.map enc)) (Res.of o) := by cases o <;> first | exact rfl | exact trivial
theorem o_ix (l : List α) (i : Int) : Ref (Res.of (dIx (enc l) (enc i))) (ix l i) := by
  show Ref (Res.of (atI (l.map enc) i)) _
  rw [atI_map]
  exact Ref_of _
theorem o_ixU (t : Tu α) (i : Int) : Ref (Res.of (dIx (enc t) (enc i))) (ixU t i) := by
  show Ref (Res.of (atI (t.l.map enc) i)) _
  rw [atI_map]
  exact Ref_of _
theorem o_ixS (z : Str) (i : Int) : Ref (Res.of (dIx (enc z) (enc i))) (ixS z i) := by
  show Ref (Res.of (if z.length ≤ sizeLine then (atI z.cps.toList i).map (fun c => PyData.str ⟨#[c]⟩) else none)) (if z.length ≤ sizeLine then Res.of ((atI z.cps.toList i).map fun c => (⟨#[c]⟩ : Str)) else .no)
  split
  · cases atI z.cps.toList i <;> first | exact rfl | exact trivial
  · exact trivial
/-! slices -/
def RefO (r : Res (Option Int)) (m : Res (Option Int)) : Prop := Rf id r m
theorem q_no : RefO (noO ρ) (.ok none) := rfl
theorem q_some {i : Int} (h : Ref (fa ρ) (.ok i)) : RefO (asI fa ρ) (.ok (some i)) := by
  have e : fa ρ = .ok (enc i) := h
  unfold asI
  rw [e]; rfl
theorem q_someE {m : Res Int} (h : Ref (fa ρ) m) : RefO (asI fa ρ) (m.bind fun i => .ok (some i)) := Rf.bind h fun i => rfl
def cut (l : List α) (lo hi : Option Int) : List α := (l.drop (HT.sIx l.length 0 lo)).take (HT.sIx l.length l.length hi - HT.sIx l.length 0 lo)
theorem cut_map (l : List α) (lo hi : Option Int) : cutD (l.map enc) lo hi = (cut l lo hi).map enc := by
  unfold VL.cutD cut
  rw [List.length_map, List.map_take, List.map_drop]
variable {la lb : Rho → Res (Option Int)}
theorem r_slc {l : List α} {lo hi : Option Int} (h : Ref (fa ρ) (.ok l)) (h1 : RefO (la ρ) (.ok lo)) (h2 : RefO (lb ρ) (.ok hi)) : Ref (slc fa la lb ρ) (.ok (cut l lo hi)) := by
  have e : fa ρ = .ok (enc l) := h
  have e1 : la ρ = .ok lo := h1
  have e2 : lb ρ = .ok hi := h2
  unfold slc
  rw [e, e1, e2]
  show Res.ok (PyData.list (cutD (l.map enc) lo hi)) = _
  rw [cut_map]; rfl
theorem r_slcE {m : Res (List α)} {m1 m2 : Res (Option Int)} (h : Ref (fa ρ) m) (h1 : RefO (la ρ) m1) (h2 : RefO (lb ρ) m2) : Ref (slc fa la lb ρ) (m.bind fun l => m1.bind fun lo => m2.bind fun hi => .ok (cut l lo hi)) := by
  refine Rf.bind h fun l => Rf.bind h1 fun lo => Rf.bind h2 fun hi => ?_
  show Res.ok (PyData.list (cutD (l.map enc) lo hi)) = _
  rw [cut_map]; rfl
theorem r_slcU {l : Tu α} {lo hi : Option Int} (h : Ref (fa ρ) (.ok l)) (h1 : RefO (la ρ) (.ok lo)) (h2 : RefO (lb ρ) (.ok hi)) : Ref (slc fa la lb ρ) (.ok (Tu.mk (cut l.l lo hi))) := by
  have e : fa ρ = .ok (enc l) := h
  have e1 : la ρ = .ok lo := h1
  have e2 : lb ρ = .ok hi := h2
  unfold slc
  rw [e, e1, e2]
  show Res.ok (PyData.tuple (cutD (l.l.map enc) lo hi)) = _
  rw [cut_map]; rfl
theorem r_slcUE {m : Res (Tu α)} {m1 m2 : Res (Option Int)} (h : Ref (fa ρ) m) (h1 : RefO (la ρ) m1) (h2 : RefO (lb ρ) m2) : Ref (slc fa la lb ρ) (m.bind fun l => m1.bind fun lo => m2.bind fun hi => .ok (Tu.mk (cut l.l lo hi))) := by
  refine Rf.bind h fun l => Rf.bind h1 fun lo => Rf.bind h2 fun hi => ?_
  show Res.ok (PyData.tuple (cutD (l.l.map enc) lo hi)) = _
  rw [cut_map]; rfl
/-- of a fixed tuple, by computation -/
theorem r_slcX {a : α} {c : β} {lo hi : Option Int} (h : Ref (fa ρ) (.ok a)) (h1 : RefO (la ρ) (.ok lo)) (h2 : RefO (lb ρ) (.ok hi)) (hx : dSl (enc a) lo hi = some (enc c)) : Ref (slc fa la lb ρ) (.ok c) := by
  have e : fa ρ = .ok (enc a) := h
  have e1 : la ρ = .ok lo := h1
  have e2 : lb ρ = .ok hi := h2
  unfold slc
  rw [e, e1, e2]
  show Res.of (dSl (enc a) lo hi) = _
  rw [hx]; rfl
theorem r_slcXE {m : Res α} {c : α → β} {lo hi : Option Int} (h : Ref (fa ρ) m) (h1 : RefO (la ρ) (.ok lo)) (h2 : RefO (lb ρ) (.ok hi)) (hx : ∀ a, dSl (enc a) lo hi = some (enc (c a))) : Ref (slc fa la lb ρ) (m.bind fun a => .ok (c a)) := by
  have e1 : la ρ = .ok lo := h1
  have e2 : lb ρ = .ok hi := h2
  refine Rf.bind h fun a => ?_
  rw [e1, e2]
  show Res.of (dSl (enc a) lo hi) = _
  rw [hx]; rfl
theorem rl_slc {l : List α} {lo hi : Option Int} (h : Ref (fa ρ) (.ok l)) (h1 : RefO (la ρ) (.ok lo)) (h2 : RefO (lb ρ) (.ok hi)) : RefL (sl1O fa la lb ρ) (.ok (cut l lo hi)) := by
  have e : fa ρ = .ok (enc l) := h
  have e1 : la ρ = .ok lo := h1
  have e2 : lb ρ = .ok hi := h2
  unfold sl1O
  rw [e, e1, e2]
  show Res.ok (cutD (l.map enc) lo hi) = _
  rw [cut_map]
theorem rl_slcE {m : Res (List α)} {m1 m2 : Res (Option Int)} (h : Ref (fa ρ) m) (h1 : RefO (la ρ) m1) (h2 : RefO (lb ρ) m2) : RefL (sl1O fa la lb ρ) (m.bind fun l => m1.bind fun lo => m2.bind fun hi => .ok (cut l lo hi)) := by
  refine Rf.bind h fun l => Rf.bind h1 fun lo => Rf.bind h2 fun hi => ?_
  show Res.ok (cutD (l.map enc) lo hi) = _
  rw [cut_map]

/-! comparisons -/
theorem o_lt (a b : Int) : RefB (Res.of (dLt (enc a) (enc b))) (.ok (decide (a < b))) := rfl
theorem o_le (a b : Int) : RefB (Res.of (dLe (enc a) (enc b))) (.ok (decide (a ≤ b))) := rfl
theorem o_gt (a b : Int) : RefB (Res.of (dGt (enc a) (enc b))) (.ok (decide (b < a))) := rfl
theorem o_ge (a b : Int) : RefB (Res.of (dGe (enc a) (enc b))) (.ok (decide (b ≤ a))) := rfl
theorem o_ltS (a b : Str) : RefB (Res.of (dLt (enc a) (enc b))) (.ok (decide (a.cps.toList < b.cps.toList))) := rfl
/-- types whose equality is Python's -/
class EqOK (α : Type) [Enc α] [DecidableEq α] where
  good : α → Bool
  eqv : ∀ a b : α, PyData.eqv (enc a) (enc b) = decide (a = b)
  lay : ∀ a, good a = true → PyData.canLay0 (enc a) = true
  dep : Nat
  hdep : ∀ a : α, (enc a).depth ≤ dep
open EqOK
theorem shape_of [DecidableEq α] [EqOK α] {a : α} (hd : dep α ≤ 64) (g : good a = true) : SeqAt.shaped (enc a) = true := by
  unfold SeqAt.shaped
  rw [EqOK.lay a g, Bool.true_and, decide_eq_true_eq]
  exact Nat.le_trans (EqOK.hdep a) hd
def eqT [DecidableEq α] [EqOK α] (a b : α) : Res Bool := if good a = true ∧ good b = true then .ok (decide (a = b)) else .no
def neT [DecidableEq α] [EqOK α] (a b : α) : Res Bool := if good a = true ∧ good b = true then .ok (!decide (a = b)) else .no
theorem o_eq [DecidableEq α] [EqOK α] (hd : dep α ≤ 64) (a b : α) : RefB (Res.of (dEq (enc a) (enc b))) (eqT a b) := by
  unfold eqT
  split
  · rename_i h
    unfold dEq
    rw [if_pos ⟨shape_of hd h.1, shape_of hd h.2⟩, EqOK.eqv]
    rfl
  · exact trivial
theorem o_ne [DecidableEq α] [EqOK α] (hd : dep α ≤ 64) (a b : α) : RefB (Res.of (dNe (enc a) (enc b))) (neT a b) := by
  unfold neT
  split
  · rename_i h
    unfold dNe
    rw [if_pos ⟨shape_of hd h.1, shape_of hd h.2⟩, EqOK.eqv]
    rfl
  · exact trivial
class EqTot (α : Type) [Enc α] [DecidableEq α] [EqOK α] : Prop where
  tot : ∀ a : α, good a = true
theorem o_eqt [DecidableEq α] [EqOK α] [EqTot α] (hd : dep α ≤ 64) (a b : α) : RefB (Res.of (dEq (enc a) (enc b))) (.ok (decide (a = b))) := by
  have := o_eq hd a b
  unfold eqT at this
  rw [if_pos ⟨EqTot.tot a, EqTot.tot b⟩] at this
  exact this
theorem o_net [DecidableEq α] [EqOK α] [EqTot α] (hd : dep α ≤ 64) (a b : α) : RefB (Res.of (dNe (enc a) (enc b))) (.ok (!decide (a = b))) := by
  have := o_ne hd a b
  unfold neT at this
  rw [if_pos ⟨EqTot.tot a, EqTot.tot b⟩] at this
  exact this
theorem eq_dec {A : Type} [DecidableEq A] (a b : A) : (a == b) = decide (a = b) := rfl
theorem dep0 {d : D} (h : d.depth = 0 := by first | rfl | simp only [PyData.depth]) : d.depth ≤ 0 := Nat.le_of_eq h
instance : EqOK Int := ⟨fun _ => true, fun a b => by show PyData.eqv (.int a) (.int b) = _; unfold PyData.eqv; exact eq_dec _ _, fun _ _ => by show PyData.canLay0 (.int _) = true; unfold PyData.canLay0; rfl, 0, fun a => dep0 (d := .int a)⟩
instance : EqOK Bool := ⟨fun _ => true, fun a b => by show PyData.eqv (.bool a) (.bool b) = _; unfold PyData.eqv; exact eq_dec _ _, fun _ _ => by show PyData.canLay0 (.bool _) = true; unfold PyData.canLay0; rfl, 0, fun a => dep0 (d := .bool a)⟩
instance : EqOK Unit := ⟨fun _ => true, fun a b => by show PyData.eqv .none .none = _; unfold PyData.eqv; rfl, fun _ _ => by show PyData.canLay0 .none = true; unfold PyData.canLay0; rfl, 0, fun a => dep0 (d := .none)⟩
instance : EqOK Str := ⟨PyData.strOk, fun a b => by show PyData.eqv (.str a) (.str b) = _; unfold PyData.eqv; exact eq_dec _ _, fun a h => by show PyData.canLay0 (.str a) = true; unfold PyData.canLay0; exact h, 0, fun a => dep0 (d := .str a)⟩
instance : EqTot Int := ⟨fun _ => rfl⟩
instance : EqTot Bool := ⟨fun _ => rfl⟩
instance : EqTot Unit := ⟨fun _ => rfl⟩
theorem eqv_nl {d : D} (h : d ≠ .none) : PyData.eqv .none d = false := by cases d <;> first | exact absurd rfl h | (unfold PyData.eqv; rfl)
theorem eqv_nr {d : D} (h : d ≠ .none) : PyData.eqv d .none = false := by cases d <;> first | exact absurd rfl h | (unfold PyData.eqv; rfl)
instance [DecidableEq α] [EqOK α] [NN α] : EqOK (Option α) := ⟨fun o => match o with | none => true | some a => good a, fun a b => by
    cases a with
    | none => cases b with
      | none => show PyData.eqv .none .none = _; unfold PyData.eqv; rfl
      | some b => show PyData.eqv .none (enc b) = _; rw [eqv_nl (NN.nn b)]; rfl
    | some a => cases b with
      | none => show PyData.eqv (enc a) .none = _; rw [eqv_nr (NN.nn a)]; rfl
      | some b => show PyData.eqv (enc a) (enc b) = _; rw [EqOK.eqv]; simp, fun a h => by
    cases a with
    | none => show PyData.canLay0 .none = true; unfold PyData.canLay0; rfl
    | some a => exact EqOK.lay a h, dep α, fun a => by
    cases a with
    | none => show PyData.depth .none ≤ _; unfold PyData.depth; exact Nat.zero_le _
    | some a => exact EqOK.hdep a⟩
instance [DecidableEq α] [EqOK α] [NN α] [EqTot α] : EqTot (Option α) := ⟨fun o => match o with | none => rfl | some a => EqTot.tot a⟩
theorem eqv_cons (x y : D) (xs ys : List D) : PyData.eqvAll (x :: xs) (y :: ys) = (PyData.eqv x y && PyData.eqvAll xs ys) := by rw [PyData.eqvAll]
theorem eqv_nil : PyData.eqvAll [] [] = true := by rw [PyData.eqvAll]
theorem eqv_map [DecidableEq α] [EqOK α] : ∀ a b : List α, PyData.eqvAll (a.map enc) (b.map enc) = decide (a = b)
  | [], [] => by show PyData.eqvAll [] [] = _; rw [PyData.eqvAll]; rfl
  | [], b :: m => by show PyData.eqvAll [] (_ :: _) = _; rw [PyData.eqvAll]; simp
  | a :: l, [] => by show PyData.eqvAll (_ :: _) [] = _; rw [PyData.eqvAll]; simp
  | a :: l, b :: m => by
    rw [List.map_cons, List.map_cons, eqv_cons, EqOK.eqv, eqv_map l m]
    simp
theorem lay_cons (x : D) (xs : List D) : PyData.canLayAll0 (x :: xs) = (PyData.canLay0 x && PyData.canLayAll0 xs) := by rw [PyData.canLayAll0]
theorem lay_nil : PyData.canLayAll0 [] = true := by rw [PyData.canLayAll0]
theorem lay_map [DecidableEq α] [EqOK α] : ∀ a : List α, a.all good = true → PyData.canLayAll0 (a.map enc) = true
  | [], _ => lay_nil
  | a :: l, h => by
    rw [List.all_cons, Bool.and_eq_true] at h
    rw [List.map_cons, lay_cons, EqOK.lay a h.1, lay_map l h.2]; rfl
theorem dep_cons (x : D) (xs : List D) : PyData.depthAll (x :: xs) = max (PyData.depth x) (PyData.depthAll xs) := by rw [PyData.depthAll]
theorem dep_nil : PyData.depthAll [] = 0 := by rw [PyData.depthAll]
theorem dep_map [DecidableEq α] [EqOK α] : ∀ a : List α, PyData.depthAll (a.map enc) ≤ dep α
  | [] => by show PyData.depthAll [] ≤ _; rw [dep_nil]; exact Nat.zero_le _
  | a :: l => by
    rw [List.map_cons, dep_cons]
    exact Nat.max_le.mpr ⟨EqOK.hdep a, dep_map l⟩
theorem eqv_list (x y : List D) : PyData.eqv (.list x) (.list y) = PyData.eqvAll x y := by rw [PyData.eqv]
theorem eqv_tup (x y : List D) : PyData.eqv (.tuple x) (.tuple y) = PyData.eqvAll x y := by rw [PyData.eqv]
theorem lay_list (x : List D) : PyData.canLay0 (.list x) = PyData.canLayAll0 x := by rw [PyData.canLay0]
theorem lay_tup (x : List D) : PyData.canLay0 (.tuple x) = PyData.canLayAll0 x := by rw [PyData.canLay0]
theorem dep_list (x : List D) : PyData.depth (.list x) = PyData.depthAll x + 1 := by rw [PyData.depth]
theorem dep_tup (x : List D) : PyData.depth (.tuple x) = PyData.depthAll x + 1 := by rw [PyData.depth]
instance [DecidableEq α] [EqOK α] : EqOK (List α) := ⟨fun l => l.all good, fun a b => (eqv_list _ _).trans (eqv_map a b), fun a h => (lay_list _).trans (lay_map a h), dep α + 1, fun a => Nat.le_trans (Nat.le_of_eq (dep_list _)) (Nat.add_le_add_right (dep_map a) 1)⟩
instance [DecidableEq α] [EqOK α] [EqTot α] : EqTot (List α) := ⟨fun l => List.all_eq_true.mpr fun a _ => EqTot.tot a⟩
theorem tu_eq {a b : Tu α} : (a.l = b.l) = (a = b) := by cases a; cases b; simp
instance [DecidableEq α] [EqOK α] : EqOK (Tu α) := ⟨fun l => l.l.all good, fun a b => (eqv_tup _ _).trans ((eqv_map a.l b.l).trans (by simp only [tu_eq])), fun a h => (lay_tup _).trans (lay_map a.l h), dep α + 1, fun a => Nat.le_trans (Nat.le_of_eq (dep_tup _)) (Nat.add_le_add_right (dep_map a.l) 1)⟩
instance [DecidableEq α] [EqOK α] [EqTot α] : EqTot (Tu α) := ⟨fun l => List.all_eq_true.mpr fun a _ => EqTot.tot a⟩
instance : EqOK T0 := ⟨fun _ => true, fun a b => by cases a; cases b; exact (eqv_tup _ _).trans eqv_nil, fun a h => (lay_tup _).trans lay_nil, 1, fun a => Nat.le_of_eq ((dep_tup _).trans (by rw [dep_nil]))⟩
instance : EqTot T0 := ⟨fun _ => rfl⟩
theorem max_mono {a b c d : Nat} (h : a ≤ b) (k : c ≤ d) : max a c ≤ max b d := by omega
instance [DecidableEq α] [EqOK α] : EqOK (T1 α) := ⟨fun p => good p.a, fun a b => by
    obtain ⟨a0⟩ := a; obtain ⟨b0⟩ := b
    refine (eqv_tup _ _).trans ?_
    rw [eqv_cons, eqv_nil, EqOK.eqv]
    simp, fun p h => by
    obtain ⟨a0⟩ := p
    simp only [Bool.and_eq_true] at h
    refine (lay_tup _).trans ?_
    rw [lay_cons, lay_nil, EqOK.lay _ h]; rfl, max (dep α) (0) + 1, fun p => by
    obtain ⟨a0⟩ := p
    refine Nat.le_trans (Nat.le_of_eq (dep_tup _)) (Nat.add_le_add_right ?_ 1)
    rw [dep_cons, dep_nil]
    exact max_mono (EqOK.hdep _) (Nat.le_refl 0)⟩
instance [DecidableEq α] [EqOK α] [EqTot α] : EqTot (T1 α) := ⟨fun p => by
    show (good p.a) = true
    simp only [EqTot.tot, Bool.and_self]⟩
instance [DecidableEq α] [EqOK α] [DecidableEq β] [EqOK β] : EqOK (α × β) := ⟨fun p => good p.1 && good p.2, fun a b => by
    obtain ⟨a0, a1⟩ := a; obtain ⟨b0, b1⟩ := b
    refine (eqv_tup _ _).trans ?_
    rw [eqv_cons, eqv_cons, eqv_nil, EqOK.eqv, EqOK.eqv]
    simp, fun p h => by
    obtain ⟨a0, a1⟩ := p
    simp only [Bool.and_eq_true] at h
    refine (lay_tup _).trans ?_
    rw [lay_cons, lay_cons, lay_nil, EqOK.lay _ h.1, EqOK.lay _ h.2]; rfl, max (dep α) (max (dep β) (0)) + 1, fun p => by
    obtain ⟨a0, a1⟩ := p
    refine Nat.le_trans (Nat.le_of_eq (dep_tup _)) (Nat.add_le_add_right ?_ 1)
    rw [dep_cons, dep_cons, dep_nil]
    exact max_mono (EqOK.hdep _) (max_mono (EqOK.hdep _) (Nat.le_refl 0))⟩
instance [DecidableEq α] [EqOK α] [DecidableEq β] [EqOK β] [EqTot α] [EqTot β] : EqTot (α × β) := ⟨fun p => by
    show (good p.1 && good p.2) = true
    simp only [EqTot.tot, Bool.and_self]⟩
instance [DecidableEq α] [EqOK α] [DecidableEq β] [EqOK β] [DecidableEq γ] [EqOK γ] : EqOK (T3 α β γ) := ⟨fun p => good p.a && good p.b && good p.c, fun a b => by
    obtain ⟨a0, a1, a2⟩ := a; obtain ⟨b0, b1, b2⟩ := b
    refine (eqv_tup _ _).trans ?_
    rw [eqv_cons, eqv_cons, eqv_cons, eqv_nil, EqOK.eqv, EqOK.eqv, EqOK.eqv]
    simp, fun p h => by
    obtain ⟨a0, a1, a2⟩ := p
    simp only [Bool.and_eq_true] at h
    refine (lay_tup _).trans ?_
    rw [lay_cons, lay_cons, lay_cons, lay_nil, EqOK.lay _ h.1.1, EqOK.lay _ h.1.2, EqOK.lay _ h.2]; rfl, max (dep α) (max (dep β) (max (dep γ) (0))) + 1, fun p => by
    obtain ⟨a0, a1, a2⟩ := p
    refine Nat.le_trans (Nat.le_of_eq (dep_tup _)) (Nat.add_le_add_right ?_ 1)
    rw [dep_cons, dep_cons, dep_cons, dep_nil]
    exact max_mono (EqOK.hdep _) (max_mono (EqOK.hdep _) (max_mono (EqOK.hdep _) (Nat.le_refl 0)))⟩
instance [DecidableEq α] [EqOK α] [DecidableEq β] [EqOK β] [DecidableEq γ] [EqOK γ] [EqTot α] [EqTot β] [EqTot γ] : EqTot (T3 α β γ) := ⟨fun p => by
    show (good p.a && good p.b && good p.c) = true
    simp only [EqTot.tot, Bool.and_self]⟩
instance [DecidableEq α] [EqOK α] [DecidableEq β] [EqOK β] [DecidableEq γ] [EqOK γ] [DecidableEq δ] [EqOK δ] : EqOK (T4 α β γ δ) := ⟨fun p => good p.a && good p.b && good p.c && good p.d, fun a b => by
    obtain ⟨a0, a1, a2, a3⟩ := a; obtain ⟨b0, b1, b2, b3⟩ := b
    refine (eqv_tup _ _).trans ?_
    rw [eqv_cons, eqv_cons, eqv_cons, eqv_cons, eqv_nil, EqOK.eqv, EqOK.eqv, EqOK.eqv, EqOK.eqv]
    simp, fun p h => by
    obtain ⟨a0, a1, a2, a3⟩ := p
    simp only [Bool.and_eq_true] at h
    refine (lay_tup _).trans ?_
    rw [lay_cons, lay_cons, lay_cons, lay_cons, lay_nil, EqOK.lay _ h.1.1.1, EqOK.lay _ h.1.1.2, EqOK.lay _ h.1.2, EqOK.lay _ h.2]; rfl, max (dep α) (max (dep β) (max (dep γ) (max (dep δ) (0)))) + 1, fun p => by
    obtain ⟨a0, a1, a2, a3⟩ := p
    refine Nat.le_trans (Nat.le_of_eq (dep_tup _)) (Nat.add_le_add_right ?_ 1)
    rw [dep_cons, dep_cons, dep_cons, dep_cons, dep_nil]
    exact max_mono (EqOK.hdep _) (max_mono (EqOK.hdep _) (max_mono (EqOK.hdep _) (max_mono (EqOK.hdep _) (Nat.le_refl 0))))⟩
instance [DecidableEq α] [EqOK α] [DecidableEq β] [EqOK β] [DecidableEq γ] [EqOK γ] [DecidableEq δ] [EqOK δ] [EqTot α] [EqTot β] [EqTot γ] [EqTot δ] : EqTot (T4 α β γ δ) := ⟨fun p => by
    show (good p.a && good p.b && good p.c && good p.d) = true
    simp only [EqTot.tot, Bool.and_self]⟩
instance [DecidableEq α] [EqOK α] [DecidableEq β] [EqOK β] [DecidableEq γ] [EqOK γ] [DecidableEq δ] [EqOK δ] [DecidableEq ε] [EqOK ε] : EqOK (T5 α β γ δ ε) := ⟨fun p => good p.a && good p.b && good p.c && good p.d && good p.e, fun a b => by
    obtain ⟨a0, a1, a2, a3, a4⟩ := a; obtain ⟨b0, b1, b2, b3, b4⟩ := b
    refine (eqv_tup _ _).trans ?_
    rw [eqv_cons, eqv_cons, eqv_cons, eqv_cons, eqv_cons, eqv_nil, EqOK.eqv, EqOK.eqv, EqOK.eqv, EqOK.eqv, EqOK.eqv]
    simp, fun p h => by
    obtain ⟨a0, a1, a2, a3, a4⟩ := p
    simp only [Bool.and_eq_true] at h
    refine (lay_tup _).trans ?_
    rw [lay_cons, lay_cons, lay_cons, lay_cons, lay_cons, lay_nil, EqOK.lay _ h.1.1.1.1, EqOK.lay _ h.1.1.1.2, EqOK.lay _ h.1.1.2, EqOK.lay _ h.1.2, EqOK.lay _ h.2]; rfl, max (dep α) (max (dep β) (max (dep γ) (max (dep δ) (max (dep ε) (0))))) + 1, fun p => by
    obtain ⟨a0, a1, a2, a3, a4⟩ := p
    refine Nat.le_trans (Nat.le_of_eq (dep_tup _)) (Nat.add_le_add_right ?_ 1)
    rw [dep_cons, dep_cons, dep_cons, dep_cons, dep_cons, dep_nil]
    exact max_mono (EqOK.hdep _) (max_mono (EqOK.hdep _) (max_mono (EqOK.hdep _) (max_mono (EqOK.hdep _) (max_mono (EqOK.hdep _) (Nat.le_refl 0)))))⟩
instance [DecidableEq α] [EqOK α] [DecidableEq β] [EqOK β] [DecidableEq γ] [EqOK γ] [DecidableEq δ] [EqOK δ] [DecidableEq ε] [EqOK ε] [EqTot α] [EqTot β] [EqTot γ] [EqTot δ] [EqTot ε] : EqTot (T5 α β γ δ ε) := ⟨fun p => by
    show (good p.a && good p.b && good p.c && good p.d && good p.e) = true
    simp only [EqTot.tot, Bool.and_self]⟩
instance [DecidableEq α] [EqOK α] [DecidableEq β] [EqOK β] [DecidableEq γ] [EqOK γ] [DecidableEq δ] [EqOK δ] [DecidableEq ε] [EqOK ε] [DecidableEq ζ] [EqOK ζ] : EqOK (T6 α β γ δ ε ζ) := ⟨fun p => good p.a && good p.b && good p.c && good p.d && good p.e && good p.f, fun a b => by
    obtain ⟨a0, a1, a2, a3, a4, a5⟩ := a; obtain ⟨b0, b1, b2, b3, b4, b5⟩ := b
    refine (eqv_tup _ _).trans ?_
    rw [eqv_cons, eqv_cons, eqv_cons, eqv_cons, eqv_cons, eqv_cons, eqv_nil, EqOK.eqv, EqOK.eqv, EqOK.eqv, EqOK.eqv, EqOK.eqv, EqOK.eqv]
    simp, fun p h => by
    obtain ⟨a0, a1, a2, a3, a4, a5⟩ := p
    simp only [Bool.and_eq_true] at h
    refine (lay_tup _).trans ?_
    rw [lay_cons, lay_cons, lay_cons, lay_cons, lay_cons, lay_cons, lay_nil, EqOK.lay _ h.1.1.1.1.1, EqOK.lay _ h.1.1.1.1.2, EqOK.lay _ h.1.1.1.2, EqOK.lay _ h.1.1.2, EqOK.lay _ h.1.2, EqOK.lay _ h.2]; rfl, max (dep α) (max (dep β) (max (dep γ) (max (dep δ) (max (dep ε) (max (dep ζ) (0)))))) + 1, fun p => by
    obtain ⟨a0, a1, a2, a3, a4, a5⟩ := p
    refine Nat.le_trans (Nat.le_of_eq (dep_tup _)) (Nat.add_le_add_right ?_ 1)
    rw [dep_cons, dep_cons, dep_cons, dep_cons, dep_cons, dep_cons, dep_nil]
    exact max_mono (EqOK.hdep _) (max_mono (EqOK.hdep _) (max_mono (EqOK.hdep _) (max_mono (EqOK.hdep _) (max_mono (EqOK.hdep _) (max_mono (EqOK.hdep _) (Nat.le_refl 0))))))⟩
instance [DecidableEq α] [EqOK α] [DecidableEq β] [EqOK β] [DecidableEq γ] [EqOK γ] [DecidableEq δ] [EqOK δ] [DecidableEq ε] [EqOK ε] [DecidableEq ζ] [EqOK ζ] [EqTot α] [EqTot β] [EqTot γ] [EqTot δ] [EqTot ε] [EqTot ζ] : EqTot (T6 α β γ δ ε ζ) := ⟨fun p => by
    show (good p.a && good p.b && good p.c && good p.d && good p.e && good p.f) = true
    simp only [EqTot.tot, Bool.and_self]⟩
instance [DecidableEq α] [EqOK α] [DecidableEq β] [EqOK β] [DecidableEq γ] [EqOK γ] [DecidableEq δ] [EqOK δ] [DecidableEq ε] [EqOK ε] [DecidableEq ζ] [EqOK ζ] [DecidableEq η] [EqOK η] [DecidableEq θ] [EqOK θ] : EqOK (T8 α β γ δ ε ζ η θ) := ⟨fun p => good p.a && good p.b && good p.c && good p.d && good p.e && good p.f && good p.g && good p.h, fun a b => by
    obtain ⟨a0, a1, a2, a3, a4, a5, a6, a7⟩ := a; obtain ⟨b0, b1, b2, b3, b4, b5, b6, b7⟩ := b
    refine (eqv_tup _ _).trans ?_
    rw [eqv_cons, eqv_cons, eqv_cons, eqv_cons, eqv_cons, eqv_cons, eqv_cons, eqv_cons, eqv_nil, EqOK.eqv, EqOK.eqv, EqOK.eqv, EqOK.eqv, EqOK.eqv, EqOK.eqv, EqOK.eqv, EqOK.eqv]
    simp, fun p h => by
    obtain ⟨a0, a1, a2, a3, a4, a5, a6, a7⟩ := p
    simp only [Bool.and_eq_true] at h
    refine (lay_tup _).trans ?_
    rw [lay_cons, lay_cons, lay_cons, lay_cons, lay_cons, lay_cons, lay_cons, lay_cons, lay_nil, EqOK.lay _ h.1.1.1.1.1.1.1, EqOK.lay _ h.1.1.1.1.1.1.2, EqOK.lay _ h.1.1.1.1.1.2, EqOK.lay _ h.1.1.1.1.2, EqOK.lay _ h.1.1.1.2, EqOK.lay _ h.1.1.2, EqOK.lay _ h.1.2, EqOK.lay _ h.2]; rfl, max (dep α) (max (dep β) (max (dep γ) (max (dep δ) (max (dep ε) (max (dep ζ) (max (dep η) (max (dep θ) (0)))))))) + 1, fun p => by
    obtain ⟨a0, a1, a2, a3, a4, a5, a6, a7⟩ := p
    refine Nat.le_trans (Nat.le_of_eq (dep_tup _)) (Nat.add_le_add_right ?_ 1)
    rw [dep_cons, dep_cons, dep_cons, dep_cons, dep_cons, dep_cons, dep_cons, dep_cons, dep_nil]
    exact max_mono (EqOK.hdep _) (max_mono (EqOK.hdep _) (max_mono (EqOK.hdep _) (max_mono (EqOK.hdep _) (max_mono (EqOK.hdep _) (max_mono (EqOK.hdep _) (max_mono (EqOK.hdep _) (max_mono (EqOK.hdep _) (Nat.le_refl 0))))))))⟩
instance [DecidableEq α] [EqOK α] [DecidableEq β] [EqOK β] [DecidableEq γ] [EqOK γ] [DecidableEq δ] [EqOK δ] [DecidableEq ε] [EqOK ε] [DecidableEq ζ] [EqOK ζ] [DecidableEq η] [EqOK η] [DecidableEq θ] [EqOK θ] [EqTot α] [EqTot β] [EqTot γ] [EqTot δ] [EqTot ε] [EqTot ζ] [EqTot η] [EqTot θ] : EqTot (T8 α β γ δ ε ζ η θ) := ⟨fun p => by
    show (good p.a && good p.b && good p.c && good p.d && good p.e && good p.f && good p.g && good p.h) = true
    simp only [EqTot.tot, Bool.and_self]⟩
end
end
end VT

set_option Elab.async false
set_option linter.all false
set_option maxRecDepth 100000
set_option maxHeartbeats 4000000
namespace VT
open PySem PySem.Spec PyProof.Rows L2 VL
open Enc
noncomputable section
variable {α β γ δ σ τ : Type} [Enc α] [Enc β] [Enc γ] [Enc δ]
variable {ρ : Rho} {f fa fb fc fd : Rho → Res D} {ta tb : Rho → Res Bool} {ga gb : Rho → Res (List D)} {i j : Nat}
/-! ### arguments -/
theorem a_nil : RefA (nilA ρ) (.ok []) := rfl
theorem a_cons {a : α} {ds : List D} (ha : Ref (fa ρ) (.ok a)) (hb : RefA (ga ρ) (.ok ds)) : RefA (consA fa ga ρ) (.ok (enc a :: ds)) := by
  have e1 : fa ρ = .ok (enc a) := ha
  have e2 : ga ρ = .ok ds := hb
  unfold consA
  rw [e1, e2]; rfl
theorem a_consE {ma : Res α} {md : Res (List D)} (ha : Ref (fa ρ) ma) (hb : RefA (ga ρ) md) : RefA (consA fa ga ρ) (ma.bind fun a => md.bind fun ds => .ok (enc a :: ds)) :=
  Rf.bind ha fun a => Rf.bind hb fun ds => rfl
theorem cons_bind {B : Type} {K : List D → Res B} : (consA fa ga ρ).bind K = (fa ρ).bind fun d => (ga ρ).bind fun ds => K (d :: ds) := by
  unfold consA
  rw [bind_assoc]
  congr 1; funext d
  rw [bind_assoc]; rfl
theorem k_cons {A B : Type} {φ : A → B} {K : List D → Res B} {ma : Res α} {k : α → Res A} (ha : Ref (fa ρ) ma) (h : ∀ a, Rf φ ((ga ρ).bind fun ds => K (enc a :: ds)) (k a)) : Rf φ ((consA fa ga ρ).bind K) (ma.bind k) := by
  rw [cons_bind]
  exact Rf.bind ha h
theorem k_consP {A B : Type} {φ : A → B} {K : List D → Res B} {a : α} {m : Res A} (ha : Ref (fa ρ) (.ok a)) (h : Rf φ ((ga ρ).bind fun ds => K (enc a :: ds)) m) : Rf φ ((consA fa ga ρ).bind K) m := by
  have e1 : fa ρ = .ok (enc a) := ha
  rw [cons_bind, e1]
  exact h
theorem k_nil {A B : Type} {φ : A → B} {K : List D → Res B} {m : Res A} (h : Rf φ (K []) m) : Rf φ ((nilA ρ).bind K) m := h
/-! calls, displays -/
theorem r_call {F : List D → Res D} {m : Res α} (h : Ref ((ga ρ).bind F) m) : Ref (callV F ga ρ) m := h
def tupK (ds : List D) : Res D := if ds.length ≤ sizeLine then .ok (.tuple ds) else .no
def lstK (ds : List D) : Res (List D) := if ds.length ≤ sizeLine then .ok ds else .no
theorem r_tup {m : Res α} (h : Ref ((ga ρ).bind tupK) m) : Ref (tupV ga ρ) m := h
theorem r_lst {m : Res (List α)} (h : RefL ((ga ρ).bind lstK) m) : RefL (lstO ga ρ) m := h
theorem szl {n : Nat} (h : Nat.ble n 1000 = true) : n ≤ sizeLine := Nat.le_trans (Nat.le_of_ble_eq_true h) (by decide)
theorem tk {ds : List D} {c : α} (hl : Nat.ble ds.length 1000 = true) (he : PyData.tuple ds = enc c) : Ref (tupK ds) (.ok c) := by
  have hl := szl hl
  unfold tupK
  rw [if_pos hl, he]; rfl
theorem lk {ds : List D} {c : List α} (hl : Nat.ble ds.length 1000 = true) (he : ds = c.map enc) : RefL (lstK ds) (.ok c) := by
  have hl := szl hl
  unfold lstK
  rw [if_pos hl, he]; rfl
theorem r_vO {m : Res (List α)} (h : RefL (ga ρ) m) : Ref (vO ga ρ) m := by
  show Ref (lstD (ga ρ)) m
  cases m with
  | ok l =>
    have e : ga ρ = .ok (l.map enc) := h
    rw [e]; rfl
  | ex e =>
    have e : ga ρ = .ex e := h
    rw [e]; rfl
  | no => exact trivial
/-! ### tests -/
variable {a b : Bool} {ma mb mc : Res Bool}
theorem t_isB (h : Ref (fa ρ) ma) : RefB (isB fa ρ) ma := by
  unfold isB
  cases ma with
  | ok k =>
    have e : fa ρ = .ok (enc k) := h
    rw [e]; rfl
  | ex e =>
    have e : fa ρ = .ex e := h
    rw [e]; rfl
  | no => exact trivial
theorem t_isD {d : D} (h : Ref (fa ρ) (.ok d)) : RefB (isB fa ρ) (castD d) := t_isB (r_cast h)
theorem t_isDE {m : Res D} (h : Ref (fa ρ) m) : RefB (isB fa ρ) (m.bind fun d => castD d) := t_isB (r_castE h)
theorem t_and (ha : RefB (ta ρ) ma) (hb : RefB (tb ρ) mb) : RefB (andT ta tb ρ) (ma.bind fun k => if k = true then mb else .ok false) :=
  Rf.bind ha fun k => by
    show RefB (if k = true then tb ρ else .ok false) _
    cases k with
    | true => exact hb
    | false => exact rfl
theorem t_or (ha : RefB (ta ρ) ma) (hb : RefB (tb ρ) mb) : RefB (orT ta tb ρ) (ma.bind fun k => if k = true then .ok true else mb) :=
  Rf.bind ha fun k => by
    show RefB (if k = true then .ok true else tb ρ) _
    cases k with
    | true => exact rfl
    | false => exact hb
theorem t_andQ (ha : RefB (ta ρ) (.ok a)) (hb : RefB (tb ρ) mb) : RefB (andT ta tb ρ) (if a = true then mb else .ok false) := t_and ha hb
theorem t_orQ (ha : RefB (ta ρ) (.ok a)) (hb : RefB (tb ρ) mb) : RefB (orT ta tb ρ) (if a = true then .ok true else mb) := t_or ha hb
theorem t_andP (ha : RefB (ta ρ) (.ok a)) (hb : RefB (tb ρ) (.ok b)) : RefB (andT ta tb ρ) (.ok (a && b)) := by
  have := t_and ha hb
  cases a <;> exact this
theorem t_orP (ha : RefB (ta ρ) (.ok a)) (hb : RefB (tb ρ) (.ok b)) : RefB (orT ta tb ρ) (.ok (a || b)) := by
  have := t_or ha hb
  cases a <;> exact this
theorem t_not (ha : RefB (ta ρ) ma) : RefB (notT ta ρ) (ma.bind fun k => .ok (!k)) := Rf.bind ha fun k => rfl
theorem t_notP (ha : RefB (ta ρ) (.ok a)) : RefB (notT ta ρ) (.ok (!a)) := t_not ha
theorem r_and (ha : Ref (fa ρ) ma) (hb : Ref (fb ρ) mb) : Ref (andV fa fb ρ) (ma.bind fun k => if k = true then mb else .ok false) :=
  Rf.bind ha fun k => by
    cases k with
    | true => exact hb
    | false => exact rfl
theorem r_or (ha : Ref (fa ρ) ma) (hb : Ref (fb ρ) mb) : Ref (orV fa fb ρ) (ma.bind fun k => if k = true then .ok true else mb) :=
  Rf.bind ha fun k => by
    cases k with
    | true => exact rfl
    | false => exact hb
theorem r_andQ (ha : Ref (fa ρ) (.ok a)) (hb : Ref (fb ρ) mb) : Ref (andV fa fb ρ) (if a = true then mb else .ok false) := r_and ha hb
theorem r_orQ (ha : Ref (fa ρ) (.ok a)) (hb : Ref (fb ρ) mb) : Ref (orV fa fb ρ) (if a = true then .ok true else mb) := r_or ha hb
theorem r_andP (ha : Ref (fa ρ) (.ok a)) (hb : Ref (fb ρ) (.ok b)) : Ref (andV fa fb ρ) (.ok (a && b)) := by
  have := r_and ha hb
  cases a <;> exact this
theorem r_orP (ha : Ref (fa ρ) (.ok a)) (hb : Ref (fb ρ) (.ok b)) : Ref (orV fa fb ρ) (.ok (a || b)) := by
  have := r_or ha hb
  cases a <;> exact this
theorem r_not (ha : Ref (fa ρ) ma) : Ref (notV fa ρ) (ma.bind fun k => .ok (!k)) := Rf.bind ha fun k => rfl
theorem r_notP (ha : Ref (fa ρ) (.ok a)) : Ref (notV fa ρ) (.ok (!a)) := r_not ha
theorem r_vB (h : RefB (ta ρ) ma) : Ref (vB ta ρ) ma := by
  unfold vB
  cases ma with
  | ok k =>
    have e : ta ρ = .ok k := h
    rw [e]; rfl
  | ex e =>
    have e : ta ρ = .ex e := h
    rw [e]; rfl
  | no => exact trivial
theorem r_if {m1 m2 : Res α} (hc : RefB (ta ρ) mc) (ha : Ref (fa ρ) m1) (hb : Ref (fb ρ) m2) : Ref (ifV ta fa fb ρ) (mc.bind fun k => if k = true then m1 else m2) :=
  Rf.bind hc fun k => by
    show Ref (if k = true then fa ρ else fb ρ) _
    cases k with
    | true => exact ha
    | false => exact hb
theorem r_ifQ {c : Bool} {m1 m2 : Res α} (hc : RefB (ta ρ) (.ok c)) (ha : Ref (fa ρ) m1) (hb : Ref (fb ρ) m2) : Ref (ifV ta fa fb ρ) (if c = true then m1 else m2) := r_if hc ha hb
theorem r_ifP {c : Bool} {x y : α} (hc : RefB (ta ρ) (.ok c)) (ha : Ref (fa ρ) (.ok x)) (hb : Ref (fb ρ) (.ok y)) : Ref (ifV ta fa fb ρ) (.ok (if c = true then x else y)) := by
  have := r_ifQ hc ha hb
  cases c <;> exact this
theorem r_isi {T : String} {m : Res α} (h : Ref (fa ρ) m) : Ref (isiV T fa ρ) (m.bind fun a => .ok (isTy T (enc a))) := Rf.bind h fun a => rfl
theorem r_isiP {T : String} {x : α} (h : Ref (fa ρ) (.ok x)) : Ref (isiV T fa ρ) (.ok (isTy T (enc x))) := r_isi h
theorem t_T : RefB (tT ρ) (.ok true) := rfl
/-! chains -/
variable {g : D → D → Option Bool} {h : D → Rho → Res Bool}
theorem t_chn {m : Res α} {k : α → Res Bool} (ha : Ref (fa ρ) m) (hh : ∀ a, RefB (h (enc a) ρ) (k a)) : RefB (chnT fa h ρ) (m.bind k) := Rf.bind ha hh
theorem t_chnP {a : α} {m : Res Bool} (ha : Ref (fa ρ) (.ok a)) (hh : RefB (h (enc a) ρ) m) : RefB (chnT fa h ρ) m := by
  have e : fa ρ = .ok (enc a) := ha
  unfold chnT
  rw [e]; exact hh
theorem l_last {a : α} {m : Res β} {k : β → Res Bool} (hb : Ref (fb ρ) m) (ho : ∀ b, RefB (Res.of (g (enc a) (enc b))) (k b)) : RefB (lkL fb g (enc a) ρ) (m.bind k) := Rf.bind hb ho
theorem l_lastP {a : α} {b : β} {m : Res Bool} (hb : Ref (fb ρ) (.ok b)) (ho : RefB (Res.of (g (enc a) (enc b))) m) : RefB (lkL fb g (enc a) ρ) m := by
  have e : fb ρ = .ok (enc b) := hb
  unfold lkL
  rw [e]; exact ho
theorem l_cons {a : α} {m : Res β} {o : β → Res Bool} {k : β → Res Bool} (hb : Ref (fb ρ) m) (ho : ∀ b, RefB (Res.of (g (enc a) (enc b))) (o b)) (hh : ∀ b, RefB (h (enc b) ρ) (k b)) :
    RefB (lkC fb g h (enc a) ρ) (m.bind fun b => (o b).bind fun q => if q = true then k b else .ok false) :=
  Rf.bind hb fun b => Rf.bind (ho b) fun q => by
    cases q with
    | true => exact hh b
    | false => exact rfl
theorem l_consQ {a : α} {b : β} {o : Bool} {k : Res Bool} (hb : Ref (fb ρ) (.ok b)) (ho : RefB (Res.of (g (enc a) (enc b))) (.ok o)) (hh : RefB (h (enc b) ρ) k) :
    RefB (lkC fb g h (enc a) ρ) (if o = true then k else .ok false) := by
  have e : fb ρ = .ok (enc b) := hb
  have e1 : Res.of (g (enc a) (enc b)) = .ok o := ho
  unfold lkC
  rw [e]
  show RefB ((Res.of (g (enc a) (enc b))).bind _) _
  rw [e1]
  cases o with
  | true => exact hh
  | false => exact rfl
theorem l_consP {a : α} {b : β} {o k : Bool} (hb : Ref (fb ρ) (.ok b)) (ho : RefB (Res.of (g (enc a) (enc b))) (.ok o)) (hh : RefB (h (enc b) ρ) (.ok k)) :
    RefB (lkC fb g h (enc a) ρ) (.ok (o && k)) := by
  have := l_consQ hb ho hh
  cases o <;> exact this
/-! membership, None -/
open EqOK
theorem inD_map [DecidableEq α] [EqOK α] (a : α) (l : List α) : inD (enc a) (l.map enc) = decide (a ∈ l) := by
  unfold inD
  rw [List.any_map]
  induction l with
  | nil => rfl
  | cons b l ih =>
    rw [List.any_cons, ih]
    show (PyData.eqv (enc b) (enc a) || _) = _
    rw [EqOK.eqv]
    by_cases hb : b = a
    · subst hb; simp
    · have : ¬ a = b := fun q => hb q.symm
      simp [hb, this]
def inT [DecidableEq α] [EqOK α] (a : α) (l : List α) : Res Bool := if good a = true ∧ l.all good = true then .ok (decide (a ∈ l)) else .no
def ninT [DecidableEq α] [EqOK α] (a : α) (l : List α) : Res Bool := if good a = true ∧ l.all good = true then .ok (!decide (a ∈ l)) else .no
theorem o_in [DecidableEq α] [EqOK α] (hd : dep α + 1 ≤ 64) (a : α) (l : List α) : RefB (Res.of (dIn (enc a) (enc l))) (inT a l) := by
  unfold inT
  split
  · rename_i q
    have h1 : SeqAt.shaped (enc a) = true := shape_of (by omega) q.1
    have h2 : SeqAt.shaped (enc l) = true := shape_of (α := List α) hd q.2
    show Res.of (if SeqAt.shaped (enc a) = true ∧ SeqAt.shaped (PyData.list (l.map enc)) = true then some (inD (enc a) (l.map enc)) else none) = _
    rw [if_pos ⟨h1, h2⟩, inD_map]; rfl
  · exact trivial
theorem o_inU [DecidableEq α] [EqOK α] (hd : dep α + 1 ≤ 64) (a : α) (l : Tu α) : RefB (Res.of (dIn (enc a) (enc l))) (inT a l.l) := by
  unfold inT
  split
  · rename_i q
    have h1 : SeqAt.shaped (enc a) = true := shape_of (by omega) q.1
    have h2 : SeqAt.shaped (enc l) = true := shape_of (α := Tu α) hd q.2
    show Res.of (if SeqAt.shaped (enc a) = true ∧ SeqAt.shaped (PyData.tuple (l.l.map enc)) = true then some (inD (enc a) (l.l.map enc)) else none) = _
    rw [if_pos ⟨h1, h2⟩, inD_map]; rfl
  · exact trivial
theorem nin_of {x y : D} {m : Res Bool} (h : RefB (Res.of (dIn x y)) m) : RefB (Res.of (dNotIn x y)) (m.bind fun k => .ok (!k)) := by
  unfold dNotIn
  revert h
  cases dIn x y with
  | none => cases m with
    | ok k' => intro h; cases h
    | ex e => intro h; cases h
    | no => intro h; exact trivial
  | some k => cases m with
    | ok k' => intro h; cases h; rfl
    | ex e => intro h; cases h
    | no => intro h; exact trivial
theorem o_nin [DecidableEq α] [EqOK α] (hd : dep α + 1 ≤ 64) (a : α) (l : List α) : RefB (Res.of (dNotIn (enc a) (enc l))) (ninT a l) := by
  have := nin_of (o_in hd a l)
  unfold inT at this
  unfold ninT
  split <;> rename_i q
  · rw [if_pos q] at this; exact this
  · exact trivial
theorem o_ninU [DecidableEq α] [EqOK α] (hd : dep α + 1 ≤ 64) (a : α) (l : Tu α) : RefB (Res.of (dNotIn (enc a) (enc l))) (ninT a l.l) := by
  have := nin_of (o_inU hd a l)
  unfold inT at this
  unfold ninT
  split <;> rename_i q
  · rw [if_pos q] at this; exact this
  · exact trivial
theorem all_good [DecidableEq α] [EqOK α] [EqTot α] (l : List α) : l.all good = true := List.all_eq_true.mpr fun a _ => EqTot.tot a
theorem o_int [DecidableEq α] [EqOK α] [EqTot α] (hd : dep α + 1 ≤ 64) (a : α) (l : List α) : RefB (Res.of (dIn (enc a) (enc l))) (.ok (decide (a ∈ l))) := by
  have := o_in hd a l
  unfold inT at this
  rw [if_pos ⟨EqTot.tot a, all_good l⟩] at this; exact this
theorem o_intU [DecidableEq α] [EqOK α] [EqTot α] (hd : dep α + 1 ≤ 64) (a : α) (l : Tu α) : RefB (Res.of (dIn (enc a) (enc l))) (.ok (decide (a ∈ l.l))) := by
  have := o_inU hd a l
  unfold inT at this
  rw [if_pos ⟨EqTot.tot a, all_good l.l⟩] at this; exact this
theorem o_nint [DecidableEq α] [EqOK α] [EqTot α] (hd : dep α + 1 ≤ 64) (a : α) (l : List α) : RefB (Res.of (dNotIn (enc a) (enc l))) (.ok (!decide (a ∈ l))) := nin_of (o_int hd a l)
theorem o_nintU [DecidableEq α] [EqOK α] [EqTot α] (hd : dep α + 1 ≤ 64) (a : α) (l : Tu α) : RefB (Res.of (dNotIn (enc a) (enc l))) (.ok (!decide (a ∈ l.l))) := nin_of (o_intU hd a l)
theorem o_inS (a l : Str) : RefB (Res.of (dIn (enc a) (enc l))) (.ok (inS a l)) := rfl
theorem isN_f {d : D} (h : d ≠ .none) : dIsN d .none = some false := by cases d <;> first | exact absurd rfl h | rfl
theorem notN_t {d : D} (h : d ≠ .none) : dNotN d .none = some true := by cases d <;> first | exact absurd rfl h | rfl
theorem o_isN [NN α] (o : Option α) (u : Unit) : RefB (Res.of (dIsN (enc o) (enc u))) (.ok o.isNone) := by
  cases o with
  | none => rfl
  | some a => show Res.of (dIsN (enc a) .none) = _; rw [isN_f (NN.nn a)]; rfl
theorem o_notN [NN α] (o : Option α) (u : Unit) : RefB (Res.of (dNotN (enc o) (enc u))) (.ok o.isSome) := by
  cases o with
  | none => rfl
  | some a => show Res.of (dNotN (enc a) .none) = _; rw [notN_t (NN.nn a)]; rfl
theorem o_isNf [NN α] (a : α) (u : Unit) : RefB (Res.of (dIsN (enc a) (enc u))) (.ok false) := by
  show Res.of (dIsN (enc a) .none) = _; rw [isN_f (NN.nn a)]; rfl
theorem o_notNt [NN α] (a : α) (u : Unit) : RefB (Res.of (dNotN (enc a) (enc u))) (.ok true) := by
  show Res.of (dNotN (enc a) .none) = _; rw [notN_t (NN.nn a)]; rfl
/-! ### built-ins -/
theorem o_len (l : List α) : Ref (Res.of (dLen (enc l))) (.ok (l.length : Int)) := by
  show Res.ok (PyData.int (l.map enc).length) = _
  rw [List.length_map]; rfl
theorem o_lenU (l : Tu α) : Ref (Res.of (dLen (enc l))) (.ok (l.l.length : Int)) := by
  show Res.ok (PyData.int (l.l.map enc).length) = _
  rw [List.length_map]; rfl
def lenS (z : Str) : Res Int := if z.length ≤ sizeLine then .ok (z.length : Int) else .no
theorem o_lenS (z : Str) : Ref (Res.of (dLen (enc z))) (lenS z) := Ref_ite rfl
theorem o_sum (l : List Int) : Ref (Res.of (dSum (enc l))) (.ok l.sum) := by
  show Res.of ((asInts (l.map PyData.int)).map fun ns => PyData.int ns.sum) = _
  rw [asInts_map]; rfl
theorem o_abs (a : Int) : Ref (Res.of (dAbs (enc a))) (.ok (if a < 0 then -a else a)) := rfl
def minz (l : List Int) : Res Int := match l with | [] => .no | x :: xs => .ok (xs.foldl min x)
def maxz (l : List Int) : Res Int := match l with | [] => .no | x :: xs => .ok (xs.foldl max x)
theorem o_minz (l : List Int) : Ref (Res.of (dMinA (enc l))) (minz l) := by
  cases l with
  | nil => exact trivial
  | cons x xs =>
    show Res.of (dMinA (.list (.int x :: xs.map .int))) = _
    rw [dMinA_ints]; rfl
theorem o_maxz (l : List Int) : Ref (Res.of (dMaxA (enc l))) (maxz l) := by
  cases l with
  | nil => exact trivial
  | cons x xs =>
    show Res.of (dMaxA (.list (.int x :: xs.map .int))) = _
    rw [dMaxA_ints]; rfl
theorem o_max2 (a b : Int) : Ref (Res.of (dMax2 (enc a) (enc b))) (.ok (max a b)) := by
  show Res.ok (PyData.int (if b > a then b else a)) = Res.ok (PyData.int (max a b))
  congr 2
  split <;> omega
theorem o_min2 (a b : Int) : Ref (Res.of (dMin2 (enc a) (enc b))) (.ok (min a b)) := by
  show Res.ok (PyData.int (if b < a then b else a)) = Res.ok (PyData.int (min a b))
  congr 2
  split <;> omega
def strI (i : Int) : Res Str := if i.natAbs.log2 < 1920 then .ok (toString i) else .no
theorem o_strI (i : Int) : Ref (Res.of (dStr (enc i))) (strI i) := Ref_ite rfl
theorem ol_list (l : List α) : RefL (Res.of (dList (enc l))) (.ok l) := rfl
theorem ol_listU (l : Tu α) : RefL (Res.of (dList (enc l))) (.ok l.l) := rfl
theorem o_tup (l : List α) : Ref (Res.of (dTup (enc l))) (.ok (Tu.mk l)) := rfl
theorem o_tupU (l : Tu α) : Ref (Res.of (dTup (enc l))) (.ok l) := rfl
/-- of a fixed tuple: by computation -/
theorem r_unX {g : D → Option D} {a : α} {c : β} (ha : Ref (fa ρ) (.ok a)) (h : g (enc a) = some (enc c)) : Ref (un fa g ρ) (.ok c) := by
  have e1 : fa ρ = .ok (enc a) := ha
  unfold un
  rw [e1]
  show Res.of (g (enc a)) = _
  rw [h]; rfl
theorem r_unXE {g : D → Option D} {m : Res α} {c : α → β} (ha : Ref (fa ρ) m) (h : ∀ a, g (enc a) = some (enc (c a))) : Ref (un fa g ρ) (m.bind fun a => .ok (c a)) := by
  refine Rf.bind ha fun a => ?_
  show Res.of (g (enc a)) = _
  rw [h]; rfl
/-! ### what is walked -/
def chars (z : Str) : List Str := z.cps.toList.map fun c => ⟨#[c]⟩
theorem i_list {m : Res (List α)} (h : Ref (fa ρ) m) : RefL (itR fa ρ) m := by
  unfold itR
  cases m with
  | ok l =>
    have e : fa ρ = .ok (enc l) := h
    rw [e]; rfl
  | ex e =>
    have e : fa ρ = .ex e := h
    rw [e]; rfl
  | no => exact trivial
theorem i_tu {t : Tu α} (h : Ref (fa ρ) (.ok t)) : RefL (itR fa ρ) (.ok t.l) := by
  have e : fa ρ = .ok (enc t) := h
  unfold itR
  rw [e]; rfl
theorem i_tuE {m : Res (Tu α)} (h : Ref (fa ρ) m) : RefL (itR fa ρ) (m.bind fun t => .ok t.l) := Rf.bind h fun t => rfl
theorem i_str {z : Str} (h : Ref (fa ρ) (.ok z)) : RefL (itR fa ρ) (.ok (chars z)) := by
  have e : fa ρ = .ok (enc z) := h
  unfold itR
  rw [e]
  show Res.ok (z.cps.toList.map fun c => PyData.str ⟨#[c]⟩) = .ok ((chars z).map enc)
  unfold chars
  rw [List.map_map]; rfl
def iterD (d : D) : Res (List D) := Res.of (dIter d)
theorem i_D {d : D} (h : Ref (fa ρ) (.ok d)) : RefL (itR fa ρ) (iterD d : Res (List D)) := by
  have e : fa ρ = .ok d := h
  unfold itR
  rw [e]
  show Rf (List.map id) (Res.of (dIter d)) (Res.of (dIter d))
  cases dIter d with
  | none => exact trivial
  | some ds => show Res.ok ds = .ok (ds.map id); rw [List.map_id]
theorem i_DE {m : Res D} (h : Ref (fa ρ) m) : RefL (itR fa ρ) (m.bind iterD : Res (List D)) := by
  cases m with
  | ok d => exact i_D h
  | ex e =>
    have e : fa ρ = .ex e := h
    unfold itR
    rw [e]; rfl
  | no => exact trivial
/-- the ints from i, n of them -/
def zr (i : Int) (n : Nat) : List Int := (List.range n).map fun k => i + (k : Nat)
theorem zr_enc (i : Int) (n : Nat) : rngD i n = (zr i n).map enc := by
  unfold rngD zr
  rw [List.map_map]; rfl
def BIG : Int := 1000000000000
def rng1z (j : Int) : Res (List Int) := @ite _ (-BIG ≤ j ∧ j ≤ BIG) (Classical.propDecidable _) (.ok (zr 0 j.toNat)) .no
def rng2z (i j : Int) : Res (List Int) := @ite _ ((-BIG ≤ i ∧ i ≤ BIG) ∧ -BIG ≤ j ∧ j ≤ BIG) (Classical.propDecidable _) (.ok (zr i (j - i).toNat)) .no
theorem i_rng1 {j : Int} (h : RefA (ga ρ) (.ok [enc j])) : RefL (rng1 ga ρ) (rng1z j) := by
  have e : ga ρ = .ok [.int j] := h
  unfold rng1z rng1
  split
  · rename_i q
    rw [e]
    show (if InR j then Res.ok (rngD 0 j.toNat) else .no) = _
    rw [if_pos (inR q.1 q.2), zr_enc]
  · exact trivial
theorem i_rng2 {i j : Int} (h : RefA (ga ρ) (.ok [enc i, enc j])) : RefL (rng2 ga ρ) (rng2z i j) := by
  have e : ga ρ = .ok [.int i, .int j] := h
  unfold rng2z rng2
  split
  · rename_i q
    rw [e]
    show (if InR i ∧ InR j then Res.ok (rngD i (j - i).toNat) else .no) = _
    rw [if_pos ⟨inR q.1.1 q.1.2, inR q.2.1 q.2.2⟩, zr_enc]
  · exact trivial
theorem i_rng1E {m : Res Int} (h : Ref (fa ρ) m) : RefL (rng1 (consA fa nilA) ρ) (m.bind rng1z) := by
  cases m with
  | ok j => exact i_rng1 (a_cons (ds := []) h a_nil)
  | ex e =>
    have e : fa ρ = .ex e := h
    unfold rng1 consA
    rw [e]; rfl
  | no => exact trivial
theorem i_rng2E {m1 m2 : Res Int} (h1 : Ref (fa ρ) m1) (h2 : Ref (fb ρ) m2) : RefL (rng2 (consA fa (consA fb nilA)) ρ) (m1.bind fun i => m2.bind fun j => rng2z i j) := by
  cases m1 with
  | ok i => cases m2 with
    | ok j => exact i_rng2 (a_cons (ds := [enc j]) h1 (a_cons (ds := []) h2 a_nil))
    | ex e =>
      have e1 : fa ρ = .ok (enc i) := h1
      have e2 : fb ρ = .ex e := h2
      unfold rng2 consA
      rw [e1, e2]; rfl
    | no => exact trivial
  | ex e =>
    have e : fa ρ = .ex e := h1
    unfold rng2 consA
    rw [e]; rfl
  | no => exact trivial
/-- list(range(..)) -/
def lrng (i j : Int) : Res (List Int) := @ite _ (RgOk i j) (Classical.propDecidable _) (.ok (zr i (j - i).toNat)) .no
theorem rl_lrg1 {m : Res Int} (h : Ref (fa ρ) m) : RefL (lrg1 fa ρ) (m.bind fun j => lrng 0 j) := Rf.bind h fun j => by
  show RefL (if RgOk 0 j then .ok (rngD 0 j.toNat) else .no) (lrng 0 j)
  unfold lrng
  by_cases h : RgOk 0 j
  · rw [if_pos h, if_pos h]
    show Res.ok (rngD 0 j.toNat) = _
    rw [zr_enc, Int.sub_zero]
  · rw [if_neg h, if_neg h]; exact trivial
theorem rl_lrg1P {j : Int} (h : Ref (fa ρ) (.ok j)) : RefL (lrg1 fa ρ) (lrng 0 j) := rl_lrg1 h
theorem rl_lrg2 {m1 m2 : Res Int} (h1 : Ref (fa ρ) m1) (h2 : Ref (fb ρ) m2) : RefL (lrg2 fa fb ρ) (m1.bind fun i => m2.bind fun j => lrng i j) := Rf.bind h1 fun i => Rf.bind h2 fun j => by
  show RefL (if RgOk i j then .ok (rngD i (j - i).toNat) else .no) (lrng i j)
  unfold lrng
  by_cases h : RgOk i j
  · rw [if_pos h, if_pos h]
    show Res.ok (rngD i (j - i).toNat) = _
    rw [zr_enc]
  · rw [if_neg h, if_neg h]; exact trivial
/-- [..] * n -/
def rep (l : List α) (k : Int) : Res (List α) := @ite _ (-(2 ^ 63) ≤ k ∧ k < 2 ^ 63 ∧ l.length * k.toNat ≤ sizeLine) (Classical.propDecidable _) (.ok (List.replicate k.toNat l).flatten) .no
theorem flat_map (l : List α) : ∀ n : Nat, (List.replicate n (l.map enc)).flatten = (List.replicate n l).flatten.map enc
  | 0 => rfl
  | n + 1 => by rw [List.replicate_succ, List.replicate_succ, List.flatten_cons, List.flatten_cons, List.map_append, flat_map l n]
theorem rl_rep {m : Res (List α)} {mk : Res Int} (h : RefL (ga ρ) m) (h2 : Ref (fb ρ) mk) : RefL (repO ga fb ρ) (m.bind fun l => mk.bind fun k => rep l k) := Rf.bind h fun l => Rf.bind h2 fun k => by
  show RefL (if -(2 ^ 63) ≤ k ∧ k < 2 ^ 63 ∧ (l.map enc).length * k.toNat ≤ sizeLine then Res.ok (List.replicate k.toNat (l.map enc)).flatten else .no) (rep l k)
  unfold rep
  rw [List.length_map]
  by_cases hq : -(2 ^ 63) ≤ k ∧ k < 2 ^ 63 ∧ l.length * k.toNat ≤ sizeLine
  · rw [if_pos hq, if_pos hq]
    show Res.ok _ = _
    rw [flat_map]
  · rw [if_neg hq, if_neg hq]; exact trivial
/-! ### comprehensions -/
def lcG (c : α → Res Bool) (f : α → Res β) : List α → Res (List β)
  | [] => .ok []
  | a :: l => (noX (c a)).bind fun k => if k = true then (noX (f a)).bind fun y => (lcG c f l).bind fun ys => .ok (y :: ys) else lcG c f l
def lcM (l : List α) (c : α → Res Bool) (f : α → Res β) : Res (List β) := if l.length ≤ sizeLine then noX (lcG c f l) else .no
theorem lcG_ref {t : D → Rho → Option Rho} {c : Rho → Res Bool} {ρ1 : α → Rho} {mc : α → Res Bool} {mf : α → Res β} (ht : ∀ a, t (enc a) ρ = some (ρ1 a)) (hc : ∀ a, RefB (c (ρ1 a)) (mc a)) (hf : ∀ a, Ref (f (ρ1 a)) (mf a)) :
    ∀ l : List α, RefL (lcL t c f ρ (l.map enc)) (lcG mc mf l)
  | [] => rfl
  | a :: l => by
    rw [List.map_cons]
    unfold lcL lcG
    rw [ht]
    refine Rf.bind (Rf.noX (hc a)) fun k => ?_
    cases k with
    | true =>
      show RefL ((noX (f (ρ1 a))).bind fun y => (lcL t c f ρ (l.map enc)).bind fun ys => .ok (y :: ys)) _
      exact Rf.bind (Rf.noX (hf a)) fun y => Rf.bind (lcG_ref ht hc hf l) fun ys => rfl
    | false => exact lcG_ref ht hc hf l
theorem rl_lc {fi : Rho → Res (List D)} {t : D → Rho → Option Rho} {c : Rho → Res Bool} {vs : List Nat} {ρ' : Rho} {ρ1 : α → Rho} {ml : Res (List α)} {mc : α → Res Bool} {mf : α → Res β} (hi : RefL (fi ρ) ml) (hρ : wipeR ρ vs = ρ')
    (ht : ∀ a, t (enc a) ρ' = some (ρ1 a)) (hc : ∀ a, RefB (c (ρ1 a)) (mc a)) (hf : ∀ a, Ref (f (ρ1 a)) (mf a)) : RefL (lcV fi t c f vs ρ) (ml.bind fun l => lcM l mc mf) :=
  Rf.bind hi fun l => by
    show RefL (if (l.map enc).length ≤ sizeLine then noX (lcL t c f (wipeR ρ vs) (l.map enc)) else .no) (lcM l mc mf)
    unfold lcM
    rw [List.length_map, hρ]
    split
    · exact Rf.noX (lcG_ref ht hc hf l)
    · exact trivial
theorem rl_lcP {fi : Rho → Res (List D)} {t : D → Rho → Option Rho} {c : Rho → Res Bool} {vs : List Nat} {ρ' : Rho} {ρ1 : α → Rho} {l : List α} {mc : α → Res Bool} {mf : α → Res β} (hi : RefL (fi ρ) (.ok l)) (hρ : wipeR ρ vs = ρ')
    (ht : ∀ a, t (enc a) ρ' = some (ρ1 a)) (hc : ∀ a, RefB (c (ρ1 a)) (mc a)) (hf : ∀ a, Ref (f (ρ1 a)) (mf a)) : RefL (lcV fi t c f vs ρ) (lcM l mc mf) := rl_lc hi hρ ht hc hf
end
end VT

set_option Elab.async false
set_option linter.all false
set_option maxRecDepth 100000
set_option maxHeartbeats 4000000
namespace VT
open PySem PySem.Spec PyProof.Rows L2 VL
open Enc
noncomputable section
variable {α β γ δ σ τ κ : Type} [Enc α] [Enc β] [Enc δ]
variable {ρ ρ2 : Rho} {f fa fb fc fd : Rho → Res D} {ta tb : Rho → Res Bool} {ga gb : Rho → Res (List D)} {i j n : Nat}
/-! ### statements: n the number of slots, Rel what the ends mean -/
def Sim (n : Nat) (Rel : Out → γ → Prop) (o : Out) : Res γ → Prop
  | .ok c => Rel o c
  | .ex e => ∃ ρ, o = .ex e ρ ∧ ρ.length = n
  | .no => True
variable {Rel : Out → γ → Prop} {g h g1 g2 : Rho → Out} {m m1 m2 : Res γ}
/-- the ends of a def -/
def RelF (o : Out) (a : α) : Prop := (∃ ρ, o = .nx ρ ∧ enc a = .none) ∨ o = .rt (enc a)
/-- falls through, to the state s -/
def RelJ (R : σ → Rho → Prop) (o : Out) (s : σ) : Prop := ∃ ρ, o = .nx ρ ∧ R s ρ
/-- the turn of a loop that is only left at its end -/
def RelN (R : σ → Rho → Prop) (o : Out) (s : σ) : Prop := ∃ ρ, (o = .nx ρ ∨ o = .ct ρ) ∧ R s ρ
inductive Step (σ β : Type) where
  | nx (s : σ)
  | bk (s : σ)
  | rt (b : β)
/-- any turn -/
def RelC (R : σ → Rho → Prop) (o : Out) : Step σ β → Prop
  | .nx s => ∃ ρ, (o = .nx ρ ∨ o = .ct ρ) ∧ R s ρ
  | .bk s => ∃ ρ, o = .bk ρ ∧ R s ρ
  | .rt b => o = .rt (enc b)
theorem Sim.no {o : Out} : Sim n Rel o .no := trivial
theorem f_body {N : Nat} {G : Rho → Out} {ds : List D} {m : Res α} (hρ : startV N ds = ρ) (h : Sim n RelF (G ρ) m) : Ref (bodyV N G ds) m := by
  unfold bodyV
  rw [hρ]
  cases m with
  | ok a =>
    rcases h with ⟨ρ', h1, h2⟩ | h1
    · rw [h1]; show Res.ok _ = Res.ok _; rw [h2]
    · rw [h1]; rfl
  | ex e =>
    obtain ⟨ρ', h1, _⟩ := h
    rw [h1]; rfl
  | no => exact trivial
theorem seq_nxS {ρ : Rho} : seqS g nxS ρ = g ρ := by
  unfold seqS
  cases g ρ <;> rfl
theorem seq_assoc {a b c : Rho → Out} {ρ : Rho} : seqS (seqS a b) c ρ = seqS a (seqS b c) ρ := by
  unfold seqS
  cases a ρ <;> rfl
theorem s_last (h : Sim n Rel (seqS g nxS ρ) m) : Sim n Rel (g ρ) m := by rw [seq_nxS] at h; exact h
theorem s_asc {a b c : Rho → Out} (h : Sim n Rel (seqS a (seqS b c) ρ) m) : Sim n Rel (seqS (seqS a b) c ρ) m := by rw [seq_assoc]; exact h
theorem s_nil (h : Sim n Rel (g ρ) m) : Sim n Rel (seqS nxS g ρ) m := h
theorem s_end {c : γ} (h : Rel (.nx ρ) c) : Sim n Rel (nxS ρ) (.ok c) := h
theorem s_bk {c : γ} (h : Rel (.bk ρ) c) : Sim n Rel (seqS brkS g ρ) (.ok c) := h
theorem s_ct {c : γ} (h : Rel (.ct ρ) c) : Sim n Rel (seqS cntS g ρ) (.ok c) := h
theorem e_J {R : σ → Rho → Prop} {s : σ} (h : R s ρ) : RelJ R (.nx ρ) s := ⟨ρ, rfl, h⟩
theorem e_N {R : σ → Rho → Prop} {s : σ} (h : R s ρ) : RelN R (.nx ρ) s := ⟨ρ, .inl rfl, h⟩
theorem e_Nc {R : σ → Rho → Prop} {s : σ} (h : R s ρ) : RelN R (.ct ρ) s := ⟨ρ, .inr rfl, h⟩
theorem e_C {R : σ → Rho → Prop} {s : σ} (h : R s ρ) : RelC (β := β) R (.nx ρ) (.nx s) := ⟨ρ, .inl rfl, h⟩
theorem e_Cc {R : σ → Rho → Prop} {s : σ} (h : R s ρ) : RelC (β := β) R (.ct ρ) (.nx s) := ⟨ρ, .inr rfl, h⟩
theorem e_Cb {R : σ → Rho → Prop} {s : σ} (h : R s ρ) : RelC (β := β) R (.bk ρ) (.bk s) := ⟨ρ, rfl, h⟩
theorem e_F {a : α} (h : enc a = .none) : RelF (.nx ρ) a := .inl ⟨ρ, rfl, h⟩
theorem out_sim {A B : Type} {φ : A → B} {r : Res B} {m : Res A} {K : B → Out} {k : A → Res γ} (hn : ρ.length = n) (hf : Rf φ r m) (hk : ∀ a, Sim n Rel (seqS (fun _ => K (φ a)) h ρ) (k a)) : Sim n Rel (seqS (fun ρ => Res.out ρ r K) h ρ) (m.bind k) := by
  cases m with
  | ok a =>
    have e : r = .ok (φ a) := hf
    subst e
    exact hk a
  | ex e =>
    have e : r = .ex e := hf
    subst e
    exact ⟨ρ, rfl, hn⟩
  | no => exact trivial
/-- name = e -/
theorem s_asg {m : Res α} {k : α → Res γ} {ρ' : α → Rho} (hn : ρ.length = n) (hf : Ref (f ρ) m) (hρ : ∀ a, ρ.set i (fz a) = ρ' a) (hk : ∀ a, Sim n Rel (h (ρ' a)) (k a)) : Sim n Rel (seqS (asgS i f) h ρ) (m.bind k) :=
  out_sim (K := fun d => .nx (ρ.set i (some (.fz d)))) hn hf fun a => by
    show Sim n Rel (h (ρ.set i (fz a))) (k a)
    rw [hρ]; exact hk a
theorem s_asgO {m : Res (List α)} {k : List α → Res γ} {ρ' : List α → Rho} {f : Rho → Res (List D)} (hn : ρ.length = n) (hf : RefL (f ρ) m) (hρ : ∀ a, ρ.set i (ow a) = ρ' a) (hk : ∀ a, Sim n Rel (h (ρ' a)) (k a)) : Sim n Rel (seqS (asgO i f) h ρ) (m.bind k) :=
  out_sim (K := fun d => .nx (ρ.set i (some (.ow d)))) hn hf fun a => by
    show Sim n Rel (h (ρ.set i (ow a))) (k a)
    rw [hρ]; exact hk a
/-- target = e -/
theorem s_asgG {m : Res α} {k : α → Res γ} {ρ' : α → Rho} {t : D → Rho → Option Rho} (hn : ρ.length = n) (hf : Ref (f ρ) m) (hρ : ∀ a, t (enc a) ρ = some (ρ' a)) (hk : ∀ a, Sim n Rel (h (ρ' a)) (k a)) : Sim n Rel (seqS (asgG t f) h ρ) (m.bind k) :=
  out_sim (K := fun d => match t d ρ with
    | some ρ' => .nx ρ'
    | none => .no) hn hf fun a => by
    show Sim n Rel (seqS (fun _ => match t (enc a) ρ with
    | some ρ' => .nx ρ'
    | none => .no) h ρ) (k a)
    rw [hρ]; exact hk a
/-- x, y = a, b -/
theorem s_par {a : α} {b : β} (ha : RefA (ga ρ) (.ok [enc a, enc b])) (hρ : (ρ.set i (fz a)).set j (fz b) = ρ2) (hk : Sim n Rel (h ρ2) m) : Sim n Rel (seqS (parS i j ga) h ρ) m := by
  have e : ga ρ = .ok [enc a, enc b] := ha
  subst hρ
  unfold seqS parS
  rw [e]; exact hk
theorem s_parE {ds : Res (List D)} {k : List D → Res γ} (hn : ρ.length = n) (ha : RefA (ga ρ) ds) (hk : ∀ ds, Sim n Rel (seqS (fun ρ => Res.out ρ (.ok ds) fun ds => match ds with
  | [d, d'] => .nx ((ρ.set i (some (.fz d))).set j (some (.fz d')))
  | _ => .no) h ρ) (k ds)) : Sim n Rel (seqS (parS i j ga) h ρ) (ds.bind k) :=
  out_sim (K := fun ds => match ds with
  | [d, d'] => .nx ((ρ.set i (some (.fz d))).set j (some (.fz d')))
  | _ => .no) hn ha hk
/-- x, y = e1, e2, one behind the other -/
theorem s_par2 {ma : Res α} {mb : Res β} {k : α → β → Res γ} {ρ' : α → β → Rho} (hn : ρ.length = n) (ha : Ref (fa ρ) ma) (hb : Ref (fb ρ) mb) (hρ : ∀ a b, (ρ.set i (fz a)).set j (fz b) = ρ' a b) (hk : ∀ a b, Sim n Rel (h (ρ' a b)) (k a b)) :
    Sim n Rel (seqS (parS i j (consA fa (consA fb nilA))) h ρ) (ma.bind fun a => mb.bind fun b => k a b) := by
  cases ma with
  | ok a => cases mb with
    | ok b => exact s_par (a_cons (ds := [enc b]) ha (a_cons (ds := []) hb a_nil)) (hρ a b) (hk a b)
    | ex e =>
      have e1 : fa ρ = .ok (enc a) := ha
      have e2 : fb ρ = .ex e := hb
      refine ⟨ρ, ?_, hn⟩
      unfold seqS parS consA
      rw [e1, e2]; rfl
    | no => exact trivial
  | ex e =>
    have e1 : fa ρ = .ex e := ha
    refine ⟨ρ, ?_, hn⟩
    unfold seqS parS consA
    rw [e1]; rfl
  | no => exact trivial
theorem s_par3 {l : Nat} {ma : Res α} {mb : Res β} {mc : Res δ} {k : α → β → δ → Res γ} {ρ' : α → β → δ → Rho} (hn : ρ.length = n) (ha : Ref (fa ρ) ma) (hb : Ref (fb ρ) mb) (hc : Ref (fc ρ) mc)
    (hρ : ∀ a b c, ((ρ.set i (fz a)).set j (fz b)).set l (fz c) = ρ' a b c) (hk : ∀ a b c, Sim n Rel (h (ρ' a b c)) (k a b c)) :
    Sim n Rel (seqS (parS3 i j l (consA fa (consA fb (consA fc nilA)))) h ρ) (ma.bind fun a => mb.bind fun b => mc.bind fun c => k a b c) := by
  cases ma with
  | ok a =>
    have e1 : fa ρ = .ok (enc a) := ha
    cases mb with
    | ok b =>
      have e2 : fb ρ = .ok (enc b) := hb
      cases mc with
      | ok c =>
        have e3 : fc ρ = .ok (enc c) := hc
        have e4 := hρ a b c
        have := hk a b c
        rw [← e4] at this
        unfold seqS parS3 consA
        rw [e1, e2, e3]; exact this
      | ex e =>
        have e3 : fc ρ = .ex e := hc
        refine ⟨ρ, ?_, hn⟩
        unfold seqS parS3 consA
        rw [e1, e2, e3]; rfl
      | no => exact trivial
    | ex e =>
      have e2 : fb ρ = .ex e := hb
      refine ⟨ρ, ?_, hn⟩
      unfold seqS parS3 consA
      rw [e1, e2]; rfl
    | no => exact trivial
  | ex e =>
    have e1 : fa ρ = .ex e := ha
    refine ⟨ρ, ?_, hn⟩
    unfold seqS parS3 consA
    rw [e1]; rfl
  | no => exact trivial
/-- name op= e -/
theorem s_aug {gop : D → D → Option D} {m : Res α} {k : α → Res γ} {ρ' : α → Rho} (hn : ρ.length = n) (hf : Ref (VL.bin (var i) f gop ρ) m) (hρ : ∀ a, ρ.set i (fz a) = ρ' a) (hk : ∀ a, Sim n Rel (h (ρ' a)) (k a)) : Sim n Rel (seqS (augS i f gop) h ρ) (m.bind k) :=
  out_sim (K := fun d => .nx (ρ.set i (some (.fz d)))) hn hf fun a => by
    show Sim n Rel (h (ρ.set i (fz a))) (k a)
    rw [hρ]; exact hk a
/-- name.append(e) -/
def app (l : List α) (x : α) : Res (List α) := if l.length < sizeLine then .ok (l ++ [x]) else .no
theorem s_app {l : List α} {m : Res α} {k : List α → Res γ} {ρ' : List α → Rho} (hn : ρ.length = n) (hi : ρ[i]? = some (ow l)) (hf : Ref (f ρ) m) (hρ : ∀ a, ρ.set i (ow a) = ρ' a) (hk : ∀ a, Sim n Rel (h (ρ' a)) (k a)) :
    Sim n Rel (seqS (appS i f) h ρ) (m.bind fun x => (app l x).bind k) := by
  have : seqS (appS i f) h ρ = seqS (fun ρ' => Res.out ρ' (f ρ) fun d => if (l.map enc).length < sizeLine then .nx (ρ.set i (some (.ow ((l.map enc) ++ [d])))) else .no) h ρ := by
    unfold seqS appS
    rw [hi]
  rw [this]
  refine out_sim (K := fun d => if (l.map enc).length < sizeLine then .nx (ρ.set i (some (.ow ((l.map enc) ++ [d])))) else .no) hn hf fun x => ?_
  unfold app
  show Sim n Rel (seqS (fun _ => if (l.map enc).length < sizeLine then .nx (ρ.set i (some (.ow ((l.map enc) ++ [enc x])))) else .no) h ρ) _
  rw [List.length_map]
  split
  · show Sim n Rel (h (ρ.set i (some (.ow ((l.map enc) ++ [enc x]))))) (k (l ++ [x]))
    have e : l.map enc ++ [enc x] = (l ++ [x]).map enc := by rw [List.map_append]; rfl
    rw [e]
    have := hk (l ++ [x])
    rw [← hρ] at this
    exact this
  · exact trivial
/-- name[j] = e -/
def setL (l : List α) (z : Int) (x : α) : Res (List α) := match ixN l.length z with
  | some k => .ok (l.set k x)
  | none => .no
theorem map_set' (l : List α) (k : Nat) (x : α) : (l.map enc).set k (enc x) = (l.set k x).map enc := by rw [List.map_set]
theorem s_setI {l : List α} {m : Res α} {mj : Res Int} {k : List α → Res γ} {ρ' : List α → Rho} {fj : Rho → Res D} (hn : ρ.length = n) (hi : ρ[i]? = some (ow l)) (hj : Ref (fj ρ) mj) (hf : Ref (f ρ) m) (hρ : ∀ a, ρ.set i (ow a) = ρ' a) (hk : ∀ a, Sim n Rel (h (ρ' a)) (k a)) :
    Sim n Rel (seqS (setS i fj f) h ρ) (m.bind fun x => mj.bind fun z => (setL l z x).bind k) := by
  have : seqS (setS i fj f) h ρ = seqS (fun ρ' => Res.out ρ' (f ρ) fun d => Res.out ρ (fj ρ) fun j => match j with
    | .int z => (match ixN (l.map enc).length z with
      | some k => .nx (ρ.set i (some (.ow ((l.map enc).set k d))))
      | none => .no)
    | _ => .no) h ρ := by
    unfold seqS setS
    rw [hi] <;> rfl
  rw [this]
  refine out_sim (K := fun d => Res.out ρ (fj ρ) fun j => match j with
    | .int z => (match ixN (l.map enc).length z with
      | some k => .nx (ρ.set i (some (.ow ((l.map enc).set k d))))
      | none => .no)
    | _ => .no) hn hf fun x => ?_
  refine out_sim (φ := enc) (K := fun j => match j with
    | .int z => (match ixN (l.map enc).length z with
      | some k => .nx (ρ.set i (some (.ow ((l.map enc).set k (enc x)))))
      | none => .no)
    | _ => .no) hn hj fun z => ?_
  unfold setL
  show Sim n Rel (seqS (fun _ => match ixN (l.map enc).length z with
      | some k => .nx (ρ.set i (some (.ow ((l.map enc).set k (enc x)))))
      | none => .no) h ρ) _
  rw [List.length_map]
  cases ixN l.length z with
  | none => exact trivial
  | some q =>
    show Sim n Rel (h (ρ.set i (some (.ow ((l.map enc).set q (enc x)))))) (k (l.set q x))
    rw [map_set']
    have := hk (l.set q x)
    rw [← hρ] at this
    exact this
theorem s_frz (hρ : frz i ρ = ρ2) (hk : Sim n Rel (seqS g h ρ2) m) : Sim n Rel (seqS (frzS i g) h ρ) m := by
  subst hρ
  exact hk
theorem s_exp {m : Res α} {k : Res γ} (hn : ρ.length = n) (hf : Ref (f ρ) m) (hk : Sim n Rel (h ρ) k) : Sim n Rel (seqS (expS f) h ρ) (m.bind fun _ => k) :=
  out_sim (K := fun _ => .nx ρ) hn hf fun _ => hk
theorem s_ret {m : Res α} {q : α → γ} (hn : ρ.length = n) (hf : Ref (f ρ) m) (hr : ∀ a, Rel (.rt (enc a)) (q a)) : Sim n Rel (seqS (retS f) h ρ) (m.bind fun a => .ok (q a)) :=
  out_sim (K := .rt) hn hf fun a => hr a
theorem s_retF {m : Res α} (hn : ρ.length = n) (hf : Ref (f ρ) m) : Sim n (RelF (α := α)) (seqS (retS f) h ρ) m := by
  have := s_ret (Rel := RelF (α := α)) (q := id) (h := h) hn hf fun a => .inr rfl
  cases m <;> exact this
theorem s_retC {R : σ → Rho → Prop} {m : Res α} (hn : ρ.length = n) (hf : Ref (f ρ) m) : Sim n (RelC (β := α) R) (seqS (retS f) h ρ) (m.bind fun a => .ok (.rt a)) :=
  s_ret hn hf fun a => rfl
theorem s_retCP {R : σ → Rho → Prop} {a : α} (hn : ρ.length = n) (hf : Ref (f ρ) (.ok a)) : Sim n (RelC (β := α) R) (seqS (retS f) h ρ) (.ok (.rt a)) :=
  s_ret (m := .ok a) hn hf fun a => rfl
theorem s_retN {a : α} (he : enc a = .none) : Sim n (RelF (α := α)) (seqS retN h ρ) (.ok a) := .inr (by rw [he]; rfl)
theorem s_retNC {R : σ → Rho → Prop} {a : α} (he : enc a = .none) : Sim n (RelC (β := α) R) (seqS retN h ρ) (.ok (.rt a)) := by
  show seqS retN h ρ = .rt (enc a)
  rw [he]; rfl
/-- if, each way to its end -/
theorem s_if {mc : Res Bool} (hn : ρ.length = n) (hc : RefB (ta ρ) mc) (h1 : Sim n Rel (seqS g1 h ρ) m1) (h2 : Sim n Rel (seqS g2 h ρ) m2) : Sim n Rel (seqS (ifS ta g1 g2) h ρ) (mc.bind fun k => if k = true then m1 else m2) :=
  out_sim (K := fun k => if k = true then g1 ρ else g2 ρ) hn hc fun k => by
    cases k with
    | true => exact h1
    | false => exact h2
theorem s_ifP {c : Bool} (hn : ρ.length = n) (hc : RefB (ta ρ) (.ok c)) (h1 : Sim n Rel (seqS g1 h ρ) m1) (h2 : Sim n Rel (seqS g2 h ρ) m2) : Sim n Rel (seqS (ifS ta g1 g2) h ρ) (if c = true then m1 else m2) :=
  s_if hn hc h1 h2
theorem sim_seq {R : σ → Rho → Prop} {ms : Res σ} {k : σ → Res γ} (h1 : Sim n (RelJ R) (g ρ) ms) (hk : ∀ s ρ, R s ρ → Sim n Rel (h ρ) (k s)) : Sim n Rel (seqS g h ρ) (ms.bind k) := by
  unfold seqS
  cases ms with
  | ok s =>
    obtain ⟨ρ', e, r⟩ := h1
    rw [e]
    exact hk s ρ' r
  | ex e =>
    obtain ⟨ρ', e, r⟩ := h1
    rw [e]
    exact ⟨ρ', rfl, r⟩
  | no => exact trivial
/-- if, both ways met again -/
theorem s_ifJ {R : σ → Rho → Prop} {mc : Res Bool} {ms1 ms2 : Res σ} {k : σ → Res γ} (hn : ρ.length = n) (hc : RefB (ta ρ) mc) (h1 : Sim n (RelJ R) (g1 ρ) ms1) (h2 : Sim n (RelJ R) (g2 ρ) ms2) (hk : ∀ s ρ, R s ρ → Sim n Rel (h ρ) (k s)) :
    Sim n Rel (seqS (ifS ta g1 g2) h ρ) ((mc.bind fun k => if k = true then ms1 else ms2).bind k) :=
  sim_seq (by
    have := s_if (h := nxS) hn hc (by rw [seq_nxS]; exact h1) (by rw [seq_nxS]; exact h2)
    rw [seq_nxS] at this; exact this) hk
theorem s_ifJP {R : σ → Rho → Prop} {c : Bool} {ms1 ms2 : Res σ} {k : σ → Res γ} (hn : ρ.length = n) (hc : RefB (ta ρ) (.ok c)) (h1 : Sim n (RelJ R) (g1 ρ) ms1) (h2 : Sim n (RelJ R) (g2 ρ) ms2) (hk : ∀ s ρ, R s ρ → Sim n Rel (h ρ) (k s)) :
    Sim n Rel (seqS (ifS ta g1 g2) h ρ) ((if c = true then ms1 else ms2).bind k) := s_ifJ hn hc h1 h2 hk
/-! ### loops -/
def forM (fb : α → σ → Res σ) : List α → σ → Res σ
  | [], s => .ok s
  | a :: l, s => (fb a s).bind fun s' => forM fb l s'
def forC (fb : α → σ → Res (Step σ β)) : List α → σ → Res (Step σ β)
  | [], s => .ok (.nx s)
  | a :: l, s => (fb a s).bind fun x => match x with
    | .nx s' => forC fb l s'
    | .bk s' => .ok (.nx s')
    | .rt b => .ok (.rt b)
def stp (k : σ → Res γ) (q : β → Res γ) : Step σ β → Res γ
  | .nx s => k s
  | .bk s => k s
  | .rt b => q b
theorem forL_N {R : σ → Rho → Prop} {t : D → Rho → Option Rho} {fb : α → σ → Res σ} (hR : ∀ s ρ, R s ρ → ρ.length = n) (hb : ∀ a s ρ, R s ρ → ∃ ρ1, t (enc a) ρ = some ρ1 ∧ Sim n (RelN R) (g ρ1) (fb a s)) :
    ∀ (l : List α) (s : σ) (ρ : Rho), R s ρ → Sim n (RelJ R) (forL t g (l.map enc) ρ) (forM fb l s)
  | [], s, ρ, r => ⟨ρ, rfl, r⟩
  | a :: l, s, ρ, r => by
    obtain ⟨ρ1, h1, h2⟩ := hb a s ρ r
    rw [List.map_cons]
    unfold forL forM
    rw [h1]
    dsimp only
    cases e : fb a s with
    | ok s' =>
      rw [e] at h2
      obtain ⟨ρ2, h3, h4⟩ := h2
      rcases h3 with h3 | h3
      · rw [h3]; exact forL_N hR hb l s' ρ2 h4
      · rw [h3]; exact forL_N hR hb l s' ρ2 h4
    | ex e' =>
      rw [e] at h2
      obtain ⟨ρ2, h3, h4⟩ := h2
      rw [h3]; exact ⟨ρ2, rfl, h4⟩
    | no => exact trivial
theorem forL_C {R : σ → Rho → Prop} {t : D → Rho → Option Rho} {fb : α → σ → Res (Step σ β)} (hb : ∀ a s ρ, R s ρ → ∃ ρ1, t (enc a) ρ = some ρ1 ∧ Sim n (RelC R) (g ρ1) (fb a s)) :
    ∀ (l : List α) (s : σ) (ρ : Rho), R s ρ → Sim n (RelC R) (forL t g (l.map enc) ρ) (forC fb l s)
  | [], s, ρ, r => ⟨ρ, .inl rfl, r⟩
  | a :: l, s, ρ, r => by
    obtain ⟨ρ1, h1, h2⟩ := hb a s ρ r
    rw [List.map_cons]
    unfold forL forC
    rw [h1]
    dsimp only
    cases e : fb a s with
    | ok x =>
      rw [e] at h2
      cases x with
      | nx s' =>
        obtain ⟨ρ2, h3, h4⟩ := h2
        rcases h3 with h3 | h3
        · rw [h3]; exact forL_C hb l s' ρ2 h4
        · rw [h3]; exact forL_C hb l s' ρ2 h4
      | bk s' =>
        obtain ⟨ρ2, h3, h4⟩ := h2
        rw [h3]; exact ⟨ρ2, .inl rfl, h4⟩
      | rt b =>
        have h3 : g ρ1 = .rt (enc b) := h2
        rw [h3]; exact rfl
    | ex e' =>
      rw [e] at h2
      obtain ⟨ρ2, h3, h4⟩ := h2
      rw [h3]; exact ⟨ρ2, rfl, h4⟩
    | no => exact trivial
theorem forL_nct {t : D → Rho → Option Rho} : ∀ (l : List D) (ρ ρ2 : Rho), forL t g l ρ ≠ .ct ρ2
  | [], _, _ => fun h => by cases h
  | d :: l, ρ, ρ2 => by
    unfold forL
    split
    · intro h; cases h
    · split <;> first | exact forL_nct l _ _ | (intro h; cases h)
theorem s_for {R : σ → Rho → Prop} {fi : Rho → Res (List D)} {t : D → Rho → Option Rho} {fb : α → σ → Res σ} {ml : Res (List α)} {s0 : σ} {k : σ → Res γ} (hR : ∀ s ρ, R s ρ → ρ.length = n) (hi : RefL (fi ρ) ml) (h0 : R s0 ρ)
    (hb : ∀ a s ρ, R s ρ → ∃ ρ1, t (enc a) ρ = some ρ1 ∧ Sim n (RelN R) (g ρ1) (fb a s)) (hk : ∀ s ρ, R s ρ → Sim n Rel (h ρ) (k s)) : Sim n Rel (seqS (forS fi t g) h ρ) (ml.bind fun l => (forM fb l s0).bind k) :=
  out_sim (K := fun ds => forL t g ds ρ) (hR _ _ h0) hi fun l => sim_seq (R := R) (ms := forM fb l s0) (forL_N hR hb l s0 ρ h0) hk
theorem s_forC {R : σ → Rho → Prop} {fi : Rho → Res (List D)} {t : D → Rho → Option Rho} {fb : α → σ → Res (Step σ β)} {ml : Res (List α)} {s0 : σ} {k : σ → Res γ} {q : β → γ} (hR : ∀ s ρ, R s ρ → ρ.length = n) (hi : RefL (fi ρ) ml) (h0 : R s0 ρ)
    (hb : ∀ a s ρ, R s ρ → ∃ ρ1, t (enc a) ρ = some ρ1 ∧ Sim n (RelC R) (g ρ1) (fb a s)) (hq : ∀ b, Rel (.rt (enc b)) (q b)) (hk : ∀ s ρ, R s ρ → Sim n Rel (h ρ) (k s)) :
    Sim n Rel (seqS (forS fi t g) h ρ) (ml.bind fun l => (forC fb l s0).bind (stp k fun b => .ok (q b))) :=
  out_sim (K := fun ds => forL t g ds ρ) (hR _ _ h0) hi fun l => by
    have h1 := forL_C hb l s0 ρ h0
    show Sim n Rel (seqS (fun _ => forL t g (l.map enc) ρ) h ρ) _
    unfold seqS
    cases e : forC fb l s0 with
    | ok x =>
      rw [e] at h1
      cases x with
      | nx s =>
        obtain ⟨ρ', e, r⟩ := h1
        rcases e with e | e
        · rw [e]; exact hk s ρ' r
        · exact absurd e (forL_nct _ _ _)
      | bk s =>
        obtain ⟨ρ', e, r⟩ := h1
        have : ∀ (l : List D) (ρ : Rho), forL t g l ρ ≠ .bk ρ' := fun l => by
          induction l with
          | nil => intro ρ h; cases h
          | cons d l ih =>
            intro ρ
            unfold forL
            split
            · intro h; cases h
            · split <;> first | exact ih _ | (intro h; cases h)
        exact absurd e (this _ _)
      | rt b =>
        have e : forL t g (l.map enc) ρ = .rt (enc b) := h1
        rw [e]; exact hq b
    | ex e' =>
      rw [e] at h1
      obtain ⟨ρ', e, r⟩ := h1
      rw [e]; exact ⟨ρ', rfl, r⟩
    | no => exact trivial
def whlM (fc : σ → Res Bool) (fb : σ → Res σ) : Nat → σ → Res σ
  | 0, _ => .no
  | n + 1, s => (fc s).bind fun k => if k = true then (fb s).bind fun s' => whlM fc fb n s' else .ok s
def whlC (fc : σ → Res Bool) (fb : σ → Res (Step σ β)) : Nat → σ → Res (Step σ β)
  | 0, _ => .no
  | n + 1, s => (fc s).bind fun k => if k = true then (fb s).bind fun x => match x with
    | .nx s' => whlC fc fb n s'
    | .bk s' => .ok (.nx s')
    | .rt b => .ok (.rt b) else .ok (.nx s)
theorem whl_N {R : σ → Rho → Prop} {c : Rho → Res Bool} {fc : σ → Res Bool} {fb : σ → Res σ} (hR : ∀ s ρ, R s ρ → ρ.length = n) (hc : ∀ s ρ, R s ρ → RefB (c ρ) (fc s)) (hb : ∀ s ρ, R s ρ → Sim n (RelN R) (g ρ) (fb s)) :
    ∀ (N : Nat) (s : σ) (ρ : Rho), R s ρ → Sim n (RelJ R) (whlN c g N ρ) (whlM fc fb N s)
  | 0, s, ρ, r => trivial
  | N + 1, s, ρ, r => by
    unfold whlN whlM
    have h1 := hc s ρ r
    cases e1 : fc s with
    | ok k =>
      rw [e1] at h1
      have e2 : c ρ = .ok k := h1
      rw [e2]
      cases k with
      | false => exact ⟨ρ, rfl, r⟩
      | true =>
        have h2 := hb s ρ r
        simp only [Res.ok_out, Res.ok_bind, if_true]
        cases e : fb s with
        | ok s' =>
          rw [e] at h2
          obtain ⟨ρ2, h3, h4⟩ := h2
          rcases h3 with h3 | h3
          · rw [h3]; exact whl_N hR hc hb N s' ρ2 h4
          · rw [h3]; exact whl_N hR hc hb N s' ρ2 h4
        | ex e' =>
          rw [e] at h2
          obtain ⟨ρ2, h3, h4⟩ := h2
          rw [h3]; exact ⟨ρ2, rfl, h4⟩
        | no => exact trivial
    | ex e =>
      rw [e1] at h1
      have e2 : c ρ = .ex e := h1
      rw [e2]
      exact ⟨ρ, rfl, hR _ _ r⟩
    | no => exact trivial
theorem s_whl {R : σ → Rho → Prop} {c : Rho → Res Bool} {fc : σ → Res Bool} {fb : σ → Res σ} {N : Nat} {s0 : σ} {k : σ → Res γ} (hR : ∀ s ρ, R s ρ → ρ.length = n) (h0 : R s0 ρ) (hc : ∀ s ρ, R s ρ → RefB (c ρ) (fc s))
    (hb : ∀ s ρ, R s ρ → Sim n (RelN R) (g ρ) (fb s)) (hk : ∀ s ρ, R s ρ → Sim n Rel (h ρ) (k s)) : Sim n Rel (seqS (whlN c g N) h ρ) ((whlM fc fb N s0).bind k) :=
  sim_seq (whl_N hR hc hb N s0 ρ h0) hk
/-! ### raise, try -/
def raiM (c : Str) (fs : List Str) (ds : List D) : Res γ := if ds.all fmtD = true then .ex ⟨c, (fs.zip ds).reverse⟩ else .no
theorem s_rai {c : Str} {fs : List Str} {md : Res (List D)} (hn : ρ.length = n) (h : RefA (ga ρ) md) : Sim n Rel (seqS (raiS c fs ga) g ρ) (md.bind (raiM c fs)) :=
  out_sim (φ := id) (K := fun ds => if ds.all fmtD = true then .ex ⟨c, (fs.zip ds).reverse⟩ ρ else .no) hn h fun ds => by
    unfold raiM
    show Sim n Rel (seqS (fun _ => if ds.all fmtD = true then .ex ⟨c, (fs.zip ds).reverse⟩ ρ else .no) g ρ) _
    split
    · exact ⟨ρ, rfl, hn⟩
    · exact trivial
theorem s_raiP {c : Str} {fs : List Str} {ds : List D} (hn : ρ.length = n) (h : RefA (ga ρ) (.ok ds)) : Sim n Rel (seqS (raiS c fs ga) g ρ) (raiM c fs ds) := s_rai hn h
/-- a field of the error that is caught -/
def fld (nm fl : Str) (e : Err) : Res D := if e.cls = nm then Res.of (e.fs.lookup fl) else .no
theorem r_xf {nm fl : Str} {e : Err} (h : ρ[i]? = some (some (.er e))) : Ref (xfV nm fl i ρ) (fld nm fl e) := by
  unfold xfV fld
  rw [h]
  show Ref (if e.cls = nm then Res.of (e.fs.lookup fl) else .no) _
  split
  · cases e.fs.lookup fl with
    | none => exact trivial
    | some d => exact rfl
  · exact trivial
def hdl (ns : List Str) (m : Err → Res γ) (r : Err → Res γ) (e : Err) : Res γ := if ns.contains e.cls = true then noX (m e) else r e
def hdl0 (e : Err) : Res γ := .ex e
def tryM (all : List Str) (m : Res γ) (k : Err → Res γ) : Res γ := match m with
  | .ex e => if all.contains e.cls = true then k e else .no
  | m => m
/-- what a suite may end with: a value -/
class RtRel (Rel : Out → γ → Prop) : Prop where
  beh : ∀ o c i, Rel o c → Rel (behS i o) c
theorem h_nil {e : Err} (hn : ρ.length = n) : Sim n Rel (hdlS [] e ρ) (hdl0 e) := ⟨ρ, rfl, hn⟩
theorem h_cons {ns : List Str} {hs : List Hd3} {e : Err} {ms r : Err → Res γ} (hB : ∀ o c, Rel o c → Rel (behS i o) c) (hn : ρ.length = n) (hi : i < n) (h1 : ∀ ρ' : Rho, ρ'.length = n → ρ'[i]? = some (some (.er e)) → Sim n Rel (g ρ') (ms e)) (h2 : Sim n Rel (hdlS hs e ρ) (r e)) :
    Sim n Rel (hdlS ((ns, i, g) :: hs) e ρ) (hdl ns ms r e) := by
  unfold hdlS hdl
  split
  · have hl : (clrE ρ).length = n := by unfold clrE; rw [List.length_map]; exact hn
    have := h1 ((clrE ρ).set i (some (.er e))) (by rw [List.length_set]; exact hl) (by rw [List.getElem?_set_self (by rw [hl]; exact hi)])
    cases q : ms e with
    | ok c => rw [q] at this; exact hB _ _ this
    | ex e => exact trivial
    | no => exact trivial
  · exact h2
theorem behF {o : Out} {a : α} (h : RelF o a) : RelF (behS i o) a := by
  rcases h with ⟨ρ, rfl, h⟩ | rfl
  · exact .inl ⟨_, rfl, h⟩
  · exact .inr rfl
theorem noF {e : Err} {ρ : Rho} {a : α} : ¬ RelF (.ex e ρ) a := by
  rintro (⟨ρ', h, _⟩ | h) <;> cases h
theorem s_tryL {all : List Str} {hs : List Hd3} {k : Err → Res γ} (hx : ∀ e ρ c, ¬ Rel (.ex e ρ) c) (h1 : Sim n Rel (g ρ) m) (h2 : ∀ e ρ, ρ.length = n → Sim n Rel (hdlS hs e ρ) (k e)) : Sim n Rel (tryS all g hs ρ) (tryM all m k) := by
  unfold tryS
  cases m with
  | ok c =>
    show Sim n Rel _ (.ok c)
    cases q : g ρ with
    | ex e ρ' => rw [q] at h1; exact absurd h1 (hx e ρ' c)
    | _ => rw [q] at h1; exact h1
  | ex e =>
    obtain ⟨ρ', e1, e2⟩ := h1
    rw [e1]
    show Sim n Rel (if all.contains e.cls = true then hdlS hs e ρ' else .no) (if all.contains e.cls = true then k e else .no)
    split
    · exact h2 e ρ' e2
    · exact trivial
  | no => exact trivial
theorem s_tryN (h : Sim n Rel (g ρ) m) : Sim n Rel (seqS g nxS ρ) m := by rw [seq_nxS]; exact h
end
end VT

set_option Elab.async false
set_option linter.all false
set_option maxRecDepth 100000
set_option maxHeartbeats 4000000
namespace VT
open PySem PySem.Spec PyProof.Rows L2 VL
open Enc
noncomputable section
variable {α β γ δ σ τ : Type} [Enc α] [Enc β] [Enc γ] [Enc δ]
variable {ρ : Rho} {f fa fb fc fd : Rho → Res D} {ta tb : Rho → Res Bool} {ga gb : Rho → Res (List D)} {i j : Nat}
/-! ### each operator, its operands pure (p) or not (e) -/
theorem Ref_b {r : Res D} {a : α} (e : r = .ok (enc a)) : Ref r (.ok a) := e
theorem r_add_pp {a : Int} (ha : Ref (fa ρ) (.ok a)) {b : Int} (hb : Ref (fb ρ) (.ok b)) : Ref (VL.bin fa fb dAdd ρ) ((.ok (a + b)) : Res (Int)) := r_binP (op := fun (a : Int) (b : Int) => (.ok (a + b) : Res (Int))) (fun a b => o_add a b) ha hb
theorem r_add_pe {a : Int} (ha : Ref (fa ρ) (.ok a)) {mb : Res (Int)} (hb : Ref (fb ρ) mb) : Ref (VL.bin fa fb dAdd ρ) ((mb.bind fun b => .ok (a + b)) : Res (Int)) := r_bin (op := fun (a : Int) (b : Int) => (.ok (a + b) : Res (Int))) (fun a b => o_add a b) ha hb
theorem r_add_ep {ma : Res (Int)} (ha : Ref (fa ρ) ma) {b : Int} (hb : Ref (fb ρ) (.ok b)) : Ref (VL.bin fa fb dAdd ρ) ((ma.bind fun a => .ok (a + b)) : Res (Int)) := r_bin (op := fun (a : Int) (b : Int) => (.ok (a + b) : Res (Int))) (fun a b => o_add a b) ha hb
theorem r_add_ee {ma : Res (Int)} (ha : Ref (fa ρ) ma) {mb : Res (Int)} (hb : Ref (fb ρ) mb) : Ref (VL.bin fa fb dAdd ρ) ((ma.bind fun a => mb.bind fun b => .ok (a + b)) : Res (Int)) := r_bin (op := fun (a : Int) (b : Int) => (.ok (a + b) : Res (Int))) (fun a b => o_add a b) ha hb
theorem r_sub_pp {a : Int} (ha : Ref (fa ρ) (.ok a)) {b : Int} (hb : Ref (fb ρ) (.ok b)) : Ref (VL.bin fa fb dSub ρ) ((.ok (a - b)) : Res (Int)) := r_binP (op := fun (a : Int) (b : Int) => (.ok (a - b) : Res (Int))) (fun a b => o_sub a b) ha hb
theorem r_sub_pe {a : Int} (ha : Ref (fa ρ) (.ok a)) {mb : Res (Int)} (hb : Ref (fb ρ) mb) : Ref (VL.bin fa fb dSub ρ) ((mb.bind fun b => .ok (a - b)) : Res (Int)) := r_bin (op := fun (a : Int) (b : Int) => (.ok (a - b) : Res (Int))) (fun a b => o_sub a b) ha hb
theorem r_sub_ep {ma : Res (Int)} (ha : Ref (fa ρ) ma) {b : Int} (hb : Ref (fb ρ) (.ok b)) : Ref (VL.bin fa fb dSub ρ) ((ma.bind fun a => .ok (a - b)) : Res (Int)) := r_bin (op := fun (a : Int) (b : Int) => (.ok (a - b) : Res (Int))) (fun a b => o_sub a b) ha hb
theorem r_sub_ee {ma : Res (Int)} (ha : Ref (fa ρ) ma) {mb : Res (Int)} (hb : Ref (fb ρ) mb) : Ref (VL.bin fa fb dSub ρ) ((ma.bind fun a => mb.bind fun b => .ok (a - b)) : Res (Int)) := r_bin (op := fun (a : Int) (b : Int) => (.ok (a - b) : Res (Int))) (fun a b => o_sub a b) ha hb
theorem r_addi_pp {a : Int} (ha : Ref (fa ρ) (.ok a)) {b : Int} (hb : Ref (fb ρ) (.ok b)) : Ref (VL.bin fa fb dAddI ρ) ((.ok (a + b)) : Res (Int)) := r_binP (op := fun (a : Int) (b : Int) => (.ok (a + b) : Res (Int))) (fun a b => o_addI a b) ha hb
theorem r_addi_pe {a : Int} (ha : Ref (fa ρ) (.ok a)) {mb : Res (Int)} (hb : Ref (fb ρ) mb) : Ref (VL.bin fa fb dAddI ρ) ((mb.bind fun b => .ok (a + b)) : Res (Int)) := r_bin (op := fun (a : Int) (b : Int) => (.ok (a + b) : Res (Int))) (fun a b => o_addI a b) ha hb
theorem r_addi_ep {ma : Res (Int)} (ha : Ref (fa ρ) ma) {b : Int} (hb : Ref (fb ρ) (.ok b)) : Ref (VL.bin fa fb dAddI ρ) ((ma.bind fun a => .ok (a + b)) : Res (Int)) := r_bin (op := fun (a : Int) (b : Int) => (.ok (a + b) : Res (Int))) (fun a b => o_addI a b) ha hb
theorem r_addi_ee {ma : Res (Int)} (ha : Ref (fa ρ) ma) {mb : Res (Int)} (hb : Ref (fb ρ) mb) : Ref (VL.bin fa fb dAddI ρ) ((ma.bind fun a => mb.bind fun b => .ok (a + b)) : Res (Int)) := r_bin (op := fun (a : Int) (b : Int) => (.ok (a + b) : Res (Int))) (fun a b => o_addI a b) ha hb
theorem r_mul_pp {a : Int} (ha : Ref (fa ρ) (.ok a)) {b : Int} (hb : Ref (fb ρ) (.ok b)) : Ref (VL.bin fa fb dMul ρ) ((mulz a b) : Res (Int)) := r_binP (op := fun (a : Int) (b : Int) => (mulz a b : Res (Int))) (fun a b => o_mul a b) ha hb
theorem r_mul_pe {a : Int} (ha : Ref (fa ρ) (.ok a)) {mb : Res (Int)} (hb : Ref (fb ρ) mb) : Ref (VL.bin fa fb dMul ρ) ((mb.bind fun b => mulz a b) : Res (Int)) := r_bin (op := fun (a : Int) (b : Int) => (mulz a b : Res (Int))) (fun a b => o_mul a b) ha hb
theorem r_mul_ep {ma : Res (Int)} (ha : Ref (fa ρ) ma) {b : Int} (hb : Ref (fb ρ) (.ok b)) : Ref (VL.bin fa fb dMul ρ) ((ma.bind fun a => mulz a b) : Res (Int)) := r_bin (op := fun (a : Int) (b : Int) => (mulz a b : Res (Int))) (fun a b => o_mul a b) ha hb
theorem r_mul_ee {ma : Res (Int)} (ha : Ref (fa ρ) ma) {mb : Res (Int)} (hb : Ref (fb ρ) mb) : Ref (VL.bin fa fb dMul ρ) ((ma.bind fun a => mb.bind fun b => mulz a b) : Res (Int)) := r_bin (op := fun (a : Int) (b : Int) => (mulz a b : Res (Int))) (fun a b => o_mul a b) ha hb
theorem r_div_pp {a : Int} (ha : Ref (fa ρ) (.ok a)) {b : Int} (hb : Ref (fb ρ) (.ok b)) : Ref (VL.bin fa fb dDiv ρ) ((divz a b) : Res (Int)) := r_binP (op := fun (a : Int) (b : Int) => (divz a b : Res (Int))) (fun a b => o_div a b) ha hb
theorem r_div_pe {a : Int} (ha : Ref (fa ρ) (.ok a)) {mb : Res (Int)} (hb : Ref (fb ρ) mb) : Ref (VL.bin fa fb dDiv ρ) ((mb.bind fun b => divz a b) : Res (Int)) := r_bin (op := fun (a : Int) (b : Int) => (divz a b : Res (Int))) (fun a b => o_div a b) ha hb
theorem r_div_ep {ma : Res (Int)} (ha : Ref (fa ρ) ma) {b : Int} (hb : Ref (fb ρ) (.ok b)) : Ref (VL.bin fa fb dDiv ρ) ((ma.bind fun a => divz a b) : Res (Int)) := r_bin (op := fun (a : Int) (b : Int) => (divz a b : Res (Int))) (fun a b => o_div a b) ha hb
theorem r_div_ee {ma : Res (Int)} (ha : Ref (fa ρ) ma) {mb : Res (Int)} (hb : Ref (fb ρ) mb) : Ref (VL.bin fa fb dDiv ρ) ((ma.bind fun a => mb.bind fun b => divz a b) : Res (Int)) := r_bin (op := fun (a : Int) (b : Int) => (divz a b : Res (Int))) (fun a b => o_div a b) ha hb
theorem r_mod_pp {a : Int} (ha : Ref (fa ρ) (.ok a)) {b : Int} (hb : Ref (fb ρ) (.ok b)) : Ref (VL.bin fa fb dMod ρ) ((modz a b) : Res (Int)) := r_binP (op := fun (a : Int) (b : Int) => (modz a b : Res (Int))) (fun a b => o_mod a b) ha hb
theorem r_mod_pe {a : Int} (ha : Ref (fa ρ) (.ok a)) {mb : Res (Int)} (hb : Ref (fb ρ) mb) : Ref (VL.bin fa fb dMod ρ) ((mb.bind fun b => modz a b) : Res (Int)) := r_bin (op := fun (a : Int) (b : Int) => (modz a b : Res (Int))) (fun a b => o_mod a b) ha hb
theorem r_mod_ep {ma : Res (Int)} (ha : Ref (fa ρ) ma) {b : Int} (hb : Ref (fb ρ) (.ok b)) : Ref (VL.bin fa fb dMod ρ) ((ma.bind fun a => modz a b) : Res (Int)) := r_bin (op := fun (a : Int) (b : Int) => (modz a b : Res (Int))) (fun a b => o_mod a b) ha hb
theorem r_mod_ee {ma : Res (Int)} (ha : Ref (fa ρ) ma) {mb : Res (Int)} (hb : Ref (fb ρ) mb) : Ref (VL.bin fa fb dMod ρ) ((ma.bind fun a => mb.bind fun b => modz a b) : Res (Int)) := r_bin (op := fun (a : Int) (b : Int) => (modz a b : Res (Int))) (fun a b => o_mod a b) ha hb
theorem r_pow_pp {a : Int} (ha : Ref (fa ρ) (.ok a)) {b : Int} (hb : Ref (fb ρ) (.ok b)) : Ref (VL.bin fa fb dPow ρ) ((powz a b) : Res (Int)) := r_binP (op := fun (a : Int) (b : Int) => (powz a b : Res (Int))) (fun a b => o_pow a b) ha hb
theorem r_pow_pe {a : Int} (ha : Ref (fa ρ) (.ok a)) {mb : Res (Int)} (hb : Ref (fb ρ) mb) : Ref (VL.bin fa fb dPow ρ) ((mb.bind fun b => powz a b) : Res (Int)) := r_bin (op := fun (a : Int) (b : Int) => (powz a b : Res (Int))) (fun a b => o_pow a b) ha hb
theorem r_pow_ep {ma : Res (Int)} (ha : Ref (fa ρ) ma) {b : Int} (hb : Ref (fb ρ) (.ok b)) : Ref (VL.bin fa fb dPow ρ) ((ma.bind fun a => powz a b) : Res (Int)) := r_bin (op := fun (a : Int) (b : Int) => (powz a b : Res (Int))) (fun a b => o_pow a b) ha hb
theorem r_pow_ee {ma : Res (Int)} (ha : Ref (fa ρ) ma) {mb : Res (Int)} (hb : Ref (fb ρ) mb) : Ref (VL.bin fa fb dPow ρ) ((ma.bind fun a => mb.bind fun b => powz a b) : Res (Int)) := r_bin (op := fun (a : Int) (b : Int) => (powz a b : Res (Int))) (fun a b => o_pow a b) ha hb
theorem r_adds_pp {a : Str} (ha : Ref (fa ρ) (.ok a)) {b : Str} (hb : Ref (fb ρ) (.ok b)) : Ref (VL.bin fa fb dAdd ρ) ((catS a b) : Res (Str)) := r_binP (op := fun (a : Str) (b : Str) => (catS a b : Res (Str))) (fun a b => o_addS a b) ha hb
theorem r_adds_pe {a : Str} (ha : Ref (fa ρ) (.ok a)) {mb : Res (Str)} (hb : Ref (fb ρ) mb) : Ref (VL.bin fa fb dAdd ρ) ((mb.bind fun b => catS a b) : Res (Str)) := r_bin (op := fun (a : Str) (b : Str) => (catS a b : Res (Str))) (fun a b => o_addS a b) ha hb
theorem r_adds_ep {ma : Res (Str)} (ha : Ref (fa ρ) ma) {b : Str} (hb : Ref (fb ρ) (.ok b)) : Ref (VL.bin fa fb dAdd ρ) ((ma.bind fun a => catS a b) : Res (Str)) := r_bin (op := fun (a : Str) (b : Str) => (catS a b : Res (Str))) (fun a b => o_addS a b) ha hb
theorem r_adds_ee {ma : Res (Str)} (ha : Ref (fa ρ) ma) {mb : Res (Str)} (hb : Ref (fb ρ) mb) : Ref (VL.bin fa fb dAdd ρ) ((ma.bind fun a => mb.bind fun b => catS a b) : Res (Str)) := r_bin (op := fun (a : Str) (b : Str) => (catS a b : Res (Str))) (fun a b => o_addS a b) ha hb
theorem r_addis_pp {a : Str} (ha : Ref (fa ρ) (.ok a)) {b : Str} (hb : Ref (fb ρ) (.ok b)) : Ref (VL.bin fa fb dAddI ρ) ((catS a b) : Res (Str)) := r_binP (op := fun (a : Str) (b : Str) => (catS a b : Res (Str))) (fun a b => o_addIS a b) ha hb
theorem r_addis_pe {a : Str} (ha : Ref (fa ρ) (.ok a)) {mb : Res (Str)} (hb : Ref (fb ρ) mb) : Ref (VL.bin fa fb dAddI ρ) ((mb.bind fun b => catS a b) : Res (Str)) := r_bin (op := fun (a : Str) (b : Str) => (catS a b : Res (Str))) (fun a b => o_addIS a b) ha hb
theorem r_addis_ep {ma : Res (Str)} (ha : Ref (fa ρ) ma) {b : Str} (hb : Ref (fb ρ) (.ok b)) : Ref (VL.bin fa fb dAddI ρ) ((ma.bind fun a => catS a b) : Res (Str)) := r_bin (op := fun (a : Str) (b : Str) => (catS a b : Res (Str))) (fun a b => o_addIS a b) ha hb
theorem r_addis_ee {ma : Res (Str)} (ha : Ref (fa ρ) ma) {mb : Res (Str)} (hb : Ref (fb ρ) mb) : Ref (VL.bin fa fb dAddI ρ) ((ma.bind fun a => mb.bind fun b => catS a b) : Res (Str)) := r_bin (op := fun (a : Str) (b : Str) => (catS a b : Res (Str))) (fun a b => o_addIS a b) ha hb
theorem r_addl_pp {a : List α} (ha : Ref (fa ρ) (.ok a)) {b : List α} (hb : Ref (fb ρ) (.ok b)) : Ref (VL.bin fa fb dAdd ρ) ((cat a b) : Res (List α)) := r_binP (op := fun (a : List α) (b : List α) => (cat a b : Res (List α))) (fun a b => o_addL a b) ha hb
theorem r_addl_pe {a : List α} (ha : Ref (fa ρ) (.ok a)) {mb : Res (List α)} (hb : Ref (fb ρ) mb) : Ref (VL.bin fa fb dAdd ρ) ((mb.bind fun b => cat a b) : Res (List α)) := r_bin (op := fun (a : List α) (b : List α) => (cat a b : Res (List α))) (fun a b => o_addL a b) ha hb
theorem r_addl_ep {ma : Res (List α)} (ha : Ref (fa ρ) ma) {b : List α} (hb : Ref (fb ρ) (.ok b)) : Ref (VL.bin fa fb dAdd ρ) ((ma.bind fun a => cat a b) : Res (List α)) := r_bin (op := fun (a : List α) (b : List α) => (cat a b : Res (List α))) (fun a b => o_addL a b) ha hb
theorem r_addl_ee {ma : Res (List α)} (ha : Ref (fa ρ) ma) {mb : Res (List α)} (hb : Ref (fb ρ) mb) : Ref (VL.bin fa fb dAdd ρ) ((ma.bind fun a => mb.bind fun b => cat a b) : Res (List α)) := r_bin (op := fun (a : List α) (b : List α) => (cat a b : Res (List α))) (fun a b => o_addL a b) ha hb
theorem r_addu_pp {a : Tu α} (ha : Ref (fa ρ) (.ok a)) {b : Tu α} (hb : Ref (fb ρ) (.ok b)) : Ref (VL.bin fa fb dAdd ρ) ((catU a b) : Res (Tu α)) := r_binP (op := fun (a : Tu α) (b : Tu α) => (catU a b : Res (Tu α))) (fun a b => o_addU a b) ha hb
theorem r_addu_pe {a : Tu α} (ha : Ref (fa ρ) (.ok a)) {mb : Res (Tu α)} (hb : Ref (fb ρ) mb) : Ref (VL.bin fa fb dAdd ρ) ((mb.bind fun b => catU a b) : Res (Tu α)) := r_bin (op := fun (a : Tu α) (b : Tu α) => (catU a b : Res (Tu α))) (fun a b => o_addU a b) ha hb
theorem r_addu_ep {ma : Res (Tu α)} (ha : Ref (fa ρ) ma) {b : Tu α} (hb : Ref (fb ρ) (.ok b)) : Ref (VL.bin fa fb dAdd ρ) ((ma.bind fun a => catU a b) : Res (Tu α)) := r_bin (op := fun (a : Tu α) (b : Tu α) => (catU a b : Res (Tu α))) (fun a b => o_addU a b) ha hb
theorem r_addu_ee {ma : Res (Tu α)} (ha : Ref (fa ρ) ma) {mb : Res (Tu α)} (hb : Ref (fb ρ) mb) : Ref (VL.bin fa fb dAdd ρ) ((ma.bind fun a => mb.bind fun b => catU a b) : Res (Tu α)) := r_bin (op := fun (a : Tu α) (b : Tu α) => (catU a b : Res (Tu α))) (fun a b => o_addU a b) ha hb
theorem r_ix_pp {a : List α} (ha : Ref (fa ρ) (.ok a)) {b : Int} (hb : Ref (fb ρ) (.ok b)) : Ref (VL.bin fa fb dIx ρ) ((ix a b) : Res (α)) := r_binP (op := fun (a : List α) (b : Int) => (ix a b : Res (α))) (fun a b => o_ix a b) ha hb
theorem r_ix_pe {a : List α} (ha : Ref (fa ρ) (.ok a)) {mb : Res (Int)} (hb : Ref (fb ρ) mb) : Ref (VL.bin fa fb dIx ρ) ((mb.bind fun b => ix a b) : Res (α)) := r_bin (op := fun (a : List α) (b : Int) => (ix a b : Res (α))) (fun a b => o_ix a b) ha hb
theorem r_ix_ep {ma : Res (List α)} (ha : Ref (fa ρ) ma) {b : Int} (hb : Ref (fb ρ) (.ok b)) : Ref (VL.bin fa fb dIx ρ) ((ma.bind fun a => ix a b) : Res (α)) := r_bin (op := fun (a : List α) (b : Int) => (ix a b : Res (α))) (fun a b => o_ix a b) ha hb
theorem r_ix_ee {ma : Res (List α)} (ha : Ref (fa ρ) ma) {mb : Res (Int)} (hb : Ref (fb ρ) mb) : Ref (VL.bin fa fb dIx ρ) ((ma.bind fun a => mb.bind fun b => ix a b) : Res (α)) := r_bin (op := fun (a : List α) (b : Int) => (ix a b : Res (α))) (fun a b => o_ix a b) ha hb
theorem r_ixu_pp {a : Tu α} (ha : Ref (fa ρ) (.ok a)) {b : Int} (hb : Ref (fb ρ) (.ok b)) : Ref (VL.bin fa fb dIx ρ) ((ixU a b) : Res (α)) := r_binP (op := fun (a : Tu α) (b : Int) => (ixU a b : Res (α))) (fun a b => o_ixU a b) ha hb
theorem r_ixu_pe {a : Tu α} (ha : Ref (fa ρ) (.ok a)) {mb : Res (Int)} (hb : Ref (fb ρ) mb) : Ref (VL.bin fa fb dIx ρ) ((mb.bind fun b => ixU a b) : Res (α)) := r_bin (op := fun (a : Tu α) (b : Int) => (ixU a b : Res (α))) (fun a b => o_ixU a b) ha hb
theorem r_ixu_ep {ma : Res (Tu α)} (ha : Ref (fa ρ) ma) {b : Int} (hb : Ref (fb ρ) (.ok b)) : Ref (VL.bin fa fb dIx ρ) ((ma.bind fun a => ixU a b) : Res (α)) := r_bin (op := fun (a : Tu α) (b : Int) => (ixU a b : Res (α))) (fun a b => o_ixU a b) ha hb
theorem r_ixu_ee {ma : Res (Tu α)} (ha : Ref (fa ρ) ma) {mb : Res (Int)} (hb : Ref (fb ρ) mb) : Ref (VL.bin fa fb dIx ρ) ((ma.bind fun a => mb.bind fun b => ixU a b) : Res (α)) := r_bin (op := fun (a : Tu α) (b : Int) => (ixU a b : Res (α))) (fun a b => o_ixU a b) ha hb
theorem r_ixs_pp {a : Str} (ha : Ref (fa ρ) (.ok a)) {b : Int} (hb : Ref (fb ρ) (.ok b)) : Ref (VL.bin fa fb dIx ρ) ((ixS a b) : Res (Str)) := r_binP (op := fun (a : Str) (b : Int) => (ixS a b : Res (Str))) (fun a b => o_ixS a b) ha hb
theorem r_ixs_pe {a : Str} (ha : Ref (fa ρ) (.ok a)) {mb : Res (Int)} (hb : Ref (fb ρ) mb) : Ref (VL.bin fa fb dIx ρ) ((mb.bind fun b => ixS a b) : Res (Str)) := r_bin (op := fun (a : Str) (b : Int) => (ixS a b : Res (Str))) (fun a b => o_ixS a b) ha hb
theorem r_ixs_ep {ma : Res (Str)} (ha : Ref (fa ρ) ma) {b : Int} (hb : Ref (fb ρ) (.ok b)) : Ref (VL.bin fa fb dIx ρ) ((ma.bind fun a => ixS a b) : Res (Str)) := r_bin (op := fun (a : Str) (b : Int) => (ixS a b : Res (Str))) (fun a b => o_ixS a b) ha hb
theorem r_ixs_ee {ma : Res (Str)} (ha : Ref (fa ρ) ma) {mb : Res (Int)} (hb : Ref (fb ρ) mb) : Ref (VL.bin fa fb dIx ρ) ((ma.bind fun a => mb.bind fun b => ixS a b) : Res (Str)) := r_bin (op := fun (a : Str) (b : Int) => (ixS a b : Res (Str))) (fun a b => o_ixS a b) ha hb
theorem r_max2_pp {a : Int} (ha : Ref (fa ρ) (.ok a)) {b : Int} (hb : Ref (fb ρ) (.ok b)) : Ref (VL.bin fa fb dMax2 ρ) ((.ok (max a b)) : Res (Int)) := r_binP (op := fun (a : Int) (b : Int) => (.ok (max a b) : Res (Int))) (fun a b => o_max2 a b) ha hb
theorem r_max2_pe {a : Int} (ha : Ref (fa ρ) (.ok a)) {mb : Res (Int)} (hb : Ref (fb ρ) mb) : Ref (VL.bin fa fb dMax2 ρ) ((mb.bind fun b => .ok (max a b)) : Res (Int)) := r_bin (op := fun (a : Int) (b : Int) => (.ok (max a b) : Res (Int))) (fun a b => o_max2 a b) ha hb
theorem r_max2_ep {ma : Res (Int)} (ha : Ref (fa ρ) ma) {b : Int} (hb : Ref (fb ρ) (.ok b)) : Ref (VL.bin fa fb dMax2 ρ) ((ma.bind fun a => .ok (max a b)) : Res (Int)) := r_bin (op := fun (a : Int) (b : Int) => (.ok (max a b) : Res (Int))) (fun a b => o_max2 a b) ha hb
theorem r_max2_ee {ma : Res (Int)} (ha : Ref (fa ρ) ma) {mb : Res (Int)} (hb : Ref (fb ρ) mb) : Ref (VL.bin fa fb dMax2 ρ) ((ma.bind fun a => mb.bind fun b => .ok (max a b)) : Res (Int)) := r_bin (op := fun (a : Int) (b : Int) => (.ok (max a b) : Res (Int))) (fun a b => o_max2 a b) ha hb
theorem r_min2_pp {a : Int} (ha : Ref (fa ρ) (.ok a)) {b : Int} (hb : Ref (fb ρ) (.ok b)) : Ref (VL.bin fa fb dMin2 ρ) ((.ok (min a b)) : Res (Int)) := r_binP (op := fun (a : Int) (b : Int) => (.ok (min a b) : Res (Int))) (fun a b => o_min2 a b) ha hb
theorem r_min2_pe {a : Int} (ha : Ref (fa ρ) (.ok a)) {mb : Res (Int)} (hb : Ref (fb ρ) mb) : Ref (VL.bin fa fb dMin2 ρ) ((mb.bind fun b => .ok (min a b)) : Res (Int)) := r_bin (op := fun (a : Int) (b : Int) => (.ok (min a b) : Res (Int))) (fun a b => o_min2 a b) ha hb
theorem r_min2_ep {ma : Res (Int)} (ha : Ref (fa ρ) ma) {b : Int} (hb : Ref (fb ρ) (.ok b)) : Ref (VL.bin fa fb dMin2 ρ) ((ma.bind fun a => .ok (min a b)) : Res (Int)) := r_bin (op := fun (a : Int) (b : Int) => (.ok (min a b) : Res (Int))) (fun a b => o_min2 a b) ha hb
theorem r_min2_ee {ma : Res (Int)} (ha : Ref (fa ρ) ma) {mb : Res (Int)} (hb : Ref (fb ρ) mb) : Ref (VL.bin fa fb dMin2 ρ) ((ma.bind fun a => mb.bind fun b => .ok (min a b)) : Res (Int)) := r_bin (op := fun (a : Int) (b : Int) => (.ok (min a b) : Res (Int))) (fun a b => o_min2 a b) ha hb
theorem r_addd_pp {a : α} (ha : Ref (fa ρ) (.ok a)) {b : β} (hb : Ref (fb ρ) (.ok b)) : Ref (VL.bin fa fb dAdd ρ) ((Res.of (dAdd (enc a) (enc b))) : Res (D)) := r_binP (op := fun (a : α) (b : β) => (Res.of (dAdd (enc a) (enc b)) : Res (D))) (fun a b => o_any dAdd a b) ha hb
theorem r_addd_pe {a : α} (ha : Ref (fa ρ) (.ok a)) {mb : Res (β)} (hb : Ref (fb ρ) mb) : Ref (VL.bin fa fb dAdd ρ) ((mb.bind fun b => Res.of (dAdd (enc a) (enc b))) : Res (D)) := r_bin (op := fun (a : α) (b : β) => (Res.of (dAdd (enc a) (enc b)) : Res (D))) (fun a b => o_any dAdd a b) ha hb
theorem r_addd_ep {ma : Res (α)} (ha : Ref (fa ρ) ma) {b : β} (hb : Ref (fb ρ) (.ok b)) : Ref (VL.bin fa fb dAdd ρ) ((ma.bind fun a => Res.of (dAdd (enc a) (enc b))) : Res (D)) := r_bin (op := fun (a : α) (b : β) => (Res.of (dAdd (enc a) (enc b)) : Res (D))) (fun a b => o_any dAdd a b) ha hb
theorem r_addd_ee {ma : Res (α)} (ha : Ref (fa ρ) ma) {mb : Res (β)} (hb : Ref (fb ρ) mb) : Ref (VL.bin fa fb dAdd ρ) ((ma.bind fun a => mb.bind fun b => Res.of (dAdd (enc a) (enc b))) : Res (D)) := r_bin (op := fun (a : α) (b : β) => (Res.of (dAdd (enc a) (enc b)) : Res (D))) (fun a b => o_any dAdd a b) ha hb
theorem r_subd_pp {a : α} (ha : Ref (fa ρ) (.ok a)) {b : β} (hb : Ref (fb ρ) (.ok b)) : Ref (VL.bin fa fb dSub ρ) ((Res.of (dSub (enc a) (enc b))) : Res (D)) := r_binP (op := fun (a : α) (b : β) => (Res.of (dSub (enc a) (enc b)) : Res (D))) (fun a b => o_any dSub a b) ha hb
theorem r_subd_pe {a : α} (ha : Ref (fa ρ) (.ok a)) {mb : Res (β)} (hb : Ref (fb ρ) mb) : Ref (VL.bin fa fb dSub ρ) ((mb.bind fun b => Res.of (dSub (enc a) (enc b))) : Res (D)) := r_bin (op := fun (a : α) (b : β) => (Res.of (dSub (enc a) (enc b)) : Res (D))) (fun a b => o_any dSub a b) ha hb
theorem r_subd_ep {ma : Res (α)} (ha : Ref (fa ρ) ma) {b : β} (hb : Ref (fb ρ) (.ok b)) : Ref (VL.bin fa fb dSub ρ) ((ma.bind fun a => Res.of (dSub (enc a) (enc b))) : Res (D)) := r_bin (op := fun (a : α) (b : β) => (Res.of (dSub (enc a) (enc b)) : Res (D))) (fun a b => o_any dSub a b) ha hb
theorem r_subd_ee {ma : Res (α)} (ha : Ref (fa ρ) ma) {mb : Res (β)} (hb : Ref (fb ρ) mb) : Ref (VL.bin fa fb dSub ρ) ((ma.bind fun a => mb.bind fun b => Res.of (dSub (enc a) (enc b))) : Res (D)) := r_bin (op := fun (a : α) (b : β) => (Res.of (dSub (enc a) (enc b)) : Res (D))) (fun a b => o_any dSub a b) ha hb
theorem r_muld_pp {a : α} (ha : Ref (fa ρ) (.ok a)) {b : β} (hb : Ref (fb ρ) (.ok b)) : Ref (VL.bin fa fb dMul ρ) ((Res.of (dMul (enc a) (enc b))) : Res (D)) := r_binP (op := fun (a : α) (b : β) => (Res.of (dMul (enc a) (enc b)) : Res (D))) (fun a b => o_any dMul a b) ha hb
theorem r_muld_pe {a : α} (ha : Ref (fa ρ) (.ok a)) {mb : Res (β)} (hb : Ref (fb ρ) mb) : Ref (VL.bin fa fb dMul ρ) ((mb.bind fun b => Res.of (dMul (enc a) (enc b))) : Res (D)) := r_bin (op := fun (a : α) (b : β) => (Res.of (dMul (enc a) (enc b)) : Res (D))) (fun a b => o_any dMul a b) ha hb
theorem r_muld_ep {ma : Res (α)} (ha : Ref (fa ρ) ma) {b : β} (hb : Ref (fb ρ) (.ok b)) : Ref (VL.bin fa fb dMul ρ) ((ma.bind fun a => Res.of (dMul (enc a) (enc b))) : Res (D)) := r_bin (op := fun (a : α) (b : β) => (Res.of (dMul (enc a) (enc b)) : Res (D))) (fun a b => o_any dMul a b) ha hb
theorem r_muld_ee {ma : Res (α)} (ha : Ref (fa ρ) ma) {mb : Res (β)} (hb : Ref (fb ρ) mb) : Ref (VL.bin fa fb dMul ρ) ((ma.bind fun a => mb.bind fun b => Res.of (dMul (enc a) (enc b))) : Res (D)) := r_bin (op := fun (a : α) (b : β) => (Res.of (dMul (enc a) (enc b)) : Res (D))) (fun a b => o_any dMul a b) ha hb
theorem r_divd_pp {a : α} (ha : Ref (fa ρ) (.ok a)) {b : β} (hb : Ref (fb ρ) (.ok b)) : Ref (VL.bin fa fb dDiv ρ) ((Res.of (dDiv (enc a) (enc b))) : Res (D)) := r_binP (op := fun (a : α) (b : β) => (Res.of (dDiv (enc a) (enc b)) : Res (D))) (fun a b => o_any dDiv a b) ha hb
theorem r_divd_pe {a : α} (ha : Ref (fa ρ) (.ok a)) {mb : Res (β)} (hb : Ref (fb ρ) mb) : Ref (VL.bin fa fb dDiv ρ) ((mb.bind fun b => Res.of (dDiv (enc a) (enc b))) : Res (D)) := r_bin (op := fun (a : α) (b : β) => (Res.of (dDiv (enc a) (enc b)) : Res (D))) (fun a b => o_any dDiv a b) ha hb
theorem r_divd_ep {ma : Res (α)} (ha : Ref (fa ρ) ma) {b : β} (hb : Ref (fb ρ) (.ok b)) : Ref (VL.bin fa fb dDiv ρ) ((ma.bind fun a => Res.of (dDiv (enc a) (enc b))) : Res (D)) := r_bin (op := fun (a : α) (b : β) => (Res.of (dDiv (enc a) (enc b)) : Res (D))) (fun a b => o_any dDiv a b) ha hb
theorem r_divd_ee {ma : Res (α)} (ha : Ref (fa ρ) ma) {mb : Res (β)} (hb : Ref (fb ρ) mb) : Ref (VL.bin fa fb dDiv ρ) ((ma.bind fun a => mb.bind fun b => Res.of (dDiv (enc a) (enc b))) : Res (D)) := r_bin (op := fun (a : α) (b : β) => (Res.of (dDiv (enc a) (enc b)) : Res (D))) (fun a b => o_any dDiv a b) ha hb
theorem r_modd_pp {a : α} (ha : Ref (fa ρ) (.ok a)) {b : β} (hb : Ref (fb ρ) (.ok b)) : Ref (VL.bin fa fb dMod ρ) ((Res.of (dMod (enc a) (enc b))) : Res (D)) := r_binP (op := fun (a : α) (b : β) => (Res.of (dMod (enc a) (enc b)) : Res (D))) (fun a b => o_any dMod a b) ha hb
theorem r_modd_pe {a : α} (ha : Ref (fa ρ) (.ok a)) {mb : Res (β)} (hb : Ref (fb ρ) mb) : Ref (VL.bin fa fb dMod ρ) ((mb.bind fun b => Res.of (dMod (enc a) (enc b))) : Res (D)) := r_bin (op := fun (a : α) (b : β) => (Res.of (dMod (enc a) (enc b)) : Res (D))) (fun a b => o_any dMod a b) ha hb
theorem r_modd_ep {ma : Res (α)} (ha : Ref (fa ρ) ma) {b : β} (hb : Ref (fb ρ) (.ok b)) : Ref (VL.bin fa fb dMod ρ) ((ma.bind fun a => Res.of (dMod (enc a) (enc b))) : Res (D)) := r_bin (op := fun (a : α) (b : β) => (Res.of (dMod (enc a) (enc b)) : Res (D))) (fun a b => o_any dMod a b) ha hb
theorem r_modd_ee {ma : Res (α)} (ha : Ref (fa ρ) ma) {mb : Res (β)} (hb : Ref (fb ρ) mb) : Ref (VL.bin fa fb dMod ρ) ((ma.bind fun a => mb.bind fun b => Res.of (dMod (enc a) (enc b))) : Res (D)) := r_bin (op := fun (a : α) (b : β) => (Res.of (dMod (enc a) (enc b)) : Res (D))) (fun a b => o_any dMod a b) ha hb
theorem r_ixd_pp {a : α} (ha : Ref (fa ρ) (.ok a)) {b : β} (hb : Ref (fb ρ) (.ok b)) : Ref (VL.bin fa fb dIx ρ) ((Res.of (dIx (enc a) (enc b))) : Res (D)) := r_binP (op := fun (a : α) (b : β) => (Res.of (dIx (enc a) (enc b)) : Res (D))) (fun a b => o_any dIx a b) ha hb
theorem r_ixd_pe {a : α} (ha : Ref (fa ρ) (.ok a)) {mb : Res (β)} (hb : Ref (fb ρ) mb) : Ref (VL.bin fa fb dIx ρ) ((mb.bind fun b => Res.of (dIx (enc a) (enc b))) : Res (D)) := r_bin (op := fun (a : α) (b : β) => (Res.of (dIx (enc a) (enc b)) : Res (D))) (fun a b => o_any dIx a b) ha hb
theorem r_ixd_ep {ma : Res (α)} (ha : Ref (fa ρ) ma) {b : β} (hb : Ref (fb ρ) (.ok b)) : Ref (VL.bin fa fb dIx ρ) ((ma.bind fun a => Res.of (dIx (enc a) (enc b))) : Res (D)) := r_bin (op := fun (a : α) (b : β) => (Res.of (dIx (enc a) (enc b)) : Res (D))) (fun a b => o_any dIx a b) ha hb
theorem r_ixd_ee {ma : Res (α)} (ha : Ref (fa ρ) ma) {mb : Res (β)} (hb : Ref (fb ρ) mb) : Ref (VL.bin fa fb dIx ρ) ((ma.bind fun a => mb.bind fun b => Res.of (dIx (enc a) (enc b))) : Res (D)) := r_bin (op := fun (a : α) (b : β) => (Res.of (dIx (enc a) (enc b)) : Res (D))) (fun a b => o_any dIx a b) ha hb
theorem r_max2d_pp {a : α} (ha : Ref (fa ρ) (.ok a)) {b : β} (hb : Ref (fb ρ) (.ok b)) : Ref (VL.bin fa fb dMax2 ρ) ((Res.of (dMax2 (enc a) (enc b))) : Res (D)) := r_binP (op := fun (a : α) (b : β) => (Res.of (dMax2 (enc a) (enc b)) : Res (D))) (fun a b => o_any dMax2 a b) ha hb
theorem r_max2d_pe {a : α} (ha : Ref (fa ρ) (.ok a)) {mb : Res (β)} (hb : Ref (fb ρ) mb) : Ref (VL.bin fa fb dMax2 ρ) ((mb.bind fun b => Res.of (dMax2 (enc a) (enc b))) : Res (D)) := r_bin (op := fun (a : α) (b : β) => (Res.of (dMax2 (enc a) (enc b)) : Res (D))) (fun a b => o_any dMax2 a b) ha hb
theorem r_max2d_ep {ma : Res (α)} (ha : Ref (fa ρ) ma) {b : β} (hb : Ref (fb ρ) (.ok b)) : Ref (VL.bin fa fb dMax2 ρ) ((ma.bind fun a => Res.of (dMax2 (enc a) (enc b))) : Res (D)) := r_bin (op := fun (a : α) (b : β) => (Res.of (dMax2 (enc a) (enc b)) : Res (D))) (fun a b => o_any dMax2 a b) ha hb
theorem r_max2d_ee {ma : Res (α)} (ha : Ref (fa ρ) ma) {mb : Res (β)} (hb : Ref (fb ρ) mb) : Ref (VL.bin fa fb dMax2 ρ) ((ma.bind fun a => mb.bind fun b => Res.of (dMax2 (enc a) (enc b))) : Res (D)) := r_bin (op := fun (a : α) (b : β) => (Res.of (dMax2 (enc a) (enc b)) : Res (D))) (fun a b => o_any dMax2 a b) ha hb
theorem r_min2d_pp {a : α} (ha : Ref (fa ρ) (.ok a)) {b : β} (hb : Ref (fb ρ) (.ok b)) : Ref (VL.bin fa fb dMin2 ρ) ((Res.of (dMin2 (enc a) (enc b))) : Res (D)) := r_binP (op := fun (a : α) (b : β) => (Res.of (dMin2 (enc a) (enc b)) : Res (D))) (fun a b => o_any dMin2 a b) ha hb
theorem r_min2d_pe {a : α} (ha : Ref (fa ρ) (.ok a)) {mb : Res (β)} (hb : Ref (fb ρ) mb) : Ref (VL.bin fa fb dMin2 ρ) ((mb.bind fun b => Res.of (dMin2 (enc a) (enc b))) : Res (D)) := r_bin (op := fun (a : α) (b : β) => (Res.of (dMin2 (enc a) (enc b)) : Res (D))) (fun a b => o_any dMin2 a b) ha hb
theorem r_min2d_ep {ma : Res (α)} (ha : Ref (fa ρ) ma) {b : β} (hb : Ref (fb ρ) (.ok b)) : Ref (VL.bin fa fb dMin2 ρ) ((ma.bind fun a => Res.of (dMin2 (enc a) (enc b))) : Res (D)) := r_bin (op := fun (a : α) (b : β) => (Res.of (dMin2 (enc a) (enc b)) : Res (D))) (fun a b => o_any dMin2 a b) ha hb
theorem r_min2d_ee {ma : Res (α)} (ha : Ref (fa ρ) ma) {mb : Res (β)} (hb : Ref (fb ρ) mb) : Ref (VL.bin fa fb dMin2 ρ) ((ma.bind fun a => mb.bind fun b => Res.of (dMin2 (enc a) (enc b))) : Res (D)) := r_bin (op := fun (a : α) (b : β) => (Res.of (dMin2 (enc a) (enc b)) : Res (D))) (fun a b => o_any dMin2 a b) ha hb
theorem r_addid_pp {a : α} (ha : Ref (fa ρ) (.ok a)) {b : β} (hb : Ref (fb ρ) (.ok b)) : Ref (VL.bin fa fb dAddI ρ) ((Res.of (dAddI (enc a) (enc b))) : Res (D)) := r_binP (op := fun (a : α) (b : β) => (Res.of (dAddI (enc a) (enc b)) : Res (D))) (fun a b => o_any dAddI a b) ha hb
theorem r_addid_pe {a : α} (ha : Ref (fa ρ) (.ok a)) {mb : Res (β)} (hb : Ref (fb ρ) mb) : Ref (VL.bin fa fb dAddI ρ) ((mb.bind fun b => Res.of (dAddI (enc a) (enc b))) : Res (D)) := r_bin (op := fun (a : α) (b : β) => (Res.of (dAddI (enc a) (enc b)) : Res (D))) (fun a b => o_any dAddI a b) ha hb
theorem r_addid_ep {ma : Res (α)} (ha : Ref (fa ρ) ma) {b : β} (hb : Ref (fb ρ) (.ok b)) : Ref (VL.bin fa fb dAddI ρ) ((ma.bind fun a => Res.of (dAddI (enc a) (enc b))) : Res (D)) := r_bin (op := fun (a : α) (b : β) => (Res.of (dAddI (enc a) (enc b)) : Res (D))) (fun a b => o_any dAddI a b) ha hb
theorem r_addid_ee {ma : Res (α)} (ha : Ref (fa ρ) ma) {mb : Res (β)} (hb : Ref (fb ρ) mb) : Ref (VL.bin fa fb dAddI ρ) ((ma.bind fun a => mb.bind fun b => Res.of (dAddI (enc a) (enc b))) : Res (D)) := r_bin (op := fun (a : α) (b : β) => (Res.of (dAddI (enc a) (enc b)) : Res (D))) (fun a b => o_any dAddI a b) ha hb
theorem r_lt_pp {a : Int} (ha : Ref (fa ρ) (.ok a)) {b : Int} (hb : Ref (fb ρ) (.ok b)) : RefB (binB fa fb dLt ρ) ((.ok (decide (a < b))) : Res (Bool)) := r_binBP (op := fun (a : Int) (b : Int) => (.ok (decide (a < b)) : Res (Bool))) (fun a b => o_lt a b) ha hb
theorem r_lt_pe {a : Int} (ha : Ref (fa ρ) (.ok a)) {mb : Res (Int)} (hb : Ref (fb ρ) mb) : RefB (binB fa fb dLt ρ) ((mb.bind fun b => .ok (decide (a < b))) : Res (Bool)) := r_binB (op := fun (a : Int) (b : Int) => (.ok (decide (a < b)) : Res (Bool))) (fun a b => o_lt a b) ha hb
theorem r_lt_ep {ma : Res (Int)} (ha : Ref (fa ρ) ma) {b : Int} (hb : Ref (fb ρ) (.ok b)) : RefB (binB fa fb dLt ρ) ((ma.bind fun a => .ok (decide (a < b))) : Res (Bool)) := r_binB (op := fun (a : Int) (b : Int) => (.ok (decide (a < b)) : Res (Bool))) (fun a b => o_lt a b) ha hb
theorem r_lt_ee {ma : Res (Int)} (ha : Ref (fa ρ) ma) {mb : Res (Int)} (hb : Ref (fb ρ) mb) : RefB (binB fa fb dLt ρ) ((ma.bind fun a => mb.bind fun b => .ok (decide (a < b))) : Res (Bool)) := r_binB (op := fun (a : Int) (b : Int) => (.ok (decide (a < b)) : Res (Bool))) (fun a b => o_lt a b) ha hb
theorem r_le_pp {a : Int} (ha : Ref (fa ρ) (.ok a)) {b : Int} (hb : Ref (fb ρ) (.ok b)) : RefB (binB fa fb dLe ρ) ((.ok (decide (a ≤ b))) : Res (Bool)) := r_binBP (op := fun (a : Int) (b : Int) => (.ok (decide (a ≤ b)) : Res (Bool))) (fun a b => o_le a b) ha hb
theorem r_le_pe {a : Int} (ha : Ref (fa ρ) (.ok a)) {mb : Res (Int)} (hb : Ref (fb ρ) mb) : RefB (binB fa fb dLe ρ) ((mb.bind fun b => .ok (decide (a ≤ b))) : Res (Bool)) := r_binB (op := fun (a : Int) (b : Int) => (.ok (decide (a ≤ b)) : Res (Bool))) (fun a b => o_le a b) ha hb
theorem r_le_ep {ma : Res (Int)} (ha : Ref (fa ρ) ma) {b : Int} (hb : Ref (fb ρ) (.ok b)) : RefB (binB fa fb dLe ρ) ((ma.bind fun a => .ok (decide (a ≤ b))) : Res (Bool)) := r_binB (op := fun (a : Int) (b : Int) => (.ok (decide (a ≤ b)) : Res (Bool))) (fun a b => o_le a b) ha hb
theorem r_le_ee {ma : Res (Int)} (ha : Ref (fa ρ) ma) {mb : Res (Int)} (hb : Ref (fb ρ) mb) : RefB (binB fa fb dLe ρ) ((ma.bind fun a => mb.bind fun b => .ok (decide (a ≤ b))) : Res (Bool)) := r_binB (op := fun (a : Int) (b : Int) => (.ok (decide (a ≤ b)) : Res (Bool))) (fun a b => o_le a b) ha hb
theorem r_gt_pp {a : Int} (ha : Ref (fa ρ) (.ok a)) {b : Int} (hb : Ref (fb ρ) (.ok b)) : RefB (binB fa fb dGt ρ) ((.ok (decide (b < a))) : Res (Bool)) := r_binBP (op := fun (a : Int) (b : Int) => (.ok (decide (b < a)) : Res (Bool))) (fun a b => o_gt a b) ha hb
theorem r_gt_pe {a : Int} (ha : Ref (fa ρ) (.ok a)) {mb : Res (Int)} (hb : Ref (fb ρ) mb) : RefB (binB fa fb dGt ρ) ((mb.bind fun b => .ok (decide (b < a))) : Res (Bool)) := r_binB (op := fun (a : Int) (b : Int) => (.ok (decide (b < a)) : Res (Bool))) (fun a b => o_gt a b) ha hb
theorem r_gt_ep {ma : Res (Int)} (ha : Ref (fa ρ) ma) {b : Int} (hb : Ref (fb ρ) (.ok b)) : RefB (binB fa fb dGt ρ) ((ma.bind fun a => .ok (decide (b < a))) : Res (Bool)) := r_binB (op := fun (a : Int) (b : Int) => (.ok (decide (b < a)) : Res (Bool))) (fun a b => o_gt a b) ha hb
theorem r_gt_ee {ma : Res (Int)} (ha : Ref (fa ρ) ma) {mb : Res (Int)} (hb : Ref (fb ρ) mb) : RefB (binB fa fb dGt ρ) ((ma.bind fun a => mb.bind fun b => .ok (decide (b < a))) : Res (Bool)) := r_binB (op := fun (a : Int) (b : Int) => (.ok (decide (b < a)) : Res (Bool))) (fun a b => o_gt a b) ha hb
theorem r_ge_pp {a : Int} (ha : Ref (fa ρ) (.ok a)) {b : Int} (hb : Ref (fb ρ) (.ok b)) : RefB (binB fa fb dGe ρ) ((.ok (decide (b ≤ a))) : Res (Bool)) := r_binBP (op := fun (a : Int) (b : Int) => (.ok (decide (b ≤ a)) : Res (Bool))) (fun a b => o_ge a b) ha hb
theorem r_ge_pe {a : Int} (ha : Ref (fa ρ) (.ok a)) {mb : Res (Int)} (hb : Ref (fb ρ) mb) : RefB (binB fa fb dGe ρ) ((mb.bind fun b => .ok (decide (b ≤ a))) : Res (Bool)) := r_binB (op := fun (a : Int) (b : Int) => (.ok (decide (b ≤ a)) : Res (Bool))) (fun a b => o_ge a b) ha hb
theorem r_ge_ep {ma : Res (Int)} (ha : Ref (fa ρ) ma) {b : Int} (hb : Ref (fb ρ) (.ok b)) : RefB (binB fa fb dGe ρ) ((ma.bind fun a => .ok (decide (b ≤ a))) : Res (Bool)) := r_binB (op := fun (a : Int) (b : Int) => (.ok (decide (b ≤ a)) : Res (Bool))) (fun a b => o_ge a b) ha hb
theorem r_ge_ee {ma : Res (Int)} (ha : Ref (fa ρ) ma) {mb : Res (Int)} (hb : Ref (fb ρ) mb) : RefB (binB fa fb dGe ρ) ((ma.bind fun a => mb.bind fun b => .ok (decide (b ≤ a))) : Res (Bool)) := r_binB (op := fun (a : Int) (b : Int) => (.ok (decide (b ≤ a)) : Res (Bool))) (fun a b => o_ge a b) ha hb
theorem r_lts_pp {a : Str} (ha : Ref (fa ρ) (.ok a)) {b : Str} (hb : Ref (fb ρ) (.ok b)) : RefB (binB fa fb dLt ρ) ((.ok (decide (a.cps.toList < b.cps.toList))) : Res (Bool)) := r_binBP (op := fun (a : Str) (b : Str) => (.ok (decide (a.cps.toList < b.cps.toList)) : Res (Bool))) (fun a b => o_ltS a b) ha hb
theorem r_lts_pe {a : Str} (ha : Ref (fa ρ) (.ok a)) {mb : Res (Str)} (hb : Ref (fb ρ) mb) : RefB (binB fa fb dLt ρ) ((mb.bind fun b => .ok (decide (a.cps.toList < b.cps.toList))) : Res (Bool)) := r_binB (op := fun (a : Str) (b : Str) => (.ok (decide (a.cps.toList < b.cps.toList)) : Res (Bool))) (fun a b => o_ltS a b) ha hb
theorem r_lts_ep {ma : Res (Str)} (ha : Ref (fa ρ) ma) {b : Str} (hb : Ref (fb ρ) (.ok b)) : RefB (binB fa fb dLt ρ) ((ma.bind fun a => .ok (decide (a.cps.toList < b.cps.toList))) : Res (Bool)) := r_binB (op := fun (a : Str) (b : Str) => (.ok (decide (a.cps.toList < b.cps.toList)) : Res (Bool))) (fun a b => o_ltS a b) ha hb
theorem r_lts_ee {ma : Res (Str)} (ha : Ref (fa ρ) ma) {mb : Res (Str)} (hb : Ref (fb ρ) mb) : RefB (binB fa fb dLt ρ) ((ma.bind fun a => mb.bind fun b => .ok (decide (a.cps.toList < b.cps.toList))) : Res (Bool)) := r_binB (op := fun (a : Str) (b : Str) => (.ok (decide (a.cps.toList < b.cps.toList)) : Res (Bool))) (fun a b => o_ltS a b) ha hb
theorem r_eq_pp [DecidableEq α] [EqOK α] (hd : EqOK.dep α ≤ 64) {a : α} (ha : Ref (fa ρ) (.ok a)) {b : α} (hb : Ref (fb ρ) (.ok b)) : RefB (binB fa fb dEq ρ) ((eqT a b) : Res (Bool)) := r_binBP (op := fun (a : α) (b : α) => (eqT a b : Res (Bool))) (fun a b => o_eq hd a b) ha hb
theorem r_eq_pe [DecidableEq α] [EqOK α] (hd : EqOK.dep α ≤ 64) {a : α} (ha : Ref (fa ρ) (.ok a)) {mb : Res (α)} (hb : Ref (fb ρ) mb) : RefB (binB fa fb dEq ρ) ((mb.bind fun b => eqT a b) : Res (Bool)) := r_binB (op := fun (a : α) (b : α) => (eqT a b : Res (Bool))) (fun a b => o_eq hd a b) ha hb
theorem r_eq_ep [DecidableEq α] [EqOK α] (hd : EqOK.dep α ≤ 64) {ma : Res (α)} (ha : Ref (fa ρ) ma) {b : α} (hb : Ref (fb ρ) (.ok b)) : RefB (binB fa fb dEq ρ) ((ma.bind fun a => eqT a b) : Res (Bool)) := r_binB (op := fun (a : α) (b : α) => (eqT a b : Res (Bool))) (fun a b => o_eq hd a b) ha hb
theorem r_eq_ee [DecidableEq α] [EqOK α] (hd : EqOK.dep α ≤ 64) {ma : Res (α)} (ha : Ref (fa ρ) ma) {mb : Res (α)} (hb : Ref (fb ρ) mb) : RefB (binB fa fb dEq ρ) ((ma.bind fun a => mb.bind fun b => eqT a b) : Res (Bool)) := r_binB (op := fun (a : α) (b : α) => (eqT a b : Res (Bool))) (fun a b => o_eq hd a b) ha hb
theorem r_ne_pp [DecidableEq α] [EqOK α] (hd : EqOK.dep α ≤ 64) {a : α} (ha : Ref (fa ρ) (.ok a)) {b : α} (hb : Ref (fb ρ) (.ok b)) : RefB (binB fa fb dNe ρ) ((neT a b) : Res (Bool)) := r_binBP (op := fun (a : α) (b : α) => (neT a b : Res (Bool))) (fun a b => o_ne hd a b) ha hb
theorem r_ne_pe [DecidableEq α] [EqOK α] (hd : EqOK.dep α ≤ 64) {a : α} (ha : Ref (fa ρ) (.ok a)) {mb : Res (α)} (hb : Ref (fb ρ) mb) : RefB (binB fa fb dNe ρ) ((mb.bind fun b => neT a b) : Res (Bool)) := r_binB (op := fun (a : α) (b : α) => (neT a b : Res (Bool))) (fun a b => o_ne hd a b) ha hb
theorem r_ne_ep [DecidableEq α] [EqOK α] (hd : EqOK.dep α ≤ 64) {ma : Res (α)} (ha : Ref (fa ρ) ma) {b : α} (hb : Ref (fb ρ) (.ok b)) : RefB (binB fa fb dNe ρ) ((ma.bind fun a => neT a b) : Res (Bool)) := r_binB (op := fun (a : α) (b : α) => (neT a b : Res (Bool))) (fun a b => o_ne hd a b) ha hb
theorem r_ne_ee [DecidableEq α] [EqOK α] (hd : EqOK.dep α ≤ 64) {ma : Res (α)} (ha : Ref (fa ρ) ma) {mb : Res (α)} (hb : Ref (fb ρ) mb) : RefB (binB fa fb dNe ρ) ((ma.bind fun a => mb.bind fun b => neT a b) : Res (Bool)) := r_binB (op := fun (a : α) (b : α) => (neT a b : Res (Bool))) (fun a b => o_ne hd a b) ha hb
theorem r_eqt_pp [DecidableEq α] [EqOK α] [EqTot α] (hd : EqOK.dep α ≤ 64) {a : α} (ha : Ref (fa ρ) (.ok a)) {b : α} (hb : Ref (fb ρ) (.ok b)) : RefB (binB fa fb dEq ρ) ((.ok (decide (a = b))) : Res (Bool)) := r_binBP (op := fun (a : α) (b : α) => (.ok (decide (a = b)) : Res (Bool))) (fun a b => o_eqt hd a b) ha hb
theorem r_eqt_pe [DecidableEq α] [EqOK α] [EqTot α] (hd : EqOK.dep α ≤ 64) {a : α} (ha : Ref (fa ρ) (.ok a)) {mb : Res (α)} (hb : Ref (fb ρ) mb) : RefB (binB fa fb dEq ρ) ((mb.bind fun b => .ok (decide (a = b))) : Res (Bool)) := r_binB (op := fun (a : α) (b : α) => (.ok (decide (a = b)) : Res (Bool))) (fun a b => o_eqt hd a b) ha hb
theorem r_eqt_ep [DecidableEq α] [EqOK α] [EqTot α] (hd : EqOK.dep α ≤ 64) {ma : Res (α)} (ha : Ref (fa ρ) ma) {b : α} (hb : Ref (fb ρ) (.ok b)) : RefB (binB fa fb dEq ρ) ((ma.bind fun a => .ok (decide (a = b))) : Res (Bool)) := r_binB (op := fun (a : α) (b : α) => (.ok (decide (a = b)) : Res (Bool))) (fun a b => o_eqt hd a b) ha hb
theorem r_eqt_ee [DecidableEq α] [EqOK α] [EqTot α] (hd : EqOK.dep α ≤ 64) {ma : Res (α)} (ha : Ref (fa ρ) ma) {mb : Res (α)} (hb : Ref (fb ρ) mb) : RefB (binB fa fb dEq ρ) ((ma.bind fun a => mb.bind fun b => .ok (decide (a = b))) : Res (Bool)) := r_binB (op := fun (a : α) (b : α) => (.ok (decide (a = b)) : Res (Bool))) (fun a b => o_eqt hd a b) ha hb
theorem r_net_pp [DecidableEq α] [EqOK α] [EqTot α] (hd : EqOK.dep α ≤ 64) {a : α} (ha : Ref (fa ρ) (.ok a)) {b : α} (hb : Ref (fb ρ) (.ok b)) : RefB (binB fa fb dNe ρ) ((.ok (!decide (a = b))) : Res (Bool)) := r_binBP (op := fun (a : α) (b : α) => (.ok (!decide (a = b)) : Res (Bool))) (fun a b => o_net hd a b) ha hb
theorem r_net_pe [DecidableEq α] [EqOK α] [EqTot α] (hd : EqOK.dep α ≤ 64) {a : α} (ha : Ref (fa ρ) (.ok a)) {mb : Res (α)} (hb : Ref (fb ρ) mb) : RefB (binB fa fb dNe ρ) ((mb.bind fun b => .ok (!decide (a = b))) : Res (Bool)) := r_binB (op := fun (a : α) (b : α) => (.ok (!decide (a = b)) : Res (Bool))) (fun a b => o_net hd a b) ha hb
theorem r_net_ep [DecidableEq α] [EqOK α] [EqTot α] (hd : EqOK.dep α ≤ 64) {ma : Res (α)} (ha : Ref (fa ρ) ma) {b : α} (hb : Ref (fb ρ) (.ok b)) : RefB (binB fa fb dNe ρ) ((ma.bind fun a => .ok (!decide (a = b))) : Res (Bool)) := r_binB (op := fun (a : α) (b : α) => (.ok (!decide (a = b)) : Res (Bool))) (fun a b => o_net hd a b) ha hb
theorem r_net_ee [DecidableEq α] [EqOK α] [EqTot α] (hd : EqOK.dep α ≤ 64) {ma : Res (α)} (ha : Ref (fa ρ) ma) {mb : Res (α)} (hb : Ref (fb ρ) mb) : RefB (binB fa fb dNe ρ) ((ma.bind fun a => mb.bind fun b => .ok (!decide (a = b))) : Res (Bool)) := r_binB (op := fun (a : α) (b : α) => (.ok (!decide (a = b)) : Res (Bool))) (fun a b => o_net hd a b) ha hb
theorem r_eqd_pp {a : D} (ha : Ref (fa ρ) (.ok a)) {b : D} (hb : Ref (fb ρ) (.ok b)) : RefB (binB fa fb dEq ρ) ((Res.of (dEq a b)) : Res (Bool)) := r_binBP (op := fun (a : D) (b : D) => (Res.of (dEq a b) : Res (Bool))) (fun a b => o_anyB dEq a b) ha hb
theorem r_eqd_pe {a : D} (ha : Ref (fa ρ) (.ok a)) {mb : Res (D)} (hb : Ref (fb ρ) mb) : RefB (binB fa fb dEq ρ) ((mb.bind fun b => Res.of (dEq a b)) : Res (Bool)) := r_binB (op := fun (a : D) (b : D) => (Res.of (dEq a b) : Res (Bool))) (fun a b => o_anyB dEq a b) ha hb
theorem r_eqd_ep {ma : Res (D)} (ha : Ref (fa ρ) ma) {b : D} (hb : Ref (fb ρ) (.ok b)) : RefB (binB fa fb dEq ρ) ((ma.bind fun a => Res.of (dEq a b)) : Res (Bool)) := r_binB (op := fun (a : D) (b : D) => (Res.of (dEq a b) : Res (Bool))) (fun a b => o_anyB dEq a b) ha hb
theorem r_eqd_ee {ma : Res (D)} (ha : Ref (fa ρ) ma) {mb : Res (D)} (hb : Ref (fb ρ) mb) : RefB (binB fa fb dEq ρ) ((ma.bind fun a => mb.bind fun b => Res.of (dEq a b)) : Res (Bool)) := r_binB (op := fun (a : D) (b : D) => (Res.of (dEq a b) : Res (Bool))) (fun a b => o_anyB dEq a b) ha hb
theorem r_ned_pp {a : D} (ha : Ref (fa ρ) (.ok a)) {b : D} (hb : Ref (fb ρ) (.ok b)) : RefB (binB fa fb dNe ρ) ((Res.of (dNe a b)) : Res (Bool)) := r_binBP (op := fun (a : D) (b : D) => (Res.of (dNe a b) : Res (Bool))) (fun a b => o_anyB dNe a b) ha hb
theorem r_ned_pe {a : D} (ha : Ref (fa ρ) (.ok a)) {mb : Res (D)} (hb : Ref (fb ρ) mb) : RefB (binB fa fb dNe ρ) ((mb.bind fun b => Res.of (dNe a b)) : Res (Bool)) := r_binB (op := fun (a : D) (b : D) => (Res.of (dNe a b) : Res (Bool))) (fun a b => o_anyB dNe a b) ha hb
theorem r_ned_ep {ma : Res (D)} (ha : Ref (fa ρ) ma) {b : D} (hb : Ref (fb ρ) (.ok b)) : RefB (binB fa fb dNe ρ) ((ma.bind fun a => Res.of (dNe a b)) : Res (Bool)) := r_binB (op := fun (a : D) (b : D) => (Res.of (dNe a b) : Res (Bool))) (fun a b => o_anyB dNe a b) ha hb
theorem r_ned_ee {ma : Res (D)} (ha : Ref (fa ρ) ma) {mb : Res (D)} (hb : Ref (fb ρ) mb) : RefB (binB fa fb dNe ρ) ((ma.bind fun a => mb.bind fun b => Res.of (dNe a b)) : Res (Bool)) := r_binB (op := fun (a : D) (b : D) => (Res.of (dNe a b) : Res (Bool))) (fun a b => o_anyB dNe a b) ha hb
theorem r_in_pp [DecidableEq α] [EqOK α] (hd : EqOK.dep α + 1 ≤ 64) {a : α} (ha : Ref (fa ρ) (.ok a)) {b : List α} (hb : Ref (fb ρ) (.ok b)) : RefB (binB fa fb dIn ρ) ((inT a b) : Res (Bool)) := r_binBP (op := fun (a : α) (b : List α) => (inT a b : Res (Bool))) (fun a b => o_in hd a b) ha hb
theorem r_in_pe [DecidableEq α] [EqOK α] (hd : EqOK.dep α + 1 ≤ 64) {a : α} (ha : Ref (fa ρ) (.ok a)) {mb : Res (List α)} (hb : Ref (fb ρ) mb) : RefB (binB fa fb dIn ρ) ((mb.bind fun b => inT a b) : Res (Bool)) := r_binB (op := fun (a : α) (b : List α) => (inT a b : Res (Bool))) (fun a b => o_in hd a b) ha hb
theorem r_in_ep [DecidableEq α] [EqOK α] (hd : EqOK.dep α + 1 ≤ 64) {ma : Res (α)} (ha : Ref (fa ρ) ma) {b : List α} (hb : Ref (fb ρ) (.ok b)) : RefB (binB fa fb dIn ρ) ((ma.bind fun a => inT a b) : Res (Bool)) := r_binB (op := fun (a : α) (b : List α) => (inT a b : Res (Bool))) (fun a b => o_in hd a b) ha hb
theorem r_in_ee [DecidableEq α] [EqOK α] (hd : EqOK.dep α + 1 ≤ 64) {ma : Res (α)} (ha : Ref (fa ρ) ma) {mb : Res (List α)} (hb : Ref (fb ρ) mb) : RefB (binB fa fb dIn ρ) ((ma.bind fun a => mb.bind fun b => inT a b) : Res (Bool)) := r_binB (op := fun (a : α) (b : List α) => (inT a b : Res (Bool))) (fun a b => o_in hd a b) ha hb
theorem r_nin_pp [DecidableEq α] [EqOK α] (hd : EqOK.dep α + 1 ≤ 64) {a : α} (ha : Ref (fa ρ) (.ok a)) {b : List α} (hb : Ref (fb ρ) (.ok b)) : RefB (binB fa fb dNotIn ρ) ((ninT a b) : Res (Bool)) := r_binBP (op := fun (a : α) (b : List α) => (ninT a b : Res (Bool))) (fun a b => o_nin hd a b) ha hb
theorem r_nin_pe [DecidableEq α] [EqOK α] (hd : EqOK.dep α + 1 ≤ 64) {a : α} (ha : Ref (fa ρ) (.ok a)) {mb : Res (List α)} (hb : Ref (fb ρ) mb) : RefB (binB fa fb dNotIn ρ) ((mb.bind fun b => ninT a b) : Res (Bool)) := r_binB (op := fun (a : α) (b : List α) => (ninT a b : Res (Bool))) (fun a b => o_nin hd a b) ha hb
theorem r_nin_ep [DecidableEq α] [EqOK α] (hd : EqOK.dep α + 1 ≤ 64) {ma : Res (α)} (ha : Ref (fa ρ) ma) {b : List α} (hb : Ref (fb ρ) (.ok b)) : RefB (binB fa fb dNotIn ρ) ((ma.bind fun a => ninT a b) : Res (Bool)) := r_binB (op := fun (a : α) (b : List α) => (ninT a b : Res (Bool))) (fun a b => o_nin hd a b) ha hb
theorem r_nin_ee [DecidableEq α] [EqOK α] (hd : EqOK.dep α + 1 ≤ 64) {ma : Res (α)} (ha : Ref (fa ρ) ma) {mb : Res (List α)} (hb : Ref (fb ρ) mb) : RefB (binB fa fb dNotIn ρ) ((ma.bind fun a => mb.bind fun b => ninT a b) : Res (Bool)) := r_binB (op := fun (a : α) (b : List α) => (ninT a b : Res (Bool))) (fun a b => o_nin hd a b) ha hb
theorem r_inu_pp [DecidableEq α] [EqOK α] (hd : EqOK.dep α + 1 ≤ 64) {a : α} (ha : Ref (fa ρ) (.ok a)) {b : Tu α} (hb : Ref (fb ρ) (.ok b)) : RefB (binB fa fb dIn ρ) ((inT a b.l) : Res (Bool)) := r_binBP (op := fun (a : α) (b : Tu α) => (inT a b.l : Res (Bool))) (fun a b => o_inU hd a b) ha hb
theorem r_inu_pe [DecidableEq α] [EqOK α] (hd : EqOK.dep α + 1 ≤ 64) {a : α} (ha : Ref (fa ρ) (.ok a)) {mb : Res (Tu α)} (hb : Ref (fb ρ) mb) : RefB (binB fa fb dIn ρ) ((mb.bind fun b => inT a b.l) : Res (Bool)) := r_binB (op := fun (a : α) (b : Tu α) => (inT a b.l : Res (Bool))) (fun a b => o_inU hd a b) ha hb
theorem r_inu_ep [DecidableEq α] [EqOK α] (hd : EqOK.dep α + 1 ≤ 64) {ma : Res (α)} (ha : Ref (fa ρ) ma) {b : Tu α} (hb : Ref (fb ρ) (.ok b)) : RefB (binB fa fb dIn ρ) ((ma.bind fun a => inT a b.l) : Res (Bool)) := r_binB (op := fun (a : α) (b : Tu α) => (inT a b.l : Res (Bool))) (fun a b => o_inU hd a b) ha hb
theorem r_inu_ee [DecidableEq α] [EqOK α] (hd : EqOK.dep α + 1 ≤ 64) {ma : Res (α)} (ha : Ref (fa ρ) ma) {mb : Res (Tu α)} (hb : Ref (fb ρ) mb) : RefB (binB fa fb dIn ρ) ((ma.bind fun a => mb.bind fun b => inT a b.l) : Res (Bool)) := r_binB (op := fun (a : α) (b : Tu α) => (inT a b.l : Res (Bool))) (fun a b => o_inU hd a b) ha hb
theorem r_ninu_pp [DecidableEq α] [EqOK α] (hd : EqOK.dep α + 1 ≤ 64) {a : α} (ha : Ref (fa ρ) (.ok a)) {b : Tu α} (hb : Ref (fb ρ) (.ok b)) : RefB (binB fa fb dNotIn ρ) ((ninT a b.l) : Res (Bool)) := r_binBP (op := fun (a : α) (b : Tu α) => (ninT a b.l : Res (Bool))) (fun a b => o_ninU hd a b) ha hb
theorem r_ninu_pe [DecidableEq α] [EqOK α] (hd : EqOK.dep α + 1 ≤ 64) {a : α} (ha : Ref (fa ρ) (.ok a)) {mb : Res (Tu α)} (hb : Ref (fb ρ) mb) : RefB (binB fa fb dNotIn ρ) ((mb.bind fun b => ninT a b.l) : Res (Bool)) := r_binB (op := fun (a : α) (b : Tu α) => (ninT a b.l : Res (Bool))) (fun a b => o_ninU hd a b) ha hb
theorem r_ninu_ep [DecidableEq α] [EqOK α] (hd : EqOK.dep α + 1 ≤ 64) {ma : Res (α)} (ha : Ref (fa ρ) ma) {b : Tu α} (hb : Ref (fb ρ) (.ok b)) : RefB (binB fa fb dNotIn ρ) ((ma.bind fun a => ninT a b.l) : Res (Bool)) := r_binB (op := fun (a : α) (b : Tu α) => (ninT a b.l : Res (Bool))) (fun a b => o_ninU hd a b) ha hb
theorem r_ninu_ee [DecidableEq α] [EqOK α] (hd : EqOK.dep α + 1 ≤ 64) {ma : Res (α)} (ha : Ref (fa ρ) ma) {mb : Res (Tu α)} (hb : Ref (fb ρ) mb) : RefB (binB fa fb dNotIn ρ) ((ma.bind fun a => mb.bind fun b => ninT a b.l) : Res (Bool)) := r_binB (op := fun (a : α) (b : Tu α) => (ninT a b.l : Res (Bool))) (fun a b => o_ninU hd a b) ha hb
theorem r_int_pp [DecidableEq α] [EqOK α] [EqTot α] (hd : EqOK.dep α + 1 ≤ 64) {a : α} (ha : Ref (fa ρ) (.ok a)) {b : List α} (hb : Ref (fb ρ) (.ok b)) : RefB (binB fa fb dIn ρ) ((.ok (decide (a ∈ b))) : Res (Bool)) := r_binBP (op := fun (a : α) (b : List α) => (.ok (decide (a ∈ b)) : Res (Bool))) (fun a b => o_int hd a b) ha hb
theorem r_int_pe [DecidableEq α] [EqOK α] [EqTot α] (hd : EqOK.dep α + 1 ≤ 64) {a : α} (ha : Ref (fa ρ) (.ok a)) {mb : Res (List α)} (hb : Ref (fb ρ) mb) : RefB (binB fa fb dIn ρ) ((mb.bind fun b => .ok (decide (a ∈ b))) : Res (Bool)) := r_binB (op := fun (a : α) (b : List α) => (.ok (decide (a ∈ b)) : Res (Bool))) (fun a b => o_int hd a b) ha hb
theorem r_int_ep [DecidableEq α] [EqOK α] [EqTot α] (hd : EqOK.dep α + 1 ≤ 64) {ma : Res (α)} (ha : Ref (fa ρ) ma) {b : List α} (hb : Ref (fb ρ) (.ok b)) : RefB (binB fa fb dIn ρ) ((ma.bind fun a => .ok (decide (a ∈ b))) : Res (Bool)) := r_binB (op := fun (a : α) (b : List α) => (.ok (decide (a ∈ b)) : Res (Bool))) (fun a b => o_int hd a b) ha hb
theorem r_int_ee [DecidableEq α] [EqOK α] [EqTot α] (hd : EqOK.dep α + 1 ≤ 64) {ma : Res (α)} (ha : Ref (fa ρ) ma) {mb : Res (List α)} (hb : Ref (fb ρ) mb) : RefB (binB fa fb dIn ρ) ((ma.bind fun a => mb.bind fun b => .ok (decide (a ∈ b))) : Res (Bool)) := r_binB (op := fun (a : α) (b : List α) => (.ok (decide (a ∈ b)) : Res (Bool))) (fun a b => o_int hd a b) ha hb
theorem r_nint_pp [DecidableEq α] [EqOK α] [EqTot α] (hd : EqOK.dep α + 1 ≤ 64) {a : α} (ha : Ref (fa ρ) (.ok a)) {b : List α} (hb : Ref (fb ρ) (.ok b)) : RefB (binB fa fb dNotIn ρ) ((.ok (!decide (a ∈ b))) : Res (Bool)) := r_binBP (op := fun (a : α) (b : List α) => (.ok (!decide (a ∈ b)) : Res (Bool))) (fun a b => o_nint hd a b) ha hb
theorem r_nint_pe [DecidableEq α] [EqOK α] [EqTot α] (hd : EqOK.dep α + 1 ≤ 64) {a : α} (ha : Ref (fa ρ) (.ok a)) {mb : Res (List α)} (hb : Ref (fb ρ) mb) : RefB (binB fa fb dNotIn ρ) ((mb.bind fun b => .ok (!decide (a ∈ b))) : Res (Bool)) := r_binB (op := fun (a : α) (b : List α) => (.ok (!decide (a ∈ b)) : Res (Bool))) (fun a b => o_nint hd a b) ha hb
theorem r_nint_ep [DecidableEq α] [EqOK α] [EqTot α] (hd : EqOK.dep α + 1 ≤ 64) {ma : Res (α)} (ha : Ref (fa ρ) ma) {b : List α} (hb : Ref (fb ρ) (.ok b)) : RefB (binB fa fb dNotIn ρ) ((ma.bind fun a => .ok (!decide (a ∈ b))) : Res (Bool)) := r_binB (op := fun (a : α) (b : List α) => (.ok (!decide (a ∈ b)) : Res (Bool))) (fun a b => o_nint hd a b) ha hb
theorem r_nint_ee [DecidableEq α] [EqOK α] [EqTot α] (hd : EqOK.dep α + 1 ≤ 64) {ma : Res (α)} (ha : Ref (fa ρ) ma) {mb : Res (List α)} (hb : Ref (fb ρ) mb) : RefB (binB fa fb dNotIn ρ) ((ma.bind fun a => mb.bind fun b => .ok (!decide (a ∈ b))) : Res (Bool)) := r_binB (op := fun (a : α) (b : List α) => (.ok (!decide (a ∈ b)) : Res (Bool))) (fun a b => o_nint hd a b) ha hb
theorem r_intu_pp [DecidableEq α] [EqOK α] [EqTot α] (hd : EqOK.dep α + 1 ≤ 64) {a : α} (ha : Ref (fa ρ) (.ok a)) {b : Tu α} (hb : Ref (fb ρ) (.ok b)) : RefB (binB fa fb dIn ρ) ((.ok (decide (a ∈ b.l))) : Res (Bool)) := r_binBP (op := fun (a : α) (b : Tu α) => (.ok (decide (a ∈ b.l)) : Res (Bool))) (fun a b => o_intU hd a b) ha hb
theorem r_intu_pe [DecidableEq α] [EqOK α] [EqTot α] (hd : EqOK.dep α + 1 ≤ 64) {a : α} (ha : Ref (fa ρ) (.ok a)) {mb : Res (Tu α)} (hb : Ref (fb ρ) mb) : RefB (binB fa fb dIn ρ) ((mb.bind fun b => .ok (decide (a ∈ b.l))) : Res (Bool)) := r_binB (op := fun (a : α) (b : Tu α) => (.ok (decide (a ∈ b.l)) : Res (Bool))) (fun a b => o_intU hd a b) ha hb
theorem r_intu_ep [DecidableEq α] [EqOK α] [EqTot α] (hd : EqOK.dep α + 1 ≤ 64) {ma : Res (α)} (ha : Ref (fa ρ) ma) {b : Tu α} (hb : Ref (fb ρ) (.ok b)) : RefB (binB fa fb dIn ρ) ((ma.bind fun a => .ok (decide (a ∈ b.l))) : Res (Bool)) := r_binB (op := fun (a : α) (b : Tu α) => (.ok (decide (a ∈ b.l)) : Res (Bool))) (fun a b => o_intU hd a b) ha hb
theorem r_intu_ee [DecidableEq α] [EqOK α] [EqTot α] (hd : EqOK.dep α + 1 ≤ 64) {ma : Res (α)} (ha : Ref (fa ρ) ma) {mb : Res (Tu α)} (hb : Ref (fb ρ) mb) : RefB (binB fa fb dIn ρ) ((ma.bind fun a => mb.bind fun b => .ok (decide (a ∈ b.l))) : Res (Bool)) := r_binB (op := fun (a : α) (b : Tu α) => (.ok (decide (a ∈ b.l)) : Res (Bool))) (fun a b => o_intU hd a b) ha hb
theorem r_nintu_pp [DecidableEq α] [EqOK α] [EqTot α] (hd : EqOK.dep α + 1 ≤ 64) {a : α} (ha : Ref (fa ρ) (.ok a)) {b : Tu α} (hb : Ref (fb ρ) (.ok b)) : RefB (binB fa fb dNotIn ρ) ((.ok (!decide (a ∈ b.l))) : Res (Bool)) := r_binBP (op := fun (a : α) (b : Tu α) => (.ok (!decide (a ∈ b.l)) : Res (Bool))) (fun a b => o_nintU hd a b) ha hb
theorem r_nintu_pe [DecidableEq α] [EqOK α] [EqTot α] (hd : EqOK.dep α + 1 ≤ 64) {a : α} (ha : Ref (fa ρ) (.ok a)) {mb : Res (Tu α)} (hb : Ref (fb ρ) mb) : RefB (binB fa fb dNotIn ρ) ((mb.bind fun b => .ok (!decide (a ∈ b.l))) : Res (Bool)) := r_binB (op := fun (a : α) (b : Tu α) => (.ok (!decide (a ∈ b.l)) : Res (Bool))) (fun a b => o_nintU hd a b) ha hb
theorem r_nintu_ep [DecidableEq α] [EqOK α] [EqTot α] (hd : EqOK.dep α + 1 ≤ 64) {ma : Res (α)} (ha : Ref (fa ρ) ma) {b : Tu α} (hb : Ref (fb ρ) (.ok b)) : RefB (binB fa fb dNotIn ρ) ((ma.bind fun a => .ok (!decide (a ∈ b.l))) : Res (Bool)) := r_binB (op := fun (a : α) (b : Tu α) => (.ok (!decide (a ∈ b.l)) : Res (Bool))) (fun a b => o_nintU hd a b) ha hb
theorem r_nintu_ee [DecidableEq α] [EqOK α] [EqTot α] (hd : EqOK.dep α + 1 ≤ 64) {ma : Res (α)} (ha : Ref (fa ρ) ma) {mb : Res (Tu α)} (hb : Ref (fb ρ) mb) : RefB (binB fa fb dNotIn ρ) ((ma.bind fun a => mb.bind fun b => .ok (!decide (a ∈ b.l))) : Res (Bool)) := r_binB (op := fun (a : α) (b : Tu α) => (.ok (!decide (a ∈ b.l)) : Res (Bool))) (fun a b => o_nintU hd a b) ha hb
theorem r_ins_pp {a : Str} (ha : Ref (fa ρ) (.ok a)) {b : Str} (hb : Ref (fb ρ) (.ok b)) : RefB (binB fa fb dIn ρ) ((.ok (inS a b)) : Res (Bool)) := r_binBP (op := fun (a : Str) (b : Str) => (.ok (inS a b) : Res (Bool))) (fun a b => o_inS a b) ha hb
theorem r_ins_pe {a : Str} (ha : Ref (fa ρ) (.ok a)) {mb : Res (Str)} (hb : Ref (fb ρ) mb) : RefB (binB fa fb dIn ρ) ((mb.bind fun b => .ok (inS a b)) : Res (Bool)) := r_binB (op := fun (a : Str) (b : Str) => (.ok (inS a b) : Res (Bool))) (fun a b => o_inS a b) ha hb
theorem r_ins_ep {ma : Res (Str)} (ha : Ref (fa ρ) ma) {b : Str} (hb : Ref (fb ρ) (.ok b)) : RefB (binB fa fb dIn ρ) ((ma.bind fun a => .ok (inS a b)) : Res (Bool)) := r_binB (op := fun (a : Str) (b : Str) => (.ok (inS a b) : Res (Bool))) (fun a b => o_inS a b) ha hb
theorem r_ins_ee {ma : Res (Str)} (ha : Ref (fa ρ) ma) {mb : Res (Str)} (hb : Ref (fb ρ) mb) : RefB (binB fa fb dIn ρ) ((ma.bind fun a => mb.bind fun b => .ok (inS a b)) : Res (Bool)) := r_binB (op := fun (a : Str) (b : Str) => (.ok (inS a b) : Res (Bool))) (fun a b => o_inS a b) ha hb
theorem r_isn_pp [NN α] {a : Option α} (ha : Ref (fa ρ) (.ok a)) {b : Unit} (hb : Ref (fb ρ) (.ok b)) : RefB (binB fa fb dIsN ρ) ((.ok a.isNone) : Res (Bool)) := r_binBP (op := fun (a : Option α) (b : Unit) => (.ok a.isNone : Res (Bool))) (fun a b => o_isN a b) ha hb
theorem r_isn_pe [NN α] {a : Option α} (ha : Ref (fa ρ) (.ok a)) {mb : Res (Unit)} (hb : Ref (fb ρ) mb) : RefB (binB fa fb dIsN ρ) ((mb.bind fun b => .ok a.isNone) : Res (Bool)) := r_binB (op := fun (a : Option α) (b : Unit) => (.ok a.isNone : Res (Bool))) (fun a b => o_isN a b) ha hb
theorem r_isn_ep [NN α] {ma : Res (Option α)} (ha : Ref (fa ρ) ma) {b : Unit} (hb : Ref (fb ρ) (.ok b)) : RefB (binB fa fb dIsN ρ) ((ma.bind fun a => .ok a.isNone) : Res (Bool)) := r_binB (op := fun (a : Option α) (b : Unit) => (.ok a.isNone : Res (Bool))) (fun a b => o_isN a b) ha hb
theorem r_isn_ee [NN α] {ma : Res (Option α)} (ha : Ref (fa ρ) ma) {mb : Res (Unit)} (hb : Ref (fb ρ) mb) : RefB (binB fa fb dIsN ρ) ((ma.bind fun a => mb.bind fun b => .ok a.isNone) : Res (Bool)) := r_binB (op := fun (a : Option α) (b : Unit) => (.ok a.isNone : Res (Bool))) (fun a b => o_isN a b) ha hb
theorem r_notn_pp [NN α] {a : Option α} (ha : Ref (fa ρ) (.ok a)) {b : Unit} (hb : Ref (fb ρ) (.ok b)) : RefB (binB fa fb dNotN ρ) ((.ok a.isSome) : Res (Bool)) := r_binBP (op := fun (a : Option α) (b : Unit) => (.ok a.isSome : Res (Bool))) (fun a b => o_notN a b) ha hb
theorem r_notn_pe [NN α] {a : Option α} (ha : Ref (fa ρ) (.ok a)) {mb : Res (Unit)} (hb : Ref (fb ρ) mb) : RefB (binB fa fb dNotN ρ) ((mb.bind fun b => .ok a.isSome) : Res (Bool)) := r_binB (op := fun (a : Option α) (b : Unit) => (.ok a.isSome : Res (Bool))) (fun a b => o_notN a b) ha hb
theorem r_notn_ep [NN α] {ma : Res (Option α)} (ha : Ref (fa ρ) ma) {b : Unit} (hb : Ref (fb ρ) (.ok b)) : RefB (binB fa fb dNotN ρ) ((ma.bind fun a => .ok a.isSome) : Res (Bool)) := r_binB (op := fun (a : Option α) (b : Unit) => (.ok a.isSome : Res (Bool))) (fun a b => o_notN a b) ha hb
theorem r_notn_ee [NN α] {ma : Res (Option α)} (ha : Ref (fa ρ) ma) {mb : Res (Unit)} (hb : Ref (fb ρ) mb) : RefB (binB fa fb dNotN ρ) ((ma.bind fun a => mb.bind fun b => .ok a.isSome) : Res (Bool)) := r_binB (op := fun (a : Option α) (b : Unit) => (.ok a.isSome : Res (Bool))) (fun a b => o_notN a b) ha hb
theorem r_isnf_pp [NN α] {a : α} (ha : Ref (fa ρ) (.ok a)) {b : Unit} (hb : Ref (fb ρ) (.ok b)) : RefB (binB fa fb dIsN ρ) ((.ok false) : Res (Bool)) := r_binBP (op := fun (a : α) (b : Unit) => (.ok false : Res (Bool))) (fun a b => o_isNf a b) ha hb
theorem r_isnf_pe [NN α] {a : α} (ha : Ref (fa ρ) (.ok a)) {mb : Res (Unit)} (hb : Ref (fb ρ) mb) : RefB (binB fa fb dIsN ρ) ((mb.bind fun b => .ok false) : Res (Bool)) := r_binB (op := fun (a : α) (b : Unit) => (.ok false : Res (Bool))) (fun a b => o_isNf a b) ha hb
theorem r_isnf_ep [NN α] {ma : Res (α)} (ha : Ref (fa ρ) ma) {b : Unit} (hb : Ref (fb ρ) (.ok b)) : RefB (binB fa fb dIsN ρ) ((ma.bind fun a => .ok false) : Res (Bool)) := r_binB (op := fun (a : α) (b : Unit) => (.ok false : Res (Bool))) (fun a b => o_isNf a b) ha hb
theorem r_isnf_ee [NN α] {ma : Res (α)} (ha : Ref (fa ρ) ma) {mb : Res (Unit)} (hb : Ref (fb ρ) mb) : RefB (binB fa fb dIsN ρ) ((ma.bind fun a => mb.bind fun b => .ok false) : Res (Bool)) := r_binB (op := fun (a : α) (b : Unit) => (.ok false : Res (Bool))) (fun a b => o_isNf a b) ha hb
theorem r_notnt_pp [NN α] {a : α} (ha : Ref (fa ρ) (.ok a)) {b : Unit} (hb : Ref (fb ρ) (.ok b)) : RefB (binB fa fb dNotN ρ) ((.ok true) : Res (Bool)) := r_binBP (op := fun (a : α) (b : Unit) => (.ok true : Res (Bool))) (fun a b => o_notNt a b) ha hb
theorem r_notnt_pe [NN α] {a : α} (ha : Ref (fa ρ) (.ok a)) {mb : Res (Unit)} (hb : Ref (fb ρ) mb) : RefB (binB fa fb dNotN ρ) ((mb.bind fun b => .ok true) : Res (Bool)) := r_binB (op := fun (a : α) (b : Unit) => (.ok true : Res (Bool))) (fun a b => o_notNt a b) ha hb
theorem r_notnt_ep [NN α] {ma : Res (α)} (ha : Ref (fa ρ) ma) {b : Unit} (hb : Ref (fb ρ) (.ok b)) : RefB (binB fa fb dNotN ρ) ((ma.bind fun a => .ok true) : Res (Bool)) := r_binB (op := fun (a : α) (b : Unit) => (.ok true : Res (Bool))) (fun a b => o_notNt a b) ha hb
theorem r_notnt_ee [NN α] {ma : Res (α)} (ha : Ref (fa ρ) ma) {mb : Res (Unit)} (hb : Ref (fb ρ) mb) : RefB (binB fa fb dNotN ρ) ((ma.bind fun a => mb.bind fun b => .ok true) : Res (Bool)) := r_binB (op := fun (a : α) (b : Unit) => (.ok true : Res (Bool))) (fun a b => o_notNt a b) ha hb
theorem r_ltd_pp {a : α} (ha : Ref (fa ρ) (.ok a)) {b : β} (hb : Ref (fb ρ) (.ok b)) : RefB (binB fa fb dLt ρ) ((Res.of (dLt (enc a) (enc b))) : Res (Bool)) := r_binBP (op := fun (a : α) (b : β) => (Res.of (dLt (enc a) (enc b)) : Res (Bool))) (fun a b => o_anyB dLt a b) ha hb
theorem r_ltd_pe {a : α} (ha : Ref (fa ρ) (.ok a)) {mb : Res (β)} (hb : Ref (fb ρ) mb) : RefB (binB fa fb dLt ρ) ((mb.bind fun b => Res.of (dLt (enc a) (enc b))) : Res (Bool)) := r_binB (op := fun (a : α) (b : β) => (Res.of (dLt (enc a) (enc b)) : Res (Bool))) (fun a b => o_anyB dLt a b) ha hb
theorem r_ltd_ep {ma : Res (α)} (ha : Ref (fa ρ) ma) {b : β} (hb : Ref (fb ρ) (.ok b)) : RefB (binB fa fb dLt ρ) ((ma.bind fun a => Res.of (dLt (enc a) (enc b))) : Res (Bool)) := r_binB (op := fun (a : α) (b : β) => (Res.of (dLt (enc a) (enc b)) : Res (Bool))) (fun a b => o_anyB dLt a b) ha hb
theorem r_ltd_ee {ma : Res (α)} (ha : Ref (fa ρ) ma) {mb : Res (β)} (hb : Ref (fb ρ) mb) : RefB (binB fa fb dLt ρ) ((ma.bind fun a => mb.bind fun b => Res.of (dLt (enc a) (enc b))) : Res (Bool)) := r_binB (op := fun (a : α) (b : β) => (Res.of (dLt (enc a) (enc b)) : Res (Bool))) (fun a b => o_anyB dLt a b) ha hb
theorem r_led_pp {a : α} (ha : Ref (fa ρ) (.ok a)) {b : β} (hb : Ref (fb ρ) (.ok b)) : RefB (binB fa fb dLe ρ) ((Res.of (dLe (enc a) (enc b))) : Res (Bool)) := r_binBP (op := fun (a : α) (b : β) => (Res.of (dLe (enc a) (enc b)) : Res (Bool))) (fun a b => o_anyB dLe a b) ha hb
theorem r_led_pe {a : α} (ha : Ref (fa ρ) (.ok a)) {mb : Res (β)} (hb : Ref (fb ρ) mb) : RefB (binB fa fb dLe ρ) ((mb.bind fun b => Res.of (dLe (enc a) (enc b))) : Res (Bool)) := r_binB (op := fun (a : α) (b : β) => (Res.of (dLe (enc a) (enc b)) : Res (Bool))) (fun a b => o_anyB dLe a b) ha hb
theorem r_led_ep {ma : Res (α)} (ha : Ref (fa ρ) ma) {b : β} (hb : Ref (fb ρ) (.ok b)) : RefB (binB fa fb dLe ρ) ((ma.bind fun a => Res.of (dLe (enc a) (enc b))) : Res (Bool)) := r_binB (op := fun (a : α) (b : β) => (Res.of (dLe (enc a) (enc b)) : Res (Bool))) (fun a b => o_anyB dLe a b) ha hb
theorem r_led_ee {ma : Res (α)} (ha : Ref (fa ρ) ma) {mb : Res (β)} (hb : Ref (fb ρ) mb) : RefB (binB fa fb dLe ρ) ((ma.bind fun a => mb.bind fun b => Res.of (dLe (enc a) (enc b))) : Res (Bool)) := r_binB (op := fun (a : α) (b : β) => (Res.of (dLe (enc a) (enc b)) : Res (Bool))) (fun a b => o_anyB dLe a b) ha hb
theorem r_gtd_pp {a : α} (ha : Ref (fa ρ) (.ok a)) {b : β} (hb : Ref (fb ρ) (.ok b)) : RefB (binB fa fb dGt ρ) ((Res.of (dGt (enc a) (enc b))) : Res (Bool)) := r_binBP (op := fun (a : α) (b : β) => (Res.of (dGt (enc a) (enc b)) : Res (Bool))) (fun a b => o_anyB dGt a b) ha hb
theorem r_gtd_pe {a : α} (ha : Ref (fa ρ) (.ok a)) {mb : Res (β)} (hb : Ref (fb ρ) mb) : RefB (binB fa fb dGt ρ) ((mb.bind fun b => Res.of (dGt (enc a) (enc b))) : Res (Bool)) := r_binB (op := fun (a : α) (b : β) => (Res.of (dGt (enc a) (enc b)) : Res (Bool))) (fun a b => o_anyB dGt a b) ha hb
theorem r_gtd_ep {ma : Res (α)} (ha : Ref (fa ρ) ma) {b : β} (hb : Ref (fb ρ) (.ok b)) : RefB (binB fa fb dGt ρ) ((ma.bind fun a => Res.of (dGt (enc a) (enc b))) : Res (Bool)) := r_binB (op := fun (a : α) (b : β) => (Res.of (dGt (enc a) (enc b)) : Res (Bool))) (fun a b => o_anyB dGt a b) ha hb
theorem r_gtd_ee {ma : Res (α)} (ha : Ref (fa ρ) ma) {mb : Res (β)} (hb : Ref (fb ρ) mb) : RefB (binB fa fb dGt ρ) ((ma.bind fun a => mb.bind fun b => Res.of (dGt (enc a) (enc b))) : Res (Bool)) := r_binB (op := fun (a : α) (b : β) => (Res.of (dGt (enc a) (enc b)) : Res (Bool))) (fun a b => o_anyB dGt a b) ha hb
theorem r_ged_pp {a : α} (ha : Ref (fa ρ) (.ok a)) {b : β} (hb : Ref (fb ρ) (.ok b)) : RefB (binB fa fb dGe ρ) ((Res.of (dGe (enc a) (enc b))) : Res (Bool)) := r_binBP (op := fun (a : α) (b : β) => (Res.of (dGe (enc a) (enc b)) : Res (Bool))) (fun a b => o_anyB dGe a b) ha hb
theorem r_ged_pe {a : α} (ha : Ref (fa ρ) (.ok a)) {mb : Res (β)} (hb : Ref (fb ρ) mb) : RefB (binB fa fb dGe ρ) ((mb.bind fun b => Res.of (dGe (enc a) (enc b))) : Res (Bool)) := r_binB (op := fun (a : α) (b : β) => (Res.of (dGe (enc a) (enc b)) : Res (Bool))) (fun a b => o_anyB dGe a b) ha hb
theorem r_ged_ep {ma : Res (α)} (ha : Ref (fa ρ) ma) {b : β} (hb : Ref (fb ρ) (.ok b)) : RefB (binB fa fb dGe ρ) ((ma.bind fun a => Res.of (dGe (enc a) (enc b))) : Res (Bool)) := r_binB (op := fun (a : α) (b : β) => (Res.of (dGe (enc a) (enc b)) : Res (Bool))) (fun a b => o_anyB dGe a b) ha hb
theorem r_ged_ee {ma : Res (α)} (ha : Ref (fa ρ) ma) {mb : Res (β)} (hb : Ref (fb ρ) mb) : RefB (binB fa fb dGe ρ) ((ma.bind fun a => mb.bind fun b => Res.of (dGe (enc a) (enc b))) : Res (Bool)) := r_binB (op := fun (a : α) (b : β) => (Res.of (dGe (enc a) (enc b)) : Res (Bool))) (fun a b => o_anyB dGe a b) ha hb
theorem r_ind_pp {a : α} (ha : Ref (fa ρ) (.ok a)) {b : β} (hb : Ref (fb ρ) (.ok b)) : RefB (binB fa fb dIn ρ) ((Res.of (dIn (enc a) (enc b))) : Res (Bool)) := r_binBP (op := fun (a : α) (b : β) => (Res.of (dIn (enc a) (enc b)) : Res (Bool))) (fun a b => o_anyB dIn a b) ha hb
theorem r_ind_pe {a : α} (ha : Ref (fa ρ) (.ok a)) {mb : Res (β)} (hb : Ref (fb ρ) mb) : RefB (binB fa fb dIn ρ) ((mb.bind fun b => Res.of (dIn (enc a) (enc b))) : Res (Bool)) := r_binB (op := fun (a : α) (b : β) => (Res.of (dIn (enc a) (enc b)) : Res (Bool))) (fun a b => o_anyB dIn a b) ha hb
theorem r_ind_ep {ma : Res (α)} (ha : Ref (fa ρ) ma) {b : β} (hb : Ref (fb ρ) (.ok b)) : RefB (binB fa fb dIn ρ) ((ma.bind fun a => Res.of (dIn (enc a) (enc b))) : Res (Bool)) := r_binB (op := fun (a : α) (b : β) => (Res.of (dIn (enc a) (enc b)) : Res (Bool))) (fun a b => o_anyB dIn a b) ha hb
theorem r_ind_ee {ma : Res (α)} (ha : Ref (fa ρ) ma) {mb : Res (β)} (hb : Ref (fb ρ) mb) : RefB (binB fa fb dIn ρ) ((ma.bind fun a => mb.bind fun b => Res.of (dIn (enc a) (enc b))) : Res (Bool)) := r_binB (op := fun (a : α) (b : β) => (Res.of (dIn (enc a) (enc b)) : Res (Bool))) (fun a b => o_anyB dIn a b) ha hb
theorem r_nind_pp {a : α} (ha : Ref (fa ρ) (.ok a)) {b : β} (hb : Ref (fb ρ) (.ok b)) : RefB (binB fa fb dNotIn ρ) ((Res.of (dNotIn (enc a) (enc b))) : Res (Bool)) := r_binBP (op := fun (a : α) (b : β) => (Res.of (dNotIn (enc a) (enc b)) : Res (Bool))) (fun a b => o_anyB dNotIn a b) ha hb
theorem r_nind_pe {a : α} (ha : Ref (fa ρ) (.ok a)) {mb : Res (β)} (hb : Ref (fb ρ) mb) : RefB (binB fa fb dNotIn ρ) ((mb.bind fun b => Res.of (dNotIn (enc a) (enc b))) : Res (Bool)) := r_binB (op := fun (a : α) (b : β) => (Res.of (dNotIn (enc a) (enc b)) : Res (Bool))) (fun a b => o_anyB dNotIn a b) ha hb
theorem r_nind_ep {ma : Res (α)} (ha : Ref (fa ρ) ma) {b : β} (hb : Ref (fb ρ) (.ok b)) : RefB (binB fa fb dNotIn ρ) ((ma.bind fun a => Res.of (dNotIn (enc a) (enc b))) : Res (Bool)) := r_binB (op := fun (a : α) (b : β) => (Res.of (dNotIn (enc a) (enc b)) : Res (Bool))) (fun a b => o_anyB dNotIn a b) ha hb
theorem r_nind_ee {ma : Res (α)} (ha : Ref (fa ρ) ma) {mb : Res (β)} (hb : Ref (fb ρ) mb) : RefB (binB fa fb dNotIn ρ) ((ma.bind fun a => mb.bind fun b => Res.of (dNotIn (enc a) (enc b))) : Res (Bool)) := r_binB (op := fun (a : α) (b : β) => (Res.of (dNotIn (enc a) (enc b)) : Res (Bool))) (fun a b => o_anyB dNotIn a b) ha hb
theorem r_isnd_pp {a : α} (ha : Ref (fa ρ) (.ok a)) {b : β} (hb : Ref (fb ρ) (.ok b)) : RefB (binB fa fb dIsN ρ) ((Res.of (dIsN (enc a) (enc b))) : Res (Bool)) := r_binBP (op := fun (a : α) (b : β) => (Res.of (dIsN (enc a) (enc b)) : Res (Bool))) (fun a b => o_anyB dIsN a b) ha hb
theorem r_isnd_pe {a : α} (ha : Ref (fa ρ) (.ok a)) {mb : Res (β)} (hb : Ref (fb ρ) mb) : RefB (binB fa fb dIsN ρ) ((mb.bind fun b => Res.of (dIsN (enc a) (enc b))) : Res (Bool)) := r_binB (op := fun (a : α) (b : β) => (Res.of (dIsN (enc a) (enc b)) : Res (Bool))) (fun a b => o_anyB dIsN a b) ha hb
theorem r_isnd_ep {ma : Res (α)} (ha : Ref (fa ρ) ma) {b : β} (hb : Ref (fb ρ) (.ok b)) : RefB (binB fa fb dIsN ρ) ((ma.bind fun a => Res.of (dIsN (enc a) (enc b))) : Res (Bool)) := r_binB (op := fun (a : α) (b : β) => (Res.of (dIsN (enc a) (enc b)) : Res (Bool))) (fun a b => o_anyB dIsN a b) ha hb
theorem r_isnd_ee {ma : Res (α)} (ha : Ref (fa ρ) ma) {mb : Res (β)} (hb : Ref (fb ρ) mb) : RefB (binB fa fb dIsN ρ) ((ma.bind fun a => mb.bind fun b => Res.of (dIsN (enc a) (enc b))) : Res (Bool)) := r_binB (op := fun (a : α) (b : β) => (Res.of (dIsN (enc a) (enc b)) : Res (Bool))) (fun a b => o_anyB dIsN a b) ha hb
theorem r_notnd_pp {a : α} (ha : Ref (fa ρ) (.ok a)) {b : β} (hb : Ref (fb ρ) (.ok b)) : RefB (binB fa fb dNotN ρ) ((Res.of (dNotN (enc a) (enc b))) : Res (Bool)) := r_binBP (op := fun (a : α) (b : β) => (Res.of (dNotN (enc a) (enc b)) : Res (Bool))) (fun a b => o_anyB dNotN a b) ha hb
theorem r_notnd_pe {a : α} (ha : Ref (fa ρ) (.ok a)) {mb : Res (β)} (hb : Ref (fb ρ) mb) : RefB (binB fa fb dNotN ρ) ((mb.bind fun b => Res.of (dNotN (enc a) (enc b))) : Res (Bool)) := r_binB (op := fun (a : α) (b : β) => (Res.of (dNotN (enc a) (enc b)) : Res (Bool))) (fun a b => o_anyB dNotN a b) ha hb
theorem r_notnd_ep {ma : Res (α)} (ha : Ref (fa ρ) ma) {b : β} (hb : Ref (fb ρ) (.ok b)) : RefB (binB fa fb dNotN ρ) ((ma.bind fun a => Res.of (dNotN (enc a) (enc b))) : Res (Bool)) := r_binB (op := fun (a : α) (b : β) => (Res.of (dNotN (enc a) (enc b)) : Res (Bool))) (fun a b => o_anyB dNotN a b) ha hb
theorem r_notnd_ee {ma : Res (α)} (ha : Ref (fa ρ) ma) {mb : Res (β)} (hb : Ref (fb ρ) mb) : RefB (binB fa fb dNotN ρ) ((ma.bind fun a => mb.bind fun b => Res.of (dNotN (enc a) (enc b))) : Res (Bool)) := r_binB (op := fun (a : α) (b : β) => (Res.of (dNotN (enc a) (enc b)) : Res (Bool))) (fun a b => o_anyB dNotN a b) ha hb
theorem r_neg_p {a : Int} (ha : Ref (fa ρ) (.ok a)) : Ref (un fa dNeg ρ) ((.ok (-a)) : Res (Int)) := r_unP (op := fun (a : Int) => (.ok (-a) : Res (Int))) (fun a => o_neg a) ha
theorem r_neg_e {ma : Res (Int)} (ha : Ref (fa ρ) ma) : Ref (un fa dNeg ρ) ((ma.bind fun a => .ok (-a)) : Res (Int)) := r_un (op := fun (a : Int) => (.ok (-a) : Res (Int))) (fun a => o_neg a) ha
theorem r_len_p {a : List α} (ha : Ref (fa ρ) (.ok a)) : Ref (un fa dLen ρ) ((.ok (a.length : Int)) : Res (Int)) := r_unP (op := fun (a : List α) => (.ok (a.length : Int) : Res (Int))) (fun a => o_len a) ha
theorem r_len_e {ma : Res (List α)} (ha : Ref (fa ρ) ma) : Ref (un fa dLen ρ) ((ma.bind fun a => .ok (a.length : Int)) : Res (Int)) := r_un (op := fun (a : List α) => (.ok (a.length : Int) : Res (Int))) (fun a => o_len a) ha
theorem r_lenu_p {a : Tu α} (ha : Ref (fa ρ) (.ok a)) : Ref (un fa dLen ρ) ((.ok (a.l.length : Int)) : Res (Int)) := r_unP (op := fun (a : Tu α) => (.ok (a.l.length : Int) : Res (Int))) (fun a => o_lenU a) ha
theorem r_lenu_e {ma : Res (Tu α)} (ha : Ref (fa ρ) ma) : Ref (un fa dLen ρ) ((ma.bind fun a => .ok (a.l.length : Int)) : Res (Int)) := r_un (op := fun (a : Tu α) => (.ok (a.l.length : Int) : Res (Int))) (fun a => o_lenU a) ha
theorem r_lens_p {a : Str} (ha : Ref (fa ρ) (.ok a)) : Ref (un fa dLen ρ) ((lenS a) : Res (Int)) := r_unP (op := fun (a : Str) => (lenS a : Res (Int))) (fun a => o_lenS a) ha
theorem r_lens_e {ma : Res (Str)} (ha : Ref (fa ρ) ma) : Ref (un fa dLen ρ) ((ma.bind fun a => lenS a) : Res (Int)) := r_un (op := fun (a : Str) => (lenS a : Res (Int))) (fun a => o_lenS a) ha
theorem r_sum_p {a : List Int} (ha : Ref (fa ρ) (.ok a)) : Ref (un fa dSum ρ) ((.ok a.sum) : Res (Int)) := r_unP (op := fun (a : List Int) => (.ok a.sum : Res (Int))) (fun a => o_sum a) ha
theorem r_sum_e {ma : Res (List Int)} (ha : Ref (fa ρ) ma) : Ref (un fa dSum ρ) ((ma.bind fun a => .ok a.sum) : Res (Int)) := r_un (op := fun (a : List Int) => (.ok a.sum : Res (Int))) (fun a => o_sum a) ha
theorem r_abs_p {a : Int} (ha : Ref (fa ρ) (.ok a)) : Ref (un fa dAbs ρ) ((.ok (if a < 0 then -a else a)) : Res (Int)) := r_unP (op := fun (a : Int) => (.ok (if a < 0 then -a else a) : Res (Int))) (fun a => o_abs a) ha
theorem r_abs_e {ma : Res (Int)} (ha : Ref (fa ρ) ma) : Ref (un fa dAbs ρ) ((ma.bind fun a => .ok (if a < 0 then -a else a)) : Res (Int)) := r_un (op := fun (a : Int) => (.ok (if a < 0 then -a else a) : Res (Int))) (fun a => o_abs a) ha
theorem r_minz_p {a : List Int} (ha : Ref (fa ρ) (.ok a)) : Ref (un fa dMinA ρ) ((minz a) : Res (Int)) := r_unP (op := fun (a : List Int) => (minz a : Res (Int))) (fun a => o_minz a) ha
theorem r_minz_e {ma : Res (List Int)} (ha : Ref (fa ρ) ma) : Ref (un fa dMinA ρ) ((ma.bind fun a => minz a) : Res (Int)) := r_un (op := fun (a : List Int) => (minz a : Res (Int))) (fun a => o_minz a) ha
theorem r_maxz_p {a : List Int} (ha : Ref (fa ρ) (.ok a)) : Ref (un fa dMaxA ρ) ((maxz a) : Res (Int)) := r_unP (op := fun (a : List Int) => (maxz a : Res (Int))) (fun a => o_maxz a) ha
theorem r_maxz_e {ma : Res (List Int)} (ha : Ref (fa ρ) ma) : Ref (un fa dMaxA ρ) ((ma.bind fun a => maxz a) : Res (Int)) := r_un (op := fun (a : List Int) => (maxz a : Res (Int))) (fun a => o_maxz a) ha
theorem r_str_p {a : Int} (ha : Ref (fa ρ) (.ok a)) : Ref (un fa dStr ρ) ((strI a) : Res (Str)) := r_unP (op := fun (a : Int) => (strI a : Res (Str))) (fun a => o_strI a) ha
theorem r_str_e {ma : Res (Int)} (ha : Ref (fa ρ) ma) : Ref (un fa dStr ρ) ((ma.bind fun a => strI a) : Res (Str)) := r_un (op := fun (a : Int) => (strI a : Res (Str))) (fun a => o_strI a) ha
theorem r_tup_p {a : List α} (ha : Ref (fa ρ) (.ok a)) : Ref (un fa dTup ρ) ((.ok (Tu.mk a)) : Res (Tu α)) := r_unP (op := fun (a : List α) => (.ok (Tu.mk a) : Res (Tu α))) (fun a => o_tup a) ha
theorem r_tup_e {ma : Res (List α)} (ha : Ref (fa ρ) ma) : Ref (un fa dTup ρ) ((ma.bind fun a => .ok (Tu.mk a)) : Res (Tu α)) := r_un (op := fun (a : List α) => (.ok (Tu.mk a) : Res (Tu α))) (fun a => o_tup a) ha
theorem r_tupu_p {a : Tu α} (ha : Ref (fa ρ) (.ok a)) : Ref (un fa dTup ρ) ((.ok a) : Res (Tu α)) := r_unP (op := fun (a : Tu α) => (.ok a : Res (Tu α))) (fun a => o_tupU a) ha
theorem r_tupu_e {ma : Res (Tu α)} (ha : Ref (fa ρ) ma) : Ref (un fa dTup ρ) ((ma.bind fun a => .ok a) : Res (Tu α)) := r_un (op := fun (a : Tu α) => (.ok a : Res (Tu α))) (fun a => o_tupU a) ha
theorem r_lend_p {a : α} (ha : Ref (fa ρ) (.ok a)) : Ref (un fa dLen ρ) ((Res.of (dLen (enc a))) : Res (D)) := r_unP (op := fun (a : α) => (Res.of (dLen (enc a)) : Res (D))) (fun a => o_any1 dLen a) ha
theorem r_lend_e {ma : Res (α)} (ha : Ref (fa ρ) ma) : Ref (un fa dLen ρ) ((ma.bind fun a => Res.of (dLen (enc a))) : Res (D)) := r_un (op := fun (a : α) => (Res.of (dLen (enc a)) : Res (D))) (fun a => o_any1 dLen a) ha
theorem r_sumd_p {a : α} (ha : Ref (fa ρ) (.ok a)) : Ref (un fa dSum ρ) ((Res.of (dSum (enc a))) : Res (D)) := r_unP (op := fun (a : α) => (Res.of (dSum (enc a)) : Res (D))) (fun a => o_any1 dSum a) ha
theorem r_sumd_e {ma : Res (α)} (ha : Ref (fa ρ) ma) : Ref (un fa dSum ρ) ((ma.bind fun a => Res.of (dSum (enc a))) : Res (D)) := r_un (op := fun (a : α) => (Res.of (dSum (enc a)) : Res (D))) (fun a => o_any1 dSum a) ha
theorem r_mind_p {a : α} (ha : Ref (fa ρ) (.ok a)) : Ref (un fa dMinA ρ) ((Res.of (dMinA (enc a))) : Res (D)) := r_unP (op := fun (a : α) => (Res.of (dMinA (enc a)) : Res (D))) (fun a => o_any1 dMinA a) ha
theorem r_mind_e {ma : Res (α)} (ha : Ref (fa ρ) ma) : Ref (un fa dMinA ρ) ((ma.bind fun a => Res.of (dMinA (enc a))) : Res (D)) := r_un (op := fun (a : α) => (Res.of (dMinA (enc a)) : Res (D))) (fun a => o_any1 dMinA a) ha
theorem r_maxd_p {a : α} (ha : Ref (fa ρ) (.ok a)) : Ref (un fa dMaxA ρ) ((Res.of (dMaxA (enc a))) : Res (D)) := r_unP (op := fun (a : α) => (Res.of (dMaxA (enc a)) : Res (D))) (fun a => o_any1 dMaxA a) ha
theorem r_maxd_e {ma : Res (α)} (ha : Ref (fa ρ) ma) : Ref (un fa dMaxA ρ) ((ma.bind fun a => Res.of (dMaxA (enc a))) : Res (D)) := r_un (op := fun (a : α) => (Res.of (dMaxA (enc a)) : Res (D))) (fun a => o_any1 dMaxA a) ha
theorem r_tupd_p {a : α} (ha : Ref (fa ρ) (.ok a)) : Ref (un fa dTup ρ) ((Res.of (dTup (enc a))) : Res (D)) := r_unP (op := fun (a : α) => (Res.of (dTup (enc a)) : Res (D))) (fun a => o_any1 dTup a) ha
theorem r_tupd_e {ma : Res (α)} (ha : Ref (fa ρ) ma) : Ref (un fa dTup ρ) ((ma.bind fun a => Res.of (dTup (enc a))) : Res (D)) := r_un (op := fun (a : α) => (Res.of (dTup (enc a)) : Res (D))) (fun a => o_any1 dTup a) ha
theorem r_negd_p {a : α} (ha : Ref (fa ρ) (.ok a)) : Ref (un fa dNeg ρ) ((Res.of (dNeg (enc a))) : Res (D)) := r_unP (op := fun (a : α) => (Res.of (dNeg (enc a)) : Res (D))) (fun a => o_any1 dNeg a) ha
theorem r_negd_e {ma : Res (α)} (ha : Ref (fa ρ) ma) : Ref (un fa dNeg ρ) ((ma.bind fun a => Res.of (dNeg (enc a))) : Res (D)) := r_un (op := fun (a : α) => (Res.of (dNeg (enc a)) : Res (D))) (fun a => o_any1 dNeg a) ha
theorem rl_list_p {a : List α} (ha : Ref (fa ρ) (.ok a)) : RefL (unO fa dList ρ) ((.ok a) : Res (List α)) := r_unOP (op := fun (a : List α) => (.ok a : Res (List α))) (fun a => ol_list a) ha
theorem rl_list_e {ma : Res (List α)} (ha : Ref (fa ρ) ma) : RefL (unO fa dList ρ) ((ma.bind fun a => .ok a) : Res (List α)) := r_unO (op := fun (a : List α) => (.ok a : Res (List α))) (fun a => ol_list a) ha
theorem rl_listu_p {a : Tu α} (ha : Ref (fa ρ) (.ok a)) : RefL (unO fa dList ρ) ((.ok a.l) : Res (List α)) := r_unOP (op := fun (a : Tu α) => (.ok a.l : Res (List α))) (fun a => ol_listU a) ha
theorem rl_listu_e {ma : Res (Tu α)} (ha : Ref (fa ρ) ma) : RefL (unO fa dList ρ) ((ma.bind fun a => .ok a.l) : Res (List α)) := r_unO (op := fun (a : Tu α) => (.ok a.l : Res (List α))) (fun a => ol_listU a) ha
/-! ### defs that every law has -/
theorem okD_up1 : ∀ {n : Nat} {d : D}, okD n d → okD (n + 1) d
  | 0, .list _, h => h.elim
  | 0, .tuple _, h => h.elim
  | n + 1, .list ds, h => ⟨h.1, fun e he => okD_up1 (h.2 e he)⟩
  | n + 1, .tuple ds, h => ⟨h.1, fun e he => okD_up1 (h.2 e he)⟩
  | 0, .none, _ => trivial
  | 0, .bool _, _ => trivial
  | 0, .int _, _ => trivial
  | 0, .str _, h => h
  | 0, .dict _, h => h.elim
  | n + 1, .none, _ => trivial
  | n + 1, .bool _, _ => trivial
  | n + 1, .int _, _ => trivial
  | n + 1, .str _, h => h
  | n + 1, .dict _, h => h.elim
theorem okD_up {n m : Nat} {d : D} (h : okD n d) (hm : n ≤ m) : okD m d := by
  induction m with
  | zero => have : n = 0 := by omega
            subst this; exact h
  | succ m ih => by_cases e : n = m + 1
                 · subst e; exact h
                 · exact okD_up1 (ih (by omega))
def isNum (d : D) (lo hi : Int) : Bool := match d with
  | .int i => decide (lo ≤ i ∧ i ≤ hi)
  | _ => false
theorem F_num (d : D) (lo hi : Int) : F_is_number [d, enc lo, enc hi] = .ok (.bool (isNum d lo hi)) := by
  have e : (enc lo : D) = .int lo := rfl
  have e' : (enc hi : D) = .int hi := rfl
  rw [e, e']
  cases d with
  | int i => exact num_i
  | bool b => exact num_b
  | _ => rfl
theorem c_num (a : α) (lo hi : Int) : Ref (F_is_number [enc a, enc lo, enc hi]) (.ok (isNum (enc a) lo hi)) := F_num _ _ _
open Classical in
def stri (a b : D) : Res Bool := if a = b ∧ ∃ n, n < 8 ∧ okD n a then .ok true else .no
theorem c_stri (a : α) (b : β) : Ref (F__law_strictly 8 [enc a, enc b]) (stri (enc a) (enc b)) := by
  unfold stri
  split
  · rename_i h
    obtain ⟨h1, n, hn, h2⟩ := h
    rw [← h1]
    exact strict_ok (n := 7) (okD_up h2 (by omega))
  · exact trivial
open Classical in
def draw (s : List Int) (k : Int) (z : List Int) : Res (List Int) := if h : ∃ l : List Int, F__law_draw [enc s, enc k, enc z] = .ok (enc l) ∧ Fits l z then .ok h.choose else .no
theorem c_draw (s : List Int) (k : Int) (z : List Int) : Ref (F__law_draw [enc s, enc k, enc z]) (draw s k z) := by
  unfold draw
  split
  · rename_i h; exact h.choose_spec.1
  · exact trivial
theorem draw_get (s : List Int) {k : Int} {z : List Int} (h0 : 0 ≤ k) (h1 : k ≤ 1000000) (hl : z.length ≤ 1000) (hs : ∀ x ∈ z, 0 < x ∧ x ≤ 1000000000) : ∃ l, draw s k z = .ok l ∧ Fits l z := by
  obtain ⟨l, h2, h3⟩ := draw_ok (ns := s) h0 h1 hl hs
  have h : ∃ l : List Int, F__law_draw [enc s, enc k, enc z] = .ok (enc l) ∧ Fits l z := ⟨l, h2, h3⟩
  refine ⟨h.choose, ?_, h.choose_spec.2⟩
  unfold draw
  rw [dif_pos h]
/-- shares -/
def ratM (a b : Int) : Res (Int × Int) := if 0 ≤ a ∧ 0 < b ∧ b ≤ BIG then .ok (a / gcdI a b, b / gcdI a b) else .no
theorem c_ratio (a b : Int) : Ref (F_ratio [enc a, enc b]) (ratM a b) := by
  unfold ratM
  split
  · rename_i h; exact ratio_ok h.1 h.2.1 h.2.2
  · exact trivial
theorem c_lratio (a b : Int) : Ref (F__law_ratio [enc a, enc b]) (ratM a b) := by
  unfold ratM
  split
  · rename_i h; exact lratio_ok h.1 h.2.1 h.2.2
  · exact trivial
def sml (a : Int) : Prop := -BIG ≤ a ∧ a ≤ BIG
instance (a : Int) : Decidable (sml a) := by unfold sml; infer_instance
def lessM (p q : Int × Int) : Res Bool := if (sml p.1 ∧ sml p.2) ∧ sml q.1 ∧ sml q.2 then .ok (decide (p.1 * q.2 < q.1 * p.2)) else .no
theorem c_less (p q : Int × Int) : Ref (F_less [enc p, enc q]) (lessM p q) := by
  unfold lessM
  split
  · rename_i h
    obtain ⟨⟨⟨h1, h2⟩, h3, h4⟩, ⟨h5, h6⟩, h7, h8⟩ := h
    exact less_ok h1 h2 h3 h4 h5 h6 h7 h8
  · exact trivial
/-! ### the law -/
theorem law_of {F : List D → Res D} {m : List Int → Res Bool} (h : ∀ s : List Int, Ref (F [enc s]) (m s)) (ht : ∀ s : List Int, s.length ≤ 63 → m s = .ok true) : ∀ ns : List Int, ns.length ≤ 63 → F [.list (ns.map .int)] = .ok (.bool true) := fun ns hl => by
  have := h ns
  rw [ht ns hl] at this
  exact this
end
end VT

set_option Elab.async false
set_option linter.all false
set_option maxRecDepth 100000
set_option maxHeartbeats 4000000
namespace VT
open PySem PySem.Spec PyProof.Rows L2 VL
open Enc
noncomputable section
variable {α β γ δ ε ζ η θ σ τ : Type} [Enc α] [Enc β] [Enc γ] [Enc δ] [Enc ε] [Enc ζ] [Enc η] [Enc θ]
variable {ρ : Rho} {f fa fb fc fd : Rho → Res D} {ta tb : Rho → Res Bool} {ga gb : Rho → Res (List D)} {i j : Nat}
/-! ### types with Python's order -/
abbrev lx : List (Int ⊕ List Nat) → List (Int ⊕ List Nat) → Bool := PyProof.Rows.lexLt PyProof.Rows.itemOrd
theorem lx_cons (x y : Int ⊕ List Nat) (r t : List (Int ⊕ List Nat)) : lx (x :: r) (y :: t) = (PyProof.Rows.itemLt x y || (!PyProof.Rows.itemLt y x && lx r t)) := PyProof.Rows.lex_cons (O := PyProof.Rows.itemOrd) x y r t
theorem lx_one (r t : List (Int ⊕ List Nat)) (k : Int) : lx (.inl k :: r) (.inl k :: t) = lx r t := by
  rw [lx_cons]
  have : PyProof.Rows.itemLt (.inl k) (.inl k) = false := by show decide (k < k) = false; simp
  rw [this]; simp
class OrdT (α : Type) [Enc α] where
  lt : α → α → Bool
  alk : ∀ a b : α, PySem.W.alike (enc a) (enc b) = true
  spec : ∀ (a b : α) (r t : List (Int ⊕ List Nat)), lx (PySem.W.keyToks (enc a) ++ r) (PySem.W.keyToks (enc b) ++ t) = (lt a b || (!lt b a && lx r t))
  eqo : ∀ a b : α, lt a b = false → lt b a = false → a = b
  nn : ∀ a : α, enc a ≠ .none
  tupk : Bool
  kd : ∀ a : α, (if tupk = true then tupB (enc a) else othB (enc a)) = true
  odep : Nat
  hodep : ∀ a : α, (enc a).depth ≤ odep
open OrdT
theorem lt_data [OrdT α] (a b : α) : PySem.W.dataLt (enc a) (enc b) = lt a b := by
  have := OrdT.spec a b [] []
  rw [List.append_nil, List.append_nil] at this
  show lx _ _ = _
  rw [this]
  have e : lx [] [] = false := rfl
  rw [e]; simp
theorem lt_irr [OrdT α] (a : α) : lt a a = false := by
  rw [← lt_data]; exact PyProof.Rows.lex_irrefl (O := PyProof.Rows.itemOrd) _
theorem lt_tr [OrdT α] {a b c : α} (h : lt a b = true) (k : lt b c = true) : lt a c = true := by
  rw [← lt_data] at h k ⊢; exact PyProof.Rows.lex_trans (O := PyProof.Rows.itemOrd) _ _ _ h k
theorem lt_asym [OrdT α] {a b : α} (h : lt a b = true) : lt b a = false := by
  cases e : lt b a with
  | false => rfl
  | true => have := lt_tr h e; rw [lt_irr] at this; cases this
theorem lt_tri [OrdT α] (a b : α) : lt a b = true ∨ a = b ∨ lt b a = true := by
  cases e : lt a b with
  | true => exact .inl rfl
  | false => cases e2 : lt b a with
    | true => exact .inr (.inr rfl)
    | false => exact .inr (.inl (OrdT.eqo a b e e2))
/-- at most -/
def le [OrdT α] (a b : α) : Bool := !lt b a
theorem le_refl [OrdT α] (a : α) : le a a = true := by unfold le; rw [lt_irr]; rfl
theorem le_tr [OrdT α] {a b c : α} (h : le a b = true) (k : le b c = true) : le a c = true := by
  unfold le at *
  rcases lt_tri c a with h1 | h1 | h1
  · rcases lt_tri b c with h2 | h2 | h2
    · rw [lt_tr h2 h1] at h; cases h
    · subst h2; rw [h1] at h; cases h
    · rw [h2] at k; cases k
  · subst h1; rw [lt_irr]; rfl
  · rw [lt_asym h1]; rfl
theorem le_anti [OrdT α] {a b : α} (h : le a b = true) (k : le b a = true) : a = b := by
  unfold le at *
  rcases lt_tri a b with h1 | h1 | h1
  · rw [h1] at k; cases k
  · exact h1
  · rw [h1] at h; cases h
theorem le_tot [OrdT α] (a b : α) : (le a b || le b a) = true := by
  unfold le
  rcases lt_tri a b with h1 | h1 | h1
  · rw [lt_asym h1]; rfl
  · subst h1; rw [lt_irr]; rfl
  · rw [lt_asym h1]; simp
theorem le_of_lt [OrdT α] {a b : α} (h : lt a b = true) : le a b = true := by unfold le; rw [lt_asym h]; rfl
theorem lt_of_le [OrdT α] {a b : α} (h : le a b = true) (n : a ≠ b) : lt a b = true := by
  rcases lt_tri a b with h1 | h1 | h1
  · exact h1
  · exact absurd h1 n
  · unfold le at h; rw [h1] at h; cases h
instance : OrdT Int where
  lt a b := decide (a < b)
  alk _ _ := rfl
  spec a b r t := by
    show lx (.inl a :: r) (.inl b :: t) = _
    rw [lx_cons]; rfl
  eqo a b h k := by simp at h k; omega
  nn _ h := by cases h
  tupk := false
  kd _ := rfl
  odep := 0
  hodep a := dep0 (d := .int a)
theorem bool_tok (b : Bool) : PySem.W.keyToks (.bool b) = [.inl (if b = true then 1 else 0)] := rfl
instance : OrdT Str where
  lt a b := PyProof.Rows.itemLt (.inr a.cps.toList) (.inr b.cps.toList)
  alk _ _ := rfl
  spec a b r t := by
    show lx (.inr a.cps.toList :: r) (.inr b.cps.toList :: t) = _
    rw [lx_cons]
  eqo a b h k := by
    have := PyProof.Rows.itemOrd.total (.inr a.cps.toList) (.inr b.cps.toList) h k
    have e : a.cps.toList = b.cps.toList := by injection this
    cases a; cases b
    have := congrArg List.toArray e
    simpa using this
  nn _ h := by cases h
  tupk := false
  kd _ := rfl
  odep := 0
  hodep a := dep0 (d := .str a)
theorem lexstep (a b P Q R : Bool) : (a || (!b && (P || (!Q && R)))) = ((a || (!b && P)) || (!(b || (!a && Q)) && R)) := by
  cases a <;> cases b <;> cases P <;> cases Q <;> cases R <;> rfl
theorem lexcong {a b X Y : Bool} (h : X = Y) : (a || (!b && X)) = (a || (!b && Y)) := by rw [h]
/-! lists, place by place -/
def ltL (lt : α → α → Bool) : List α → List α → Bool
  | [], [] => false
  | [], _ :: _ => true
  | _ :: _, [] => false
  | x :: xs, y :: ys => lt x y || (!lt y x && ltL lt xs ys)
theorem toks_nil : PySem.W.keyToksAll [] = [.inl 0] := rfl
theorem toks_cons (x : D) (xs : List D) : PySem.W.keyToksAll (x :: xs) = .inl 1 :: (PySem.W.keyToks x ++ PySem.W.keyToksAll xs) := by rw [PySem.W.keyToksAll]
theorem toks_list (xs : List D) : PySem.W.keyToks (.list xs) = PySem.W.keyToksAll xs := by rw [PySem.W.keyToks]
theorem toks_tup (xs : List D) : PySem.W.keyToks (.tuple xs) = PySem.W.keyToksAll xs := by rw [PySem.W.keyToks]
theorem alk_cons (x y : D) (xs ys : List D) : PySem.W.alikeAll (x :: xs) (y :: ys) = (PySem.W.alike x y && PySem.W.alikeAll xs ys) := by rw [PySem.W.alikeAll]
theorem alk_nil (xs : List D) : PySem.W.alikeAll [] xs = true := by rw [PySem.W.alikeAll]
theorem alk_nilr (x : D) (xs : List D) : PySem.W.alikeAll (x :: xs) [] = true := by rw [PySem.W.alikeAll]
theorem alk_map [OrdT α] : ∀ a b : List α, PySem.W.alikeAll (a.map enc) (b.map enc) = true
  | [], b => alk_nil _
  | a :: l, [] => alk_nilr _ _
  | a :: l, b :: m => by rw [List.map_cons, List.map_cons, alk_cons, OrdT.alk, alk_map l m]; rfl
theorem lx_01 (r t : List (Int ⊕ List Nat)) : lx (.inl 0 :: r) (.inl 1 :: t) = true := by rw [lx_cons]; rfl
theorem lx_10 (r t : List (Int ⊕ List Nat)) : lx (.inl 1 :: r) (.inl 0 :: t) = false := by rw [lx_cons]; rfl
theorem spec_map [OrdT α] : ∀ (a b : List α) (r t : List (Int ⊕ List Nat)), lx (PySem.W.keyToksAll (a.map enc) ++ r) (PySem.W.keyToksAll (b.map enc) ++ t) = (ltL lt a b || (!ltL lt b a && lx r t))
  | [], [], r, t => by
    show lx (.inl 0 :: r) (.inl 0 :: t) = _
    rw [lx_one]; rfl
  | [], b :: m, r, t => by
    rw [List.map_cons, toks_cons]
    show lx (.inl 0 :: r) (.inl 1 :: _) = _
    rw [lx_01]; rfl
  | a :: l, [], r, t => by
    rw [List.map_cons, toks_cons]
    show lx (.inl 1 :: _) (.inl 0 :: t) = _
    rw [lx_10]; rfl
  | a :: l, b :: m, r, t => by
    rw [List.map_cons, List.map_cons, toks_cons, toks_cons, List.cons_append, List.cons_append, lx_one, List.append_assoc, List.append_assoc, OrdT.spec, spec_map l m]
    show _ = ((lt a b || (!lt b a && ltL lt l m)) || (!(lt b a || (!lt a b && ltL lt m l)) && lx r t))
    cases lt a b <;> cases lt b a <;> simp
theorem eqo_map [OrdT α] : ∀ a b : List α, ltL lt a b = false → ltL lt b a = false → a = b
  | [], [], _, _ => rfl
  | [], b :: m, h, _ => by unfold ltL at h; cases h
  | a :: l, [], _, h => by unfold ltL at h; cases h
  | a :: l, b :: m, h, k => by
    unfold ltL at h k
    rw [Bool.or_eq_false_iff] at h k
    have e := OrdT.eqo a b h.1 k.1
    subst e
    have h2 := h.2
    have k2 := k.2
    rw [lt_irr] at h2 k2
    rw [eqo_map l m (by simpa using h2) (by simpa using k2)]
theorem odep_map [OrdT α] : ∀ a : List α, PyData.depthAll (a.map enc) ≤ odep α
  | [] => by show PyData.depthAll [] ≤ _; rw [dep_nil]; exact Nat.zero_le _
  | a :: l => by
    rw [List.map_cons, dep_cons]
    exact Nat.max_le.mpr ⟨OrdT.hodep a, odep_map l⟩
instance [OrdT α] : OrdT (List α) where
  lt a b := ltL lt a b
  alk a b := by show PySem.W.alike (.list _) (.list _) = true; rw [PySem.W.alike]; exact alk_map a b
  spec a b r t := by show lx (PySem.W.keyToks (.list _) ++ r) (PySem.W.keyToks (.list _) ++ t) = _; rw [toks_list, toks_list]; exact spec_map a b r t
  eqo := eqo_map
  nn _ h := by cases h
  tupk := false
  kd _ := rfl
  odep := odep α + 1
  hodep a := Nat.le_trans (Nat.le_of_eq (dep_list _)) (Nat.add_le_add_right (odep_map a) 1)

instance [OrdT α] : OrdT (T1 α) where
  lt a b := lt a.a b.a
  alk a b := by
    show PySem.W.alike (.tuple _) (.tuple _) = true
    rw [PySem.W.alike, alk_cons, alk_nil, OrdT.alk]; rfl
  spec a b r t := by
    obtain ⟨a0⟩ := a; obtain ⟨b0⟩ := b
    show lx (PySem.W.keyToks (.tuple _) ++ r) (PySem.W.keyToks (.tuple _) ++ t) = _
    rw [toks_tup, toks_tup]
    simp only [toks_cons, toks_nil, List.cons_append, List.append_assoc, List.nil_append, lx_one, OrdT.spec]
    skip
  eqo a b h k := by
    obtain ⟨a0⟩ := a; obtain ⟨b0⟩ := b
    dsimp only at h k
    have e := OrdT.eqo _ _ h k
    subst e
    first | done | rfl
  nn _ h := by cases h
  tupk := true
  kd _ := rfl
  odep := max (odep α) (0) + 1
  hodep p := by
    obtain ⟨a0⟩ := p
    refine Nat.le_trans (Nat.le_of_eq (dep_tup _)) (Nat.add_le_add_right ?_ 1)
    rw [dep_cons, dep_nil]
    exact max_mono (OrdT.hodep _) (Nat.le_refl 0)

instance [OrdT α] [OrdT β] : OrdT (α × β) where
  lt a b := (lt a.1 b.1 || (!lt b.1 a.1 && lt a.2 b.2))
  alk a b := by
    show PySem.W.alike (.tuple _) (.tuple _) = true
    rw [PySem.W.alike, alk_cons, alk_cons, alk_nil, OrdT.alk, OrdT.alk]; rfl
  spec a b r t := by
    obtain ⟨a0, a1⟩ := a; obtain ⟨b0, b1⟩ := b
    show lx (PySem.W.keyToks (.tuple _) ++ r) (PySem.W.keyToks (.tuple _) ++ t) = _
    rw [toks_tup, toks_tup]
    simp only [toks_cons, toks_nil, List.cons_append, List.append_assoc, List.nil_append, lx_one, OrdT.spec]
    refine (lexcong ?_).trans (lexstep _ _ _ _ _)
    rfl
  eqo a b h k := by
    obtain ⟨a0, a1⟩ := a; obtain ⟨b0, b1⟩ := b
    dsimp only at h k
    rw [Bool.or_eq_false_iff] at h k
    have e := OrdT.eqo _ _ h.1 k.1
    subst e
    have h := h.2
    have k := k.2
    rw [lt_irr] at h k
    simp only [Bool.not_false, Bool.true_and] at h k
    have e := OrdT.eqo _ _ h k
    subst e
    first | done | rfl
  nn _ h := by cases h
  tupk := true
  kd _ := rfl
  odep := max (odep α) (max (odep β) (0)) + 1
  hodep p := by
    obtain ⟨a0, a1⟩ := p
    refine Nat.le_trans (Nat.le_of_eq (dep_tup _)) (Nat.add_le_add_right ?_ 1)
    rw [dep_cons, dep_cons, dep_nil]
    exact max_mono (OrdT.hodep _) (max_mono (OrdT.hodep _) (Nat.le_refl 0))

instance [OrdT α] [OrdT β] [OrdT γ] : OrdT (T3 α β γ) where
  lt a b := (lt a.a b.a || (!lt b.a a.a && (lt a.b b.b || (!lt b.b a.b && lt a.c b.c))))
  alk a b := by
    show PySem.W.alike (.tuple _) (.tuple _) = true
    rw [PySem.W.alike, alk_cons, alk_cons, alk_cons, alk_nil, OrdT.alk, OrdT.alk, OrdT.alk]; rfl
  spec a b r t := by
    obtain ⟨a0, a1, a2⟩ := a; obtain ⟨b0, b1, b2⟩ := b
    show lx (PySem.W.keyToks (.tuple _) ++ r) (PySem.W.keyToks (.tuple _) ++ t) = _
    rw [toks_tup, toks_tup]
    simp only [toks_cons, toks_nil, List.cons_append, List.append_assoc, List.nil_append, lx_one, OrdT.spec]
    refine (lexcong ?_).trans (lexstep _ _ _ _ _)
    refine (lexcong ?_).trans (lexstep _ _ _ _ _)
    rfl
  eqo a b h k := by
    obtain ⟨a0, a1, a2⟩ := a; obtain ⟨b0, b1, b2⟩ := b
    dsimp only at h k
    rw [Bool.or_eq_false_iff] at h k
    have e := OrdT.eqo _ _ h.1 k.1
    subst e
    have h := h.2
    have k := k.2
    rw [lt_irr] at h k
    simp only [Bool.not_false, Bool.true_and] at h k
    rw [Bool.or_eq_false_iff] at h k
    have e := OrdT.eqo _ _ h.1 k.1
    subst e
    have h := h.2
    have k := k.2
    rw [lt_irr] at h k
    simp only [Bool.not_false, Bool.true_and] at h k
    have e := OrdT.eqo _ _ h k
    subst e
    first | done | rfl
  nn _ h := by cases h
  tupk := true
  kd _ := rfl
  odep := max (odep α) (max (odep β) (max (odep γ) (0))) + 1
  hodep p := by
    obtain ⟨a0, a1, a2⟩ := p
    refine Nat.le_trans (Nat.le_of_eq (dep_tup _)) (Nat.add_le_add_right ?_ 1)
    rw [dep_cons, dep_cons, dep_cons, dep_nil]
    exact max_mono (OrdT.hodep _) (max_mono (OrdT.hodep _) (max_mono (OrdT.hodep _) (Nat.le_refl 0)))

instance [OrdT α] [OrdT β] [OrdT γ] [OrdT δ] : OrdT (T4 α β γ δ) where
  lt a b := (lt a.a b.a || (!lt b.a a.a && (lt a.b b.b || (!lt b.b a.b && (lt a.c b.c || (!lt b.c a.c && lt a.d b.d))))))
  alk a b := by
    show PySem.W.alike (.tuple _) (.tuple _) = true
    rw [PySem.W.alike, alk_cons, alk_cons, alk_cons, alk_cons, alk_nil, OrdT.alk, OrdT.alk, OrdT.alk, OrdT.alk]; rfl
  spec a b r t := by
    obtain ⟨a0, a1, a2, a3⟩ := a; obtain ⟨b0, b1, b2, b3⟩ := b
    show lx (PySem.W.keyToks (.tuple _) ++ r) (PySem.W.keyToks (.tuple _) ++ t) = _
    rw [toks_tup, toks_tup]
    simp only [toks_cons, toks_nil, List.cons_append, List.append_assoc, List.nil_append, lx_one, OrdT.spec]
    refine (lexcong ?_).trans (lexstep _ _ _ _ _)
    refine (lexcong ?_).trans (lexstep _ _ _ _ _)
    refine (lexcong ?_).trans (lexstep _ _ _ _ _)
    rfl
  eqo a b h k := by
    obtain ⟨a0, a1, a2, a3⟩ := a; obtain ⟨b0, b1, b2, b3⟩ := b
    dsimp only at h k
    rw [Bool.or_eq_false_iff] at h k
    have e := OrdT.eqo _ _ h.1 k.1
    subst e
    have h := h.2
    have k := k.2
    rw [lt_irr] at h k
    simp only [Bool.not_false, Bool.true_and] at h k
    rw [Bool.or_eq_false_iff] at h k
    have e := OrdT.eqo _ _ h.1 k.1
    subst e
    have h := h.2
    have k := k.2
    rw [lt_irr] at h k
    simp only [Bool.not_false, Bool.true_and] at h k
    rw [Bool.or_eq_false_iff] at h k
    have e := OrdT.eqo _ _ h.1 k.1
    subst e
    have h := h.2
    have k := k.2
    rw [lt_irr] at h k
    simp only [Bool.not_false, Bool.true_and] at h k
    have e := OrdT.eqo _ _ h k
    subst e
    first | done | rfl
  nn _ h := by cases h
  tupk := true
  kd _ := rfl
  odep := max (odep α) (max (odep β) (max (odep γ) (max (odep δ) (0)))) + 1
  hodep p := by
    obtain ⟨a0, a1, a2, a3⟩ := p
    refine Nat.le_trans (Nat.le_of_eq (dep_tup _)) (Nat.add_le_add_right ?_ 1)
    rw [dep_cons, dep_cons, dep_cons, dep_cons, dep_nil]
    exact max_mono (OrdT.hodep _) (max_mono (OrdT.hodep _) (max_mono (OrdT.hodep _) (max_mono (OrdT.hodep _) (Nat.le_refl 0))))

instance [OrdT α] [OrdT β] [OrdT γ] [OrdT δ] [OrdT ε] : OrdT (T5 α β γ δ ε) where
  lt a b := (lt a.a b.a || (!lt b.a a.a && (lt a.b b.b || (!lt b.b a.b && (lt a.c b.c || (!lt b.c a.c && (lt a.d b.d || (!lt b.d a.d && lt a.e b.e))))))))
  alk a b := by
    show PySem.W.alike (.tuple _) (.tuple _) = true
    rw [PySem.W.alike, alk_cons, alk_cons, alk_cons, alk_cons, alk_cons, alk_nil, OrdT.alk, OrdT.alk, OrdT.alk, OrdT.alk, OrdT.alk]; rfl
  spec a b r t := by
    obtain ⟨a0, a1, a2, a3, a4⟩ := a; obtain ⟨b0, b1, b2, b3, b4⟩ := b
    show lx (PySem.W.keyToks (.tuple _) ++ r) (PySem.W.keyToks (.tuple _) ++ t) = _
    rw [toks_tup, toks_tup]
    simp only [toks_cons, toks_nil, List.cons_append, List.append_assoc, List.nil_append, lx_one, OrdT.spec]
    refine (lexcong ?_).trans (lexstep _ _ _ _ _)
    refine (lexcong ?_).trans (lexstep _ _ _ _ _)
    refine (lexcong ?_).trans (lexstep _ _ _ _ _)
    refine (lexcong ?_).trans (lexstep _ _ _ _ _)
    rfl
  eqo a b h k := by
    obtain ⟨a0, a1, a2, a3, a4⟩ := a; obtain ⟨b0, b1, b2, b3, b4⟩ := b
    dsimp only at h k
    rw [Bool.or_eq_false_iff] at h k
    have e := OrdT.eqo _ _ h.1 k.1
    subst e
    have h := h.2
    have k := k.2
    rw [lt_irr] at h k
    simp only [Bool.not_false, Bool.true_and] at h k
    rw [Bool.or_eq_false_iff] at h k
    have e := OrdT.eqo _ _ h.1 k.1
    subst e
    have h := h.2
    have k := k.2
    rw [lt_irr] at h k
    simp only [Bool.not_false, Bool.true_and] at h k
    rw [Bool.or_eq_false_iff] at h k
    have e := OrdT.eqo _ _ h.1 k.1
    subst e
    have h := h.2
    have k := k.2
    rw [lt_irr] at h k
    simp only [Bool.not_false, Bool.true_and] at h k
    rw [Bool.or_eq_false_iff] at h k
    have e := OrdT.eqo _ _ h.1 k.1
    subst e
    have h := h.2
    have k := k.2
    rw [lt_irr] at h k
    simp only [Bool.not_false, Bool.true_and] at h k
    have e := OrdT.eqo _ _ h k
    subst e
    first | done | rfl
  nn _ h := by cases h
  tupk := true
  kd _ := rfl
  odep := max (odep α) (max (odep β) (max (odep γ) (max (odep δ) (max (odep ε) (0))))) + 1
  hodep p := by
    obtain ⟨a0, a1, a2, a3, a4⟩ := p
    refine Nat.le_trans (Nat.le_of_eq (dep_tup _)) (Nat.add_le_add_right ?_ 1)
    rw [dep_cons, dep_cons, dep_cons, dep_cons, dep_cons, dep_nil]
    exact max_mono (OrdT.hodep _) (max_mono (OrdT.hodep _) (max_mono (OrdT.hodep _) (max_mono (OrdT.hodep _) (max_mono (OrdT.hodep _) (Nat.le_refl 0)))))

instance [OrdT α] [OrdT β] [OrdT γ] [OrdT δ] [OrdT ε] [OrdT ζ] [OrdT η] [OrdT θ] : OrdT (T8 α β γ δ ε ζ η θ) where
  lt a b := (lt a.a b.a || (!lt b.a a.a && (lt a.b b.b || (!lt b.b a.b && (lt a.c b.c || (!lt b.c a.c && (lt a.d b.d || (!lt b.d a.d && (lt a.e b.e || (!lt b.e a.e && (lt a.f b.f || (!lt b.f a.f && (lt a.g b.g || (!lt b.g a.g && lt a.h b.h))))))))))))))
  alk a b := by
    show PySem.W.alike (.tuple _) (.tuple _) = true
    rw [PySem.W.alike, alk_cons, alk_cons, alk_cons, alk_cons, alk_cons, alk_cons, alk_cons, alk_cons, alk_nil, OrdT.alk, OrdT.alk, OrdT.alk, OrdT.alk, OrdT.alk, OrdT.alk, OrdT.alk, OrdT.alk]; rfl
  spec a b r t := by
    obtain ⟨a0, a1, a2, a3, a4, a5, a6, a7⟩ := a; obtain ⟨b0, b1, b2, b3, b4, b5, b6, b7⟩ := b
    show lx (PySem.W.keyToks (.tuple _) ++ r) (PySem.W.keyToks (.tuple _) ++ t) = _
    rw [toks_tup, toks_tup]
    simp only [toks_cons, toks_nil, List.cons_append, List.append_assoc, List.nil_append, lx_one, OrdT.spec]
    refine (lexcong ?_).trans (lexstep _ _ _ _ _)
    refine (lexcong ?_).trans (lexstep _ _ _ _ _)
    refine (lexcong ?_).trans (lexstep _ _ _ _ _)
    refine (lexcong ?_).trans (lexstep _ _ _ _ _)
    refine (lexcong ?_).trans (lexstep _ _ _ _ _)
    refine (lexcong ?_).trans (lexstep _ _ _ _ _)
    refine (lexcong ?_).trans (lexstep _ _ _ _ _)
    rfl
  eqo a b h k := by
    obtain ⟨a0, a1, a2, a3, a4, a5, a6, a7⟩ := a; obtain ⟨b0, b1, b2, b3, b4, b5, b6, b7⟩ := b
    dsimp only at h k
    rw [Bool.or_eq_false_iff] at h k
    have e := OrdT.eqo _ _ h.1 k.1
    subst e
    have h := h.2
    have k := k.2
    rw [lt_irr] at h k
    simp only [Bool.not_false, Bool.true_and] at h k
    rw [Bool.or_eq_false_iff] at h k
    have e := OrdT.eqo _ _ h.1 k.1
    subst e
    have h := h.2
    have k := k.2
    rw [lt_irr] at h k
    simp only [Bool.not_false, Bool.true_and] at h k
    rw [Bool.or_eq_false_iff] at h k
    have e := OrdT.eqo _ _ h.1 k.1
    subst e
    have h := h.2
    have k := k.2
    rw [lt_irr] at h k
    simp only [Bool.not_false, Bool.true_and] at h k
    rw [Bool.or_eq_false_iff] at h k
    have e := OrdT.eqo _ _ h.1 k.1
    subst e
    have h := h.2
    have k := k.2
    rw [lt_irr] at h k
    simp only [Bool.not_false, Bool.true_and] at h k
    rw [Bool.or_eq_false_iff] at h k
    have e := OrdT.eqo _ _ h.1 k.1
    subst e
    have h := h.2
    have k := k.2
    rw [lt_irr] at h k
    simp only [Bool.not_false, Bool.true_and] at h k
    rw [Bool.or_eq_false_iff] at h k
    have e := OrdT.eqo _ _ h.1 k.1
    subst e
    have h := h.2
    have k := k.2
    rw [lt_irr] at h k
    simp only [Bool.not_false, Bool.true_and] at h k
    rw [Bool.or_eq_false_iff] at h k
    have e := OrdT.eqo _ _ h.1 k.1
    subst e
    have h := h.2
    have k := k.2
    rw [lt_irr] at h k
    simp only [Bool.not_false, Bool.true_and] at h k
    have e := OrdT.eqo _ _ h k
    subst e
    first | done | rfl
  nn _ h := by cases h
  tupk := true
  kd _ := rfl
  odep := max (odep α) (max (odep β) (max (odep γ) (max (odep δ) (max (odep ε) (max (odep ζ) (max (odep η) (max (odep θ) (0)))))))) + 1
  hodep p := by
    obtain ⟨a0, a1, a2, a3, a4, a5, a6, a7⟩ := p
    refine Nat.le_trans (Nat.le_of_eq (dep_tup _)) (Nat.add_le_add_right ?_ 1)
    rw [dep_cons, dep_cons, dep_cons, dep_cons, dep_cons, dep_cons, dep_cons, dep_cons, dep_nil]
    exact max_mono (OrdT.hodep _) (max_mono (OrdT.hodep _) (max_mono (OrdT.hodep _) (max_mono (OrdT.hodep _) (max_mono (OrdT.hodep _) (max_mono (OrdT.hodep _) (max_mono (OrdT.hodep _) (max_mono (OrdT.hodep _) (Nat.le_refl 0))))))))

/-! ### min, max, sorted -/
def fmin [OrdT α] (x : α) (l : List α) : α := l.foldl (fun a y => if lt y a = true then y else a) x
def fmax [OrdT α] (x : α) (l : List α) : α := l.foldl (fun a y => if lt a y = true then y else a) x
def minT [OrdT α] (l : List α) : Res α := match l with | [] => .no | x :: xs => .ok (fmin x xs)
def maxT [OrdT α] (l : List α) : Res α := match l with | [] => .no | x :: xs => .ok (fmax x xs)
theorem minD_map [OrdT α] : ∀ (l : List α) (x : α), PySem.W.minD (enc x) (l.map enc) = enc (fmin x l)
  | [], x => rfl
  | y :: l, x => by
    show PySem.W.minD (if PySem.W.dataLt (enc y) (enc x) = true then enc y else enc x) (l.map enc) = enc (fmin (if lt y x = true then y else x) l)
    rw [lt_data]
    cases lt y x <;> exact minD_map l _
theorem maxD_map [OrdT α] : ∀ (l : List α) (x : α), PySem.W.maxD (enc x) (l.map enc) = enc (fmax x l)
  | [], x => rfl
  | y :: l, x => by
    show PySem.W.maxD (if PySem.W.dataLt (enc x) (enc y) = true then enc y else enc x) (l.map enc) = enc (fmax (if lt x y = true then y else x) l)
    rw [lt_data]
    cases lt x y <;> exact maxD_map l _
theorem alikeB_map [OrdT α] (l : List α) : alikeB (l.map enc) = true := by
  unfold alikeB
  rw [List.all_eq_true]
  intro d hd
  rw [List.all_eq_true]
  intro e he
  obtain ⟨a, _, rfl⟩ := List.mem_map.mp hd
  obtain ⟨b, _, rfl⟩ := List.mem_map.mp he
  exact OrdT.alk a b
theorem mmB_map [OrdT α] (hd : odep α ≤ 64) (l : List α) : mmB (l.map enc) = true := by
  unfold mmB
  rw [alikeB_map, Bool.true_and, Bool.and_eq_true, decide_eq_true_eq]
  refine ⟨?_, Nat.le_trans (odep_map l) hd⟩
  rw [List.all_eq_true]
  intro d hd
  obtain ⟨a, _, rfl⟩ := List.mem_map.mp hd
  have := OrdT.nn a
  revert this
  cases (enc a : D) <;> simp
theorem o_minT [OrdT α] (hd : odep α ≤ 64) (l : List α) : Ref (Res.of (dMinA (enc l))) (minT l) := by
  cases l with
  | nil => exact trivial
  | cons x xs =>
    show Res.of (if mmB (enc x :: xs.map enc) = true then some (PySem.W.minD (enc x) (xs.map enc)) else none) = _
    have e : mmB (enc x :: xs.map enc) = true := mmB_map hd (x :: xs)
    rw [if_pos e, minD_map]; rfl
theorem o_maxT [OrdT α] (hd : odep α ≤ 64) (l : List α) : Ref (Res.of (dMaxA (enc l))) (maxT l) := by
  cases l with
  | nil => exact trivial
  | cons x xs =>
    show Res.of (if mmB (enc x :: xs.map enc) = true then some (PySem.W.maxD (enc x) (xs.map enc)) else none) = _
    have e : mmB (enc x :: xs.map enc) = true := mmB_map hd (x :: xs)
    rw [if_pos e, maxD_map]; rfl
theorem r_mint_p [OrdT α] (hd : odep α ≤ 64) {a : List α} (ha : Ref (fa ρ) (.ok a)) : Ref (un fa dMinA ρ) (minT a) := r_unP (op := fun a => minT a) (fun a => o_minT hd a) ha
theorem r_mint_e [OrdT α] (hd : odep α ≤ 64) {m : Res (List α)} (ha : Ref (fa ρ) m) : Ref (un fa dMinA ρ) (m.bind fun a => minT a) := r_un (op := fun a => minT a) (fun a => o_minT hd a) ha
theorem r_maxt_p [OrdT α] (hd : odep α ≤ 64) {a : List α} (ha : Ref (fa ρ) (.ok a)) : Ref (un fa dMaxA ρ) (maxT a) := r_unP (op := fun a => maxT a) (fun a => o_maxT hd a) ha
theorem r_maxt_e [OrdT α] (hd : odep α ≤ 64) {m : Res (List α)} (ha : Ref (fa ρ) m) : Ref (un fa dMaxA ρ) (m.bind fun a => maxT a) := r_un (op := fun a => maxT a) (fun a => o_maxT hd a) ha
def srtT [OrdT α] (l : List α) : List α := l.mergeSort le
def srt [OrdT α] (l : List α) : Res (List α) := if l.length ≤ sizeLine then .ok (srtT l) else .no
theorem dataLe_map [OrdT α] (a b : α) : PySem.W.dataLe false (fun d : D => d) (enc a) (enc b) = le a b := by
  show (!PySem.W.dataLt (enc b) (enc a)) = _
  rw [lt_data]; rfl
theorem srtD_map [OrdT α] (l : List α) : srtD (l.map enc) = (srtT l).map enc := by
  unfold srtD srtT
  exact (List.map_mergeSort (fun a _ b _ => (dataLe_map a b).symm)).symm
theorem sortB_map [OrdT α] (hd : odep α ≤ 64) (l : List α) : sortB (l.map enc) = true := by
  unfold sortB
  rw [alikeB_map, Bool.true_and, Bool.and_eq_true]
  refine ⟨?_, ?_⟩
  · have := OrdT.kd (α := α)
    cases e : OrdT.tupk α with
    | true =>
      rw [e] at this
      rw [Bool.or_eq_true]; left
      rw [List.all_eq_true]
      intro d hd
      obtain ⟨a, _, rfl⟩ := List.mem_map.mp hd
      exact this a
    | false =>
      rw [e] at this
      rw [Bool.or_eq_true]; right
      rw [List.all_eq_true]
      intro d hd
      obtain ⟨a, _, rfl⟩ := List.mem_map.mp hd
      exact this a
  · rw [List.all_eq_true]
    intro d hd'
    obtain ⟨a, _, rfl⟩ := List.mem_map.mp hd'
    exact decide_eq_true (Nat.le_trans (OrdT.hodep a) hd)
theorem ol_srt [OrdT α] (hd : odep α ≤ 64) (l : List α) : RefL (Res.of (dSort (enc l))) (srt l) := by
  unfold srt
  show RefL (Res.of (if sortB (l.map enc) = true ∧ (l.map enc).length ≤ sizeLine then some (srtD (l.map enc)) else none)) _
  by_cases h : l.length ≤ sizeLine
  · rw [if_pos ⟨sortB_map hd l, by rw [List.length_map]; exact h⟩, srtD_map, if_pos h]; rfl
  · rw [if_neg h]; exact trivial
theorem rl_srt_p [OrdT α] (hd : odep α ≤ 64) {a : List α} (ha : Ref (fa ρ) (.ok a)) : RefL (unO fa dSort ρ) (srt a) := r_unOP (op := fun a => srt a) (fun a => ol_srt hd a) ha
theorem rl_srt_e [OrdT α] (hd : odep α ≤ 64) {m : Res (List α)} (ha : Ref (fa ρ) m) : RefL (unO fa dSort ρ) (m.bind fun a => srt a) := r_unO (op := fun a => srt a) (fun a => ol_srt hd a) ha
end
end VT

set_option Elab.async false
set_option linter.all false
set_option maxRecDepth 100000
set_option maxHeartbeats 4000000
namespace VT
open PySem PySem.Spec PyProof.Rows L2 VL
open Enc
/-! ### mathematics over the mirrors -/
section
variable {α β γ σ : Type}
theorem okb (a : α) (f : α → Res β) : (Res.ok a).bind f = f a := Eq.trans rfl rfl
theorem exb (e : Err) (f : α → Res β) : (Res.ex e).bind f = .ex e := Eq.trans rfl rfl
theorem nob (f : α → Res β) : (Res.no).bind f = .no := Eq.trans rfl rfl
theorem sz {n : Nat} (h : n ≤ 1000000) : n ≤ sizeLine := sz_le h
/-! numbers -/
theorem BIGe : BIG = 1000000000000 := rfl
theorem mulz_ok {a b : Int} (h1 : -1000000000000 ≤ a) (h2 : a ≤ 1000000000000) (h3 : -1000000000000 ≤ b) (h4 : b ≤ 1000000000000) : mulz a b = .ok (a * b) := by
  have := dMul_s h1 h2 h3 h4
  unfold mulz
  unfold dMul at this
  split
  · rfl
  · rename_i h; simp only [if_neg h] at this; cases this
theorem divz_ok {a b : Int} (h : 0 < b) (h4 : b ≤ 1000000000000) : divz a b = .ok (a / b) := by
  have := dDiv_s (i := a) h h4
  unfold divz
  unfold dDiv at this
  split
  · rfl
  · rename_i h; simp only [if_neg h] at this; cases this
theorem modz_ok {a b : Int} (h : 0 < b) : modz a b = .ok (a % b) := if_pos h
/-! places -/
theorem ix_get {l : List α} {i : Int} {n : Nat} {x : α} (h : i = n) (e : l[n]? = some x) : ix l i = .ok x := by
  unfold ix
  rw [atI_get h e]; rfl
theorem ix_last {l : List α} {x : α} (e : l.getLast? = some x) : ix l (-1) = .ok x := by
  unfold ix
  rw [atI_last e]; rfl
theorem ixU_get {t : Tu α} {i : Int} {n : Nat} {x : α} (h : i = n) (e : t.l[n]? = some x) : ixU t i = .ok x := ix_get h e
theorem ixU_last {t : Tu α} {x : α} (e : t.l.getLast? = some x) : ixU t (-1) = .ok x := ix_last e
theorem ix0 {a : α} {l : List α} : ix (a :: l) 0 = .ok a := ix_get (n := 0) rfl rfl
theorem ix1 {a b : α} {l : List α} : ix (a :: b :: l) 1 = .ok b := ix_get (n := 1) rfl rfl
theorem ix2 {a b c : α} {l : List α} : ix (a :: b :: c :: l) 2 = .ok c := ix_get (n := 2) rfl rfl
theorem ix3 {a b c d : α} {l : List α} : ix (a :: b :: c :: d :: l) 3 = .ok d := ix_get (n := 3) rfl rfl
theorem ix4 {a b c d e : α} {l : List α} : ix (a :: b :: c :: d :: e :: l) 4 = .ok e := ix_get (n := 4) rfl rfl
theorem ix5 {a b c d e f : α} {l : List α} : ix (a :: b :: c :: d :: e :: f :: l) 5 = .ok f := ix_get (n := 5) rfl rfl
theorem ix6 {a b c d e f g : α} {l : List α} : ix (a :: b :: c :: d :: e :: f :: g :: l) 6 = .ok g := ix_get (n := 6) rfl rfl
theorem ix7 {a b c d e f g h : α} {l : List α} : ix (a :: b :: c :: d :: e :: f :: g :: h :: l) 7 = .ok h := ix_get (n := 7) rfl rfl
theorem ix8 {a b c d e f g h i : α} {l : List α} : ix (a :: b :: c :: d :: e :: f :: g :: h :: i :: l) 8 = .ok i := ix_get (n := 8) rfl rfl
theorem app_ok {l : List α} {x : α} (h : l.length < 1000000) : app l x = .ok (l ++ [x]) := if_pos (sz_lt h)
theorem cat_ok {a b : List α} (h : a.length + b.length ≤ 1000000) : cat a b = .ok (a ++ b) := if_pos (sz_le h)
theorem catU_ok {a b : Tu α} (h : a.l.length + b.l.length ≤ 1000000) : catU a b = .ok ⟨a.l ++ b.l⟩ := if_pos (sz_le h)
theorem setL_ok {l : List α} {i : Int} {n : Nat} {x : α} (h : i = n) (hn : n < l.length) : setL l i x = .ok (l.set n x) := by
  subst h
  unfold setL
  have : ixN l.length (n : Int) = some n := by
    unfold ixN
    split <;> (try split) <;> first | rfl | (simp at *; omega) | (congr 1; omega)
  rw [this]
/-! ranges -/
theorem zr_len (i : Int) (n : Nat) : (zr i n).length = n := by unfold zr; rw [List.length_map, List.length_range]
theorem zr_get {i : Int} {n k : Nat} (h : k < n) : (zr i n)[k]? = some (i + (k : Nat)) := by
  unfold zr
  rw [List.getElem?_map, List.getElem?_range h]; rfl
theorem zr_mem {i x : Int} {n : Nat} : x ∈ zr i n ↔ i ≤ x ∧ x < i + n := by
  unfold zr
  rw [List.mem_map]
  constructor
  · rintro ⟨k, hk, rfl⟩
    rw [List.mem_range] at hk
    omega
  · rintro ⟨h1, h2⟩
    exact ⟨(x - i).toNat, List.mem_range.mpr (by omega), by omega⟩
theorem zr_succ (i : Int) (n : Nat) : zr i (n + 1) = zr i n ++ [i + (n : Nat)] := by
  unfold zr
  rw [List.range_succ, List.map_append]; rfl
theorem zr_zero (i : Int) : zr i 0 = [] := rfl
theorem zr_cons (i : Int) (n : Nat) : zr i (n + 1) = i :: zr (i + 1) n := by
  unfold zr
  rw [List.range_succ_eq_map, List.map_cons, List.map_map]
  congr 1
  · omega
  · apply List.map_congr_left
    intro k _
    simp only [Function.comp]
    omega
theorem rng1_ok {j : Int} (n : Nat) (h : j = n) (hn : n ≤ 1000000) : rng1z j = .ok (zr 0 n) := by
  subst h
  unfold rng1z
  rw [if_pos (by unfold BIG; omega)]; rfl
theorem rng1_neg {j : Int} (h : j ≤ 0) (h2 : -1000000 ≤ j) : rng1z j = .ok [] := by
  unfold rng1z
  rw [if_pos (by unfold BIG; omega)]
  have : j.toNat = 0 := by omega
  rw [this]; rfl
theorem rng2_ok {i j : Int} (n : Nat) (h : (j - i).toNat = n) (h1 : -1000000 ≤ i) (h2 : i ≤ 1000000) (h3 : -1000000 ≤ j) (h4 : j ≤ 1000000) : rng2z i j = .ok (zr i n) := by
  unfold rng2z
  rw [if_pos (by unfold BIG; omega), h]
theorem lrng_ok {i j : Int} (h1 : -1000000 ≤ i) (h2 : i ≤ 1000000) (h3 : -1000000 ≤ j) (h4 : j ≤ 1000000) : lrng i j = .ok (zr i (j - i).toNat) := by
  unfold lrng
  rw [if_pos]
  unfold RgOk
  simp only [Int.reducePow, sizeLine]
  omega
/-! loops -/
theorem forM_go {fb : α → σ → Res σ} (P : Nat → σ → Prop) : ∀ (l : List α) (j : Nat) (s : σ), P j s → (∀ i a s, l[i]? = some a → P (j + i) s → ∃ s', fb a s = .ok s' ∧ P (j + i + 1) s') → ∃ s', forM fb l s = .ok s' ∧ P (j + l.length) s'
  | [], j, s, h0, _ => ⟨s, rfl, h0⟩
  | a :: l, j, s, h0, hs => by
    obtain ⟨s1, h1, h2⟩ := hs 0 a s rfl h0
    obtain ⟨s2, h3, h4⟩ := forM_go P l (j + 1) s1 h2 fun i b s hi hp => by
      have := hs (i + 1) b s hi (by rw [show j + (i + 1) = j + 1 + i by omega]; exact hp)
      rw [show j + (i + 1) + 1 = j + 1 + i + 1 by omega] at this
      exact this
    refine ⟨s2, ?_, ?_⟩
    · unfold forM; rw [h1]; exact h3
    · rw [List.length_cons, show j + (l.length + 1) = j + 1 + l.length by omega]; exact h4
/-- a loop that is only left at its end -/
theorem for_ok {fb : α → σ → Res σ} {l : List α} {s : σ} (P : Nat → σ → Prop) (h0 : P 0 s) (hs : ∀ i a s, l[i]? = some a → P i s → ∃ s', fb a s = .ok s' ∧ P (i + 1) s') : ∃ s', forM fb l s = .ok s' ∧ P l.length s' := by
  have := forM_go P l 0 s h0 fun i a s hi hp => by
    rw [Nat.zero_add] at hp ⊢
    exact hs i a s hi hp
  rw [Nat.zero_add] at this
  exact this
theorem for_b {fb : α → σ → Res σ} {l : List α} {s : σ} {k : σ → Res γ} {r : Res γ} (P : Nat → σ → Prop) (h0 : P 0 s) (hs : ∀ i a s, l[i]? = some a → P i s → ∃ s', fb a s = .ok s' ∧ P (i + 1) s') (hk : ∀ s, P l.length s → k s = r) : (forM fb l s).bind k = r := by
  obtain ⟨s', h1, h2⟩ := for_ok P h0 hs
  rw [h1]; exact hk s' h2
/-- a loop that is a fold -/
theorem for_fold {fb : α → σ → Res σ} (g : σ → α → σ) : ∀ {l : List α} {s : σ}, (∀ a s, a ∈ l → fb a s = .ok (g s a)) → forM fb l s = .ok (l.foldl g s)
  | [], s, _ => rfl
  | a :: l, s, h => by
    unfold forM
    rw [h a s (by simp)]
    exact for_fold g fun b s hb => h b s (by simp [hb])
theorem forM_app {fb : α → σ → Res σ} : ∀ {l m : List α} {s : σ}, forM fb (l ++ m) s = (forM fb l s).bind fun s => forM fb m s
  | [], m, s => rfl
  | a :: l, m, s => by
    show (fb a s).bind (fun s' => forM fb (l ++ m) s') = ((fb a s).bind fun s' => forM fb l s').bind _
    rw [bind_assoc]
    congr 1; funext s'
    exact forM_app
/-- up to the k-th turn, which raises -/
theorem for_ex {fb : α → σ → Res σ} {l : List α} {s : σ} {e : Err} {k : Nat} {a : α} (P : Nat → σ → Prop) (h0 : P 0 s) (hk : l[k]? = some a) (hs : ∀ i a s, i < k → l[i]? = some a → P i s → ∃ s', fb a s = .ok s' ∧ P (i + 1) s') (he : ∀ s, P k s → fb a s = .ex e) : forM fb l s = .ex e := by
  have hl : k < l.length := (List.getElem?_eq_some_iff.mp hk).1
  have e1 : l = l.take k ++ a :: l.drop (k + 1) := by
    have := (List.getElem?_eq_some_iff.mp hk).2
    rw [← this, ← List.drop_eq_getElem_cons hl, List.take_append_drop]
  rw [e1, forM_app]
  obtain ⟨s', h1, h2⟩ := for_ok (fb := fb) (l := l.take k) (s := s) P h0 fun i b s hi hp => by
    have hlt : i < k := by
      have := (List.getElem?_eq_some_iff.mp hi).1
      rw [List.length_take] at this; omega
    rw [List.getElem?_take_of_lt hlt] at hi
    exact hs i b s hlt hi hp
  rw [h1]
  rw [List.length_take, show min k l.length = k by omega] at h2
  show forM fb (a :: l.drop (k + 1)) s' = .ex e
  unfold forM
  rw [he s' h2]; rfl
/-- a loop that may return: all turns go on -/
theorem forC_all {fb : α → σ → Res (Step σ β)} (P : Nat → σ → Prop) : ∀ (l : List α) (j : Nat) (s : σ), P j s → (∀ i a s, l[i]? = some a → P (j + i) s → ∃ s', fb a s = .ok (.nx s') ∧ P (j + i + 1) s') → ∃ s', forC fb l s = .ok (.nx s') ∧ P (j + l.length) s'
  | [], j, s, h0, _ => ⟨s, rfl, h0⟩
  | a :: l, j, s, h0, hs => by
    obtain ⟨s1, h1, h2⟩ := hs 0 a s rfl h0
    obtain ⟨s2, h3, h4⟩ := forC_all P l (j + 1) s1 h2 fun i b s hi hp => by
      have := hs (i + 1) b s hi (by rw [show j + (i + 1) = j + 1 + i by omega]; exact hp)
      rw [show j + (i + 1) + 1 = j + 1 + i + 1 by omega] at this
      exact this
    refine ⟨s2, ?_, ?_⟩
    · unfold forC; rw [h1]; exact h3
    · rw [List.length_cons, show j + (l.length + 1) = j + 1 + l.length by omega]; exact h4
theorem forC_b {fb : α → σ → Res (Step σ β)} {l : List α} {s : σ} {k : σ → Res γ} {q : β → Res γ} {r : Res γ} (P : Nat → σ → Prop) (h0 : P 0 s) (hs : ∀ i a s, l[i]? = some a → P i s → ∃ s', fb a s = .ok (.nx s') ∧ P (i + 1) s') (hk : ∀ s, P l.length s → k s = r) : (forC fb l s).bind (stp k q) = r := by
  obtain ⟨s', h1, h2⟩ := forC_all P l 0 s h0 fun i a s hi hp => by
    rw [Nat.zero_add] at hp ⊢
    exact hs i a s hi hp
  rw [Nat.zero_add] at h2
  rw [h1]; exact hk s' h2
/-- .. up to the k-th turn, which ends otherwise -/
theorem forC_stop {fb : α → σ → Res (Step σ β)} {x : Res (Step σ β)} (P : Nat → σ → Prop) : ∀ (k : Nat) (l : List α) (j : Nat) (s : σ) (a : α), P j s → l[k]? = some a → (∀ i a s, i < k → l[i]? = some a → P (j + i) s → ∃ s', fb a s = .ok (.nx s') ∧ P (j + i + 1) s') →
    (∀ s, P (j + k) s → (fb a s).bind (fun y => match y with
      | .nx s' => forC fb (l.drop (k + 1)) s'
      | .bk s' => .ok (.nx s')
      | .rt b => .ok (.rt b)) = x) → forC fb l s = x
  | 0, a0 :: l, j, s, a, h0, hk, _, he => by
    cases hk
    have := he s h0
    unfold forC
    exact this
  | k + 1, a0 :: l, j, s, a, h0, hk, hs, he => by
    obtain ⟨s1, h1, h2⟩ := hs 0 a0 s (by omega) rfl h0
    unfold forC
    rw [h1]
    refine forC_stop P k l (j + 1) s1 a h2 hk (fun i b s hi hb hp => ?_) fun s hp => ?_
    · have := hs (i + 1) b s (by omega) hb (by rw [show j + (i + 1) = j + 1 + i by omega]; exact hp)
      rw [show j + (i + 1) + 1 = j + 1 + i + 1 by omega] at this
      exact this
    · have := he s (by rw [show j + (k + 1) = j + 1 + k by omega]; exact hp)
      exact this
  | _, [], _, _, _, _, hk, _, _ => by cases hk
/-- the k-th turn returns -/
theorem forC_rt {fb : α → σ → Res (Step σ β)} {l : List α} {s : σ} {b : β} (P : Nat → σ → Prop) (k : Nat) (a : α) (h0 : P 0 s) (hk : l[k]? = some a) (hs : ∀ i a s, i < k → l[i]? = some a → P i s → ∃ s', fb a s = .ok (.nx s') ∧ P (i + 1) s') (he : ∀ s, P k s → fb a s = .ok (.rt b)) : forC fb l s = .ok (.rt b) :=
  forC_stop P k l 0 s a h0 hk (fun i a s hi ha hp => by rw [Nat.zero_add] at hp ⊢; exact hs i a s hi ha hp) fun s hp => by
    rw [Nat.zero_add] at hp
    rw [he s hp]; rfl
/-- while: by a measure -/
theorem whl_ok {fc : σ → Res Bool} {fb : σ → Res σ} (P : σ → Prop) (μ : σ → Nat) (hs : ∀ s, P s → (fc s = .ok false) ∨ (fc s = .ok true ∧ ∃ s', fb s = .ok s' ∧ P s' ∧ μ s' < μ s)) : ∀ (n : Nat) (s : σ), P s → μ s < n → ∃ s', whlM fc fb n s = .ok s' ∧ P s' ∧ fc s' = .ok false
  | 0, s, _, h => absurd h (by omega)
  | n + 1, s, hp, hn => by
    unfold whlM
    rcases hs s hp with h | ⟨h, s', h1, h2, h3⟩
    · rw [h]; exact ⟨s, rfl, hp, h⟩
    · rw [h]
      obtain ⟨s2, k1, k2, k3⟩ := whl_ok P μ hs n s' h2 (by omega)
      exact ⟨s2, by simp only [Res.ok_bind, if_true, h1, k1], k2, k3⟩
theorem whl_b {fc : σ → Res Bool} {fb : σ → Res σ} {n : Nat} {s : σ} {k : σ → Res γ} {r : Res γ} (P : σ → Prop) (μ : σ → Nat) (h0 : P s) (hn : μ s < n) (hs : ∀ s, P s → (fc s = .ok false) ∨ (fc s = .ok true ∧ ∃ s', fb s = .ok s' ∧ P s' ∧ μ s' < μ s)) (hk : ∀ s, P s → fc s = .ok false → k s = r) : (whlM fc fb n s).bind k = r := by
  obtain ⟨s', h1, h2, h3⟩ := whl_ok P μ hs n s h0 hn
  rw [h1]; exact hk s' h2 h3
/-! searches -/
theorem forC_some {fb : α → Unit → Res (Step Unit γ)} (g : α → Option β) (q : β → γ) : ∀ {l : List α}, (∀ a ∈ l, fb a () = match g a with | some b => .ok (.rt (q b)) | none => .ok (.nx ())) → forC fb l () = match l.findSome? g with | some b => .ok (.rt (q b)) | none => .ok (.nx ())
  | [], _ => rfl
  | a :: l, h => by
    unfold forC
    rw [h a (by simp), List.findSome?_cons]
    cases e : g a with
    | some b => rfl
    | none => exact forC_some g q fun b hb => h b (by simp [hb])
theorem forM_some {fb : α → Option β → Res (Option β)} (g : α → Option β) : ∀ {l : List α} {s : Option β}, (∀ a s, a ∈ l → fb a s = .ok (match s with | some x => some x | none => g a)) → forM fb l s = .ok (match s with | some x => some x | none => l.findSome? g)
  | [], s, _ => by cases s <;> rfl
  | a :: l, s, h => by
    unfold forM
    rw [h a s (by simp), Res.ok_bind, forM_some g fun b s hb => h b s (by simp [hb])]
    cases s with
    | some x => rfl
    | none =>
      rw [List.findSome?_cons]
      cases g a <;> rfl
theorem forM_unit {fb : α → Unit → Res Unit} : ∀ {l : List α}, (∀ a ∈ l, fb a () = .ok ()) → forM fb l () = .ok ()
  | [], _ => rfl
  | a :: l, h => by
    unfold forM
    rw [h a (by simp)]
    exact forM_unit fun b hb => h b (by simp [hb])
/-- checks: the k-th raises -/
theorem forM_unit_ex {fb : α → Unit → Res Unit} {l : List α} {e : Err} (k : Nat) {a : α} (hk : l[k]? = some a) (hs : ∀ i a, i < k → l[i]? = some a → fb a () = .ok ()) (he : fb a () = .ex e) : forM fb l () = .ex e :=
  for_ex (fun _ _ => True) trivial hk (fun i a s hi ha _ => ⟨(), hs i a hi ha, trivial⟩) fun s _ => he
/-! comprehensions -/
theorem lcG_map {c : α → Res Bool} {f : α → Res β} (p : α → Bool) (g : α → β) : ∀ {l : List α}, (∀ a ∈ l, c a = .ok (p a)) → (∀ a ∈ l, p a = true → f a = .ok (g a)) → lcG c f l = .ok ((l.filter p).map g)
  | [], _, _ => rfl
  | a :: l, h1, h2 => by
    unfold lcG
    rw [h1 a (by simp), noX_ok, Res.ok_bind, lcG_map p g (fun b hb => h1 b (by simp [hb])) fun b hb => h2 b (by simp [hb]), List.filter_cons]
    cases e : p a with
    | true => simp only [if_true, h2 a (by simp) e, noX_ok, Res.ok_bind, List.map_cons]
    | false => simp only [Bool.false_eq_true, if_false]
theorem lc_filt {l : List α} {c : α → Res Bool} {f : α → Res β} (p : α → Bool) (g : α → β) (hl : l.length ≤ 1000000) (h1 : ∀ a ∈ l, c a = .ok (p a)) (h2 : ∀ a ∈ l, p a = true → f a = .ok (g a)) : lcM l c f = .ok ((l.filter p).map g) := by
  unfold lcM
  rw [if_pos (sz_le hl), lcG_map p g h1 h2]; rfl
theorem lc_map {l : List α} {f : α → Res β} (g : α → β) (hl : l.length ≤ 1000000) (h2 : ∀ a ∈ l, f a = .ok (g a)) : lcM l (fun _ => .ok true) f = .ok (l.map g) := by
  rw [lc_filt (fun _ => true) g hl (fun _ _ => rfl) fun a ha _ => h2 a ha, List.filter_eq_self.mpr fun _ _ => rfl]
theorem lc_mapP {l : List α} {g : α → β} (hl : l.length ≤ 1000000) : lcM l (fun _ => .ok true) (fun a => .ok (g a)) = .ok (l.map g) := lc_map g hl fun _ _ => rfl
theorem lc_filtP {l : List α} {p : α → Bool} {g : α → β} (hl : l.length ≤ 1000000) : lcM l (fun a => .ok (p a)) (fun a => .ok (g a)) = .ok ((l.filter p).map g) := lc_filt p g hl (fun _ _ => rfl) fun _ _ _ => rfl
end
/-! what _law_strictly asks -/
section
variable {α β γ δ : Type} [Enc α] [Enc β] [Enc γ] [Enc δ]
class OkT (α : Type) [Enc α] where
  lv : Nat
  ok : α → Prop
  okd : ∀ a, ok a → okD lv (enc a)
open OkT
instance : OkT Int := ⟨0, fun _ => True, fun a _ => okD_int 0 a⟩
instance : OkT Bool := ⟨0, fun _ => True, fun a _ => okD_bool 0 a⟩
instance : OkT Unit := ⟨0, fun _ => True, fun a _ => okD_non 0⟩
instance : OkT Str := ⟨0, fun a => PyData.strOk a = true, fun a h => okD_str 0 h⟩
instance [OkT α] : OkT (Option α) := ⟨lv α, fun o => match o with | none => True | some a => ok a, fun o h => by
  cases o with
  | none => exact okD_up (okD_non 0) (Nat.zero_le _)
  | some a => exact OkT.okd a h⟩
instance [OkT α] : OkT (List α) := ⟨lv α + 1, fun l => l.length < 1000000 ∧ ∀ a ∈ l, ok a, fun l h => okD_list (by rw [List.length_map]; exact h.1) fun e he => by
  obtain ⟨a, ha, rfl⟩ := List.mem_map.mp he
  exact OkT.okd a (h.2 a ha)⟩
instance [OkT α] : OkT (Tu α) := ⟨lv α + 1, fun l => l.l.length < 1000000 ∧ ∀ a ∈ l.l, ok a, fun l h => okD_tuple (by rw [List.length_map]; exact h.1) fun e he => by
  obtain ⟨a, ha, rfl⟩ := List.mem_map.mp he
  exact OkT.okd a (h.2 a ha)⟩
instance [OkT α] [OkT β] : OkT (α × β) := ⟨max (lv α) (lv β) + 1, fun p => ok p.1 ∧ ok p.2, fun p h => okD_tuple (by simp) fun e he => by
  simp only [List.mem_cons, List.mem_nil_iff, or_false] at he
  rcases he with rfl | rfl
  · exact okD_up (OkT.okd _ h.1) (by omega)
  · exact okD_up (OkT.okd _ h.2) (by omega)⟩
instance [OkT α] [OkT β] [OkT γ] : OkT (T3 α β γ) := ⟨max (lv α) (max (lv β) (lv γ)) + 1, fun p => ok p.a ∧ ok p.b ∧ ok p.c, fun p h => okD_tuple (by simp) fun e he => by
  simp only [List.mem_cons, List.mem_nil_iff, or_false] at he
  rcases he with rfl | rfl | rfl
  · exact okD_up (OkT.okd _ h.1) (by omega)
  · exact okD_up (OkT.okd _ h.2.1) (by omega)
  · exact okD_up (OkT.okd _ h.2.2) (by omega)⟩
theorem stri_ok [OkT α] {a : α} (hl : lv α < 8) (h : ok a) : stri (enc a) (enc a) = .ok true := if_pos ⟨rfl, lv α, hl, OkT.okd a h⟩
/-- .. of what is equal -/
theorem stri_eq [OkT α] {a b : α} (e : a = b) (hl : lv α < 8) (h : ok a) : stri (enc a) (enc b) = .ok true := by subst e; exact stri_ok hl h
theorem stri_d {a : α} {d : D} [OkT α] (e : d = enc a) (hl : lv α < 8) (h : ok a) : stri (enc a) d = .ok true := by subst e; exact stri_ok hl h
/-! equality of data -/
open EqOK
theorem dEq_enc [DecidableEq α] [EqOK α] (hd : dep α ≤ 64) {a b : α} (ga : good a = true) (gb : good b = true) : dEq (enc a) (enc b) = some (decide (a = b)) := by
  unfold dEq
  rw [if_pos ⟨shape_of hd ga, shape_of hd gb⟩, EqOK.eqv]
theorem dNe_enc [DecidableEq α] [EqOK α] (hd : dep α ≤ 64) {a b : α} (ga : good a = true) (gb : good b = true) : dNe (enc a) (enc b) = some (!decide (a = b)) := by
  unfold dNe
  rw [if_pos ⟨shape_of hd ga, shape_of hd gb⟩, EqOK.eqv]
/-- told an error: what and place -/
theorem dNe_wp {w : Str} {i : Int} (h : PyData.strOk w = true) : Res.of (dNe (enc (w, i)) (enc (w, i))) = .ok false := by
  rw [dNe_enc (by decide) (by show (PyData.strOk w && true) = true; rw [h]; rfl) (by show (PyData.strOk w && true) = true; rw [h]; rfl)]; simp
theorem dEq_wp {w : Str} {i : Int} (h : PyData.strOk w = true) : Res.of (dEq (enc (w, i)) (enc (w, i))) = .ok true := by
  rw [dEq_enc (by decide) (by show (PyData.strOk w && true) = true; rw [h]; rfl) (by show (PyData.strOk w && true) = true; rw [h]; rfl)]; simp
theorem dNe_ww {w i : Str} (h : PyData.strOk w = true) (k : PyData.strOk i = true) : Res.of (dNe (enc (w, i)) (enc (w, i))) = .ok false := by
  rw [dNe_enc (by decide) (by show (PyData.strOk w && PyData.strOk i) = true; rw [h, k]; rfl) (by show (PyData.strOk w && PyData.strOk i) = true; rw [h, k]; rfl)]; simp
theorem dEq_ww {w i : Str} (h : PyData.strOk w = true) (k : PyData.strOk i = true) : Res.of (dEq (enc (w, i)) (enc (w, i))) = .ok true := by
  rw [dEq_enc (by decide) (by show (PyData.strOk w && PyData.strOk i) = true; rw [h, k]; rfl) (by show (PyData.strOk w && PyData.strOk i) = true; rw [h, k]; rfl)]; simp
/-! errors -/
theorem rai_plan {w : Str} {i : Int} (hw : w.length ≤ 1000) (h1 : -1000000000000 ≤ i) (h2 : i ≤ 1000000000000) : (raiM "PlanError" ["what", "place"] [enc w, enc i] : Res γ) = .ex (planE w i) := if_pos (fmt2 hw h1 h2)
def manyE (w : Str) : Err := ⟨"TooMany", [("what", .str w)]⟩
theorem rai_many {w : Str} (hw : w.length ≤ 1000) : (raiM "TooMany" ["what"] [enc w] : Res γ) = .ex (manyE w) := if_pos (by
  show ([PyData.str w].all fmtD) = true
  rw [List.all_cons, List.all_nil, Bool.and_true]
  exact decide_eq_true (by omega))
theorem fld_what {w : Str} {i : Int} : fld "PlanError" "what" (planE w i) = .ok (enc w) := rfl
theorem fld_place {w : Str} {i : Int} : fld "PlanError" "place" (planE w i) = .ok (enc i) := rfl
theorem fld_many {w : Str} : fld "TooMany" "what" (manyE w) = .ok (enc w) := rfl
theorem try_ok {all : List Str} {a : γ} {k : Err → Res γ} : tryM all (.ok a) k = .ok a := rfl
theorem try_ex {all : List Str} {e : Err} {k : Err → Res γ} (h : all.contains e.cls = true) : tryM all (.ex e) k = k e := if_pos h
theorem hdl_in {ns : List Str} {m r : Err → Res γ} {e : Err} (h : ns.contains e.cls = true) : hdl ns m r e = noX (m e) := if_pos h
theorem hdl_out {ns : List Str} {m r : Err → Res γ} {e : Err} (h : ns.contains e.cls = false) : hdl ns m r e = r e := by
  unfold hdl; rw [h]; rfl
theorem hdl_plan {ns : List Str} {m r : Err → Res γ} {w : Str} {i : Int} (h : ns.contains ("PlanError" : Str) = true) : hdl ns m r (planE w i) = noX (m (planE w i)) := if_pos h
theorem try_plan {all : List Str} {w : Str} {i : Int} {k : Err → Res γ} (h : all.contains ("PlanError" : Str) = true) : tryM all (.ex (planE w i)) k = k (planE w i) := if_pos h
theorem hdl_many {ns : List Str} {m r : Err → Res γ} {w : Str} (h : ns.contains ("TooMany" : Str) = true) : hdl ns m r (manyE w) = noX (m (manyE w)) := if_pos h
theorem hdl_nmany {ns : List Str} {m r : Err → Res γ} {w : Str} (h : ns.contains ("TooMany" : Str) = false) : hdl ns m r (manyE w) = r (manyE w) := by
  unfold hdl
  have e : (manyE w).cls = "TooMany" := rfl
  rw [e, h]; rfl
theorem try_many {all : List Str} {w : Str} {k : Err → Res γ} (h : all.contains ("TooMany" : Str) = true) : tryM all (.ex (manyE w)) k = k (manyE w) := if_pos h
theorem isNum_i {a lo hi : Int} : isNum (enc a) lo hi = decide (lo ≤ a ∧ a ≤ hi) := rfl
theorem isNum_b {a : Bool} {lo hi : Int} : isNum (enc a) lo hi = false := rfl
theorem isNum_d {a : Int} {lo hi : Int} : isNum (.int a) lo hi = decide (lo ≤ a ∧ a ≤ hi) := rfl
theorem isNum_s {a : Str} {lo hi : Int} : isNum (enc a) lo hi = false := rfl
theorem isNum_n {a : Unit} {lo hi : Int} : isNum (enc a) lo hi = false := rfl
theorem enc_D {d : D} : enc d = d := rfl
theorem encc {a : α} : (enc (enc a : D) : D) = enc a := rfl
end
theorem perm_sum {l m : List Int} (h : l.Perm m) : l.sum = m.sum := by
  induction h with
  | nil => rfl
  | cons x _ ih => rw [List.sum_cons, List.sum_cons, ih]
  | swap x y l => simp only [List.sum_cons]; omega
  | trans _ _ h1 h2 => rw [h1, h2]
/-! minima -/
theorem foldmin_le : ∀ (l : List Int) (x y : Int), y ∈ x :: l → l.foldl min x ≤ y
  | [], x, y, h => by simp at h; rw [h]; exact Int.le_refl _
  | z :: l, x, y, h => by
    rw [List.foldl_cons]
    have h1 := foldmin_le l (min x z) (min x z) (by simp)
    rcases List.mem_cons.mp h with rfl | h
    · omega
    · rcases List.mem_cons.mp h with rfl | h
      · omega
      · exact foldmin_le l (min x z) y (by simp [h])
theorem foldmin_mem : ∀ (l : List Int) (x : Int), l.foldl min x ∈ x :: l
  | [], x => by simp
  | z :: l, x => by
    rw [List.foldl_cons]
    rcases List.mem_cons.mp (foldmin_mem l (min x z)) with h | h
    · rw [h]
      rcases Int.le_total x z with k | k
      · rw [Int.min_eq_left k]; simp
      · rw [Int.min_eq_right k]; simp
    · simp [h]
theorem foldmax_ge : ∀ (l : List Int) (x y : Int), y ∈ x :: l → y ≤ l.foldl max x
  | [], x, y, h => by simp at h; rw [h]; exact Int.le_refl _
  | z :: l, x, y, h => by
    rw [List.foldl_cons]
    have h1 := foldmax_ge l (max x z) (max x z) (by simp)
    rcases List.mem_cons.mp h with rfl | h
    · omega
    · rcases List.mem_cons.mp h with rfl | h
      · omega
      · exact foldmax_ge l (max x z) y (by simp [h])
theorem foldmax_mem : ∀ (l : List Int) (x : Int), l.foldl max x ∈ x :: l
  | [], x => by simp
  | z :: l, x => by
    rw [List.foldl_cons]
    rcases List.mem_cons.mp (foldmax_mem l (max x z)) with h | h
    · rw [h]
      rcases Int.le_total x z with k | k
      · rw [Int.max_eq_right k]; simp
      · rw [Int.max_eq_left k]; simp
    · simp [h]
/-- the least is told by what it is -/
theorem minz_of {l : List Int} {v : Int} (h1 : v ∈ l) (h2 : ∀ y ∈ l, v ≤ y) : minz l = .ok v := by
  cases l with
  | nil => cases h1
  | cons x xs =>
    show Res.ok (xs.foldl min x) = .ok v
    have a := foldmin_le xs x v h1
    have b := h2 _ (foldmin_mem xs x)
    rw [show xs.foldl min x = v by omega]
theorem maxz_of {l : List Int} {v : Int} (h1 : v ∈ l) (h2 : ∀ y ∈ l, y ≤ v) : maxz l = .ok v := by
  cases l with
  | nil => cases h1
  | cons x xs =>
    show Res.ok (xs.foldl max x) = .ok v
    have a := foldmax_ge xs x v h1
    have b := h2 _ (foldmax_mem xs x)
    rw [show xs.foldl max x = v by omega]
theorem minz_ex {l : List Int} (h : l ≠ []) : ∃ v, minz l = .ok v ∧ v ∈ l ∧ ∀ y ∈ l, v ≤ y := by
  cases l with
  | nil => exact absurd rfl h
  | cons x xs => exact ⟨_, rfl, foldmin_mem xs x, foldmin_le xs x⟩
theorem maxz_ex {l : List Int} (h : l ≠ []) : ∃ v, maxz l = .ok v ∧ v ∈ l ∧ ∀ y ∈ l, y ≤ v := by
  cases l with
  | nil => exact absurd rfl h
  | cons x xs => exact ⟨_, rfl, foldmax_mem xs x, foldmax_ge xs x⟩
section
variable {α : Type} [Enc α] [OrdT α]
open OrdT
theorem fmin_le : ∀ (l : List α) (x y : α), y ∈ x :: l → le (fmin x l) y = true
  | [], x, y, h => by simp at h; rw [h]; exact le_refl _
  | z :: l, x, y, h => by
    show le (fmin (if lt z x = true then z else x) l) y = true
    have h1 := fmin_le l (if lt z x = true then z else x) _ (List.mem_cons_self)
    have h2 : le (if lt z x = true then z else x) x = true := by
      split
      · rename_i h; exact le_of_lt h
      · exact le_refl _
    have h3 : le (if lt z x = true then z else x) z = true := by
      split
      · exact le_refl _
      · rename_i h; unfold le; simpa using h
    rcases List.mem_cons.mp h with rfl | h
    · exact le_tr h1 h2
    · rcases List.mem_cons.mp h with rfl | h
      · exact le_tr h1 h3
      · exact fmin_le l _ y (List.mem_cons_of_mem _ h)
theorem fmin_mem : ∀ (l : List α) (x : α), fmin x l ∈ x :: l
  | [], x => by simp [fmin]
  | z :: l, x => by
    show fmin (if lt z x = true then z else x) l ∈ _
    rcases List.mem_cons.mp (fmin_mem l (if lt z x = true then z else x)) with h | h
    · rw [h]; split <;> simp
    · simp [h]
theorem fmax_ge : ∀ (l : List α) (x y : α), y ∈ x :: l → le y (fmax x l) = true
  | [], x, y, h => by simp at h; rw [h]; exact le_refl _
  | z :: l, x, y, h => by
    show le y (fmax (if lt x z = true then z else x) l) = true
    have h1 := fmax_ge l (if lt x z = true then z else x) _ (List.mem_cons_self)
    have h2 : le x (if lt x z = true then z else x) = true := by
      split
      · rename_i h; exact le_of_lt h
      · exact le_refl _
    have h3 : le z (if lt x z = true then z else x) = true := by
      split
      · exact le_refl _
      · rename_i h; unfold le; simpa using h
    rcases List.mem_cons.mp h with rfl | h
    · exact le_tr h2 h1
    · rcases List.mem_cons.mp h with rfl | h
      · exact le_tr h3 h1
      · exact fmax_ge l _ y (List.mem_cons_of_mem _ h)
theorem fmax_mem : ∀ (l : List α) (x : α), fmax x l ∈ x :: l
  | [], x => by simp [fmax]
  | z :: l, x => by
    show fmax (if lt x z = true then z else x) l ∈ _
    rcases List.mem_cons.mp (fmax_mem l (if lt x z = true then z else x)) with h | h
    · rw [h]; split <;> simp
    · simp [h]
theorem minT_of {l : List α} {v : α} (h1 : v ∈ l) (h2 : ∀ y ∈ l, le v y = true) : minT l = .ok v := by
  cases l with
  | nil => cases h1
  | cons x xs =>
    show Res.ok (fmin x xs) = .ok v
    rw [le_anti (fmin_le xs x v h1) (h2 _ (fmin_mem xs x))]
theorem maxT_of {l : List α} {v : α} (h1 : v ∈ l) (h2 : ∀ y ∈ l, le y v = true) : maxT l = .ok v := by
  cases l with
  | nil => cases h1
  | cons x xs =>
    show Res.ok (fmax x xs) = .ok v
    rw [le_anti (h2 _ (fmax_mem xs x)) (fmax_ge xs x v h1)]
theorem minT_ex {l : List α} (h : l ≠ []) : ∃ v, minT l = .ok v ∧ v ∈ l ∧ ∀ y ∈ l, le v y = true := by
  cases l with
  | nil => exact absurd rfl h
  | cons x xs => exact ⟨_, rfl, fmin_mem xs x, fmin_le xs x⟩
theorem maxT_ex {l : List α} (h : l ≠ []) : ∃ v, maxT l = .ok v ∧ v ∈ l ∧ ∀ y ∈ l, le y v = true := by
  cases l with
  | nil => exact absurd rfl h
  | cons x xs => exact ⟨_, rfl, fmax_mem xs x, fmax_ge xs x⟩
theorem le_int (a b : Int) : (le a b = true) = (a ≤ b) := by
  show ((!decide (b < a)) = true) = _
  simp
theorem le_pair (a b c d : Int) : (le (a, b) (c, d) = true) = (a < c ∨ (a = c ∧ b ≤ d)) := by
  show ((!(decide (c < a) || (!decide (a < c) && decide (d < b)))) = true) = _
  simp only [Bool.not_eq_true', Bool.or_eq_false_iff, Bool.and_eq_false_imp, Bool.not_eq_true', decide_eq_false_iff_not, eq_iff_iff]
  omega
theorem le_fst {β : Type} [Enc β] [OrdT β] (a c : Int) (b d : β) : (le (a, b) (c, d) = true) = (a < c ∨ (a = c ∧ le b d = true)) := by
  show ((!(decide (c < a) || (!decide (a < c) && OrdT.lt d b))) = true) = (a < c ∨ (a = c ∧ (!OrdT.lt d b) = true))
  simp only [Bool.not_eq_true', Bool.or_eq_false_iff, Bool.and_eq_false_imp, Bool.not_eq_true', decide_eq_false_iff_not, eq_iff_iff]
  constructor
  · rintro ⟨h1, h2⟩
    rcases (by omega : a < c ∨ a = c) with h | h
    · exact .inl h
    · exact .inr ⟨h, h2 (by omega)⟩
  · rintro (h | ⟨h, h2⟩)
    · exact ⟨by omega, fun k => by omega⟩
    · exact ⟨by omega, fun _ => h2⟩
/-! sorted -/
theorem srt_ok {l : List α} (h : l.length ≤ 1000000) : srt l = .ok (srtT l) := if_pos (sz_le h)
theorem srtT_perm (l : List α) : (srtT l).Perm l := List.mergeSort_perm l le
theorem srtT_len (l : List α) : (srtT l).length = l.length := (srtT_perm l).length_eq
theorem srtT_mem {l : List α} {x : α} : x ∈ srtT l ↔ x ∈ l := (srtT_perm l).mem_iff
theorem srtT_pw (l : List α) : (srtT l).Pairwise fun a b => le a b = true := List.pairwise_mergeSort (le := le) (fun _ _ _ => le_tr) le_tot l
/-- two sorted lists of the same items are one -/
theorem sorted_uniq {l m : List α} (h : l.Perm m) (h1 : l.Pairwise fun a b => le a b = true) (h2 : m.Pairwise fun a b => le a b = true) : l = m :=
  h.eq_of_pairwise (fun a b _ _ h k => le_anti h k) h1 h2
theorem srtT_of {l m : List α} (h : m.Perm l) (h2 : m.Pairwise fun a b => le a b = true) : srtT l = m := sorted_uniq ((srtT_perm l).trans h.symm) (srtT_pw l) h2
theorem srtT_congr {l m : List α} (h : l.Perm m) : srtT l = srtT m := srtT_of ((srtT_perm m).trans h.symm) (srtT_pw m)
end
end VT

local macro_rules
  | `(tactic| dsimp! [$ls,*] $[$loc:location]?) => `(tactic| simp only [
      VT.okb, VT.exb, VT.nob, VL.Res.of_some, VL.Res.of_none, VL.noX_ok, VT.unw_some, VT.ix0, VT.ix1, VT.ix2, VT.ix3, VT.ix4, VT.ix5, VT.ix6, VT.ix7, VT.ix8, VT.isNum_i,
      VT.isNum_b, VT.isNum_d, VT.isNum_s, VT.isNum_n, VT.try_ok, VT.fld_what, VT.fld_place, VT.fld_many, VT.encc, VT.enc_D, VT.castD_enc, Option.isNone_none, Option.isNone_some,
      Option.isSome_none, Option.isSome_some, List.length_cons, List.length_nil, List.map_cons, List.map_nil, List.length_map, List.length_append, Nat.zero_add, Int.natCast_zero, if_true,
      if_false, ite_true, ite_false, Bool.false_eq_true, Bool.true_eq_false, decide_true, decide_false, decide_eq_true_eq, decide_eq_false_iff_not, Bool.not_true, Bool.not_false,
      Bool.not_eq_true', Bool.and_true, Bool.true_and, Bool.and_false, Bool.false_and, Bool.or_true, Bool.true_or, Bool.or_false, Bool.false_or, Bool.and_eq_true, Bool.or_eq_true,
      Bool.not_eq_eq_eq_not, and_true, true_and, and_false, false_and, and_self, or_true, true_or, or_false, false_or, or_self, ne_eq, not_true, not_false_iff, not_true_eq_false,
      not_false_eq_true, beq_self_eq_true, Nat.reduceAdd, Nat.reduceSub, Nat.reduceMul, reduceIte, $ls,*] $[$loc]?)
set_option Elab.async false
set_option linter.all false
set_option maxRecDepth 100000
set_option maxHeartbeats 4000000
namespace VT
open PySem PySem.Spec PyProof.Rows L2 VL
open Enc
noncomputable section
/-! ### generator expressions -/
variable {α β γ : Type} [Enc α] [Enc β] [Enc γ]
variable {ρ ρ' : Rho} {f fa fb fi fe : Rho → Res D} {fc : Rho → Res Bool} {i j : Nat} {m : List Bool}
class Sc (β : Type) [Enc β] : Prop where
  sc : ∀ b : β, scalB (enc b) = true
instance : Sc Int := ⟨fun _ => rfl⟩
instance : Sc Bool := ⟨fun _ => rfl⟩
instance : Sc Str := ⟨fun _ => rfl⟩
theorem gxL_ref [Sc β] {ρ1 : α → Rho} {mc : α → Res Bool} {mf : α → Res β} (hρ : maskR m ρ = ρ') (h1 : ∀ a, ρ'.set i (fz a) = ρ1 a) (hc : ∀ a, RefB (fc (ρ1 a)) (mc a)) (hf : ∀ a, Ref (fe (ρ1 a)) (mf a)) : ∀ l : List α, RefL (gxL i m fc fe ρ (l.map enc)) (lcG mc mf l)
  | [] => rfl
  | a :: l => by
    have e1 : (maskR m ρ).set i (some (.fz (enc a))) = ρ1 a := by rw [hρ]; exact h1 a
    rw [List.map_cons]
    unfold gxL lcG
    rw [e1]
    refine Rf.bind (Rf.noX (hc a)) fun k => ?_
    cases k with
    | true =>
      show RefL ((noX (fe (ρ1 a))).bind fun y => if scalB y = true then (gxL i m fc fe ρ (l.map enc)).bind fun ys => .ok (y :: ys) else .no) _
      refine Rf.bind (Rf.noX (hf a)) fun y => ?_
      rw [if_pos (Sc.sc y)]
      exact Rf.bind (gxL_ref hρ h1 hc hf l) fun ys => rfl
    | false => exact gxL_ref hρ h1 hc hf l
theorem gx_list [Sc β] {ρ1 : α → Rho} {ml : Res (List α)} {mc : α → Res Bool} {mf : α → Res β} (hi : Ref (fi ρ) ml) (hρ : maskR m ρ = ρ') (h1 : ∀ a, ρ'.set i (fz a) = ρ1 a) (hc : ∀ a, RefB (fc (ρ1 a)) (mc a)) (hf : ∀ a, Ref (fe (ρ1 a)) (mf a)) :
    RefL (gxV i m fi fc fe ρ) (ml.bind fun l => lcG mc mf l) := Rf.bind hi fun l => gxL_ref hρ h1 hc hf l
theorem gx_tu [Sc β] {ρ1 : α → Rho} {ml : Res (Tu α)} {mc : α → Res Bool} {mf : α → Res β} (hi : Ref (fi ρ) ml) (hρ : maskR m ρ = ρ') (h1 : ∀ a, ρ'.set i (fz a) = ρ1 a) (hc : ∀ a, RefB (fc (ρ1 a)) (mc a)) (hf : ∀ a, Ref (fe (ρ1 a)) (mf a)) :
    RefL (gxV i m fi fc fe ρ) (ml.bind fun l => lcG mc mf l.l) := Rf.bind hi fun l => gxL_ref hρ h1 hc hf l.l
theorem gx_str [Sc β] {ρ1 : Str → Rho} {ml : Res Str} {mc : Str → Res Bool} {mf : Str → Res β} (hi : Ref (fi ρ) ml) (hρ : maskR m ρ = ρ') (h1 : ∀ a, ρ'.set i (fz a) = ρ1 a) (hc : ∀ a, RefB (fc (ρ1 a)) (mc a)) (hf : ∀ a, Ref (fe (ρ1 a)) (mf a)) :
    RefL (gxV i m fi fc fe ρ) (ml.bind fun l => lcG mc mf (chars l)) := Rf.bind hi fun l => by
  show RefL (gxL i m fc fe ρ (l.cps.toList.map fun c => PyData.str ⟨#[c]⟩)) _
  have e : (l.cps.toList.map fun c => PyData.str ⟨#[c]⟩) = (chars l).map enc := by unfold chars; rw [List.map_map]; rfl
  rw [e]
  exact gxL_ref hρ h1 hc hf (chars l)
variable {gv : Rho → Res (List D)}
theorem g_all {ml : Res (List Bool)} (h : RefL (gv ρ) ml) : Ref (gxK dAllL gv ρ) (ml.bind fun l => .ok (l.all id)) := Rf.bind h fun l => by
  show Ref (Res.of ((asBools (l.map PyData.bool)).map fun bs => PyData.bool (bs.all id))) _
  rw [asBools_map]; rfl
theorem g_any {ml : Res (List Bool)} (h : RefL (gv ρ) ml) : Ref (gxK dAnyL gv ρ) (ml.bind fun l => .ok (l.any id)) := Rf.bind h fun l => by
  show Ref (Res.of ((asBools (l.map PyData.bool)).map fun bs => PyData.bool (bs.any id))) _
  rw [asBools_map]; rfl
def sumM (l : List Int) : Res Int := if sumOk l = true then .ok l.sum else .no
theorem g_sum {ml : Res (List Int)} (h : RefL (gv ρ) ml) : Ref (gxK dSumL gv ρ) (ml.bind sumM) := Rf.bind h fun l => by
  show Ref (Res.of ((asInts (l.map PyData.int)).bind fun ns => if sumOk ns = true then some (PyData.int ns.sum) else none)) (sumM l)
  rw [asInts_map]
  exact Ref_ite rfl
/-! the operators there -/
theorem o_addN (a b : Int) : Ref (Res.of (dAddN (enc a) (enc b))) (.ok (a + b)) := rfl
theorem o_ltN (a b : Int) : RefB (Res.of (dLtN (enc a) (enc b))) (.ok (decide (a < b))) := rfl
def ixN' (l : List α) (i : Int) : Res α := if l.length ≤ sizeLine then Res.of (atI l i) else .no
theorem o_ixN (l : List α) (i : Int) : Ref (Res.of (dIxN (enc l) (enc i))) (ixN' l i) := by
  unfold ixN'
  show Ref (Res.of (if (l.map enc).length ≤ sizeLine then atI (l.map enc) i else none)) _
  rw [List.length_map, atI_map]
  split
  · exact Ref_of _
  · exact trivial
theorem o_ixNU (l : Tu α) (i : Int) : Ref (Res.of (dIxN (enc l) (enc i))) (ixN' l.l i) := by
  unfold ixN'
  show Ref (Res.of (if (l.l.map enc).length ≤ sizeLine then atI (l.l.map enc) i else none)) _
  rw [List.length_map, atI_map]
  split
  · exact Ref_of _
  · exact trivial
theorem o_inSS (a b : Str) : RefB (Res.of (inSS (enc a) (enc b))) (.ok (inS a b)) := rfl
end
noncomputable section
variable {α β γ : Type} [Enc α] [Enc β] [Enc γ]
variable {ρ : Rho} {f fa fb fc : Rho → Res D}
theorem r_addn_pp {a : Int} (ha : Ref (fa ρ) (.ok a)) {b : Int} (hb : Ref (fb ρ) (.ok b)) : Ref (VL.bin fa fb dAddN ρ) (.ok (a + b)) := r_binP (op := fun a b => .ok (a + b)) o_addN ha hb
theorem r_addn_pe {a : Int} (ha : Ref (fa ρ) (.ok a)) {mb : Res Int} (hb : Ref (fb ρ) mb) : Ref (VL.bin fa fb dAddN ρ) (mb.bind fun b => .ok (a + b)) := r_bin (op := fun a b => .ok (a + b)) o_addN ha hb
theorem r_addn_ep {ma : Res Int} (ha : Ref (fa ρ) ma) {b : Int} (hb : Ref (fb ρ) (.ok b)) : Ref (VL.bin fa fb dAddN ρ) (ma.bind fun a => .ok (a + b)) := r_bin (op := fun a b => .ok (a + b)) o_addN ha hb
theorem r_addn_ee {ma : Res Int} (ha : Ref (fa ρ) ma) {mb : Res Int} (hb : Ref (fb ρ) mb) : Ref (VL.bin fa fb dAddN ρ) (ma.bind fun a => mb.bind fun b => .ok (a + b)) := r_bin (op := fun a b => .ok (a + b)) o_addN ha hb
theorem r_ltn_pp {a : Int} (ha : Ref (fa ρ) (.ok a)) {b : Int} (hb : Ref (fb ρ) (.ok b)) : RefB (binB fa fb dLtN ρ) (.ok (decide (a < b))) := r_binBP (op := fun a b => .ok (decide (a < b))) o_ltN ha hb
theorem r_ltn_pe {a : Int} (ha : Ref (fa ρ) (.ok a)) {mb : Res Int} (hb : Ref (fb ρ) mb) : RefB (binB fa fb dLtN ρ) (mb.bind fun b => .ok (decide (a < b))) := r_binB (op := fun a b => .ok (decide (a < b))) o_ltN ha hb
theorem r_ltn_ep {ma : Res Int} (ha : Ref (fa ρ) ma) {b : Int} (hb : Ref (fb ρ) (.ok b)) : RefB (binB fa fb dLtN ρ) (ma.bind fun a => .ok (decide (a < b))) := r_binB (op := fun a b => .ok (decide (a < b))) o_ltN ha hb
theorem r_ltn_ee {ma : Res Int} (ha : Ref (fa ρ) ma) {mb : Res Int} (hb : Ref (fb ρ) mb) : RefB (binB fa fb dLtN ρ) (ma.bind fun a => mb.bind fun b => .ok (decide (a < b))) := r_binB (op := fun a b => .ok (decide (a < b))) o_ltN ha hb
theorem r_ixn_pp {a : List α} (ha : Ref (fa ρ) (.ok a)) {b : Int} (hb : Ref (fb ρ) (.ok b)) : Ref (VL.bin fa fb dIxN ρ) (ixN' a b) := r_binP (op := fun a b => ixN' a b) o_ixN ha hb
theorem r_ixn_pe {a : List α} (ha : Ref (fa ρ) (.ok a)) {mb : Res Int} (hb : Ref (fb ρ) mb) : Ref (VL.bin fa fb dIxN ρ) (mb.bind fun b => ixN' a b) := r_bin (op := fun a b => ixN' a b) o_ixN ha hb
theorem r_ixn_ep {ma : Res (List α)} (ha : Ref (fa ρ) ma) {b : Int} (hb : Ref (fb ρ) (.ok b)) : Ref (VL.bin fa fb dIxN ρ) (ma.bind fun a => ixN' a b) := r_bin (op := fun a b => ixN' a b) o_ixN ha hb
theorem r_ixn_ee {ma : Res (List α)} (ha : Ref (fa ρ) ma) {mb : Res Int} (hb : Ref (fb ρ) mb) : Ref (VL.bin fa fb dIxN ρ) (ma.bind fun a => mb.bind fun b => ixN' a b) := r_bin (op := fun a b => ixN' a b) o_ixN ha hb
theorem r_ixnu_pp {a : Tu α} (ha : Ref (fa ρ) (.ok a)) {b : Int} (hb : Ref (fb ρ) (.ok b)) : Ref (VL.bin fa fb dIxN ρ) (ixN' a.l b) := r_binP (op := fun (a : Tu α) b => ixN' a.l b) o_ixNU ha hb
theorem r_ixnu_pe {a : Tu α} (ha : Ref (fa ρ) (.ok a)) {mb : Res Int} (hb : Ref (fb ρ) mb) : Ref (VL.bin fa fb dIxN ρ) (mb.bind fun b => ixN' a.l b) := r_bin (op := fun (a : Tu α) b => ixN' a.l b) o_ixNU ha hb
theorem r_inss_pp {a : Str} (ha : Ref (fa ρ) (.ok a)) {b : Str} (hb : Ref (fb ρ) (.ok b)) : RefB (binB fa fb inSS ρ) (.ok (inS a b)) := r_binBP (op := fun a b => .ok (inS a b)) o_inSS ha hb
/-- any data there -/
theorem r_anyn_pp {g : D → D → Option D} {a : α} (ha : Ref (fa ρ) (.ok a)) {b : β} (hb : Ref (fb ρ) (.ok b)) : Ref (VL.bin fa fb g ρ) ((Res.of (g (enc a) (enc b))) : Res D) := r_binP (op := fun a b => (Res.of (g (enc a) (enc b)) : Res D)) (fun a b => o_any g a b) ha hb
theorem ixn_get {l : List α} {i : Int} {n : Nat} {x : α} (h : i = n) (e : l[n]? = some x) (hl : l.length ≤ 1000000) : ixN' l i = .ok x := by
  unfold ixN'
  rw [if_pos (sz_le hl), atI_get h e]; rfl
theorem sum_ok {l : List Int} (h1 : l.length ≤ 1000000) (h2 : ∀ n ∈ l, -1000000000000 ≤ n ∧ n ≤ 1000000000000) : sumM l = .ok l.sum := if_pos (by
  unfold sumOk
  rw [Bool.and_eq_true, List.all_eq_true, decide_eq_true_eq]
  exact ⟨fun n hn => by simpa using h2 n hn, h1⟩)
end
end VT

set_option Elab.async false
set_option linter.all false
set_option maxRecDepth 100000
set_option maxHeartbeats 4000000
namespace VT
open PySem PySem.Spec PyProof.Rows L2 VL
open Enc
section
variable {α β γ : Type} [Enc α] [Enc β] [Enc γ] {ρ : Rho} {fa fb f : Rho → Res D} {n i : Nat} {Rel : Out → γ → Prop} {h : Rho → Out}
def memT {α : Type} [DecidableEq α] (a : α) (l : List α) : Bool := decide (a ∈ l)
def minOr (l : List Int) (z : Int) : Res Int := match l with | [] => .ok z | x :: xs => .ok (xs.foldl min x)
def maxOr (l : List Int) (z : Int) : Res Int := match l with | [] => .ok z | x :: xs => .ok (xs.foldl max x)
def minNo (l : List Int) (z : Unit) : Res (Option Int) := match l with | [] => .ok none | x :: xs => .ok (some (xs.foldl min x))
def maxNo (l : List Int) (z : Unit) : Res (Option Int) := match l with | [] => .ok none | x :: xs => .ok (some (xs.foldl max x))
theorem mmDef_nil {m : D → List D → D} {z : D} : mmDef m (.list []) z = some z := by
  show (if mmB [] = true then some z else none) = some z
  exact if_pos (alike_ints [])
theorem o_minor (l : List Int) (z : Int) : Ref (Res.of (dMinDef (enc l) (enc z))) (minOr l z) := by
  cases l with
  | nil => show Ref (Res.of (mmDef PySem.W.minD (.list []) (enc z))) _; rw [mmDef_nil]; rfl
  | cons x xs =>
    show Ref (Res.of (dMinA (.list (.int x :: xs.map .int)))) _
    rw [dMinA_ints]; rfl
theorem o_maxor (l : List Int) (z : Int) : Ref (Res.of (dMaxDef (enc l) (enc z))) (maxOr l z) := by
  cases l with
  | nil => show Ref (Res.of (mmDef PySem.W.maxD (.list []) (enc z))) _; rw [mmDef_nil]; rfl
  | cons x xs =>
    show Ref (Res.of (dMaxA (.list (.int x :: xs.map .int)))) _
    rw [dMaxA_ints]; rfl
theorem o_minno (l : List Int) (z : Unit) : Ref (Res.of (dMinDef (enc l) (enc z))) (minNo l z) := by
  cases l with
  | nil => show Ref (Res.of (mmDef PySem.W.minD (.list []) (enc z))) _; rw [mmDef_nil]; rfl
  | cons x xs =>
    show Ref (Res.of (dMinA (.list (.int x :: xs.map .int)))) _
    rw [dMinA_ints]; rfl
theorem o_maxno (l : List Int) (z : Unit) : Ref (Res.of (dMaxDef (enc l) (enc z))) (maxNo l z) := by
  cases l with
  | nil => show Ref (Res.of (mmDef PySem.W.maxD (.list []) (enc z))) _; rw [mmDef_nil]; rfl
  | cons x xs =>
    show Ref (Res.of (dMaxA (.list (.int x :: xs.map .int)))) _
    rw [dMaxA_ints]; rfl
theorem r_minor_pp {a : List Int} (ha : Ref (fa ρ) (.ok a)) {b : Int} (hb : Ref (fb ρ) (.ok b)) : Ref (VL.bin fa fb dMinDef ρ) (minOr a b) := r_binP (op := fun a b => minOr a b) o_minor ha hb
theorem r_minor_ep {ma : Res (List Int)} (ha : Ref (fa ρ) ma) {b : Int} (hb : Ref (fb ρ) (.ok b)) : Ref (VL.bin fa fb dMinDef ρ) (ma.bind fun a => minOr a b) := r_bin (op := fun a b => minOr a b) o_minor ha hb
theorem r_minno_pp {a : List Int} (ha : Ref (fa ρ) (.ok a)) {b : Unit} (hb : Ref (fb ρ) (.ok b)) : Ref (VL.bin fa fb dMinDef ρ) (minNo a b) := r_binP (op := fun a b => minNo a b) o_minno ha hb
theorem r_minno_ep {ma : Res (List Int)} (ha : Ref (fa ρ) ma) {b : Unit} (hb : Ref (fb ρ) (.ok b)) : Ref (VL.bin fa fb dMinDef ρ) (ma.bind fun a => minNo a b) := r_bin (op := fun a b => minNo a b) o_minno ha hb
theorem r_maxor_pp {a : List Int} (ha : Ref (fa ρ) (.ok a)) {b : Int} (hb : Ref (fb ρ) (.ok b)) : Ref (VL.bin fa fb dMaxDef ρ) (maxOr a b) := r_binP (op := fun a b => maxOr a b) o_maxor ha hb
theorem r_maxor_ep {ma : Res (List Int)} (ha : Ref (fa ρ) ma) {b : Int} (hb : Ref (fb ρ) (.ok b)) : Ref (VL.bin fa fb dMaxDef ρ) (ma.bind fun a => maxOr a b) := r_bin (op := fun a b => maxOr a b) o_maxor ha hb
theorem r_maxno_pp {a : List Int} (ha : Ref (fa ρ) (.ok a)) {b : Unit} (hb : Ref (fb ρ) (.ok b)) : Ref (VL.bin fa fb dMaxDef ρ) (maxNo a b) := r_binP (op := fun a b => maxNo a b) o_maxno ha hb
theorem r_maxno_ep {ma : Res (List Int)} (ha : Ref (fa ρ) ma) {b : Unit} (hb : Ref (fb ρ) (.ok b)) : Ref (VL.bin fa fb dMaxDef ρ) (ma.bind fun a => maxNo a b) := r_bin (op := fun a b => maxNo a b) o_maxno ha hb
theorem s_augI {l : List Int} {m : Res Int} {mj : Res Int} {k : List Int → Res γ} {ρ' : List Int → Rho} {fj : Rho → Res D} (hn : ρ.length = n) (hi : ρ[i]? = some (ow l)) (hj : Ref (fj ρ) mj) (hf : Ref (f ρ) m) (hρ : ∀ a, ρ.set i (ow a) = ρ' a) (hk : ∀ a, Sim n Rel (h (ρ' a)) (k a)) :
    Sim n Rel (seqS (augI i fj f dAddI) h ρ) (mj.bind fun z => (ix l z).bind fun x => m.bind fun y => (setL l z (x + y)).bind k) := by
  have : seqS (augI i fj f dAddI) h ρ = seqS (fun ρ' => Res.out ρ' (fj ρ) fun j => match j with
    | .int z => (match ixN (l.map enc).length z with
      | some k => (match (l.map (enc : Int → D))[k]? with
        | some x => Res.out ρ (f ρ) fun y => (match dAddI x y with
          | some w => .nx (ρ.set i (some (.ow ((l.map enc).set k w))))
          | none => .no)
        | none => .no)
      | none => .no)
    | _ => .no) h ρ := by
    unfold seqS augI
    rw [hi] <;> rfl
  rw [this]
  refine out_sim (φ := enc) (K := fun j => match j with
    | .int z => (match ixN (l.map enc).length z with
      | some k => (match (l.map (enc : Int → D))[k]? with
        | some x => Res.out ρ (f ρ) fun y => (match dAddI x y with
          | some w => .nx (ρ.set i (some (.ow ((l.map enc).set k w))))
          | none => .no)
        | none => .no)
      | none => .no)
    | _ => .no) hn hj fun z => ?_
  show Sim n Rel (seqS (fun _ => match ixN (l.map enc).length z with
      | some k => (match (l.map (enc : Int → D))[k]? with
        | some x => Res.out ρ (f ρ) fun y => (match dAddI x y with
          | some w => .nx (ρ.set i (some (.ow ((l.map enc).set k w))))
          | none => .no)
        | none => .no)
      | none => .no) h ρ) _
  unfold ix atI setL
  rw [List.length_map]
  cases e : ixN l.length z with
  | none => exact trivial
  | some j =>
    dsimp only
    rw [List.getElem?_map]
    show Sim n Rel _ ((Res.of l[j]?).bind _)
    cases e2 : l[j]? with
    | none => exact trivial
    | some x =>
      show Sim n Rel (seqS (fun ρ0 => Res.out ρ (f ρ) fun y => (match dAddI (enc x) y with
          | some w => .nx (ρ.set i (some (.ow ((l.map enc).set j w))))
          | none => .no)) h ρ) (m.bind fun y => k (l.set j (x + y)))
      refine out_sim (φ := enc) (K := fun y => (match dAddI (enc x) y with
          | some w => .nx (ρ.set i (some (.ow ((l.map enc).set j w))))
          | none => .no)) hn hf fun y => ?_
      show Sim n Rel (h (ρ.set i (some (.ow ((l.map enc).set j (enc (x + y))))))) _
      rw [map_set']
      have := hk (l.set j (x + y))
      rw [← hρ] at this
      exact this
end
end VT

set_option Elab.async false
set_option linter.all false
set_option maxRecDepth 100000
set_option maxHeartbeats 8000000
namespace K56
open PySem PySem.Spec PyProof.Rows L2 VL
def topS (i : Nat) : Stmt := PySem.Challenge.pw_canalworks_k56_whole_convoys.main.body.getD i (.Pass ⟨0, 0, 0, 0⟩)
abbrev s_is_number : Stmt := topS 7
abbrev s__check_convoys : Stmt := topS 9
abbrev s__group_wait : Stmt := topS 10
abbrev s__wait_table : Stmt := topS 11
abbrev s_least_convoy_wait : Stmt := topS 12
abbrev s_convoy_plan : Stmt := topS 13
abbrev s_plan_wait : Stmt := topS 14
abbrev s_fewest_convoys : Stmt := topS 15
abbrev s__law_strictly : Stmt := topS 17
abbrev s__law_cell : Stmt := topS 18
abbrev s__law_draw : Stmt := topS 19
abbrev s__law_subsets : Stmt := topS 20
abbrev s__law_told : Stmt := topS 21
abbrev s__law_wait : Stmt := topS 22
abbrev s_law : Stmt := topS 23
abbrev s_TooMany : Stmt := topS 2
abbrev s_PlanError : Stmt := topS 3
structure Txt (P : Program) (K : PySem.W.Frag) (mg : Str → Option Value) (base : Heap) (A : Nat → Addr) (Dt : Nat → FuncData) (Er : Nat → Addr) (Co : Nat → Addr) (Tb : Nat → Addr) (Ps : List Addr) : Prop where
  fn_is_number : Fun K "is_number" "is_number" s_is_number (A 0) (Dt 0)
  b_is_number : Binds K (Dt 0) ["thing", "low", "high"] []
  m_is_number : mg "is_number" = some (.ref (A 0))
  k_is_number : PySem.W.keepIn K (.ref (A 0)) = true
  fn__check_convoys : Fun K "_check_convoys" "_check_convoys" s__check_convoys (A 1) (Dt 1)
  b__check_convoys : Binds K (Dt 1) ["arrivals", "most", "many"] []
  m__check_convoys : mg "_check_convoys" = some (.ref (A 1))
  k__check_convoys : PySem.W.keepIn K (.ref (A 1)) = true
  fn__group_wait : FunT K "_group_wait" "_group_wait" s__group_wait (A 2) (Dt 2) (Co 2)
  tb__group_wait : GxR.TabB base mg (Co 2) (Tb 2)
  tm__group_wait : Tb 2 ∈ Ps
  b__group_wait : Binds K (Dt 2) ["arrivals", "start", "end"] []
  m__group_wait : mg "_group_wait" = some (.ref (A 2))
  k__group_wait : PySem.W.keepIn K (.ref (A 2)) = true
  fn__wait_table : Fun K "_wait_table" "_wait_table" s__wait_table (A 3) (Dt 3)
  b__wait_table : Binds K (Dt 3) ["arrivals", "most", "many"] []
  m__wait_table : mg "_wait_table" = some (.ref (A 3))
  k__wait_table : PySem.W.keepIn K (.ref (A 3)) = true
  fn_least_convoy_wait : Fun K "least_convoy_wait" "least_convoy_wait" s_least_convoy_wait (A 4) (Dt 4)
  b_least_convoy_wait : Binds K (Dt 4) ["arrivals", "most", "many"] []
  m_least_convoy_wait : mg "least_convoy_wait" = some (.ref (A 4))
  k_least_convoy_wait : PySem.W.keepIn K (.ref (A 4)) = true
  fn_convoy_plan : Fun K "convoy_plan" "convoy_plan" s_convoy_plan (A 5) (Dt 5)
  b_convoy_plan : Binds K (Dt 5) ["arrivals", "most", "many"] []
  m_convoy_plan : mg "convoy_plan" = some (.ref (A 5))
  k_convoy_plan : PySem.W.keepIn K (.ref (A 5)) = true
  fn_plan_wait : FunT K "plan_wait" "plan_wait" s_plan_wait (A 6) (Dt 6) (Co 6)
  tb_plan_wait : GxR.TabB base mg (Co 6) (Tb 6)
  tm_plan_wait : Tb 6 ∈ Ps
  b_plan_wait : Binds K (Dt 6) ["arrivals", "sizes"] []
  m_plan_wait : mg "plan_wait" = some (.ref (A 6))
  k_plan_wait : PySem.W.keepIn K (.ref (A 6)) = true
  fn_fewest_convoys : Fun K "fewest_convoys" "fewest_convoys" s_fewest_convoys (A 7) (Dt 7)
  b_fewest_convoys : Binds K (Dt 7) ["arrivals", "most", "longest"] []
  m_fewest_convoys : mg "fewest_convoys" = some (.ref (A 7))
  k_fewest_convoys : PySem.W.keepIn K (.ref (A 7)) = true
  fn__law_strictly : Fun K "_law_strictly" "_law_strictly" s__law_strictly (A 8) (Dt 8)
  b__law_strictly : Binds K (Dt 8) ["expected", "actual"] []
  m__law_strictly : mg "_law_strictly" = some (.ref (A 8))
  k__law_strictly : PySem.W.keepIn K (.ref (A 8)) = true
  fn__law_cell : Fun K "_law_cell" "_law_cell" s__law_cell (A 9) (Dt 9)
  b__law_cell : Binds K (Dt 9) ["script", "k"] []
  m__law_cell : mg "_law_cell" = some (.ref (A 9))
  k__law_cell : PySem.W.keepIn K (.ref (A 9)) = true
  fn__law_draw : Fun K "_law_draw" "_law_draw" s__law_draw (A 10) (Dt 10)
  b__law_draw : Binds K (Dt 10) ["script", "k", "sizes"] []
  m__law_draw : mg "_law_draw" = some (.ref (A 10))
  k__law_draw : PySem.W.keepIn K (.ref (A 10)) = true
  fn__law_subsets : Fun K "_law_subsets" "_law_subsets" s__law_subsets (A 11) (Dt 11)
  b__law_subsets : Binds K (Dt 11) ["things"] []
  m__law_subsets : mg "_law_subsets" = some (.ref (A 11))
  k__law_subsets : PySem.W.keepIn K (.ref (A 11)) = true
  fn__law_told : Fun K "_law_told" "_law_told" s__law_told (A 12) (Dt 12)
  b__law_told : Binds K (Dt 12) ["which", "arrivals", "most", "many"] []
  m__law_told : mg "_law_told" = some (.ref (A 12))
  k__law_told : PySem.W.keepIn K (.ref (A 12)) = true
  fn__law_wait : Fun K "_law_wait" "_law_wait" s__law_wait (A 13) (Dt 13)
  b__law_wait : Binds K (Dt 13) ["arrivals", "sizes"] []
  m__law_wait : mg "_law_wait" = some (.ref (A 13))
  k__law_wait : PySem.W.keepIn K (.ref (A 13)) = true
  fn_law : Fun K "law" "law" s_law (A 14) (Dt 14)
  b_law : Binds K (Dt 14) ["script"] []
  m_law : mg "law" = some (.ref (A 14))
  k_law : PySem.W.keepIn K (.ref (A 14)) = true
  n_any : mg "any" = none
  n_bool : mg "bool" = none
  n_int : mg "int" = none
  n_isinstance : mg "isinstance" = none
  n_len : mg "len" = none
  n_list : mg "list" = none
  n_max : mg "max" = none
  n_min : mg "min" = none
  n_range : mg "range" = none
  n_str : mg "str" = none
  n_sum : mg "sum" = none
  n_super : mg "super" = none
  n_tuple : mg "tuple" = none
  c_ROWS : ∃ t, mg "ROWS" = some (.int 60 t)
  c_TIME : ∃ t, mg "TIME" = some (.int 10000 t)
  e_TooMany : ErrTxt P K (Er 0) (Er 1) ["what"]
  m_TooMany : mg "TooMany" = some (.ref (Er 0))
  xf_TooMany : XfC K (Er 0)
  nf_TooMany_what : PySem.W.findIn K (.ref (Er 0)) "what" = some none
  ex_TooMany : ∀ nm C, (["TooMany", "PlanError"] : List Str).contains nm = true → mg nm = some (.ref C) → PySem.W.exmOne K (.ref C) (.ref (Er 0)) = some ((["TooMany"] : List Str).contains nm)
  e_PlanError : ErrTxt P K (Er 2) (Er 3) ["what", "place"]
  m_PlanError : mg "PlanError" = some (.ref (Er 2))
  xf_PlanError : XfC K (Er 2)
  nf_PlanError_what : PySem.W.findIn K (.ref (Er 2)) "what" = some none
  nf_PlanError_place : PySem.W.findIn K (.ref (Er 2)) "place" = some none
  ex_PlanError : ∀ nm C, (["TooMany", "PlanError"] : List Str).contains nm = true → mg nm = some (.ref C) → PySem.W.exmOne K (.ref C) (.ref (Er 2)) = some ((["PlanError"] : List Str).contains nm)
noncomputable section
variable {P : Program} {w : World} {K : PySem.W.Frag} {mg : Str → Option Value} {base : Heap} {A : Nat → Addr} {Dt : Nat → FuncData} {Er : Nat → Addr} {Co Tb : Nat → Addr} {Ps : List Addr}
/-! ### is_number -/
abbrev N_is_number : List Str := ["thing", "low", "high"]
theorem sc_is_number : FnScope N_is_number ["thing", "low", "high"] (defScope s_is_number) := ⟨rfl, rfl, rfl, by decide +kernel, rfl, by decide +kernel, by decide +kernel⟩
theorem ok_is_number (T : Txt P K mg base A Dt Er Co Tb Ps) : FnOk P w K mg base (L2.CX P w) 2 (A 0) (Dt 0) ["thing", "low", "high"] (spV K mg Ps F_is_number 3) :=
  fn_val T.fn_is_number sc_is_number (fun cdv A1 outer s H E B hB hr tk => by
    exact (ps_one (ps_ret (pv_and (pv_isi kit_int T.n_isinstance T.n_int bt_int (PVE.rd (pv_var 0))) (pv_and (pv_not (pv_isi kit_bool T.n_isinstance T.n_bool bt_bool (PVE.rd (pv_var 0)))) (pv_and (pv_cmp op_le ob_le (PVE.rd (pv_var 1)) (PVE.rd (pv_var 0)) (by rfl)) (pv_one (pv_cmp op_le ob_le (PVE.rd (pv_var 0)) (PVE.rd (pv_var 2)) (by rfl)))))))))
/-! ### _check_convoys -/
abbrev N__check_convoys : List Str := ["arrivals", "most", "many", "at"]
theorem sc__check_convoys : FnScope N__check_convoys ["arrivals", "most", "many"] (defScope s__check_convoys) := ⟨rfl, rfl, rfl, by decide +kernel, rfl, by decide +kernel, by decide +kernel⟩
def g__check_convoys_0 : Rho → Out := (ifS (binB (un (var 0) dLen) (kI 60) dGt) (raiS "TooMany" ["what"] (consA (kS "boats") nilA)) nxS)
def g__check_convoys_1b : Rho → Out := (seqS (ifS (notT (isB (callV F_is_number (consA (bin (var 0) (var 3) dIx) (consA (kI 0) (consA (kI 10000) nilA)))))) (raiS "PlanError" ["what", "place"] (consA (kS "time") (consA (var 3) nilA))) nxS) (ifS (andT (binB (var 3) (kI 0) dGt) (binB (bin (var 0) (var 3) dIx) (bin (var 0) (bin (var 3) (kI 1) dSub) dIx) dLt)) (raiS "PlanError" ["what", "place"] (consA (kS "order") (consA (var 3) nilA))) nxS))
def g__check_convoys_1 : Rho → Out := (forS (rng1 (consA (un (var 0) dLen) nilA)) (tgN 3) g__check_convoys_1b)
def g__check_convoys_2 : Rho → Out := (ifS (notT (isB (callV F_is_number (consA (var 1) (consA (kI 1) (consA (kI 60) nilA)))))) (raiS "PlanError" ["what", "place"] (consA (kS "boats in a convoy") (consA (kI 0) nilA))) nxS)
def g__check_convoys_3 : Rho → Out := (ifS (notT (isB (callV F_is_number (consA (var 2) (consA (kI 0) (consA (kI 60) nilA)))))) (raiS "PlanError" ["what", "place"] (consA (kS "number of convoys") (consA (kI 0) nilA))) nxS)
def G__check_convoys : Rho → Out := (seqS g__check_convoys_0 (seqS g__check_convoys_1 (seqS g__check_convoys_2 g__check_convoys_3)))
def F__check_convoys : List D → Res D := bodyV 4 G__check_convoys
theorem ok__check_convoys (T : Txt P K mg base A Dt Er Co Tb Ps) : FnOk P w K mg base (L2.CX P w) 3 (A 1) (Dt 1) ["arrivals", "most", "many"] (spV K mg Ps F__check_convoys 3) :=
  fn_val T.fn__check_convoys sc__check_convoys (fun cdv A1 outer s H E B hB hr tk => by
    exact (ps_cons (ps_if (pt_cmp op_gt ob_gt (PVE.rd (pv_b1 call_lenA cv_len T.n_len bt_len (PVE.rd (pv_var 0)))) (PVE.rd (pv_gint T.c_ROWS.choose_spec)) (by rfl)) (ps_one (ps_rai rfl T.e_TooMany T.m_TooMany T.n_super hr tk (pa_cons pv_str pa_nil))) ps_nil) (ps_cons (ps_for (passes_of rfl) rfl (pi_rng1 T.n_range (pa_cons (pv_b1 call_lenA cv_len T.n_len bt_len (PVE.rd (pv_var 0))) pa_nil)) (pg_name 3 (sc__check_convoys).nd) (ps_cons (ps_if (pt_not (pt_val (pv_call hB ((ok_is_number T).mono (by decide)) hr T.m_is_number T.k_is_number T.b_is_number tk (pa_cons (pv_ix (PVE.rd (pv_var 0)) (PVE.rd (pv_var 3))) (pa_cons pv_int (pa_cons (pv_gint T.c_TIME.choose_spec) pa_nil)))))) (ps_one (ps_rai rfl T.e_PlanError T.m_PlanError T.n_super hr tk (pa_cons pv_str (pa_cons (pv_var 3) pa_nil)))) ps_nil) (ps_one (ps_if (PVW.t (pw_and (pt_cmp op_gt ob_gt (PVE.rd (pv_var 3)) (PVE.rd pv_int) (by rfl)) (pw_and1 (pt_cmp op_ltA ob_lt (PVE.rd (pv_ix (PVE.rd (pv_var 0)) (PVE.rd (pv_var 3)))) (PVE.rd (pv_ix (PVE.rd (pv_var 0)) (PVE.rd (pv_bin op_sub ov_sub (PVE.rd (pv_var 3)) (PVE.rd pv_int))))) (by rfl))))) (ps_one (ps_rai rfl T.e_PlanError T.m_PlanError T.n_super hr tk (pa_cons pv_str (pa_cons (pv_var 3) pa_nil)))) ps_nil)))) (ps_cons (ps_if (pt_not (pt_val (pv_call hB ((ok_is_number T).mono (by decide)) hr T.m_is_number T.k_is_number T.b_is_number tk (pa_cons (pv_var 1) (pa_cons pv_int (pa_cons (pv_gint T.c_ROWS.choose_spec) pa_nil)))))) (ps_one (ps_rai rfl T.e_PlanError T.m_PlanError T.n_super hr tk (pa_cons pv_str (pa_cons pv_int pa_nil)))) ps_nil) (ps_one (ps_if (pt_not (pt_val (pv_call hB ((ok_is_number T).mono (by decide)) hr T.m_is_number T.k_is_number T.b_is_number tk (pa_cons (pv_var 2) (pa_cons pv_int (pa_cons (pv_gint T.c_ROWS.choose_spec) pa_nil)))))) (ps_one (ps_rai rfl T.e_PlanError T.m_PlanError T.n_super hr tk (pa_cons pv_str (pa_cons pv_int pa_nil)))) ps_nil))))))
/-! ### _group_wait -/
abbrev N__group_wait : List Str := ["arrivals", "start", "end", "time"]
theorem sc__group_wait : FnScope N__group_wait ["arrivals", "start", "end"] (defScope s__group_wait) := ⟨rfl, rfl, rfl, by decide +kernel, rfl, by decide +kernel, by decide +kernel⟩
def g__group_wait_0 : Rho → Out := (retS (gxK dSumL (gxV 3 [true, false, true, false] (slc (var 0) (asI (var 1)) (asI (var 2))) tT (bin (bin (var 0) (bin (var 2) (kI 1) dSub) dIxN) (var 3) dSub))))
def G__group_wait : Rho → Out := g__group_wait_0
def F__group_wait : List D → Res D := bodyV 4 G__group_wait
theorem ok__group_wait (T : Txt P K mg base A Dt Er Co Tb Ps) : FnOk P w K mg base (L2.CX P w) 2 (A 2) (Dt 2) ["arrivals", "start", "end"] (spV K mg Ps F__group_wait 3) :=
  fn_valT T.fn__group_wait sc__group_wait (fun A1 outer s H E B hB hr tk => by
    exact (ps_one (ps_ret (pv_gx (i := 3) (m := [true, false, true, false]) (g := dSumL) call_sumG hr (by rfl) T.n_sum bt_sum (by decide) (by decide) T.tb__group_wait rfl (genS_of (by rfl) (by rfl) (by decide +kernel) (by rfl) (by rfl) (by rfl)) (PVE.rd (pv_slice (PVE.rd (pv_var 0)) (pp_some (PVE.rd (pv_var 1))) (pp_some (PVE.rd (pv_var 2))))) (tabG_of hB T.tm__group_wait) (by rfl) (capOk_by (N := N__group_wait) (sc := defScope s__group_wait) rfl rfl (by decide +kernel)) (by rfl) rts_nil (re_bin raw_sub (re_ix (re_var 0) (re_bin raw_sub (re_var 2) re_int)) (re_var 3)) (fun _ => rfl)))))
/-! ### _wait_table -/
abbrev N__wait_table : List Str := ["arrivals", "most", "many", "_", "table", "before", "row", "end", "best", "start", "wait"]
theorem sc__wait_table : FnScope N__wait_table ["arrivals", "most", "many"] (defScope s__wait_table) := ⟨rfl, rfl, rfl, by decide +kernel, rfl, by decide +kernel, by decide +kernel⟩
def g__wait_table_0 : Rho → Out := (asgO 4 (lstO (consA (bin (vO (lstO (consA (tupV (consA (kI 0) (consA (kI 0) nilA))) nilA))) (vO (lcV (itR (var 0)) (tgN 3) tT kN [3])) dAdd) nilA)))
def g__wait_table_1b_2b_1b : Rho → Out := (ifS (binB (bin (var 5) (var 9) dIx) kN dNotN) (seqS (asgS 10 (bin (bin (bin (var 5) (var 9) dIx) (kI 0) dIx) (callV F__group_wait (consA (var 0) (consA (var 9) (consA (var 7) nilA)))) dAdd)) (asgS 8 (ifV (orT (binB (var 8) kN dIsN) (binB (var 10) (bin (var 8) (kI 0) dIx) dLt)) (tupV (consA (var 10) (consA (var 9) nilA))) (var 8)))) nxS)
def g__wait_table_1b_2b : Rho → Out := (seqS (asgS 8 kN) (seqS (forS (rng2 (consA (bin (kI 0) (bin (var 7) (var 1) dSub) dMax2) (consA (var 7) nilA))) (tgN 9) g__wait_table_1b_2b_1b) (appS 6 (var 8))))
def g__wait_table_1b : Rho → Out := (seqS (asgS 5 (bin (varR 4) (un (kI 1) dNeg) dIx)) (seqS (asgO 6 (lstO (consA (tupV (consA (kI 0) (consA (kI 0) nilA))) nilA))) (seqS (forS (rng2 (consA (kI 1) (consA (bin (un (var 0) dLen) (kI 1) dAdd) nilA))) (tgN 7) g__wait_table_1b_2b) (frzS 6 (appS 4 (var 6))))))
def g__wait_table_1 : Rho → Out := (forS (rng1 (consA (var 2) nilA)) (tgN 3) g__wait_table_1b)
def g__wait_table_2 : Rho → Out := (frzS 4 (retS (var 4)))
def G__wait_table : Rho → Out := (seqS g__wait_table_0 (seqS g__wait_table_1 g__wait_table_2))
def F__wait_table : List D → Res D := bodyV 11 G__wait_table
theorem ok__wait_table (T : Txt P K mg base A Dt Er Co Tb Ps) : FnOk P w K mg base (L2.CX P w) 3 (A 3) (Dt 3) ["arrivals", "most", "many"] (spV K mg Ps F__wait_table 3) :=
  fn_val T.fn__wait_table sc__wait_table (fun cdv A1 outer s H E B hB hr tk => by
    exact (ps_cons (ps_asgO 4 (pv_lst (pa_cons (pv_bin op_addA ov_add (PVE.rd (PVO.v (pv_lst (pa_cons (pv_tup (pa_cons pv_int (pa_cons pv_int pa_nil))) pa_nil)))) (PVE.rd (PVO.v (po_lc [("_", 3)] rfl (sc__wait_table).nd (pi_any (pv_var 0)) (blkOk_by (N := N__wait_table) (sc := defScope s__wait_table) (by decide +kernel)) (fun s H C cl fp => (pg_name 3 (sc__wait_table).nd)) (fun s H C cl fp => pts_nil) (fun s H C cl fp => pv_non))))) pa_nil)) (sc__wait_table).nd) (ps_cons (ps_for (passes_of rfl) rfl (pi_rng1 T.n_range (pa_cons (pv_var 2) pa_nil)) (pg_name 3 (sc__wait_table).nd) (ps_cons (ps_asg 5 (pv_ix (pr_var 4) (PVE.rd (pv_neg (PVE.rd pv_int)))) (sc__wait_table).nd) (ps_cons (ps_asgO 6 (pv_lst (pa_cons (pv_tup (pa_cons pv_int (pa_cons pv_int pa_nil))) pa_nil)) (sc__wait_table).nd) (ps_cons (ps_for (passes_of rfl) rfl (pi_rng2 T.n_range (pa_cons pv_int (pa_cons (pv_bin op_addA ov_add (PVE.rd (pv_b1 call_lenA cv_len T.n_len bt_len (PVE.rd (pv_var 0)))) (PVE.rd pv_int)) pa_nil))) (pg_name 7 (sc__wait_table).nd) (ps_cons (ps_asg 8 pv_non (sc__wait_table).nd) (ps_cons (ps_for (passes_of rfl) rfl (pi_rng2 T.n_range (pa_cons (pv_b2 (call_max2 rfl) cv_max2 T.n_max bt_max (PVE.rd pv_int) (PVE.rd (pv_bin op_sub ov_sub (PVE.rd (pv_var 7)) (PVE.rd (pv_var 1))))) (pa_cons (pv_var 7) pa_nil))) (pg_name 9 (sc__wait_table).nd) (ps_one (ps_if (pt_cmp op_notN ob_notN (PVE.rd (pv_ix (PVE.rd (pv_var 5)) (PVE.rd (pv_var 9)))) (PVE.rd pv_non) (by rfl)) (ps_cons (ps_asg 10 (pv_bin op_addA ov_add (PVE.rd (pv_ix (PVE.rd (pv_ix (PVE.rd (pv_var 5)) (PVE.rd (pv_var 9)))) (PVE.rd pv_int))) (PVE.rd (pv_call hB ((ok__group_wait T).mono (by decide)) hr T.m__group_wait T.k__group_wait T.b__group_wait tk (pa_cons (pv_var 0) (pa_cons (pv_var 9) (pa_cons (pv_var 7) pa_nil)))))) (sc__wait_table).nd) (ps_one (ps_asg 8 (pv_if (PVW.t (pw_or (pt_cmp op_isN ob_isN (PVE.rd (pv_var 8)) (PVE.rd pv_non) (by rfl)) (pw_or1 (pt_cmp op_ltA ob_lt (PVE.rd (pv_var 10)) (PVE.rd (pv_ix (PVE.rd (pv_var 8)) (PVE.rd pv_int))) (by rfl))))) (pv_tup (pa_cons (pv_var 10) (pa_cons (pv_var 9) pa_nil))) (pv_var 8)) (sc__wait_table).nd))) ps_nil))) (ps_one (ps_app 6 (pv_var 8)))))) (ps_one (ps_frz 6 (ps_app 4 (pv_var 6)))))))) (ps_one (ps_frz 4 (ps_ret (pv_var 4)))))))
/-! ### least_convoy_wait -/
abbrev N_least_convoy_wait : List Str := ["arrivals", "most", "many", "waits", "row"]
theorem sc_least_convoy_wait : FnScope N_least_convoy_wait ["arrivals", "most", "many"] (defScope s_least_convoy_wait) := ⟨rfl, rfl, rfl, by decide +kernel, rfl, by decide +kernel, by decide +kernel⟩
def g_least_convoy_wait_0 : Rho → Out := (expS (callV F__check_convoys (consA (var 0) (consA (var 1) (consA (var 2) nilA)))))
def g_least_convoy_wait_1 : Rho → Out := (asgS 3 (vO (lcV (itR (callV F__wait_table (consA (var 0) (consA (var 1) (consA (var 2) nilA))))) (tgN 4) (binB (bin (var 4) (un (kI 1) dNeg) dIx) kN dNotN) (bin (bin (var 4) (un (kI 1) dNeg) dIx) (kI 0) dIx) [4])))
def g_least_convoy_wait_2 : Rho → Out := (retS (bin (var 3) kN dMinDef))
def G_least_convoy_wait : Rho → Out := (seqS g_least_convoy_wait_0 (seqS g_least_convoy_wait_1 g_least_convoy_wait_2))
def F_least_convoy_wait : List D → Res D := bodyV 5 G_least_convoy_wait
theorem ok_least_convoy_wait (T : Txt P K mg base A Dt Er Co Tb Ps) : FnOk P w K mg base (L2.CX P w) 4 (A 4) (Dt 4) ["arrivals", "most", "many"] (spV K mg Ps F_least_convoy_wait 3) :=
  fn_val T.fn_least_convoy_wait sc_least_convoy_wait (fun cdv A1 outer s H E B hB hr tk => by
    exact (ps_cons (ps_expr (pv_call hB ((ok__check_convoys T).mono (by decide)) hr T.m__check_convoys T.k__check_convoys T.b__check_convoys tk (pa_cons (pv_var 0) (pa_cons (pv_var 1) (pa_cons (pv_var 2) pa_nil))))) (ps_cons (ps_lcSet 3 [("row", 4)] rfl (sc_least_convoy_wait).nd (pi_any (pv_call hB ((ok__wait_table T).mono (by decide)) hr T.m__wait_table T.k__wait_table T.b__wait_table tk (pa_cons (pv_var 0) (pa_cons (pv_var 1) (pa_cons (pv_var 2) pa_nil))))) (blkOk_by (N := N_least_convoy_wait) (sc := defScope s_least_convoy_wait) (by decide +kernel)) (fun s H C cl fp => (pg_name 4 (sc_least_convoy_wait).nd)) (fun s H C cl fp => (pts_one (pt_cmp op_notN ob_notN (PVE.rd (pv_ix (PVE.rd (pv_var 4)) (PVE.rd (pv_neg (PVE.rd pv_int))))) (PVE.rd pv_non) (by rfl)))) (fun s H C cl fp => (pv_ix (PVE.rd (pv_ix (PVE.rd (pv_var 4)) (PVE.rd (pv_neg (PVE.rd pv_int))))) (PVE.rd pv_int)))) (ps_one (ps_ret (pv_mmD (cr_minAD hr) T.n_min bt_min (PVE.rd (pv_var 3)) pv_non))))))
/-! ### convoy_plan -/
abbrev N_convoy_plan : List Str := ["arrivals", "most", "many", "table", "best", "used", "sizes", "end", "start"]
theorem sc_convoy_plan : FnScope N_convoy_plan ["arrivals", "most", "many"] (defScope s_convoy_plan) := ⟨rfl, rfl, rfl, by decide +kernel, rfl, by decide +kernel, by decide +kernel⟩
def g_convoy_plan_0 : Rho → Out := (expS (callV F__check_convoys (consA (var 0) (consA (var 1) (consA (var 2) nilA)))))
def g_convoy_plan_1 : Rho → Out := (asgS 3 (callV F__wait_table (consA (var 0) (consA (var 1) (consA (var 2) nilA)))))
def g_convoy_plan_2 : Rho → Out := (asgS 4 (callV F_least_convoy_wait (consA (var 0) (consA (var 1) (consA (var 2) nilA)))))
def g_convoy_plan_3 : Rho → Out := (ifS (binB (var 4) kN dIsN) (retS kN) nxS)
def g_convoy_plan_4 : Rho → Out := (asgS 5 (kI 0))
def g_convoy_plan_5b : Rho → Out := (augS 5 (kI 1) dAddI)
def g_convoy_plan_5 : Rho → Out := (whlN (orT (binB (bin (bin (var 3) (var 5) dIx) (un (kI 1) dNeg) dIx) kN dIsN) (binB (bin (bin (bin (var 3) (var 5) dIx) (un (kI 1) dNeg) dIx) (kI 0) dIx) (var 4) dNe)) g_convoy_plan_5b 10000)
def g_convoy_plan_6 : Rho → Out := (asgS 6 (vO (lstO nilA)))
def g_convoy_plan_7 : Rho → Out := (asgS 7 (un (var 0) dLen))
def g_convoy_plan_8b : Rho → Out := (seqS (asgS 8 (bin (bin (bin (var 3) (var 5) dIx) (var 7) dIx) (kI 1) dIx)) (seqS (asgS 6 (bin (vO (lstO (consA (bin (var 7) (var 8) dSub) nilA))) (var 6) dAdd)) (seqS (asgS 7 (var 8)) (augS 5 (kI 1) dSub))))
def g_convoy_plan_8 : Rho → Out := (whlN (binB (var 5) (kI 0) dGt) g_convoy_plan_8b 10000)
def g_convoy_plan_9 : Rho → Out := (retS (var 6))
def G_convoy_plan : Rho → Out := (seqS g_convoy_plan_0 (seqS g_convoy_plan_1 (seqS g_convoy_plan_2 (seqS g_convoy_plan_3 (seqS g_convoy_plan_4 (seqS g_convoy_plan_5 (seqS g_convoy_plan_6 (seqS g_convoy_plan_7 (seqS g_convoy_plan_8 g_convoy_plan_9)))))))))
def F_convoy_plan : List D → Res D := bodyV 9 G_convoy_plan
theorem ok_convoy_plan (T : Txt P K mg base A Dt Er Co Tb Ps) : FnOk P w K mg base (L2.CX P w) 5 (A 5) (Dt 5) ["arrivals", "most", "many"] (spV K mg Ps F_convoy_plan 3) :=
  fn_val T.fn_convoy_plan sc_convoy_plan (fun cdv A1 outer s H E B hB hr tk => by
    exact (ps_cons (ps_expr (pv_call hB ((ok__check_convoys T).mono (by decide)) hr T.m__check_convoys T.k__check_convoys T.b__check_convoys tk (pa_cons (pv_var 0) (pa_cons (pv_var 1) (pa_cons (pv_var 2) pa_nil))))) (ps_cons (ps_asg 3 (pv_call hB ((ok__wait_table T).mono (by decide)) hr T.m__wait_table T.k__wait_table T.b__wait_table tk (pa_cons (pv_var 0) (pa_cons (pv_var 1) (pa_cons (pv_var 2) pa_nil)))) (sc_convoy_plan).nd) (ps_cons (ps_asg 4 (pv_call hB ((ok_least_convoy_wait T).mono (by decide)) hr T.m_least_convoy_wait T.k_least_convoy_wait T.b_least_convoy_wait tk (pa_cons (pv_var 0) (pa_cons (pv_var 1) (pa_cons (pv_var 2) pa_nil)))) (sc_convoy_plan).nd) (ps_cons (ps_if (pt_cmp op_isN ob_isN (PVE.rd (pv_var 4)) (PVE.rd pv_non) (by rfl)) (ps_one (ps_ret pv_non)) ps_nil) (ps_cons (ps_asg 5 pv_int (sc_convoy_plan).nd) (ps_cons (ps_whl 10000 (passes_of rfl) (PVW.t (pw_or (pt_cmp op_isN ob_isN (PVE.rd (pv_ix (PVE.rd (pv_ix (PVE.rd (pv_var 3)) (PVE.rd (pv_var 5)))) (PVE.rd (pv_neg (PVE.rd pv_int))))) (PVE.rd pv_non) (by rfl)) (pw_or1 (pt_cmp (op_neD hr.units) ob_ne (PVE.rd (pv_ix (PVE.rd (pv_ix (PVE.rd (pv_ix (PVE.rd (pv_var 3)) (PVE.rd (pv_var 5)))) (PVE.rd (pv_neg (PVE.rd pv_int))))) (PVE.rd pv_int))) (PVE.rd (pv_var 4)) (by rfl))))) (ps_one (ps_aug 5 iop_addI ov_addI pv_int (sc_convoy_plan).nd))) (ps_cons (ps_asg 6 (PVO.v (pv_lst pa_nil)) (sc_convoy_plan).nd) (ps_cons (ps_asg 7 (pv_b1 call_lenA cv_len T.n_len bt_len (PVE.rd (pv_var 0))) (sc_convoy_plan).nd) (ps_cons (ps_whl 10000 (passes_of rfl) (pt_cmp op_gt ob_gt (PVE.rd (pv_var 5)) (PVE.rd pv_int) (by rfl)) (ps_cons (ps_asg 8 (pv_ix (PVE.rd (pv_ix (PVE.rd (pv_ix (PVE.rd (pv_var 3)) (PVE.rd (pv_var 5)))) (PVE.rd (pv_var 7)))) (PVE.rd pv_int)) (sc_convoy_plan).nd) (ps_cons (ps_asg 6 (pv_bin op_addA ov_add (PVE.rd (PVO.v (pv_lst (pa_cons (pv_bin op_sub ov_sub (PVE.rd (pv_var 7)) (PVE.rd (pv_var 8))) pa_nil)))) (PVE.rd (pv_var 6))) (sc_convoy_plan).nd) (ps_cons (ps_asg 7 (pv_var 8) (sc_convoy_plan).nd) (ps_one (ps_aug 5 iop_sub ov_sub pv_int (sc_convoy_plan).nd)))))) (ps_one (ps_ret (pv_var 6)))))))))))))
/-! ### plan_wait -/
abbrev N_plan_wait : List Str := ["arrivals", "sizes", "total", "start", "size"]
theorem sc_plan_wait : FnScope N_plan_wait ["arrivals", "sizes"] (defScope s_plan_wait) := ⟨rfl, rfl, rfl, by decide +kernel, rfl, by decide +kernel, by decide +kernel⟩
def g_plan_wait_0 : Rho → Out := (ifS (orT (binB (un (var 1) dSum) (un (var 0) dLen) dNe) (isB (gxK dAnyL (gxV 4 [false, false, false, false, false] (var 1) tT (vB (binB (var 4) (kI 1) dLtN)))))) (retS kN) nxS)
def g_plan_wait_1 : Rho → Out := (asgS 2 (kI 0))
def g_plan_wait_2 : Rho → Out := (asgS 3 (kI 0))
def g_plan_wait_3b : Rho → Out := (seqS (augS 2 (callV F__group_wait (consA (var 0) (consA (var 3) (consA (bin (var 3) (var 4) dAdd) nilA)))) dAddI) (augS 3 (var 4) dAddI))
def g_plan_wait_3 : Rho → Out := (forS (itR (var 1)) (tgN 4) g_plan_wait_3b)
def g_plan_wait_4 : Rho → Out := (retS (var 2))
def G_plan_wait : Rho → Out := (seqS g_plan_wait_0 (seqS g_plan_wait_1 (seqS g_plan_wait_2 (seqS g_plan_wait_3 g_plan_wait_4))))
def F_plan_wait : List D → Res D := bodyV 5 G_plan_wait
theorem ok_plan_wait (T : Txt P K mg base A Dt Er Co Tb Ps) : FnOk P w K mg base (L2.CX P w) 3 (A 6) (Dt 6) ["arrivals", "sizes"] (spV K mg Ps F_plan_wait 2) :=
  fn_valT T.fn_plan_wait sc_plan_wait (fun A1 outer s H E B hB hr tk => by
    exact (ps_cons (ps_if (PVW.t (pw_or (pt_cmp (op_neD hr.units) ob_ne (PVE.rd (pv_b1 (cr_sum rfl) cv_sum T.n_sum bt_sum (PVE.rd (pv_var 1)))) (PVE.rd (pv_b1 call_lenA cv_len T.n_len bt_len (PVE.rd (pv_var 0)))) (by rfl)) (pw_or1 (pt_val (pv_gx (i := 4) (m := [false, false, false, false, false]) (g := dAnyL) call_anyG hr (by rfl) T.n_any bt_any (by decide) (by decide) T.tb_plan_wait rfl (genS_of (by rfl) (by rfl) (by decide +kernel) (by rfl) (by rfl) (by rfl)) (PVE.rd (pv_var 1)) (tabG_of hB T.tm_plan_wait) (by rfl) (capOk_by (N := N_plan_wait) (sc := defScope s_plan_wait) rfl rfl (by decide +kernel)) (by rfl) rts_nil (re_cmp rawb_lt (re_var 4) re_int (by rfl)) (fun _ => rfl)))))) (ps_one (ps_ret pv_non)) ps_nil) (ps_cons (ps_asg 2 pv_int (sc_plan_wait).nd) (ps_cons (ps_asg 3 pv_int (sc_plan_wait).nd) (ps_cons (ps_for (passes_of rfl) rfl (pi_any (pv_var 1)) (pg_name 4 (sc_plan_wait).nd) (ps_cons (ps_aug 2 iop_addI ov_addI (pv_call hB ((ok__group_wait T).mono (by decide)) hr T.m__group_wait T.k__group_wait T.b__group_wait tk (pa_cons (pv_var 0) (pa_cons (pv_var 3) (pa_cons (pv_bin op_addA ov_add (PVE.rd (pv_var 3)) (PVE.rd (pv_var 4))) pa_nil)))) (sc_plan_wait).nd) (ps_one (ps_aug 3 iop_addI ov_addI (pv_var 4) (sc_plan_wait).nd)))) (ps_one (ps_ret (pv_var 2))))))))
/-! ### fewest_convoys -/
abbrev N_fewest_convoys : List Str := ["arrivals", "most", "longest", "sizes", "first", "at"]
theorem sc_fewest_convoys : FnScope N_fewest_convoys ["arrivals", "most", "longest"] (defScope s_fewest_convoys) := ⟨rfl, rfl, rfl, by decide +kernel, rfl, by decide +kernel, by decide +kernel⟩
def g_fewest_convoys_0 : Rho → Out := (expS (callV F__check_convoys (consA (var 0) (consA (var 1) (consA (kI 0) nilA)))))
def g_fewest_convoys_1 : Rho → Out := (ifS (notT (isB (callV F_is_number (consA (var 2) (consA (kI 0) (consA (kI 10000) nilA)))))) (raiS "PlanError" ["what", "place"] (consA (kS "longest wait") (consA (kI 0) nilA))) nxS)
def g_fewest_convoys_2 : Rho → Out := (asgO 3 (lstO nilA))
def g_fewest_convoys_3 : Rho → Out := (asgS 4 (kI 0))
def g_fewest_convoys_4b : Rho → Out := (seqS (ifS (orT (binB (un (varR 3) dLen) (kI 0) dEq) (orT (binB (bin (varR 3) (un (kI 1) dNeg) dIx) (var 1) dEq) (binB (bin (bin (var 0) (var 5) dIx) (bin (var 0) (var 4) dIx) dSub) (var 2) dGt))) (seqS (appS 3 (kI 0)) (asgS 4 (var 5))) nxS) (augI 3 (un (kI 1) dNeg) (kI 1) dAddI))
def g_fewest_convoys_4 : Rho → Out := (forS (rng1 (consA (un (var 0) dLen) nilA)) (tgN 5) g_fewest_convoys_4b)
def g_fewest_convoys_5 : Rho → Out := (frzS 3 (retS (var 3)))
def G_fewest_convoys : Rho → Out := (seqS g_fewest_convoys_0 (seqS g_fewest_convoys_1 (seqS g_fewest_convoys_2 (seqS g_fewest_convoys_3 (seqS g_fewest_convoys_4 g_fewest_convoys_5)))))
def F_fewest_convoys : List D → Res D := bodyV 6 G_fewest_convoys
theorem ok_fewest_convoys (T : Txt P K mg base A Dt Er Co Tb Ps) : FnOk P w K mg base (L2.CX P w) 4 (A 7) (Dt 7) ["arrivals", "most", "longest"] (spV K mg Ps F_fewest_convoys 3) :=
  fn_val T.fn_fewest_convoys sc_fewest_convoys (fun cdv A1 outer s H E B hB hr tk => by
    exact (ps_cons (ps_expr (pv_call hB ((ok__check_convoys T).mono (by decide)) hr T.m__check_convoys T.k__check_convoys T.b__check_convoys tk (pa_cons (pv_var 0) (pa_cons (pv_var 1) (pa_cons pv_int pa_nil))))) (ps_cons (ps_if (pt_not (pt_val (pv_call hB ((ok_is_number T).mono (by decide)) hr T.m_is_number T.k_is_number T.b_is_number tk (pa_cons (pv_var 2) (pa_cons pv_int (pa_cons (pv_gint T.c_TIME.choose_spec) pa_nil)))))) (ps_one (ps_rai rfl T.e_PlanError T.m_PlanError T.n_super hr tk (pa_cons pv_str (pa_cons pv_int pa_nil)))) ps_nil) (ps_cons (ps_asgO 3 (pv_lst pa_nil) (sc_fewest_convoys).nd) (ps_cons (ps_asg 4 pv_int (sc_fewest_convoys).nd) (ps_cons (ps_for (passes_of rfl) rfl (pi_rng1 T.n_range (pa_cons (pv_b1 call_lenA cv_len T.n_len bt_len (PVE.rd (pv_var 0))) pa_nil)) (pg_name 5 (sc_fewest_convoys).nd) (ps_cons (ps_if (PVW.t (pw_or (pt_cmp (op_eqD hr.units) ob_eq (PVE.rd (pv_b1 call_lenA cv_len T.n_len bt_len (pr_var 3))) (PVE.rd pv_int) (by rfl)) (pw_or (pt_cmp (op_eqD hr.units) ob_eq (PVE.rd (pv_ix (pr_var 3) (PVE.rd (pv_neg (PVE.rd pv_int))))) (PVE.rd (pv_var 1)) (by rfl)) (pw_or1 (pt_cmp op_gt ob_gt (PVE.rd (pv_bin op_sub ov_sub (PVE.rd (pv_ix (PVE.rd (pv_var 0)) (PVE.rd (pv_var 5)))) (PVE.rd (pv_ix (PVE.rd (pv_var 0)) (PVE.rd (pv_var 4)))))) (PVE.rd (pv_var 2)) (by rfl)))))) (ps_cons (ps_app 3 pv_int) (ps_one (ps_asg 4 (pv_var 5) (sc_fewest_convoys).nd))) ps_nil) (ps_one (ps_augI 3 iop_addI ov_addI pv_int (pv_neg (PVE.rd pv_int)))))) (ps_one (ps_frz 3 (ps_ret (pv_var 3))))))))))
/-! ### _law_strictly -/
abbrev N__law_strictly : List Str := ["expected", "actual", "place"]
theorem sc__law_strictly : FnScope N__law_strictly ["expected", "actual"] (defScope s__law_strictly) := ⟨rfl, rfl, rfl, by decide +kernel, rfl, by decide +kernel, by decide +kernel⟩
theorem ok__law_strictly (T : Txt P K mg base A Dt Er Co Tb Ps) : ∀ n : Nat, FnOk P w K mg base (L2.CX P w) (2 + n) (A 8) (Dt 8) ["expected", "actual"] (spV K mg Ps (F__law_strictly n) 2)
  | 0 => fn_no T.fn__law_strictly sc__law_strictly rfl
  | n + 1 => fn_val (k := 2 + n) T.fn__law_strictly sc__law_strictly (fun cdv A1 outer s H E B hB hr tk => by
    have Rec := ok__law_strictly T n
    exact (ps_cons (ps_if (pt_cmp op_isN ob_isN (PVE.rd (pv_var 0)) (PVE.rd pv_non) (by rfl)) (ps_one (ps_ret (pv_cmp op_isN ob_isN (PVE.rd (pv_var 1)) (PVE.rd pv_non) (by rfl)))) ps_nil) (ps_cons (ps_if (pt_val (pv_isi kit_bool T.n_isinstance T.n_bool bt_bool (PVE.rd (pv_var 0)))) (ps_one (ps_ret (pv_and (pv_isi kit_int T.n_isinstance T.n_int bt_int (PVE.rd (pv_var 1))) (pv_one (pv_cmp (op_eqD hr.units) ob_eq (PVE.rd (pv_var 1)) (PVE.rd (pv_var 0)) (by rfl)))))) ps_nil) (ps_cons (ps_if (pt_val (pv_isi kit_int T.n_isinstance T.n_int bt_int (PVE.rd (pv_var 0)))) (ps_one (ps_ret (pv_and (pv_isi kit_int T.n_isinstance T.n_int bt_int (PVE.rd (pv_var 1))) (pv_and (pv_not (pv_isi kit_bool T.n_isinstance T.n_bool bt_bool (PVE.rd (pv_var 1)))) (pv_one (pv_cmp (op_eqD hr.units) ob_eq (PVE.rd (pv_var 1)) (PVE.rd (pv_var 0)) (by rfl))))))) ps_nil) (ps_cons (ps_if (pt_val (pv_isi kit_str T.n_isinstance T.n_str bt_str (PVE.rd (pv_var 0)))) (ps_one (ps_ret (pv_and (pv_isi kit_str T.n_isinstance T.n_str bt_str (PVE.rd (pv_var 1))) (pv_one (pv_cmp (op_eqD hr.units) ob_eq (PVE.rd (pv_var 1)) (PVE.rd (pv_var 0)) (by rfl)))))) ps_nil) (ps_cons (ps_if (PVW.t (pw_or (pt_cmp (op_neD hr.units) ob_ne (PVE.rd (pv_isi kit_tuple T.n_isinstance T.n_tuple bt_tuple (PVE.rd (pv_var 0)))) (PVE.rd (pv_isi kit_tuple T.n_isinstance T.n_tuple bt_tuple (PVE.rd (pv_var 1)))) (by rfl)) (pw_or1 (pt_cmp (op_neD hr.units) ob_ne (PVE.rd (pv_isi kit_list T.n_isinstance T.n_list bt_list (PVE.rd (pv_var 0)))) (PVE.rd (pv_isi kit_list T.n_isinstance T.n_list bt_list (PVE.rd (pv_var 1)))) (by rfl))))) (ps_one (ps_ret pv_bl)) ps_nil) (ps_cons (ps_if (PVW.t (pw_or (pt_val (pv_isi kit_tuple T.n_isinstance T.n_tuple bt_tuple (PVE.rd (pv_var 0)))) (pw_or1 (pt_val (pv_isi kit_list T.n_isinstance T.n_list bt_list (PVE.rd (pv_var 0))))))) (ps_cons (ps_if (pt_cmp (op_neD hr.units) ob_ne (PVE.rd (pv_b1 call_lenA cv_len T.n_len bt_len (PVE.rd (pv_var 1)))) (PVE.rd (pv_b1 call_lenA cv_len T.n_len bt_len (PVE.rd (pv_var 0)))) (by rfl)) (ps_one (ps_ret pv_bl)) ps_nil) (ps_cons (ps_for (passes_of rfl) rfl (pi_rng1 T.n_range (pa_cons (pv_b1 call_lenA cv_len T.n_len bt_len (PVE.rd (pv_var 0))) pa_nil)) (pg_name 2 (sc__law_strictly).nd) (ps_one (ps_if (pt_not (pt_val (pv_call hB Rec hr T.m__law_strictly T.k__law_strictly T.b__law_strictly tk (pa_cons (pv_ix (PVE.rd (pv_var 0)) (PVE.rd (pv_var 2))) (pa_cons (pv_ix (PVE.rd (pv_var 1)) (PVE.rd (pv_var 2))) pa_nil))))) (ps_one (ps_ret pv_bl)) ps_nil))) (ps_one (ps_ret pv_bl)))) ps_nil) (ps_one (ps_ret (pv_cmp (op_eqD hr.units) ob_eq (PVE.rd (pv_var 1)) (PVE.rd (pv_var 0)) (by rfl)))))))))))
/-! ### _law_cell -/
abbrev N__law_cell : List Str := ["script", "k"]
theorem sc__law_cell : FnScope N__law_cell ["script", "k"] (defScope s__law_cell) := ⟨rfl, rfl, rfl, by decide +kernel, rfl, by decide +kernel, by decide +kernel⟩
theorem ok__law_cell (T : Txt P K mg base A Dt Er Co Tb Ps) : FnOk P w K mg base (L2.CX P w) 2 (A 9) (Dt 9) ["script", "k"] (spV K mg Ps F__law_cell 2) :=
  fn_val T.fn__law_cell sc__law_cell (fun cdv A1 outer s H E B hB hr tk => by
    exact (ps_cons (ps_if (pt_cmp op_ltA ob_lt (PVE.rd (pv_var 1)) (PVE.rd (pv_b1 call_lenA cv_len T.n_len bt_len (PVE.rd (pv_var 0)))) (by rfl)) (ps_one (ps_ret (pv_ix (PVE.rd (pv_var 0)) (PVE.rd (pv_var 1))))) ps_nil) (ps_one (ps_ret pv_int))))
/-! ### _law_draw -/
abbrev N__law_draw : List Str := ["script", "k", "sizes", "cell", "drawn", "size", "mixed", "j"]
theorem sc__law_draw : FnScope N__law_draw ["script", "k", "sizes"] (defScope s__law_draw) := ⟨rfl, rfl, rfl, by decide +kernel, rfl, by decide +kernel, by decide +kernel⟩
theorem ok__law_draw (T : Txt P K mg base A Dt Er Co Tb Ps) : FnOk P w K mg base (L2.CX P w) 3 (A 10) (Dt 10) ["script", "k", "sizes"] (spV K mg Ps F__law_draw 3) :=
  fn_val T.fn__law_draw sc__law_draw (fun cdv A1 outer s H E B hB hr tk => by
    exact (ps_cons (ps_asg 3 (pv_call hB ((ok__law_cell T).mono (by decide)) hr T.m__law_cell T.k__law_cell T.b__law_cell tk (pa_cons (pv_var 0) (pa_cons (pv_var 1) pa_nil))) (sc__law_draw).nd) (ps_cons (ps_if (pt_cmp op_ltA ob_lt (PVE.rd (pv_var 3)) (PVE.rd pv_int) (by rfl)) (ps_one (ps_asg 3 (pv_neg (PVE.rd (pv_var 3))) (sc__law_draw).nd)) ps_nil) (ps_cons (ps_asgO 4 (pv_lst pa_nil) (sc__law_draw).nd) (ps_cons (ps_if (pt_cmp op_ge ob_ge (PVE.rd (pv_var 3)) (PVE.rd (pv_bin op_pow ov_pow (PVE.rd pv_int) (PVE.rd pv_int))) (by rfl)) (ps_cons (ps_asg 3 (pv_bin op_sub ov_sub (PVE.rd (pv_var 3)) (PVE.rd (pv_bin op_pow ov_pow (PVE.rd pv_int) (PVE.rd pv_int)))) (sc__law_draw).nd) (ps_cons (ps_for (passes_of rfl) rfl (pi_any (pv_var 2)) (pg_name 5 (sc__law_draw).nd) (ps_cons (ps_app 4 (pv_bin op_mod ov_mod (PVE.rd (pv_var 3)) (PVE.rd (pv_var 5)))) (ps_one (ps_asg 3 (pv_bin op_fdivW ov_div (PVE.rd (pv_var 3)) (PVE.rd (pv_var 5))) (sc__law_draw).nd)))) (ps_one (ps_frz 4 (ps_ret (pv_var 4)))))) ps_nil) (ps_cons (ps_asg 6 (pv_bin op_mod ov_mod (PVE.rd (pv_bin op_addA ov_add (PVE.rd (pv_bin op_addA ov_add (PVE.rd (pv_var 3)) (PVE.rd pv_int))) (PVE.rd (pv_bin op_mulW ov_mul (PVE.rd pv_int) (PVE.rd (pv_var 1)))))) (PVE.rd pv_int)) (sc__law_draw).nd) (ps_cons (ps_for (passes_of rfl) rfl (pi_rng1 T.n_range (pa_cons (pv_b1 call_lenA cv_len T.n_len bt_len (PVE.rd (pv_var 2))) pa_nil)) (pg_name 7 (sc__law_draw).nd) (ps_cons (ps_asg 6 (pv_bin op_mod ov_mod (PVE.rd (pv_bin op_addA ov_add (PVE.rd (pv_bin op_addA ov_add (PVE.rd (pv_bin op_mulW ov_mul (PVE.rd (pv_var 6)) (PVE.rd pv_int))) (PVE.rd pv_int))) (PVE.rd (pv_var 7)))) (PVE.rd pv_int)) (sc__law_draw).nd) (ps_cons (ps_asg 6 (pv_bin op_mod ov_mod (PVE.rd (pv_bin op_addA ov_add (PVE.rd (pv_bin op_mulW ov_mul (PVE.rd (pv_var 6)) (PVE.rd pv_int))) (PVE.rd pv_int))) (PVE.rd pv_int)) (sc__law_draw).nd) (ps_one (ps_app 4 (pv_bin op_mod ov_mod (PVE.rd (pv_bin op_fdivW ov_div (PVE.rd (pv_var 6)) (PVE.rd pv_int))) (PVE.rd (pv_ix (PVE.rd (pv_var 2)) (PVE.rd (pv_var 7)))))))))) (ps_one (ps_frz 4 (ps_ret (pv_var 4)))))))))))
/-! ### _law_subsets -/
abbrev N__law_subsets : List Str := ["things", "rows", "thing", "row"]
theorem sc__law_subsets : FnScope N__law_subsets ["things"] (defScope s__law_subsets) := ⟨rfl, rfl, rfl, by decide +kernel, rfl, by decide +kernel, by decide +kernel⟩
def g__law_subsets_0 : Rho → Out := (asgS 1 (vO (lstO (consA (vO (lstO nilA)) nilA))))
def g__law_subsets_1b : Rho → Out := (asgS 1 (bin (var 1) (vO (lcV (itR (var 1)) (tgN 3) tT (bin (var 3) (vO (lstO (consA (var 2) nilA))) dAdd) [3])) dAdd))
def g__law_subsets_1 : Rho → Out := (forS (itR (var 0)) (tgN 2) g__law_subsets_1b)
def g__law_subsets_2 : Rho → Out := (retS (var 1))
def G__law_subsets : Rho → Out := (seqS g__law_subsets_0 (seqS g__law_subsets_1 g__law_subsets_2))
def F__law_subsets : List D → Res D := bodyV 4 G__law_subsets
theorem ok__law_subsets (T : Txt P K mg base A Dt Er Co Tb Ps) : FnOk P w K mg base (L2.CX P w) 2 (A 11) (Dt 11) ["things"] (spV K mg Ps F__law_subsets 1) :=
  fn_val T.fn__law_subsets sc__law_subsets (fun cdv A1 outer s H E B hB hr tk => by
    exact (ps_cons (ps_asg 1 (PVO.v (pv_lst (pa_cons (PVO.v (pv_lst pa_nil)) pa_nil))) (sc__law_subsets).nd) (ps_cons (ps_for (passes_of rfl) rfl (pi_any (pv_var 0)) (pg_name 2 (sc__law_subsets).nd) (ps_one (ps_asg 1 (pv_bin op_addA ov_add (PVE.rd (pv_var 1)) (PVE.rd (PVO.v (po_lc [("row", 3)] rfl (sc__law_subsets).nd (pi_any (pv_var 1)) (blkOk_by (N := N__law_subsets) (sc := defScope s__law_subsets) (by decide +kernel)) (fun s H C cl fp => (pg_name 3 (sc__law_subsets).nd)) (fun s H C cl fp => pts_nil) (fun s H C cl fp => (pv_bin op_addA ov_add (PVE.rd (pv_var 3)) (PVE.rd (PVO.v (pv_lst (pa_cons (pv_var 2) pa_nil)))))))))) (sc__law_subsets).nd))) (ps_one (ps_ret (pv_var 1))))))
/-! ### _law_told -/
abbrev N__law_told : List Str := ["which", "arrivals", "most", "many", "e"]
theorem sc__law_told : FnScope N__law_told ["which", "arrivals", "most", "many"] (defScope s__law_told) := ⟨rfl, rfl, rfl, by decide +kernel, rfl, by decide +kernel, by decide +kernel⟩
def g__law_told_0 : Rho → Out := (tryS ["TooMany", "PlanError"] (seqS (ifS (binB (var 0) (kI 0) dEq) (retS (callV F_least_convoy_wait (consA (var 1) (consA (var 2) (consA (var 3) nilA))))) nxS) (seqS (ifS (binB (var 0) (kI 1) dEq) (retS (callV F_convoy_plan (consA (var 1) (consA (var 2) (consA (var 3) nilA))))) nxS) (retS (callV F_fewest_convoys (consA (var 1) (consA (var 2) (consA (var 3) nilA))))))) ((["PlanError"], 4, (retS (tupV (consA (xfV "PlanError" "what" 4) (consA (xfV "PlanError" "place" 4) nilA))))) :: ((["TooMany"], 4, (retS (tupV (consA (xfV "TooMany" "what" 4) (consA (kS "many") nilA))))) :: [])))
def G__law_told : Rho → Out := g__law_told_0
def F__law_told : List D → Res D := bodyV 5 G__law_told
theorem ok__law_told (T : Txt P K mg base A Dt Er Co Tb Ps) : FnOk P w K mg base (L2.CX P w) 6 (A 12) (Dt 12) ["which", "arrivals", "most", "many"] (spV K mg Ps F__law_told 4) :=
  fn_val T.fn__law_told sc__law_told (fun cdv A1 outer s H E B hB hr tk => by
    exact (ps_one (ps_try (sc__law_told).nd tk (fun W pn xe tk hp => (ps_cons (ps_if (pt_cmp (op_eqD hr.units) ob_eq (PVE.rd (pv_var 0)) (PVE.rd pv_int) (by rfl)) (ps_one (ps_ret (pv_call hB ((ok_least_convoy_wait T).mono (by decide)) hr T.m_least_convoy_wait T.k_least_convoy_wait T.b_least_convoy_wait tk (pa_cons (pv_var 1) (pa_cons (pv_var 2) (pa_cons (pv_var 3) pa_nil)))))) ps_nil) (ps_cons (ps_if (pt_cmp (op_eqD hr.units) ob_eq (PVE.rd (pv_var 0)) (PVE.rd pv_int) (by rfl)) (ps_one (ps_ret (pv_call hB ((ok_convoy_plan T).mono (by decide)) hr T.m_convoy_plan T.k_convoy_plan T.b_convoy_plan tk (pa_cons (pv_var 1) (pa_cons (pv_var 2) (pa_cons (pv_var 3) pa_nil)))))) ps_nil) (ps_one (ps_ret (pv_call hB ((ok_fewest_convoys T).mono (by decide)) hr T.m_fewest_convoys T.k_fewest_convoys T.b_fewest_convoys tk (pa_cons (pv_var 1) (pa_cons (pv_var 2) (pa_cons (pv_var 3) pa_nil))))))))) (ph_cons 4 T.m_PlanError T.ex_PlanError (fun a oe cls d pn hz hf => (ps_one (ps_ret (pv_tup (pa_cons (pv_xf 4 T.xf_PlanError T.m_PlanError T.nf_PlanError_what hz hf) (pa_cons (pv_xf 4 T.xf_PlanError T.m_PlanError T.nf_PlanError_place hz hf) pa_nil)))))) (ph_cons 4 T.m_TooMany T.ex_TooMany (fun a oe cls d pn hz hf => (ps_one (ps_ret (pv_tup (pa_cons (pv_xf 4 T.xf_TooMany T.m_TooMany T.nf_TooMany_what hz hf) (pa_cons pv_str pa_nil)))))) ph_nil)))))
/-! ### _law_wait -/
abbrev N__law_wait : List Str := ["arrivals", "sizes", "total", "start", "size", "time"]
theorem sc__law_wait : FnScope N__law_wait ["arrivals", "sizes"] (defScope s__law_wait) := ⟨rfl, rfl, rfl, by decide +kernel, rfl, by decide +kernel, by decide +kernel⟩
def g__law_wait_0 : Rho → Out := (asgS 2 (kI 0))
def g__law_wait_1 : Rho → Out := (asgS 3 (kI 0))
def g__law_wait_2b : Rho → Out := (seqS (asgS 2 (bin (var 2) (un (vO (lcV (itR (slc (var 0) (asI (var 3)) (asI (bin (var 3) (var 4) dAdd)))) (tgN 5) tT (bin (bin (var 0) (bin (bin (var 3) (var 4) dAdd) (kI 1) dSub) dIx) (var 5) dSub) [5])) dSum) dAdd)) (asgS 3 (bin (var 3) (var 4) dAdd)))
def g__law_wait_2 : Rho → Out := (forS (itR (var 1)) (tgN 4) g__law_wait_2b)
def g__law_wait_3 : Rho → Out := (retS (var 2))
def G__law_wait : Rho → Out := (seqS g__law_wait_0 (seqS g__law_wait_1 (seqS g__law_wait_2 g__law_wait_3)))
def F__law_wait : List D → Res D := bodyV 6 G__law_wait
theorem ok__law_wait (T : Txt P K mg base A Dt Er Co Tb Ps) : FnOk P w K mg base (L2.CX P w) 2 (A 13) (Dt 13) ["arrivals", "sizes"] (spV K mg Ps F__law_wait 2) :=
  fn_val T.fn__law_wait sc__law_wait (fun cdv A1 outer s H E B hB hr tk => by
    exact (ps_cons (ps_asg 2 pv_int (sc__law_wait).nd) (ps_cons (ps_asg 3 pv_int (sc__law_wait).nd) (ps_cons (ps_for (passes_of rfl) rfl (pi_any (pv_var 1)) (pg_name 4 (sc__law_wait).nd) (ps_cons (ps_asg 2 (pv_bin op_addA ov_add (PVE.rd (pv_var 2)) (PVE.rd (pv_b1 (cr_sum rfl) cv_sum T.n_sum bt_sum (PVE.rd (PVO.v (po_lc [("time", 5)] rfl (sc__law_wait).nd (pi_any (pv_slice (PVE.rd (pv_var 0)) (pp_some (PVE.rd (pv_var 3))) (pp_some (PVE.rd (pv_bin op_addA ov_add (PVE.rd (pv_var 3)) (PVE.rd (pv_var 4))))))) (blkOk_by (N := N__law_wait) (sc := defScope s__law_wait) (by decide +kernel)) (fun s H C cl fp => (pg_name 5 (sc__law_wait).nd)) (fun s H C cl fp => pts_nil) (fun s H C cl fp => (pv_bin op_sub ov_sub (PVE.rd (pv_ix (PVE.rd (pv_var 0)) (PVE.rd (pv_bin op_sub ov_sub (PVE.rd (pv_bin op_addA ov_add (PVE.rd (pv_var 3)) (PVE.rd (pv_var 4)))) (PVE.rd pv_int))))) (PVE.rd (pv_var 5)))))))))) (sc__law_wait).nd) (ps_one (ps_asg 3 (pv_bin op_addA ov_add (PVE.rd (pv_var 3)) (PVE.rd (pv_var 4))) (sc__law_wait).nd)))) (ps_one (ps_ret (pv_var 2)))))))
/-! ### law -/
abbrev N_law : List Str := ["script", "digits", "arrivals", "time", "at", "most", "many", "plans", "cuts", "ends", "sizes", "plan", "fit", "kept", "best", "told", "short", "start", "fine", "size", "wrong"]
theorem sc_law : FnScope N_law ["script"] (defScope s_law) := ⟨rfl, rfl, rfl, by decide +kernel, rfl, by decide +kernel, by decide +kernel⟩
def g_law_0 : Rho → Out := (asgS 1 (callV F__law_draw (consA (var 0) (consA (kI 0) (consA (vO (lstO (consA (kI 8) (consA (kI 4) (consA (kI 5) (consA (kI 30) (consA (kI 8) (consA (kI 5) (consA (kI 3) nilA))))))))) nilA)))))
def g_law_1 : Rho → Out := (asgO 2 (lstO nilA))
def g_law_2 : Rho → Out := (asgS 3 (kI 0))
def g_law_3b : Rho → Out := (seqS (asgS 3 (bin (var 3) (bin (vO (lstO (consA (kI 0) (consA (kI 1) (consA (kI 3) (consA (kI 9) (consA (kI 1500) (consA (kI 0) nilA)))))))) (bin (callV F__law_draw (consA (var 0) (consA (bin (kI 1) (var 4) dAdd) (consA (vO (lstO (consA (kI 6) nilA))) nilA)))) (kI 0) dIx) dIx) dAdd)) (appS 2 (bin (var 3) (kI 10000) dMin2)))
def g_law_3 : Rho → Out := (forS (rng1 (consA (bin (var 1) (kI 0) dIx) nilA)) (tgN 4) g_law_3b)
def g_law_4 : Rho → Out := (asgS 5 (bin (bin (var 1) (kI 1) dIx) (kI 1) dAdd))
def g_law_5 : Rho → Out := (asgS 6 (bin (var 1) (kI 2) dIx))
def g_law_6 : Rho → Out := (asgO 7 (lstO nilA))
def g_law_7b : Rho → Out := (seqS (asgS 9 (bin (bin (vO (lstO (consA (kI 0) nilA))) (var 8) dAdd) (vO (lstO (consA (un (varR 2) dLen) nilA))) dAdd)) (seqS (asgS 10 (ifV (binB (un (varR 2) dLen) (kI 0) dGt) (vO (lcV (rng1 (consA (bin (un (var 9) dLen) (kI 1) dSub) nilA)) (tgN 4) tT (bin (bin (var 9) (bin (var 4) (kI 1) dAdd) dIx) (bin (var 9) (var 4) dIx) dSub) [4])) (vO (lstO nilA)))) (seqS (ifS (binB (un (bin (var 10) (vO (lstO (consA (kI 0) nilA))) dAdd) dMaxA) (var 5) dLe) (frzS 2 (appS 7 (tupV (consA (callV F__law_wait (consA (var 2) (consA (var 10) nilA))) (consA (un (var 10) dLen) (consA (var 10) nilA)))))) nxS) (frzS 2 (ifS (notT (isB (callV (F__law_strictly 8) (consA (callV F__law_wait (consA (var 2) (consA (var 10) nilA))) (consA (callV F_plan_wait (consA (var 2) (consA (var 10) nilA))) nilA))))) (retS (kB false)) nxS)))))
def g_law_7 : Rho → Out := (frzS 2 (forS (itR (callV F__law_subsets (consA (vO (lrg2 (kI 1) (un (varR 2) dLen))) nilA))) (tgN 8) g_law_7b))
def g_law_8 : Rho → Out := (frzS 7 (asgS 12 (vO (lcV (itR (var 7)) (tgN 11) (binB (bin (var 11) (kI 1) dIx) (var 6) dLe) (var 11) [11]))))
def g_law_9 : Rho → Out := (asgS 13 (vO (unO (varR 2) dList)))
def g_law_10 : Rho → Out := (ifS (binB (un (var 12) dLen) (kI 0) dEq) (frzS 2 (ifS (orT (binB (callV F_least_convoy_wait (consA (var 2) (consA (var 5) (consA (var 6) nilA)))) kN dNotN) (binB (callV F_convoy_plan (consA (var 2) (consA (var 5) (consA (var 6) nilA)))) kN dNotN)) (retS (kB false)) nxS)) (seqS (asgS 14 (un (vO (lcV (itR (var 12)) (tgN 11) tT (slc (var 11) noO (asI (kI 2))) [11])) dMinA)) (seqS (frzS 2 (asgS 15 (callV F_convoy_plan (consA (var 2) (consA (var 5) (consA (var 6) nilA)))))) (frzS 2 (ifS (orT (notT (isB (callV (F__law_strictly 8) (consA (bin (var 14) (kI 0) dIx) (consA (callV F_least_convoy_wait (consA (var 2) (consA (var 5) (consA (var 6) nilA)))) nilA))))) (orT (notT (isB (isiV "list" (var 15)))) (binB (tupV (consA (bin (var 14) (kI 0) dIx) (consA (bin (var 14) (kI 1) dIx) (consA (var 15) nilA)))) (var 12) dNotIn))) (retS (kB false)) nxS)))))
def g_law_11 : Rho → Out := (frzS 2 (asgS 10 (callV F_fewest_convoys (consA (var 2) (consA (var 5) (consA (bin (var 1) (kI 3) dIx) nilA))))))
def g_law_12 : Rho → Out := (asgO 16 (lstO nilA))
def g_law_13b_2b : Rho → Out := (seqS (ifS (binB (bin (bin (varR 2) (bin (bin (var 17) (var 19) dAdd) (kI 1) dSub) dIx) (bin (varR 2) (var 17) dIx) dSub) (bin (var 1) (kI 3) dIx) dGt) (asgS 18 (kB false)) nxS) (asgS 17 (bin (var 17) (var 19) dAdd)))
def g_law_13b : Rho → Out := (seqS (asgS 17 (kI 0)) (seqS (asgS 18 (kB true)) (seqS (forS (itR (bin (var 11) (kI 2) dIx)) (tgN 19) g_law_13b_2b) (ifS (isB (var 18)) (appS 16 (slc (var 11) (asI (kI 1)) noO)) nxS))))
def g_law_13 : Rho → Out := (frzS 7 (forS (itR (var 7)) (tgN 11) g_law_13b))
def g_law_14 : Rho → Out := (ifS (orT (notT (isB (isiV "list" (var 10)))) (orT (binB (tupV (consA (un (var 10) dLen) (consA (var 10) nilA))) (varR 16) dNotIn) (binB (un (var 10) dLen) (bin (un (varR 16) dMinA) (kI 0) dIx) dNe))) (retS (kB false)) nxS)
def g_law_15 : Rho → Out := (frzS 2 (ifS (orT (binB (callV F_plan_wait (consA (var 2) (consA (bin (vO (lstO (consA (kI 1) nilA))) (vO (repO (lstO (consA (kI 1) nilA)) (un (varR 2) dLen))) dAdd) nilA))) kN dNotN) (orT (binB (callV F_plan_wait (consA (var 2) (consA (bin (vO (lstO (consA (kI 0) nilA))) (vO (repO (lstO (consA (kI 1) nilA)) (un (varR 2) dLen))) dAdd) nilA))) kN dNotN) (binB (var 13) (varR 2) dNe))) (retS (kB false)) nxS))
def g_law_16 : Rho → Out := (asgS 4 (bin (bin (var 1) (kI 4) dIx) (bin (un (varR 2) dLen) (kI 1) dAdd) dMod))
def g_law_17 : Rho → Out := (asgS 20 (bin (vO (lstO (consA (tupV (consA (un (kI 1) dNeg) (consA (kS "time") nilA))) (consA (tupV (consA (kI 10001) (consA (kS "time") nilA))) (consA (tupV (consA (kB true) (consA (kS "time") nilA))) (consA (tupV (consA kN (consA (kS "time") nilA))) (consA (tupV (consA (un (kI 5) dNeg) (consA (kS "time") nilA))) nilA))))))) (bin (var 1) (kI 5) dIx) dIx))
def g_law_18 : Rho → Out := (ifS (binB (callV F__law_told (consA (bin (var 1) (kI 6) dIx) (consA (bin (bin (slc (varR 2) noO (asI (var 4))) (vO (lstO (consA (bin (var 20) (kI 0) dIx) nilA))) dAdd) (slc (varR 2) (asI (var 4)) noO) dAdd) (consA (var 5) (consA (var 6) nilA))))) (tupV (consA (bin (var 20) (kI 1) dIx) (consA (var 4) nilA))) dNe) (retS (kB false)) nxS)
def g_law_19 : Rho → Out := (ifS (orT (binB (callV F__law_told (consA (bin (var 1) (kI 6) dIx) (consA (vO (lstO (consA (kI 5) (consA (kI 4) nilA)))) (consA (kI 0) (consA (var 6) nilA))))) (tupV (consA (kS "order") (consA (kI 1) nilA))) dNe) (orT (binB (callV F__law_told (consA (bin (var 1) (kI 6) dIx) (consA (vO (lstO nilA)) (consA (kI 0) (consA (var 6) nilA))))) (tupV (consA (kS "boats in a convoy") (consA (kI 0) nilA))) dNe) (binB (callV F__law_told (consA (bin (var 1) (kI 6) dIx) (consA (vO (repO (lstO (consA (un (kI 1) dNeg) nilA)) (kI 61))) (consA (kI 0) (consA (var 6) nilA))))) (tupV (consA (kS "boats") (consA (kS "many") nilA))) dNe))) (retS (kB false)) nxS)
def g_law_20 : Rho → Out := (retS (vB (binB (vO (lstO (consA (callV F__law_told (consA (kI 0) (consA (vO (lstO nilA)) (consA (kI 1) (consA (kI 61) nilA))))) (consA (callV F__law_told (consA (kI 1) (consA (vO (lstO nilA)) (consA (kI 1) (consA (un (kI 1) dNeg) nilA))))) (consA (callV F__law_told (consA (kI 2) (consA (vO (lstO nilA)) (consA (kI 1) (consA (un (kI 1) dNeg) nilA))))) nilA))))) (vO (lstO (consA (tupV (consA (kS "number of convoys") (consA (kI 0) nilA))) (consA (tupV (consA (kS "number of convoys") (consA (kI 0) nilA))) (consA (tupV (consA (kS "longest wait") (consA (kI 0) nilA))) nilA))))) dEq)))
def G_law : Rho → Out := (seqS g_law_0 (seqS g_law_1 (seqS g_law_2 (seqS g_law_3 (seqS g_law_4 (seqS g_law_5 (seqS g_law_6 (seqS g_law_7 (seqS g_law_8 (seqS g_law_9 (seqS g_law_10 (seqS g_law_11 (seqS g_law_12 (seqS g_law_13 (seqS g_law_14 (seqS g_law_15 (seqS g_law_16 (seqS g_law_17 (seqS g_law_18 (seqS g_law_19 g_law_20))))))))))))))))))))
def F_law : List D → Res D := bodyV 21 G_law
theorem ok_law (T : Txt P K mg base A Dt Er Co Tb Ps) : FnOk P w K mg base (L2.CX P w) 11 (A 14) (Dt 14) ["script"] (spV K mg Ps F_law 1) :=
  fn_val T.fn_law sc_law (fun cdv A1 outer s H E B hB hr tk => by
    exact (ps_cons (ps_asg 1 (pv_call hB ((ok__law_draw T).mono (by decide)) hr T.m__law_draw T.k__law_draw T.b__law_draw tk (pa_cons (pv_var 0) (pa_cons pv_int (pa_cons (PVO.v (pv_lst (pa_cons pv_int (pa_cons pv_int (pa_cons pv_int (pa_cons pv_int (pa_cons pv_int (pa_cons pv_int (pa_cons pv_int pa_nil))))))))) pa_nil)))) (sc_law).nd) (ps_cons (ps_asgO 2 (pv_lst pa_nil) (sc_law).nd) (ps_cons (ps_asg 3 pv_int (sc_law).nd) (ps_cons (ps_for (passes_of rfl) rfl (pi_rng1 T.n_range (pa_cons (pv_ix (PVE.rd (pv_var 1)) (PVE.rd pv_int)) pa_nil)) (pg_name 4 (sc_law).nd) (ps_cons (ps_asg 3 (pv_bin op_addA ov_add (PVE.rd (pv_var 3)) (PVE.rd (pv_ix (PVE.rd (PVO.v (pv_lst (pa_cons pv_int (pa_cons pv_int (pa_cons pv_int (pa_cons pv_int (pa_cons pv_int (pa_cons pv_int pa_nil))))))))) (PVE.rd (pv_ix (PVE.rd (pv_call hB ((ok__law_draw T).mono (by decide)) hr T.m__law_draw T.k__law_draw T.b__law_draw tk (pa_cons (pv_var 0) (pa_cons (pv_bin op_addA ov_add (PVE.rd pv_int) (PVE.rd (pv_var 4))) (pa_cons (PVO.v (pv_lst (pa_cons pv_int pa_nil))) pa_nil))))) (PVE.rd pv_int)))))) (sc_law).nd) (ps_one (ps_app 2 (pv_b2 (call_min2 rfl) cv_min2 T.n_min bt_min (PVE.rd (pv_var 3)) (PVE.rd pv_int)))))) (ps_cons (ps_asg 5 (pv_bin op_addA ov_add (PVE.rd (pv_ix (PVE.rd (pv_var 1)) (PVE.rd pv_int))) (PVE.rd pv_int)) (sc_law).nd) (ps_cons (ps_asg 6 (pv_ix (PVE.rd (pv_var 1)) (PVE.rd pv_int)) (sc_law).nd) (ps_cons (ps_asgO 7 (pv_lst pa_nil) (sc_law).nd) (ps_cons (ps_frz 2 (ps_for (passes_of rfl) rfl (pi_any (pv_call hB ((ok__law_subsets T).mono (by decide)) hr T.m__law_subsets T.k__law_subsets T.b__law_subsets tk (pa_cons (PVO.v (po_lrg2 rfl T.n_list T.n_range (PVE.rd pv_int) (PVE.rd (pv_b1 call_lenA cv_len T.n_len bt_len (pr_var 2))))) pa_nil))) (pg_name 8 (sc_law).nd) (ps_cons (ps_asg 9 (pv_bin op_addA ov_add (PVE.rd (pv_bin op_addA ov_add (PVE.rd (PVO.v (pv_lst (pa_cons pv_int pa_nil)))) (PVE.rd (pv_var 8)))) (PVE.rd (PVO.v (pv_lst (pa_cons (pv_b1 call_lenA cv_len T.n_len bt_len (pr_var 2)) pa_nil))))) (sc_law).nd) (ps_cons (ps_asg 10 (pv_if (pt_cmp op_gt ob_gt (PVE.rd (pv_b1 call_lenA cv_len T.n_len bt_len (pr_var 2))) (PVE.rd pv_int) (by rfl)) (PVO.v (po_lc [("at", 4)] rfl (sc_law).nd (pi_rng1 T.n_range (pa_cons (pv_bin op_sub ov_sub (PVE.rd (pv_b1 call_lenA cv_len T.n_len bt_len (PVE.rd (pv_var 9)))) (PVE.rd pv_int)) pa_nil)) (blkOk_by (N := N_law) (sc := defScope s_law) (by decide +kernel)) (fun s H C cl fp => (pg_name 4 (sc_law).nd)) (fun s H C cl fp => pts_nil) (fun s H C cl fp => (pv_bin op_sub ov_sub (PVE.rd (pv_ix (PVE.rd (pv_var 9)) (PVE.rd (pv_bin op_addA ov_add (PVE.rd (pv_var 4)) (PVE.rd pv_int))))) (PVE.rd (pv_ix (PVE.rd (pv_var 9)) (PVE.rd (pv_var 4)))))))) (PVO.v (pv_lst pa_nil))) (sc_law).nd) (ps_cons (ps_if (pt_cmp op_le ob_le (PVE.rd (pv_b1 (cr_maxA hr) cv_mm T.n_max bt_max (PVE.rd (pv_bin op_addA ov_add (PVE.rd (pv_var 10)) (PVE.rd (PVO.v (pv_lst (pa_cons pv_int pa_nil)))))))) (PVE.rd (pv_var 5)) (by rfl)) (ps_one (ps_frz 2 (ps_app 7 (pv_tup (pa_cons (pv_call hB ((ok__law_wait T).mono (by decide)) hr T.m__law_wait T.k__law_wait T.b__law_wait tk (pa_cons (pv_var 2) (pa_cons (pv_var 10) pa_nil))) (pa_cons (pv_b1 call_lenA cv_len T.n_len bt_len (PVE.rd (pv_var 10))) (pa_cons (pv_var 10) pa_nil))))))) ps_nil) (ps_one (ps_frz 2 (ps_if (pt_not (pt_val (pv_call hB ((ok__law_strictly T 8).mono (by decide)) hr T.m__law_strictly T.k__law_strictly T.b__law_strictly tk (pa_cons (pv_call hB ((ok__law_wait T).mono (by decide)) hr T.m__law_wait T.k__law_wait T.b__law_wait tk (pa_cons (pv_var 2) (pa_cons (pv_var 10) pa_nil))) (pa_cons (pv_call hB ((ok_plan_wait T).mono (by decide)) hr T.m_plan_wait T.k_plan_wait T.b_plan_wait tk (pa_cons (pv_var 2) (pa_cons (pv_var 10) pa_nil))) pa_nil))))) (ps_one (ps_ret pv_bl)) ps_nil)))))))) (ps_cons (ps_frz 7 (ps_lcSet 12 [("plan", 11)] rfl (sc_law).nd (pi_any (pv_var 7)) (blkOk_by (N := N_law) (sc := defScope s_law) (by decide +kernel)) (fun s H C cl fp => (pg_name 11 (sc_law).nd)) (fun s H C cl fp => (pts_one (pt_cmp op_le ob_le (PVE.rd (pv_ix (PVE.rd (pv_var 11)) (PVE.rd pv_int))) (PVE.rd (pv_var 6)) (by rfl)))) (fun s H C cl fp => (pv_var 11)))) (ps_cons (ps_asg 13 (PVO.v (po_t1 call_list_of co_list T.n_list bt_list (pr_var 2))) (sc_law).nd) (ps_cons (ps_if (pt_cmp (op_eqD hr.units) ob_eq (PVE.rd (pv_b1 call_lenA cv_len T.n_len bt_len (PVE.rd (pv_var 12)))) (PVE.rd pv_int) (by rfl)) (ps_one (ps_frz 2 (ps_if (PVW.t (pw_or (pt_cmp op_notN ob_notN (PVE.rd (pv_call hB ((ok_least_convoy_wait T).mono (by decide)) hr T.m_least_convoy_wait T.k_least_convoy_wait T.b_least_convoy_wait tk (pa_cons (pv_var 2) (pa_cons (pv_var 5) (pa_cons (pv_var 6) pa_nil))))) (PVE.rd pv_non) (by rfl)) (pw_or1 (pt_cmp op_notN ob_notN (PVE.rd (pv_call hB ((ok_convoy_plan T).mono (by decide)) hr T.m_convoy_plan T.k_convoy_plan T.b_convoy_plan tk (pa_cons (pv_var 2) (pa_cons (pv_var 5) (pa_cons (pv_var 6) pa_nil))))) (PVE.rd pv_non) (by rfl))))) (ps_one (ps_ret pv_bl)) ps_nil))) (ps_cons (ps_asg 14 (pv_b1 (cr_minA hr) cv_mm T.n_min bt_min (PVE.rd (PVO.v (po_lc [("plan", 11)] rfl (sc_law).nd (pi_any (pv_var 12)) (blkOk_by (N := N_law) (sc := defScope s_law) (by decide +kernel)) (fun s H C cl fp => (pg_name 11 (sc_law).nd)) (fun s H C cl fp => pts_nil) (fun s H C cl fp => (pv_slice (PVE.rd (pv_var 11)) pp_no (pp_some (PVE.rd pv_int)))))))) (sc_law).nd) (ps_cons (ps_frz 2 (ps_asg 15 (pv_call hB ((ok_convoy_plan T).mono (by decide)) hr T.m_convoy_plan T.k_convoy_plan T.b_convoy_plan tk (pa_cons (pv_var 2) (pa_cons (pv_var 5) (pa_cons (pv_var 6) pa_nil)))) (sc_law).nd)) (ps_one (ps_frz 2 (ps_if (PVW.t (pw_or (pt_not (pt_val (pv_call hB ((ok__law_strictly T 8).mono (by decide)) hr T.m__law_strictly T.k__law_strictly T.b__law_strictly tk (pa_cons (pv_ix (PVE.rd (pv_var 14)) (PVE.rd pv_int)) (pa_cons (pv_call hB ((ok_least_convoy_wait T).mono (by decide)) hr T.m_least_convoy_wait T.k_least_convoy_wait T.b_least_convoy_wait tk (pa_cons (pv_var 2) (pa_cons (pv_var 5) (pa_cons (pv_var 6) pa_nil)))) pa_nil))))) (pw_or (pt_not (pt_val (pv_isi kit_list T.n_isinstance T.n_list bt_list (PVE.rd (pv_var 15))))) (pw_or1 (pt_cmp (op_notInA (units65 hr)) ob_notIn (PVE.rd (pv_tup (pa_cons (pv_ix (PVE.rd (pv_var 14)) (PVE.rd pv_int)) (pa_cons (pv_ix (PVE.rd (pv_var 14)) (PVE.rd pv_int)) (pa_cons (pv_var 15) pa_nil))))) (PVE.rd (pv_var 12)) (by rfl)))))) (ps_one (ps_ret pv_bl)) ps_nil)))))) (ps_cons (ps_frz 2 (ps_asg 10 (pv_call hB ((ok_fewest_convoys T).mono (by decide)) hr T.m_fewest_convoys T.k_fewest_convoys T.b_fewest_convoys tk (pa_cons (pv_var 2) (pa_cons (pv_var 5) (pa_cons (pv_ix (PVE.rd (pv_var 1)) (PVE.rd pv_int)) pa_nil)))) (sc_law).nd)) (ps_cons (ps_asgO 16 (pv_lst pa_nil) (sc_law).nd) (ps_cons (ps_frz 7 (ps_for (passes_of rfl) rfl (pi_any (pv_var 7)) (pg_name 11 (sc_law).nd) (ps_cons (ps_asg 17 pv_int (sc_law).nd) (ps_cons (ps_asg 18 pv_bl (sc_law).nd) (ps_cons (ps_for (passes_of rfl) rfl (pi_any (pv_ix (PVE.rd (pv_var 11)) (PVE.rd pv_int))) (pg_name 19 (sc_law).nd) (ps_cons (ps_if (pt_cmp op_gt ob_gt (PVE.rd (pv_bin op_sub ov_sub (PVE.rd (pv_ix (pr_var 2) (PVE.rd (pv_bin op_sub ov_sub (PVE.rd (pv_bin op_addA ov_add (PVE.rd (pv_var 17)) (PVE.rd (pv_var 19)))) (PVE.rd pv_int))))) (PVE.rd (pv_ix (pr_var 2) (PVE.rd (pv_var 17)))))) (PVE.rd (pv_ix (PVE.rd (pv_var 1)) (PVE.rd pv_int))) (by rfl)) (ps_one (ps_asg 18 pv_bl (sc_law).nd)) ps_nil) (ps_one (ps_asg 17 (pv_bin op_addA ov_add (PVE.rd (pv_var 17)) (PVE.rd (pv_var 19))) (sc_law).nd)))) (ps_one (ps_if (pt_val (pv_var 18)) (ps_one (ps_app 16 (pv_slice (PVE.rd (pv_var 11)) (pp_some (PVE.rd pv_int)) pp_no))) ps_nil))))))) (ps_cons (ps_if (PVW.t (pw_or (pt_not (pt_val (pv_isi kit_list T.n_isinstance T.n_list bt_list (PVE.rd (pv_var 10))))) (pw_or (pt_cmp (op_notInA (units65 hr)) ob_notIn (PVE.rd (pv_tup (pa_cons (pv_b1 call_lenA cv_len T.n_len bt_len (PVE.rd (pv_var 10))) (pa_cons (pv_var 10) pa_nil)))) (pr_var 16) (by rfl)) (pw_or1 (pt_cmp (op_neD hr.units) ob_ne (PVE.rd (pv_b1 call_lenA cv_len T.n_len bt_len (PVE.rd (pv_var 10)))) (PVE.rd (pv_ix (PVE.rd (pv_b1 (cr_minA hr) cv_mm T.n_min bt_min (pr_var 16))) (PVE.rd pv_int))) (by rfl)))))) (ps_one (ps_ret pv_bl)) ps_nil) (ps_cons (ps_frz 2 (ps_if (PVW.t (pw_or (pt_cmp op_notN ob_notN (PVE.rd (pv_call hB ((ok_plan_wait T).mono (by decide)) hr T.m_plan_wait T.k_plan_wait T.b_plan_wait tk (pa_cons (pv_var 2) (pa_cons (pv_bin op_addA ov_add (PVE.rd (PVO.v (pv_lst (pa_cons pv_int pa_nil)))) (PVE.rd (PVO.v (po_rep (pv_lst (pa_cons pv_int pa_nil)) (PVE.rd (pv_b1 call_lenA cv_len T.n_len bt_len (pr_var 2))))))) pa_nil)))) (PVE.rd pv_non) (by rfl)) (pw_or (pt_cmp op_notN ob_notN (PVE.rd (pv_call hB ((ok_plan_wait T).mono (by decide)) hr T.m_plan_wait T.k_plan_wait T.b_plan_wait tk (pa_cons (pv_var 2) (pa_cons (pv_bin op_addA ov_add (PVE.rd (PVO.v (pv_lst (pa_cons pv_int pa_nil)))) (PVE.rd (PVO.v (po_rep (pv_lst (pa_cons pv_int pa_nil)) (PVE.rd (pv_b1 call_lenA cv_len T.n_len bt_len (pr_var 2))))))) pa_nil)))) (PVE.rd pv_non) (by rfl)) (pw_or1 (pt_cmp (op_neD hr.units) ob_ne (PVE.rd (pv_var 13)) (pr_var 2) (by rfl)))))) (ps_one (ps_ret pv_bl)) ps_nil)) (ps_cons (ps_asg 4 (pv_bin op_mod ov_mod (PVE.rd (pv_ix (PVE.rd (pv_var 1)) (PVE.rd pv_int))) (PVE.rd (pv_bin op_addA ov_add (PVE.rd (pv_b1 call_lenA cv_len T.n_len bt_len (pr_var 2))) (PVE.rd pv_int)))) (sc_law).nd) (ps_cons (ps_asg 20 (pv_ix (PVE.rd (PVO.v (pv_lst (pa_cons (pv_tup (pa_cons (pv_neg (PVE.rd pv_int)) (pa_cons pv_str pa_nil))) (pa_cons (pv_tup (pa_cons pv_int (pa_cons pv_str pa_nil))) (pa_cons (pv_tup (pa_cons pv_bl (pa_cons pv_str pa_nil))) (pa_cons (pv_tup (pa_cons pv_non (pa_cons pv_str pa_nil))) (pa_cons (pv_tup (pa_cons (pv_neg (PVE.rd pv_int)) (pa_cons pv_str pa_nil))) pa_nil)))))))) (PVE.rd (pv_ix (PVE.rd (pv_var 1)) (PVE.rd pv_int)))) (sc_law).nd) (ps_cons (ps_if (pt_cmp (op_neD hr.units) ob_ne (PVE.rd (pv_call hB ((ok__law_told T).mono (by decide)) hr T.m__law_told T.k__law_told T.b__law_told tk (pa_cons (pv_ix (PVE.rd (pv_var 1)) (PVE.rd pv_int)) (pa_cons (pv_bin op_addA ov_add (PVE.rd (pv_bin op_addA ov_add (PVE.rd (pv_slice (pr_var 2) pp_no (pp_some (PVE.rd (pv_var 4))))) (PVE.rd (PVO.v (pv_lst (pa_cons (pv_ix (PVE.rd (pv_var 20)) (PVE.rd pv_int)) pa_nil)))))) (PVE.rd (pv_slice (pr_var 2) (pp_some (PVE.rd (pv_var 4))) pp_no))) (pa_cons (pv_var 5) (pa_cons (pv_var 6) pa_nil)))))) (PVE.rd (pv_tup (pa_cons (pv_ix (PVE.rd (pv_var 20)) (PVE.rd pv_int)) (pa_cons (pv_var 4) pa_nil)))) (by rfl)) (ps_one (ps_ret pv_bl)) ps_nil) (ps_cons (ps_if (PVW.t (pw_or (pt_cmp (op_neD hr.units) ob_ne (PVE.rd (pv_call hB ((ok__law_told T).mono (by decide)) hr T.m__law_told T.k__law_told T.b__law_told tk (pa_cons (pv_ix (PVE.rd (pv_var 1)) (PVE.rd pv_int)) (pa_cons (PVO.v (pv_lst (pa_cons pv_int (pa_cons pv_int pa_nil)))) (pa_cons pv_int (pa_cons (pv_var 6) pa_nil)))))) (PVE.rd (pv_tup (pa_cons pv_str (pa_cons pv_int pa_nil)))) (by rfl)) (pw_or (pt_cmp (op_neD hr.units) ob_ne (PVE.rd (pv_call hB ((ok__law_told T).mono (by decide)) hr T.m__law_told T.k__law_told T.b__law_told tk (pa_cons (pv_ix (PVE.rd (pv_var 1)) (PVE.rd pv_int)) (pa_cons (PVO.v (pv_lst pa_nil)) (pa_cons pv_int (pa_cons (pv_var 6) pa_nil)))))) (PVE.rd (pv_tup (pa_cons pv_str (pa_cons pv_int pa_nil)))) (by rfl)) (pw_or1 (pt_cmp (op_neD hr.units) ob_ne (PVE.rd (pv_call hB ((ok__law_told T).mono (by decide)) hr T.m__law_told T.k__law_told T.b__law_told tk (pa_cons (pv_ix (PVE.rd (pv_var 1)) (PVE.rd pv_int)) (pa_cons (PVO.v (po_rep (pv_lst (pa_cons (pv_neg (PVE.rd pv_int)) pa_nil)) (PVE.rd pv_int))) (pa_cons pv_int (pa_cons (pv_var 6) pa_nil)))))) (PVE.rd (pv_tup (pa_cons pv_str (pa_cons pv_str pa_nil)))) (by rfl)))))) (ps_one (ps_ret pv_bl)) ps_nil) (ps_one (ps_ret (pv_cmp (op_eqD hr.units) ob_eq (PVE.rd (PVO.v (pv_lst (pa_cons (pv_call hB ((ok__law_told T).mono (by decide)) hr T.m__law_told T.k__law_told T.b__law_told tk (pa_cons pv_int (pa_cons (PVO.v (pv_lst pa_nil)) (pa_cons pv_int (pa_cons pv_int pa_nil))))) (pa_cons (pv_call hB ((ok__law_told T).mono (by decide)) hr T.m__law_told T.k__law_told T.b__law_told tk (pa_cons pv_int (pa_cons (PVO.v (pv_lst pa_nil)) (pa_cons pv_int (pa_cons (pv_neg (PVE.rd pv_int)) pa_nil))))) (pa_cons (pv_call hB ((ok__law_told T).mono (by decide)) hr T.m__law_told T.k__law_told T.b__law_told tk (pa_cons pv_int (pa_cons (PVO.v (pv_lst pa_nil)) (pa_cons pv_int (pa_cons (pv_neg (PVE.rd pv_int)) pa_nil))))) pa_nil)))))) (PVE.rd (PVO.v (pv_lst (pa_cons (pv_tup (pa_cons pv_str (pa_cons pv_int pa_nil))) (pa_cons (pv_tup (pa_cons pv_str (pa_cons pv_int pa_nil))) (pa_cons (pv_tup (pa_cons pv_str (pa_cons pv_int pa_nil))) pa_nil)))))) (by rfl)))))))))))))))))))))))))
end
end K56

set_option Elab.async false
set_option linter.all false
set_option maxRecDepth 100000
set_option maxHeartbeats 4000000
namespace K56
open PySem PySem.Spec PyProof.Rows L2 VL VT
open Enc
noncomputable section
/-! ### _law_subsets -/
def m_law_subsets_1b  (thing_ : Int) (rows_ : (List (List Int))) : Res ((List (List Int))) :=
  (((lcM rows_ (fun (row_ : (List Int)) => (.ok true)) (fun (row_ : (List Int)) => (cat row_ [thing_]))).bind fun b => (cat rows_ b)).bind fun rows_ => (.ok rows_))
theorem b_m_law_subsets_1b (things_ : (List Int)) (thing_ : Int) (rows_ : (List (List Int)))  : Sim 4 (RelN (fun (s : (List (List Int))) (ρ : Rho) => ∃ j_thing : Option LV, ρ = [fz things_, fz s, j_thing, none])) (g__law_subsets_1b [fz things_, fz rows_, fz thing_, none]) (m_law_subsets_1b thing_ rows_) := (show Sim 4 (RelN (fun (s : (List (List Int))) (ρ : Rho) => ∃ j_thing : Option LV, ρ = [fz things_, fz s, j_thing, none])) (g__law_subsets_1b [fz things_, fz rows_, fz thing_, none]) ((((lcM rows_ (fun (row_ : (List Int)) => (.ok true)) (fun (row_ : (List Int)) => (cat row_ [thing_]))).bind fun b => (cat rows_ b)).bind fun rows_ => (.ok rows_))) from
  (s_last (s_asg (ρ' := fun (rows_ : (List (List Int))) => [fz things_, fz rows_, fz thing_, none]) rfl (r_addl_pe (r_var rfl) (r_vO (rl_lcP (ρ' := [fz things_, fz rows_, fz thing_, none]) (ρ1 := fun (row_ : (List Int)) => [fz things_, fz rows_, fz thing_, fz row_]) (i_list (r_var rfl)) rfl (fun _ => rfl) (fun row_ => t_T) (fun row_ => (r_addl_pp (r_var rfl) (r_vO (r_lst (k_consP (r_var rfl) (k_nil (lk (c := [thing_]) rfl rfl)))))))))) (fun _ => rfl) fun rows_ => (s_end (e_N ⟨_, rfl⟩)))))
def m_law_subsets (things_ : (List Int)) : Res (List (List Int)) :=
  ((Res.ok ([([] : List Int)] : (List (List Int)))).bind fun rows_ => ((Res.ok (things_ : (List Int))).bind fun l => (forM (fun (a : Int) (s : (List (List Int))) => m_law_subsets_1b a s) l rows_).bind fun s1 => (.ok s1)))
theorem r_m_law_subsets (things_ : (List Int)) : Ref (F__law_subsets [enc things_]) (m_law_subsets things_) := f_body (ρ := [fz things_, none, none, none]) rfl (show Sim 4 (RelF (α := (List (List Int)))) (G__law_subsets [fz things_, none, none, none]) (((Res.ok ([([] : List Int)] : (List (List Int)))).bind fun rows_ => ((Res.ok (things_ : (List Int))).bind fun l => (forM (fun (a : Int) (s : (List (List Int))) => m_law_subsets_1b a s) l rows_).bind fun s1 => (.ok s1)))) from
  (s_last (s_asc (s_asg (ρ' := fun (rows_ : (List (List Int))) => [fz things_, fz rows_, none, none]) rfl (r_vO (r_lst (k_consP (r_vO (r_lst (k_nil (lk (c := []) rfl rfl)))) (k_nil (lk (c := [([] : List Int)]) rfl rfl))))) (fun _ => rfl) fun rows_ => (s_asc (s_for (R := (fun (s : (List (List Int))) (ρ : Rho) => ∃ j_thing : Option LV, ρ = [fz things_, fz s, j_thing, none])) (by rintro s ρ ⟨_, rfl⟩; rfl) (i_list (r_var rfl)) ⟨_, rfl⟩ (by rintro a s ρ ⟨j_thing, rfl⟩; exact ⟨[fz things_, fz s, fz a, none], rfl, b_m_law_subsets_1b things_ a s⟩) (by rintro s1 ρ ⟨j_thing, rfl⟩; exact (s_retF rfl (r_var rfl)))))))))
/-! ### _law_wait -/
def m_law_wait_2b (arrivals_ : (List Int)) (size_ : Int) (total_ : Int) (start_ : Int) : Res ((Int × Int)) :=
  ((((lcM (cut arrivals_ (some start_) (some (start_ + size_))) (fun (time_ : Int) => (.ok true)) (fun (time_ : Int) => ((ix arrivals_ ((start_ + size_) - (1 : Int))).bind fun a => (.ok (a - time_))))).bind fun a => (.ok a.sum)).bind fun b => (.ok (total_ + b))).bind fun total_ => ((Res.ok ((start_ + size_) : Int)).bind fun start_ => (.ok (total_, start_))))
theorem b_m_law_wait_2b (arrivals_ : (List Int)) (sizes_ : (List Int)) (size_ : Int) (total_ : Int) (start_ : Int)  : Sim 6 (RelN (fun (s : (Int × Int)) (ρ : Rho) => ∃ j_size : Option LV, ρ = [fz arrivals_, fz sizes_, fz s.1, fz s.2, j_size, none])) (g__law_wait_2b [fz arrivals_, fz sizes_, fz total_, fz start_, fz size_, none]) (m_law_wait_2b arrivals_ size_ total_ start_) := (show Sim 6 (RelN (fun (s : (Int × Int)) (ρ : Rho) => ∃ j_size : Option LV, ρ = [fz arrivals_, fz sizes_, fz s.1, fz s.2, j_size, none])) (g__law_wait_2b [fz arrivals_, fz sizes_, fz total_, fz start_, fz size_, none]) (((((lcM (cut arrivals_ (some start_) (some (start_ + size_))) (fun (time_ : Int) => (.ok true)) (fun (time_ : Int) => ((ix arrivals_ ((start_ + size_) - (1 : Int))).bind fun a => (.ok (a - time_))))).bind fun a => (.ok a.sum)).bind fun b => (.ok (total_ + b))).bind fun total_ => ((Res.ok ((start_ + size_) : Int)).bind fun start_ => (.ok (total_, start_))))) from
  (s_last (s_asc (s_asg (ρ' := fun (total_ : Int) => [fz arrivals_, fz sizes_, fz total_, fz start_, fz size_, none]) rfl (r_add_pe (r_var rfl) (r_sum_e (r_vO (rl_lcP (ρ' := [fz arrivals_, fz sizes_, fz total_, fz start_, fz size_, none]) (ρ1 := fun (time_ : Int) => [fz arrivals_, fz sizes_, fz total_, fz start_, fz size_, fz time_]) (i_list (r_slc (r_var rfl) (q_some (r_var rfl)) (q_some (r_add_pp (r_var rfl) (r_var rfl))))) rfl (fun _ => rfl) (fun time_ => t_T) (fun time_ => (r_sub_ep (r_ix_pp (r_var rfl) (r_sub_pp (r_add_pp (r_var rfl) (r_var rfl)) (r_k (a := (1 : Int)) rfl))) (r_var rfl))))))) (fun _ => rfl) fun total_ => (s_asg (ρ' := fun (start_ : Int) => [fz arrivals_, fz sizes_, fz total_, fz start_, fz size_, none]) rfl (r_add_pp (r_var rfl) (r_var rfl)) (fun _ => rfl) fun start_ => (s_end (e_N ⟨_, rfl⟩)))))))
def m_law_wait (arrivals_ : (List Int)) (sizes_ : (List Int)) : Res Int :=
  ((Res.ok ((0 : Int) : Int)).bind fun total_ => ((Res.ok ((0 : Int) : Int)).bind fun start_ => ((Res.ok (sizes_ : (List Int))).bind fun l => (forM (fun (a : Int) (s : (Int × Int)) => m_law_wait_2b arrivals_ a s.1 s.2) l (total_, start_)).bind fun s1 => (.ok s1.1))))
theorem r_m_law_wait (arrivals_ : (List Int)) (sizes_ : (List Int)) : Ref (F__law_wait [enc arrivals_, enc sizes_]) (m_law_wait arrivals_ sizes_) := f_body (ρ := [fz arrivals_, fz sizes_, none, none, none, none]) rfl (show Sim 6 (RelF (α := Int)) (G__law_wait [fz arrivals_, fz sizes_, none, none, none, none]) (((Res.ok ((0 : Int) : Int)).bind fun total_ => ((Res.ok ((0 : Int) : Int)).bind fun start_ => ((Res.ok (sizes_ : (List Int))).bind fun l => (forM (fun (a : Int) (s : (Int × Int)) => m_law_wait_2b arrivals_ a s.1 s.2) l (total_, start_)).bind fun s1 => (.ok s1.1))))) from
  (s_last (s_asc (s_asg (ρ' := fun (total_ : Int) => [fz arrivals_, fz sizes_, fz total_, none, none, none]) rfl (r_k (a := (0 : Int)) rfl) (fun _ => rfl) fun total_ => (s_asc (s_asg (ρ' := fun (start_ : Int) => [fz arrivals_, fz sizes_, fz total_, fz start_, none, none]) rfl (r_k (a := (0 : Int)) rfl) (fun _ => rfl) fun start_ => (s_asc (s_for (R := (fun (s : (Int × Int)) (ρ : Rho) => ∃ j_size : Option LV, ρ = [fz arrivals_, fz sizes_, fz s.1, fz s.2, j_size, none])) (by rintro s ρ ⟨_, rfl⟩; rfl) (i_list (r_var rfl)) ⟨_, rfl⟩ (by rintro a s ρ ⟨j_size, rfl⟩; exact ⟨[fz arrivals_, fz sizes_, fz s.1, fz s.2, fz a, none], rfl, b_m_law_wait_2b arrivals_ sizes_ a s.1 s.2⟩) (by rintro s1 ρ ⟨j_size, rfl⟩; exact (s_retF rfl (r_var rfl)))))))))))
/-! ### _group_wait -/
def m_group_wait (arrivals_ : (List Int)) (start_ : Int) (end_ : Int) : Res Int :=
  (((Res.ok ((cut arrivals_ (some start_) (some end_)) : (List Int))).bind fun l => lcG (fun (time_ : Int) => (.ok true)) (fun (time_ : Int) => ((ixN' arrivals_ (end_ - (1 : Int))).bind fun a => (.ok (a - time_)))) l).bind sumM)
theorem r_m_group_wait (arrivals_ : (List Int)) (start_ : Int) (end_ : Int) : Ref (F__group_wait [enc arrivals_, enc start_, enc end_]) (m_group_wait arrivals_ start_ end_) := f_body (ρ := [fz arrivals_, fz start_, fz end_, none]) rfl (show Sim 4 (RelF (α := Int)) (G__group_wait [fz arrivals_, fz start_, fz end_, none]) ((((Res.ok ((cut arrivals_ (some start_) (some end_)) : (List Int))).bind fun l => lcG (fun (time_ : Int) => (.ok true)) (fun (time_ : Int) => ((ixN' arrivals_ (end_ - (1 : Int))).bind fun a => (.ok (a - time_)))) l).bind sumM)) from
  (s_last (s_retF rfl (g_sum (gx_list (ρ' := [fz arrivals_, none, fz end_, none]) (ρ1 := fun (time_ : Int) => [fz arrivals_, none, fz end_, fz time_]) (r_slc (r_var rfl) (q_some (r_var rfl)) (q_some (r_var rfl))) rfl (fun _ => rfl) (fun time_ => t_T) (fun time_ => (r_sub_ep (r_ixn_pp (r_var rfl) (r_sub_pp (r_var rfl) (r_k (a := (1 : Int)) rfl))) (r_var rfl))))))))
/-! ### plan_wait -/
def m_plan_wait_3b (arrivals_ : (List Int)) (size_ : Int) (total_ : Int) (start_ : Int) : Res ((Int × Int)) :=
  (((m_group_wait arrivals_ start_ (start_ + size_)).bind fun b => (.ok (total_ + b))).bind fun total_ => ((Res.ok ((start_ + size_) : Int)).bind fun start_ => (.ok (total_, start_))))
theorem b_m_plan_wait_3b (arrivals_ : (List Int)) (sizes_ : (List Int)) (size_ : Int) (total_ : Int) (start_ : Int)  : Sim 5 (RelN (fun (s : (Int × Int)) (ρ : Rho) => ∃ j_size : Option LV, ρ = [fz arrivals_, fz sizes_, fz s.1, fz s.2, j_size])) (g_plan_wait_3b [fz arrivals_, fz sizes_, fz total_, fz start_, fz size_]) (m_plan_wait_3b arrivals_ size_ total_ start_) := (show Sim 5 (RelN (fun (s : (Int × Int)) (ρ : Rho) => ∃ j_size : Option LV, ρ = [fz arrivals_, fz sizes_, fz s.1, fz s.2, j_size])) (g_plan_wait_3b [fz arrivals_, fz sizes_, fz total_, fz start_, fz size_]) ((((m_group_wait arrivals_ start_ (start_ + size_)).bind fun b => (.ok (total_ + b))).bind fun total_ => ((Res.ok ((start_ + size_) : Int)).bind fun start_ => (.ok (total_, start_))))) from
  (s_last (s_asc (s_aug (ρ' := fun (total_ : Int) => [fz arrivals_, fz sizes_, fz total_, fz start_, fz size_]) rfl (r_addi_pe (r_var rfl) (r_call (k_consP (r_var rfl) (k_consP (r_var rfl) (k_consP (r_add_pp (r_var rfl) (r_var rfl)) (k_nil (r_m_group_wait _ _ _))))))) (fun _ => rfl) fun total_ => (s_aug (ρ' := fun (start_ : Int) => [fz arrivals_, fz sizes_, fz total_, fz start_, fz size_]) rfl (r_addi_pp (r_var rfl) (r_var rfl)) (fun _ => rfl) fun start_ => (s_end (e_N ⟨_, rfl⟩)))))))
def m_plan_wait (arrivals_ : (List Int)) (sizes_ : (List Int)) : Res (Option Int) :=
  ((if (!decide (sizes_.sum = (arrivals_.length : Int))) = true then .ok true else (((Res.ok (sizes_ : (List Int))).bind fun l => lcG (fun (size_ : Int) => (.ok true)) (fun (size_ : Int) => (.ok (decide (size_ < (1 : Int))))) l).bind fun l => .ok (l.any id))).bind fun k => if k = true then (.ok (none : (Option Int))) else ((Res.ok ((0 : Int) : Int)).bind fun total_ => ((Res.ok ((0 : Int) : Int)).bind fun start_ => ((Res.ok (sizes_ : (List Int))).bind fun l => (forM (fun (a : Int) (s : (Int × Int)) => m_plan_wait_3b arrivals_ a s.1 s.2) l (total_, start_)).bind fun s1 => (.ok (some s1.1))))))
theorem r_m_plan_wait (arrivals_ : (List Int)) (sizes_ : (List Int)) : Ref (F_plan_wait [enc arrivals_, enc sizes_]) (m_plan_wait arrivals_ sizes_) := f_body (ρ := [fz arrivals_, fz sizes_, none, none, none]) rfl (show Sim 5 (RelF (α := (Option Int))) (G_plan_wait [fz arrivals_, fz sizes_, none, none, none]) (((if (!decide (sizes_.sum = (arrivals_.length : Int))) = true then .ok true else (((Res.ok (sizes_ : (List Int))).bind fun l => lcG (fun (size_ : Int) => (.ok true)) (fun (size_ : Int) => (.ok (decide (size_ < (1 : Int))))) l).bind fun l => .ok (l.any id))).bind fun k => if k = true then (.ok (none : (Option Int))) else ((Res.ok ((0 : Int) : Int)).bind fun total_ => ((Res.ok ((0 : Int) : Int)).bind fun start_ => ((Res.ok (sizes_ : (List Int))).bind fun l => (forM (fun (a : Int) (s : (Int × Int)) => m_plan_wait_3b arrivals_ a s.1 s.2) l (total_, start_)).bind fun s1 => (.ok (some s1.1))))))) from
  (s_last (s_asc (s_if rfl (t_orQ (r_net_pp (by decide) (r_sum_p (r_var rfl)) (r_len_p (r_var rfl))) (t_isB (g_any (gx_list (ρ' := [none, none, none, none, none]) (ρ1 := fun (size_ : Int) => [none, none, none, none, fz size_]) (r_var rfl) rfl (fun _ => rfl) (fun size_ => t_T) (fun size_ => (r_vB (r_ltn_pp (r_var rfl) (r_k (a := (1 : Int)) rfl)))))))) (s_retF rfl (r_c (g := (fun _ => (none : (Option Int)))) c_none (r_k (a := ()) rfl))) (s_nil (s_asc (s_asg (ρ' := fun (total_ : Int) => [fz arrivals_, fz sizes_, fz total_, none, none]) rfl (r_k (a := (0 : Int)) rfl) (fun _ => rfl) fun total_ => (s_asc (s_asg (ρ' := fun (start_ : Int) => [fz arrivals_, fz sizes_, fz total_, fz start_, none]) rfl (r_k (a := (0 : Int)) rfl) (fun _ => rfl) fun start_ => (s_asc (s_for (R := (fun (s : (Int × Int)) (ρ : Rho) => ∃ j_size : Option LV, ρ = [fz arrivals_, fz sizes_, fz s.1, fz s.2, j_size])) (by rintro s ρ ⟨_, rfl⟩; rfl) (i_list (r_var rfl)) ⟨_, rfl⟩ (by rintro a s ρ ⟨j_size, rfl⟩; exact ⟨[fz arrivals_, fz sizes_, fz s.1, fz s.2, fz a], rfl, b_m_plan_wait_3b arrivals_ sizes_ a s.1 s.2⟩) (by rintro s1 ρ ⟨j_size, rfl⟩; exact (s_retF rfl (r_c (g := some) c_some (r_var rfl)))))))))))))))
/-! ### _check_convoys -/
def m_check_convoys_1b (arrivals_ : (List Int)) (at_ : Int)  : Res (Unit) :=
  ((((ix arrivals_ at_).bind fun a2 => (.ok (isNum (enc a2) (0 : Int) (10000 : Int)))).bind fun k => .ok (!k)).bind fun k => if k = true then (raiM "PlanError" ["what", "place"] [enc ("time" : Str), enc at_]) else ((if (decide ((0 : Int) < at_)) = true then ((ix arrivals_ at_).bind fun a => ((ix arrivals_ (at_ - (1 : Int))).bind fun b => (.ok (decide (a < b))))) else .ok false).bind fun k => if k = true then (raiM "PlanError" ["what", "place"] [enc ("order" : Str), enc at_]) else (.ok ())))
theorem b_m_check_convoys_1b (arrivals_ : (List Int)) (most_ : Int) (many_ : Int) (at_ : Int)   : Sim 4 (RelN (fun (s : Unit) (ρ : Rho) => ∃ j_at : Option LV, ρ = [fz arrivals_, fz most_, fz many_, j_at])) (g__check_convoys_1b [fz arrivals_, fz most_, fz many_, fz at_]) (m_check_convoys_1b arrivals_ at_) := (show Sim 4 (RelN (fun (s : Unit) (ρ : Rho) => ∃ j_at : Option LV, ρ = [fz arrivals_, fz most_, fz many_, j_at])) (g__check_convoys_1b [fz arrivals_, fz most_, fz many_, fz at_]) (((((ix arrivals_ at_).bind fun a2 => (.ok (isNum (enc a2) (0 : Int) (10000 : Int)))).bind fun k => .ok (!k)).bind fun k => if k = true then (raiM "PlanError" ["what", "place"] [enc ("time" : Str), enc at_]) else ((if (decide ((0 : Int) < at_)) = true then ((ix arrivals_ at_).bind fun a => ((ix arrivals_ (at_ - (1 : Int))).bind fun b => (.ok (decide (a < b))))) else .ok false).bind fun k => if k = true then (raiM "PlanError" ["what", "place"] [enc ("order" : Str), enc at_]) else (.ok ())))) from
  (s_last (s_asc (s_if rfl (t_not (t_isB (r_call (k_cons (r_ix_pp (r_var rfl) (r_var rfl)) fun a2 => (k_consP (r_k (a := (0 : Int)) rfl) (k_consP (r_k (a := (10000 : Int)) rfl) (k_nil (c_num _ _ _)))))))) (s_raiP rfl (a_cons (r_k (a := ("time" : Str)) rfl) (a_cons (r_var rfl) a_nil))) (s_nil (s_if rfl (t_andQ (r_gt_pp (r_var rfl) (r_k (a := (0 : Int)) rfl)) (r_lt_ee (r_ix_pp (r_var rfl) (r_var rfl)) (r_ix_pp (r_var rfl) (r_sub_pp (r_var rfl) (r_k (a := (1 : Int)) rfl))))) (s_raiP rfl (a_cons (r_k (a := ("order" : Str)) rfl) (a_cons (r_var rfl) a_nil))) (s_nil (s_end (e_N ⟨_, rfl⟩)))))))))
def m_check_convoys (arrivals_ : (List Int)) (most_ : Int) (many_ : Int) : Res Unit :=
  (if (decide ((60 : Int) < (arrivals_.length : Int))) = true then (raiM "TooMany" ["what"] [enc ("boats" : Str)]) else ((rng1z (arrivals_.length : Int)).bind fun l => (forM (fun (a : Int) (s : Unit) => m_check_convoys_1b arrivals_ a) l ()).bind fun s3 => (if (!(isNum (enc most_) (1 : Int) (60 : Int))) = true then (raiM "PlanError" ["what", "place"] [enc ("boats in a convoy" : Str), enc (0 : Int)]) else (if (!(isNum (enc many_) (0 : Int) (60 : Int))) = true then (raiM "PlanError" ["what", "place"] [enc ("number of convoys" : Str), enc (0 : Int)]) else (.ok ())))))
theorem r_m_check_convoys (arrivals_ : (List Int)) (most_ : Int) (many_ : Int) : Ref (F__check_convoys [enc arrivals_, enc most_, enc many_]) (m_check_convoys arrivals_ most_ many_) := f_body (ρ := [fz arrivals_, fz most_, fz many_, none]) rfl (show Sim 4 (RelF (α := Unit)) (G__check_convoys [fz arrivals_, fz most_, fz many_, none]) ((if (decide ((60 : Int) < (arrivals_.length : Int))) = true then (raiM "TooMany" ["what"] [enc ("boats" : Str)]) else ((rng1z (arrivals_.length : Int)).bind fun l => (forM (fun (a : Int) (s : Unit) => m_check_convoys_1b arrivals_ a) l ()).bind fun s3 => (if (!(isNum (enc most_) (1 : Int) (60 : Int))) = true then (raiM "PlanError" ["what", "place"] [enc ("boats in a convoy" : Str), enc (0 : Int)]) else (if (!(isNum (enc many_) (0 : Int) (60 : Int))) = true then (raiM "PlanError" ["what", "place"] [enc ("number of convoys" : Str), enc (0 : Int)]) else (.ok ())))))) from
  (s_last (s_asc (s_ifP rfl (r_gt_pp (r_len_p (r_var rfl)) (r_k (a := (60 : Int)) rfl)) (s_raiP rfl (a_cons (r_k (a := ("boats" : Str)) rfl) a_nil)) (s_nil (s_asc (s_for (R := (fun (s : Unit) (ρ : Rho) => ∃ j_at : Option LV, ρ = [fz arrivals_, fz most_, fz many_, j_at])) (by rintro s ρ ⟨_, rfl⟩; rfl) (i_rng1 (a_cons (r_len_p (r_var rfl)) a_nil)) ⟨_, rfl⟩ (by rintro a s ρ ⟨j_at, rfl⟩; exact ⟨[fz arrivals_, fz most_, fz many_, fz a], rfl, b_m_check_convoys_1b arrivals_ most_ many_ a⟩) (by rintro s3 ρ ⟨j_at, rfl⟩; exact (s_asc (s_ifP rfl (t_notP (t_isB (r_call (k_consP (r_var rfl) (k_consP (r_k (a := (1 : Int)) rfl) (k_consP (r_k (a := (60 : Int)) rfl) (k_nil (c_num _ _ _)))))))) (s_raiP rfl (a_cons (r_k (a := ("boats in a convoy" : Str)) rfl) (a_cons (r_k (a := (0 : Int)) rfl) a_nil))) (s_nil (s_ifP rfl (t_notP (t_isB (r_call (k_consP (r_var rfl) (k_consP (r_k (a := (0 : Int)) rfl) (k_consP (r_k (a := (60 : Int)) rfl) (k_nil (c_num _ _ _)))))))) (s_raiP rfl (a_cons (r_k (a := ("number of convoys" : Str)) rfl) (a_cons (r_k (a := (0 : Int)) rfl) a_nil))) (s_nil (s_end (e_F rfl)))))))))))))))
/-! ### _wait_table -/
def m_wait_table_1b_2b_1b (arrivals_ : (List Int)) (before_ : (List (Option (Int × Int)))) (end_ : Int) (start_ : Int) (best_ : (Option (Int × Int))) : Res ((Option (Int × Int))) :=
  (((ix before_ start_).bind fun a => (.ok a.isSome)).bind fun k => if k = true then (((((ix before_ start_).bind unw).bind fun a => .ok a.1).bind fun a => ((m_group_wait arrivals_ start_ end_).bind fun b => (.ok (a + b)))).bind fun wait_ => (((if best_.isNone = true then .ok true else (((unw best_).bind fun a => .ok a.1).bind fun b => (.ok (decide (wait_ < b))))).bind fun k => if k = true then (.ok (some (wait_, start_))) else (.ok best_)).bind fun best_ => (.ok best_))) else (.ok best_))
theorem b_m_wait_table_1b_2b_1b (arrivals_ : (List Int)) (most_ : Int) (many_ : Int) (__ : Int) (table_ : (List (List (Option (Int × Int))))) (before_ : (List (Option (Int × Int)))) (row_ : (List (Option (Int × Int)))) (end_ : Int) (start_ : Int) (best_ : (Option (Int × Int))) {j_wait : Option LV} : Sim 11 (RelN (fun (s : (Option (Int × Int))) (ρ : Rho) => ∃ j_wait j_start : Option LV, ρ = [fz arrivals_, fz most_, fz many_, fz __, ow table_, fz before_, ow row_, fz end_, fz s, j_start, j_wait])) (g__wait_table_1b_2b_1b [fz arrivals_, fz most_, fz many_, fz __, ow table_, fz before_, ow row_, fz end_, fz best_, fz start_, j_wait]) (m_wait_table_1b_2b_1b arrivals_ before_ end_ start_ best_) := (show Sim 11 (RelN (fun (s : (Option (Int × Int))) (ρ : Rho) => ∃ j_wait j_start : Option LV, ρ = [fz arrivals_, fz most_, fz many_, fz __, ow table_, fz before_, ow row_, fz end_, fz s, j_start, j_wait])) (g__wait_table_1b_2b_1b [fz arrivals_, fz most_, fz many_, fz __, ow table_, fz before_, ow row_, fz end_, fz best_, fz start_, j_wait]) ((((ix before_ start_).bind fun a => (.ok a.isSome)).bind fun k => if k = true then (((((ix before_ start_).bind unw).bind fun a => .ok a.1).bind fun a => ((m_group_wait arrivals_ start_ end_).bind fun b => (.ok (a + b)))).bind fun wait_ => (((if best_.isNone = true then .ok true else (((unw best_).bind fun a => .ok a.1).bind fun b => (.ok (decide (wait_ < b))))).bind fun k => if k = true then (.ok (some (wait_, start_))) else (.ok best_)).bind fun best_ => (.ok best_))) else (.ok best_))) from
  (s_last (s_if rfl (r_notn_ep (r_ix_pp (r_var rfl) (r_var rfl)) (r_k (a := ()) rfl)) (s_asc (s_asg (ρ' := fun (wait_ : Int) => [fz arrivals_, fz most_, fz many_, fz __, ow table_, fz before_, ow row_, fz end_, fz best_, fz start_, fz wait_]) rfl (r_add_ee (r_binXE (c := fun (a : (Int × Int)) => a.1) (r_unwE (r_ix_pp (r_var rfl) (r_var rfl))) (r_k (a := (0 : Int)) rfl) fun _ => rfl) (r_call (k_consP (r_var rfl) (k_consP (r_var rfl) (k_consP (r_var rfl) (k_nil (r_m_group_wait _ _ _))))))) (fun _ => rfl) fun wait_ => (s_asg (ρ' := fun (best_ : (Option (Int × Int))) => [fz arrivals_, fz most_, fz many_, fz __, ow table_, fz before_, ow row_, fz end_, fz best_, fz start_, fz wait_]) rfl (r_if (t_orQ (r_isn_pp (r_var rfl) (r_k (a := ()) rfl)) (r_lt_pe (r_var rfl) (r_binXE (c := fun (a : (Int × Int)) => a.1) (r_unw (r_var rfl)) (r_k (a := (0 : Int)) rfl) fun _ => rfl))) (r_c (g := some) c_some (r_tup (k_consP (r_var rfl) (k_consP (r_var rfl) (k_nil (tk rfl rfl)))))) (r_var rfl)) (fun _ => rfl) fun best_ => (s_end (e_N ⟨_, _, rfl⟩))))) (s_nil (s_end (e_N ⟨_, _, rfl⟩))))))
def m_wait_table_1b_2b (arrivals_ : (List Int)) (most_ : Int) (before_ : (List (Option (Int × Int)))) (end_ : Int) (row_ : (List (Option (Int × Int)))) : Res ((List (Option (Int × Int)))) :=
  ((Res.ok ((none : (Option (Int × Int))) : (Option (Int × Int)))).bind fun best_ => ((rng2z (max (0 : Int) (end_ - most_)) end_).bind fun l => (forM (fun (a : Int) (s : (Option (Int × Int))) => m_wait_table_1b_2b_1b arrivals_ before_ end_ a s) l best_).bind fun s3 => ((Res.ok (s3 : (Option (Int × Int)))).bind fun v => (app row_ v).bind fun row_ => (.ok row_))))
theorem b_m_wait_table_1b_2b (arrivals_ : (List Int)) (most_ : Int) (many_ : Int) (__ : Int) (table_ : (List (List (Option (Int × Int))))) (before_ : (List (Option (Int × Int)))) (end_ : Int) (row_ : (List (Option (Int × Int)))) {j_best j_start j_wait : Option LV} : Sim 11 (RelN (fun (s : (List (Option (Int × Int)))) (ρ : Rho) => ∃ j_best j_start j_wait j_end : Option LV, ρ = [fz arrivals_, fz most_, fz many_, fz __, ow table_, fz before_, ow s, j_end, j_best, j_start, j_wait])) (g__wait_table_1b_2b [fz arrivals_, fz most_, fz many_, fz __, ow table_, fz before_, ow row_, fz end_, j_best, j_start, j_wait]) (m_wait_table_1b_2b arrivals_ most_ before_ end_ row_) := (show Sim 11 (RelN (fun (s : (List (Option (Int × Int)))) (ρ : Rho) => ∃ j_best j_start j_wait j_end : Option LV, ρ = [fz arrivals_, fz most_, fz many_, fz __, ow table_, fz before_, ow s, j_end, j_best, j_start, j_wait])) (g__wait_table_1b_2b [fz arrivals_, fz most_, fz many_, fz __, ow table_, fz before_, ow row_, fz end_, j_best, j_start, j_wait]) (((Res.ok ((none : (Option (Int × Int))) : (Option (Int × Int)))).bind fun best_ => ((rng2z (max (0 : Int) (end_ - most_)) end_).bind fun l => (forM (fun (a : Int) (s : (Option (Int × Int))) => m_wait_table_1b_2b_1b arrivals_ before_ end_ a s) l best_).bind fun s3 => ((Res.ok (s3 : (Option (Int × Int)))).bind fun v => (app row_ v).bind fun row_ => (.ok row_))))) from
  (s_last (s_asc (s_asg (ρ' := fun (best_ : (Option (Int × Int))) => [fz arrivals_, fz most_, fz many_, fz __, ow table_, fz before_, ow row_, fz end_, fz best_, j_start, j_wait]) rfl (r_c (g := (fun _ => (none : (Option (Int × Int))))) c_none (r_k (a := ()) rfl)) (fun _ => rfl) fun best_ => (s_asc (s_for (R := (fun (s : (Option (Int × Int))) (ρ : Rho) => ∃ j_wait j_start : Option LV, ρ = [fz arrivals_, fz most_, fz many_, fz __, ow table_, fz before_, ow row_, fz end_, fz s, j_start, j_wait])) (by rintro s ρ ⟨_, _, rfl⟩; rfl) (i_rng2 (a_cons (r_max2_pp (r_k (a := (0 : Int)) rfl) (r_sub_pp (r_var rfl) (r_var rfl))) (a_cons (r_var rfl) a_nil))) ⟨_, _, rfl⟩ (by rintro a s ρ ⟨j_wait, j_start, rfl⟩; exact ⟨[fz arrivals_, fz most_, fz many_, fz __, ow table_, fz before_, ow row_, fz end_, fz s, fz a, j_wait], rfl, b_m_wait_table_1b_2b_1b arrivals_ most_ many_ __ table_ before_ row_ end_ a s⟩) (by rintro s3 ρ ⟨j_wait, j_start, rfl⟩; exact (s_app (ρ' := fun (row_ : (List (Option (Int × Int)))) => [fz arrivals_, fz most_, fz many_, fz __, ow table_, fz before_, ow row_, fz end_, fz s3, j_start, j_wait]) rfl rfl (r_var rfl) (fun _ => rfl) fun row_ => (s_end (e_N ⟨_, _, _, _, rfl⟩))))))))))
def m_wait_table_1b (arrivals_ : (List Int)) (most_ : Int) (__ : Int) (table_ : (List (List (Option (Int × Int))))) : Res ((List (List (Option (Int × Int))))) :=
  ((ix table_ (-(1 : Int))).bind fun before_ => ((Res.ok ((List.map some [((0 : Int), (0 : Int))]) : (List (Option (Int × Int))))).bind fun row_ => ((rng2z (1 : Int) ((arrivals_.length : Int) + (1 : Int))).bind fun l => (forM (fun (a : Int) (s : (List (Option (Int × Int)))) => m_wait_table_1b_2b arrivals_ most_ before_ a s) l row_).bind fun s4 => ((Res.ok (s4 : (List (Option (Int × Int))))).bind fun v => (app table_ v).bind fun table_ => (.ok table_)))))
theorem b_m_wait_table_1b (arrivals_ : (List Int)) (most_ : Int) (many_ : Int) (__ : Int) (table_ : (List (List (Option (Int × Int))))) {j_before j_row j_end j_best j_start j_wait : Option LV} : Sim 11 (RelN (fun (s : (List (List (Option (Int × Int))))) (ρ : Rho) => ∃ j_before j_row j_end j_best j_start j_wait j__ : Option LV, ρ = [fz arrivals_, fz most_, fz many_, j__, ow s, j_before, j_row, j_end, j_best, j_start, j_wait])) (g__wait_table_1b [fz arrivals_, fz most_, fz many_, fz __, ow table_, j_before, j_row, j_end, j_best, j_start, j_wait]) (m_wait_table_1b arrivals_ most_ __ table_) := (show Sim 11 (RelN (fun (s : (List (List (Option (Int × Int))))) (ρ : Rho) => ∃ j_before j_row j_end j_best j_start j_wait j__ : Option LV, ρ = [fz arrivals_, fz most_, fz many_, j__, ow s, j_before, j_row, j_end, j_best, j_start, j_wait])) (g__wait_table_1b [fz arrivals_, fz most_, fz many_, fz __, ow table_, j_before, j_row, j_end, j_best, j_start, j_wait]) (((ix table_ (-(1 : Int))).bind fun before_ => ((Res.ok ((List.map some [((0 : Int), (0 : Int))]) : (List (Option (Int × Int))))).bind fun row_ => ((rng2z (1 : Int) ((arrivals_.length : Int) + (1 : Int))).bind fun l => (forM (fun (a : Int) (s : (List (Option (Int × Int)))) => m_wait_table_1b_2b arrivals_ most_ before_ a s) l row_).bind fun s4 => ((Res.ok (s4 : (List (Option (Int × Int))))).bind fun v => (app table_ v).bind fun table_ => (.ok table_)))))) from
  (s_last (s_asc (s_asg (ρ' := fun (before_ : (List (Option (Int × Int)))) => [fz arrivals_, fz most_, fz many_, fz __, ow table_, fz before_, j_row, j_end, j_best, j_start, j_wait]) rfl (r_ix_pp (r_varO rfl) (r_neg_p (r_k (a := (1 : Int)) rfl))) (fun _ => rfl) fun before_ => (s_asc (s_asgO (ρ' := fun (row_ : (List (Option (Int × Int)))) => [fz arrivals_, fz most_, fz many_, fz __, ow table_, fz before_, ow row_, j_end, j_best, j_start, j_wait]) rfl (rl_c (g := some) c_some (r_lst (k_consP (r_tup (k_consP (r_k (a := (0 : Int)) rfl) (k_consP (r_k (a := (0 : Int)) rfl) (k_nil (tk rfl rfl))))) (k_nil (lk (c := [((0 : Int), (0 : Int))]) rfl rfl))))) (fun _ => rfl) fun row_ => (s_asc (s_for (R := (fun (s : (List (Option (Int × Int)))) (ρ : Rho) => ∃ j_best j_start j_wait j_end : Option LV, ρ = [fz arrivals_, fz most_, fz many_, fz __, ow table_, fz before_, ow s, j_end, j_best, j_start, j_wait])) (by rintro s ρ ⟨_, _, _, _, rfl⟩; rfl) (i_rng2 (a_cons (r_k (a := (1 : Int)) rfl) (a_cons (r_add_pp (r_len_p (r_var rfl)) (r_k (a := (1 : Int)) rfl)) a_nil))) ⟨_, _, _, _, rfl⟩ (by rintro a s ρ ⟨j_best, j_start, j_wait, j_end, rfl⟩; exact ⟨[fz arrivals_, fz most_, fz many_, fz __, ow table_, fz before_, ow s, fz a, j_best, j_start, j_wait], rfl, b_m_wait_table_1b_2b arrivals_ most_ many_ __ table_ before_ a s⟩) (by rintro s4 ρ ⟨j_best, j_start, j_wait, j_end, rfl⟩; exact (s_frz (ρ2 := [fz arrivals_, fz most_, fz many_, fz __, ow table_, fz before_, fz s4, j_end, j_best, j_start, j_wait]) rfl (s_app (ρ' := fun (table_ : (List (List (Option (Int × Int))))) => [fz arrivals_, fz most_, fz many_, fz __, ow table_, fz before_, fz s4, j_end, j_best, j_start, j_wait]) rfl rfl (r_var rfl) (fun _ => rfl) fun table_ => (s_end (e_N ⟨_, _, _, _, _, _, _, rfl⟩)))))))))))))
def m_wait_table (arrivals_ : (List Int)) (most_ : Int) (many_ : Int) : Res (List (List (Option (Int × Int)))) :=
  (((((lcM arrivals_ (fun (__ : Int) => (.ok true)) (fun (__ : Int) => (.ok ()))).bind fun a => .ok ((fun l => List.map (fun _ => (none : (Option (Int × Int)))) l) a)).bind fun b => (cat (List.map some [((0 : Int), (0 : Int))]) b)).bind fun a2 => (.ok [a2])).bind fun table_ => ((rng1z many_).bind fun l => (forM (fun (a : Int) (s : (List (List (Option (Int × Int))))) => m_wait_table_1b arrivals_ most_ a s) l table_).bind fun s5 => (.ok s5)))
theorem r_m_wait_table (arrivals_ : (List Int)) (most_ : Int) (many_ : Int) : Ref (F__wait_table [enc arrivals_, enc most_, enc many_]) (m_wait_table arrivals_ most_ many_) := f_body (ρ := [fz arrivals_, fz most_, fz many_, none, none, none, none, none, none, none, none]) rfl (show Sim 11 (RelF (α := (List (List (Option (Int × Int)))))) (G__wait_table [fz arrivals_, fz most_, fz many_, none, none, none, none, none, none, none, none]) ((((((lcM arrivals_ (fun (__ : Int) => (.ok true)) (fun (__ : Int) => (.ok ()))).bind fun a => .ok ((fun l => List.map (fun _ => (none : (Option (Int × Int)))) l) a)).bind fun b => (cat (List.map some [((0 : Int), (0 : Int))]) b)).bind fun a2 => (.ok [a2])).bind fun table_ => ((rng1z many_).bind fun l => (forM (fun (a : Int) (s : (List (List (Option (Int × Int))))) => m_wait_table_1b arrivals_ most_ a s) l table_).bind fun s5 => (.ok s5)))) from
  (s_last (s_asc (s_asgO (ρ' := fun (table_ : (List (List (Option (Int × Int))))) => [fz arrivals_, fz most_, fz many_, none, ow table_, none, none, none, none, none, none]) rfl (r_lst (k_cons (r_addl_pe (r_c (g := (fun l => List.map some l)) (c_list c_some) (r_vO (r_lst (k_consP (r_tup (k_consP (r_k (a := (0 : Int)) rfl) (k_consP (r_k (a := (0 : Int)) rfl) (k_nil (tk rfl rfl))))) (k_nil (lk (c := [((0 : Int), (0 : Int))]) rfl rfl)))))) (r_cE (fun l => List.map (fun _ => (none : (Option (Int × Int)))) l) (c_list c_none) (r_vO (rl_lcP (ρ' := [fz arrivals_, fz most_, fz many_, none, none, none, none, none, none, none, none]) (ρ1 := fun (__ : Int) => [fz arrivals_, fz most_, fz many_, fz __, none, none, none, none, none, none, none]) (i_list (r_var rfl)) rfl (fun _ => rfl) (fun __ => t_T) (fun __ => (r_k (a := ()) rfl)))))) fun a2 => (k_nil (lk (c := [a2]) rfl rfl)))) (fun _ => rfl) fun table_ => (s_asc (s_for (R := (fun (s : (List (List (Option (Int × Int))))) (ρ : Rho) => ∃ j_before j_row j_end j_best j_start j_wait j__ : Option LV, ρ = [fz arrivals_, fz most_, fz many_, j__, ow s, j_before, j_row, j_end, j_best, j_start, j_wait])) (by rintro s ρ ⟨_, _, _, _, _, _, _, rfl⟩; rfl) (i_rng1 (a_cons (r_var rfl) a_nil)) ⟨_, _, _, _, _, _, _, rfl⟩ (by rintro a s ρ ⟨j_before, j_row, j_end, j_best, j_start, j_wait, j__, rfl⟩; exact ⟨[fz arrivals_, fz most_, fz many_, fz a, ow s, j_before, j_row, j_end, j_best, j_start, j_wait], rfl, b_m_wait_table_1b arrivals_ most_ many_ a s⟩) (by rintro s5 ρ ⟨j_before, j_row, j_end, j_best, j_start, j_wait, j__, rfl⟩; exact (s_frz (ρ2 := [fz arrivals_, fz most_, fz many_, j__, fz s5, j_before, j_row, j_end, j_best, j_start, j_wait]) rfl (s_retF rfl (r_var rfl))))))))))
/-! ### least_convoy_wait -/
def m_least_convoy_wait (arrivals_ : (List Int)) (most_ : Int) (many_ : Int) : Res (Option Int) :=
  ((m_check_convoys arrivals_ most_ many_).bind fun _ => (((m_wait_table arrivals_ most_ many_).bind fun l => (lcM l (fun (row_ : (List (Option (Int × Int)))) => ((ix row_ (-(1 : Int))).bind fun a => (.ok a.isSome))) (fun (row_ : (List (Option (Int × Int)))) => (((ix row_ (-(1 : Int))).bind unw).bind fun a => .ok a.1)))).bind fun waits_ => (minNo waits_ ())))
theorem r_m_least_convoy_wait (arrivals_ : (List Int)) (most_ : Int) (many_ : Int) : Ref (F_least_convoy_wait [enc arrivals_, enc most_, enc many_]) (m_least_convoy_wait arrivals_ most_ many_) := f_body (ρ := [fz arrivals_, fz most_, fz many_, none, none]) rfl (show Sim 5 (RelF (α := (Option Int))) (G_least_convoy_wait [fz arrivals_, fz most_, fz many_, none, none]) (((m_check_convoys arrivals_ most_ many_).bind fun _ => (((m_wait_table arrivals_ most_ many_).bind fun l => (lcM l (fun (row_ : (List (Option (Int × Int)))) => ((ix row_ (-(1 : Int))).bind fun a => (.ok a.isSome))) (fun (row_ : (List (Option (Int × Int)))) => (((ix row_ (-(1 : Int))).bind unw).bind fun a => .ok a.1)))).bind fun waits_ => (minNo waits_ ())))) from
  (s_last (s_asc (s_exp rfl (r_call (k_consP (r_var rfl) (k_consP (r_var rfl) (k_consP (r_var rfl) (k_nil (r_m_check_convoys _ _ _)))))) (s_asc (s_asg (ρ' := fun (waits_ : (List Int)) => [fz arrivals_, fz most_, fz many_, fz waits_, none]) rfl (r_vO (rl_lc (ρ' := [fz arrivals_, fz most_, fz many_, none, none]) (ρ1 := fun (row_ : (List (Option (Int × Int)))) => [fz arrivals_, fz most_, fz many_, none, fz row_]) (i_list (r_call (k_consP (r_var rfl) (k_consP (r_var rfl) (k_consP (r_var rfl) (k_nil (r_m_wait_table _ _ _))))))) rfl (fun _ => rfl) (fun row_ => (r_notn_ep (r_ix_pp (r_var rfl) (r_neg_p (r_k (a := (1 : Int)) rfl))) (r_k (a := ()) rfl))) (fun row_ => (r_binXE (c := fun (a : (Int × Int)) => a.1) (r_unwE (r_ix_pp (r_var rfl) (r_neg_p (r_k (a := (1 : Int)) rfl)))) (r_k (a := (0 : Int)) rfl) fun _ => rfl)))) (fun _ => rfl) fun waits_ => (s_retF rfl (r_minno_pp (r_var rfl) (r_k (a := ()) rfl)))))))))
/-! ### convoy_plan -/
def m_convoy_plan_c_9 (sizes_ : (List Int)) : Res (Option (List Int)) :=
  (.ok (some sizes_))
theorem t_m_convoy_plan_c_9 (sizes_ : (List Int)) {j_arrivals j_most j_many j_table j_best j_used j_end j_start : Option LV} : Sim 9 (RelF (α := (Option (List Int)))) (g_convoy_plan_9 [j_arrivals, j_most, j_many, j_table, j_best, j_used, fz sizes_, j_end, j_start]) (m_convoy_plan_c_9 sizes_) := (show Sim 9 (RelF (α := (Option (List Int)))) (g_convoy_plan_9 [j_arrivals, j_most, j_many, j_table, j_best, j_used, fz sizes_, j_end, j_start]) ((.ok (some sizes_))) from
  (s_last (s_retF rfl (r_c (g := some) c_some (r_var rfl)))))
def m_convoy_plan_8b (table_ : (List (List (Option (Int × Int)))))  (sizes_ : (List Int)) (end_ : Int) (used_ : Int) : Res (((List Int) × Int × Int)) :=
  (((((ix table_ used_).bind fun a => (ix a end_)).bind unw).bind fun a => .ok a.2).bind fun start_ => ((cat [(end_ - start_)] sizes_).bind fun sizes_ => ((Res.ok (start_ : Int)).bind fun end_ => ((Res.ok ((used_ - (1 : Int)) : Int)).bind fun used_ => (.ok (sizes_, end_, used_))))))
theorem b_m_convoy_plan_8b (table_ : (List (List (Option (Int × Int)))))  (sizes_ : (List Int)) (end_ : Int) (used_ : Int) {j_start : Option LV} : Sim 9 (RelN (fun (s : ((List Int) × Int × Int)) (ρ : Rho) => ∃ j_start : Option LV, ρ = [j_arrivals, j_most, j_many, fz table_, j_best, fz s.2.2, fz s.1, fz s.2.1, j_start])) (g_convoy_plan_8b [j_arrivals, j_most, j_many, fz table_, j_best, fz used_, fz sizes_, fz end_, j_start]) (m_convoy_plan_8b table_ sizes_ end_ used_) := (show Sim 9 (RelN (fun (s : ((List Int) × Int × Int)) (ρ : Rho) => ∃ j_start : Option LV, ρ = [j_arrivals, j_most, j_many, fz table_, j_best, fz s.2.2, fz s.1, fz s.2.1, j_start])) (g_convoy_plan_8b [j_arrivals, j_most, j_many, fz table_, j_best, fz used_, fz sizes_, fz end_, j_start]) ((((((ix table_ used_).bind fun a => (ix a end_)).bind unw).bind fun a => .ok a.2).bind fun start_ => ((cat [(end_ - start_)] sizes_).bind fun sizes_ => ((Res.ok (start_ : Int)).bind fun end_ => ((Res.ok ((used_ - (1 : Int)) : Int)).bind fun used_ => (.ok (sizes_, end_, used_))))))) from
  (s_last (s_asc (s_asg (ρ' := fun (start_ : Int) => [j_arrivals, j_most, j_many, fz table_, j_best, fz used_, fz sizes_, fz end_, fz start_]) rfl (r_binXE (c := fun (a : (Int × Int)) => a.2) (r_unwE (r_ix_ep (r_ix_pp (r_var rfl) (r_var rfl)) (r_var rfl))) (r_k (a := (1 : Int)) rfl) fun _ => rfl) (fun _ => rfl) fun start_ => (s_asc (s_asg (ρ' := fun (sizes_ : (List Int)) => [j_arrivals, j_most, j_many, fz table_, j_best, fz used_, fz sizes_, fz end_, fz start_]) rfl (r_addl_pp (r_vO (r_lst (k_consP (r_sub_pp (r_var rfl) (r_var rfl)) (k_nil (lk (c := [(end_ - start_)]) rfl rfl))))) (r_var rfl)) (fun _ => rfl) fun sizes_ => (s_asc (s_asg (ρ' := fun (end_ : Int) => [j_arrivals, j_most, j_many, fz table_, j_best, fz used_, fz sizes_, fz end_, fz start_]) rfl (r_var rfl) (fun _ => rfl) fun end_ => (s_aug (ρ' := fun (used_ : Int) => [j_arrivals, j_most, j_many, fz table_, j_best, fz used_, fz sizes_, fz end_, fz start_]) rfl (r_sub_pp (r_var rfl) (r_k (a := (1 : Int)) rfl)) (fun _ => rfl) fun used_ => (s_end (e_N ⟨_, rfl⟩)))))))))))
def m_convoy_plan_c_8 (table_ : (List (List (Option (Int × Int))))) (used_ : Int) (sizes_ : (List Int)) (end_ : Int) : Res (Option (List Int)) :=
  ((whlM (fun (s : ((List Int) × Int × Int)) => (.ok (decide ((0 : Int) < s.2.2)))) (fun (s : ((List Int) × Int × Int)) => m_convoy_plan_8b table_ s.1 s.2.1 s.2.2) 10000 (sizes_, end_, used_)).bind fun s2 => (m_convoy_plan_c_9 s2.1))
theorem t_m_convoy_plan_c_8 (table_ : (List (List (Option (Int × Int))))) (used_ : Int) (sizes_ : (List Int)) (end_ : Int) {j_arrivals j_most j_many j_best j_start : Option LV} : Sim 9 (RelF (α := (Option (List Int)))) ((seqS g_convoy_plan_8 g_convoy_plan_9) [j_arrivals, j_most, j_many, fz table_, j_best, fz used_, fz sizes_, fz end_, j_start]) (m_convoy_plan_c_8 table_ used_ sizes_ end_) := (show Sim 9 (RelF (α := (Option (List Int)))) ((seqS g_convoy_plan_8 g_convoy_plan_9) [j_arrivals, j_most, j_many, fz table_, j_best, fz used_, fz sizes_, fz end_, j_start]) (((whlM (fun (s : ((List Int) × Int × Int)) => (.ok (decide ((0 : Int) < s.2.2)))) (fun (s : ((List Int) × Int × Int)) => m_convoy_plan_8b table_ s.1 s.2.1 s.2.2) 10000 (sizes_, end_, used_)).bind fun s2 => (m_convoy_plan_c_9 s2.1))) from
  (s_last (s_asc (s_whl (R := (fun (s : ((List Int) × Int × Int)) (ρ : Rho) => ∃ j_start : Option LV, ρ = [j_arrivals, j_most, j_many, fz table_, j_best, fz s.2.2, fz s.1, fz s.2.1, j_start])) (by rintro s ρ ⟨_, rfl⟩; rfl) ⟨_, rfl⟩ (by rintro s ρ ⟨j_start, rfl⟩; exact (r_gt_pp (r_var rfl) (r_k (a := (0 : Int)) rfl))) (by rintro s ρ ⟨j_start, rfl⟩; exact b_m_convoy_plan_8b table_ s.1 s.2.1 s.2.2) (by rintro s2 ρ ⟨j_start, rfl⟩; exact (s_tryN (t_m_convoy_plan_c_9 s2.1)))))))
def m_convoy_plan_c_7 (arrivals_ : (List Int)) (table_ : (List (List (Option (Int × Int))))) (used_ : Int) (sizes_ : (List Int)) : Res (Option (List Int)) :=
  ((Res.ok ((arrivals_.length : Int) : Int)).bind fun end_ => (m_convoy_plan_c_8 table_ used_ sizes_ end_))
theorem t_m_convoy_plan_c_7 (arrivals_ : (List Int)) (table_ : (List (List (Option (Int × Int))))) (used_ : Int) (sizes_ : (List Int)) {j_most j_many j_best j_end j_start : Option LV} : Sim 9 (RelF (α := (Option (List Int)))) ((seqS g_convoy_plan_7 (seqS g_convoy_plan_8 g_convoy_plan_9)) [fz arrivals_, j_most, j_many, fz table_, j_best, fz used_, fz sizes_, j_end, j_start]) (m_convoy_plan_c_7 arrivals_ table_ used_ sizes_) := (show Sim 9 (RelF (α := (Option (List Int)))) ((seqS g_convoy_plan_7 (seqS g_convoy_plan_8 g_convoy_plan_9)) [fz arrivals_, j_most, j_many, fz table_, j_best, fz used_, fz sizes_, j_end, j_start]) (((Res.ok ((arrivals_.length : Int) : Int)).bind fun end_ => (m_convoy_plan_c_8 table_ used_ sizes_ end_))) from
  (s_last (s_asc (s_asg (ρ' := fun (end_ : Int) => [fz arrivals_, j_most, j_many, fz table_, j_best, fz used_, fz sizes_, fz end_, j_start]) rfl (r_len_p (r_var rfl)) (fun _ => rfl) fun end_ => (s_tryN (t_m_convoy_plan_c_8 table_ used_ sizes_ end_))))))
def m_convoy_plan_c_6 (arrivals_ : (List Int)) (table_ : (List (List (Option (Int × Int))))) (used_ : Int) : Res (Option (List Int)) :=
  ((Res.ok (([] : List Int) : (List Int))).bind fun sizes_ => (m_convoy_plan_c_7 arrivals_ table_ used_ sizes_))
theorem t_m_convoy_plan_c_6 (arrivals_ : (List Int)) (table_ : (List (List (Option (Int × Int))))) (used_ : Int) {j_most j_many j_best j_sizes j_end j_start : Option LV} : Sim 9 (RelF (α := (Option (List Int)))) ((seqS g_convoy_plan_6 (seqS g_convoy_plan_7 (seqS g_convoy_plan_8 g_convoy_plan_9))) [fz arrivals_, j_most, j_many, fz table_, j_best, fz used_, j_sizes, j_end, j_start]) (m_convoy_plan_c_6 arrivals_ table_ used_) := (show Sim 9 (RelF (α := (Option (List Int)))) ((seqS g_convoy_plan_6 (seqS g_convoy_plan_7 (seqS g_convoy_plan_8 g_convoy_plan_9))) [fz arrivals_, j_most, j_many, fz table_, j_best, fz used_, j_sizes, j_end, j_start]) (((Res.ok (([] : List Int) : (List Int))).bind fun sizes_ => (m_convoy_plan_c_7 arrivals_ table_ used_ sizes_))) from
  (s_last (s_asc (s_asg (ρ' := fun (sizes_ : (List Int)) => [fz arrivals_, j_most, j_many, fz table_, j_best, fz used_, fz sizes_, j_end, j_start]) rfl (r_vO (r_lst (k_nil (lk (c := []) rfl rfl)))) (fun _ => rfl) fun sizes_ => (s_tryN (t_m_convoy_plan_c_7 arrivals_ table_ used_ sizes_))))))
def m_convoy_plan_5b (table_ : (List (List (Option (Int × Int))))) (best_ : (Option Int))  (used_ : Int) : Res (Int) :=
  ((Res.ok ((used_ + (1 : Int)) : Int)).bind fun used_ => (.ok used_))
theorem b_m_convoy_plan_5b (arrivals_ : (List Int)) (table_ : (List (List (Option (Int × Int))))) (best_ : (Option Int))  (used_ : Int)  : Sim 9 (RelN (fun (s : Int) (ρ : Rho) => ρ = [fz arrivals_, j_most, j_many, fz table_, fz best_, fz s, j_sizes, j_end, j_start])) (g_convoy_plan_5b [fz arrivals_, j_most, j_many, fz table_, fz best_, fz used_, j_sizes, j_end, j_start]) (m_convoy_plan_5b table_ best_ used_) := (show Sim 9 (RelN (fun (s : Int) (ρ : Rho) => ρ = [fz arrivals_, j_most, j_many, fz table_, fz best_, fz s, j_sizes, j_end, j_start])) (g_convoy_plan_5b [fz arrivals_, j_most, j_many, fz table_, fz best_, fz used_, j_sizes, j_end, j_start]) (((Res.ok ((used_ + (1 : Int)) : Int)).bind fun used_ => (.ok used_))) from
  (s_last (s_aug (ρ' := fun (used_ : Int) => [fz arrivals_, j_most, j_many, fz table_, fz best_, fz used_, j_sizes, j_end, j_start]) rfl (r_addi_pp (r_var rfl) (r_k (a := (1 : Int)) rfl)) (fun _ => rfl) fun used_ => (s_end (e_N rfl)))))
def m_convoy_plan_c_5 (arrivals_ : (List Int)) (table_ : (List (List (Option (Int × Int))))) (best_ : (Option Int)) (used_ : Int) : Res (Option (List Int)) :=
  ((whlM (fun (s : Int) => ((((ix table_ s).bind fun a => (ix a (-(1 : Int)))).bind fun a => (.ok a.isNone)).bind fun k => if k = true then .ok true else ((((((ix table_ s).bind fun a => (ix a (-(1 : Int)))).bind unw).bind fun a => .ok a.1).bind fun a => .ok (some a)).bind fun a => (.ok (!decide (a = best_)))))) (fun (s : Int) => m_convoy_plan_5b table_ best_ s) 10000 used_).bind fun s1 => (m_convoy_plan_c_6 arrivals_ table_ s1))
theorem t_m_convoy_plan_c_5 (arrivals_ : (List Int)) (table_ : (List (List (Option (Int × Int))))) (best_ : (Option Int)) (used_ : Int) {j_most j_many j_sizes j_end j_start : Option LV} : Sim 9 (RelF (α := (Option (List Int)))) ((seqS g_convoy_plan_5 (seqS g_convoy_plan_6 (seqS g_convoy_plan_7 (seqS g_convoy_plan_8 g_convoy_plan_9)))) [fz arrivals_, j_most, j_many, fz table_, fz best_, fz used_, j_sizes, j_end, j_start]) (m_convoy_plan_c_5 arrivals_ table_ best_ used_) := (show Sim 9 (RelF (α := (Option (List Int)))) ((seqS g_convoy_plan_5 (seqS g_convoy_plan_6 (seqS g_convoy_plan_7 (seqS g_convoy_plan_8 g_convoy_plan_9)))) [fz arrivals_, j_most, j_many, fz table_, fz best_, fz used_, j_sizes, j_end, j_start]) (((whlM (fun (s : Int) => ((((ix table_ s).bind fun a => (ix a (-(1 : Int)))).bind fun a => (.ok a.isNone)).bind fun k => if k = true then .ok true else ((((((ix table_ s).bind fun a => (ix a (-(1 : Int)))).bind unw).bind fun a => .ok a.1).bind fun a => .ok (some a)).bind fun a => (.ok (!decide (a = best_)))))) (fun (s : Int) => m_convoy_plan_5b table_ best_ s) 10000 used_).bind fun s1 => (m_convoy_plan_c_6 arrivals_ table_ s1))) from
  (s_last (s_asc (s_whl (R := (fun (s : Int) (ρ : Rho) => ρ = [fz arrivals_, j_most, j_many, fz table_, fz best_, fz s, j_sizes, j_end, j_start])) (by rintro s ρ rfl; rfl) rfl (by rintro s ρ rfl; exact (t_or (r_isn_ep (r_ix_ep (r_ix_pp (r_var rfl) (r_var rfl)) (r_neg_p (r_k (a := (1 : Int)) rfl))) (r_k (a := ()) rfl)) (r_net_ep (by decide) (r_cE some c_some (r_binXE (c := fun (a : (Int × Int)) => a.1) (r_unwE (r_ix_ep (r_ix_pp (r_var rfl) (r_var rfl)) (r_neg_p (r_k (a := (1 : Int)) rfl)))) (r_k (a := (0 : Int)) rfl) fun _ => rfl)) (r_var rfl)))) (by rintro s ρ rfl; exact b_m_convoy_plan_5b arrivals_ table_ best_ s) (by rintro s1 ρ rfl; exact (s_tryN (t_m_convoy_plan_c_6 arrivals_ table_ s1)))))))
def m_convoy_plan_c_4 (arrivals_ : (List Int)) (table_ : (List (List (Option (Int × Int))))) (best_ : (Option Int)) : Res (Option (List Int)) :=
  ((Res.ok ((0 : Int) : Int)).bind fun used_ => (m_convoy_plan_c_5 arrivals_ table_ best_ used_))
theorem t_m_convoy_plan_c_4 (arrivals_ : (List Int)) (table_ : (List (List (Option (Int × Int))))) (best_ : (Option Int)) {j_most j_many j_used j_sizes j_end j_start : Option LV} : Sim 9 (RelF (α := (Option (List Int)))) ((seqS g_convoy_plan_4 (seqS g_convoy_plan_5 (seqS g_convoy_plan_6 (seqS g_convoy_plan_7 (seqS g_convoy_plan_8 g_convoy_plan_9))))) [fz arrivals_, j_most, j_many, fz table_, fz best_, j_used, j_sizes, j_end, j_start]) (m_convoy_plan_c_4 arrivals_ table_ best_) := (show Sim 9 (RelF (α := (Option (List Int)))) ((seqS g_convoy_plan_4 (seqS g_convoy_plan_5 (seqS g_convoy_plan_6 (seqS g_convoy_plan_7 (seqS g_convoy_plan_8 g_convoy_plan_9))))) [fz arrivals_, j_most, j_many, fz table_, fz best_, j_used, j_sizes, j_end, j_start]) (((Res.ok ((0 : Int) : Int)).bind fun used_ => (m_convoy_plan_c_5 arrivals_ table_ best_ used_))) from
  (s_last (s_asc (s_asg (ρ' := fun (used_ : Int) => [fz arrivals_, j_most, j_many, fz table_, fz best_, fz used_, j_sizes, j_end, j_start]) rfl (r_k (a := (0 : Int)) rfl) (fun _ => rfl) fun used_ => (s_tryN (t_m_convoy_plan_c_5 arrivals_ table_ best_ used_))))))
def m_convoy_plan_c_3 (arrivals_ : (List Int)) (table_ : (List (List (Option (Int × Int))))) (best_ : (Option Int)) : Res (Option (List Int)) :=
  (if best_.isNone = true then (.ok (none : (Option (List Int)))) else (m_convoy_plan_c_4 arrivals_ table_ best_))
theorem t_m_convoy_plan_c_3 (arrivals_ : (List Int)) (table_ : (List (List (Option (Int × Int))))) (best_ : (Option Int)) {j_most j_many j_used j_sizes j_end j_start : Option LV} : Sim 9 (RelF (α := (Option (List Int)))) ((seqS g_convoy_plan_3 (seqS g_convoy_plan_4 (seqS g_convoy_plan_5 (seqS g_convoy_plan_6 (seqS g_convoy_plan_7 (seqS g_convoy_plan_8 g_convoy_plan_9)))))) [fz arrivals_, j_most, j_many, fz table_, fz best_, j_used, j_sizes, j_end, j_start]) (m_convoy_plan_c_3 arrivals_ table_ best_) := (show Sim 9 (RelF (α := (Option (List Int)))) ((seqS g_convoy_plan_3 (seqS g_convoy_plan_4 (seqS g_convoy_plan_5 (seqS g_convoy_plan_6 (seqS g_convoy_plan_7 (seqS g_convoy_plan_8 g_convoy_plan_9)))))) [fz arrivals_, j_most, j_many, fz table_, fz best_, j_used, j_sizes, j_end, j_start]) ((if best_.isNone = true then (.ok (none : (Option (List Int)))) else (m_convoy_plan_c_4 arrivals_ table_ best_))) from
  (s_last (s_asc (s_ifP rfl (r_isn_pp (r_var rfl) (r_k (a := ()) rfl)) (s_retF rfl (r_c (g := (fun _ => (none : (Option (List Int))))) c_none (r_k (a := ()) rfl))) (s_nil (s_tryN (t_m_convoy_plan_c_4 arrivals_ table_ best_)))))))
def m_convoy_plan_c_2 (arrivals_ : (List Int)) (most_ : Int) (many_ : Int) (table_ : (List (List (Option (Int × Int))))) : Res (Option (List Int)) :=
  ((m_least_convoy_wait arrivals_ most_ many_).bind fun best_ => (m_convoy_plan_c_3 arrivals_ table_ best_))
theorem t_m_convoy_plan_c_2 (arrivals_ : (List Int)) (most_ : Int) (many_ : Int) (table_ : (List (List (Option (Int × Int))))) {j_best j_used j_sizes j_end j_start : Option LV} : Sim 9 (RelF (α := (Option (List Int)))) ((seqS g_convoy_plan_2 (seqS g_convoy_plan_3 (seqS g_convoy_plan_4 (seqS g_convoy_plan_5 (seqS g_convoy_plan_6 (seqS g_convoy_plan_7 (seqS g_convoy_plan_8 g_convoy_plan_9))))))) [fz arrivals_, fz most_, fz many_, fz table_, j_best, j_used, j_sizes, j_end, j_start]) (m_convoy_plan_c_2 arrivals_ most_ many_ table_) := (show Sim 9 (RelF (α := (Option (List Int)))) ((seqS g_convoy_plan_2 (seqS g_convoy_plan_3 (seqS g_convoy_plan_4 (seqS g_convoy_plan_5 (seqS g_convoy_plan_6 (seqS g_convoy_plan_7 (seqS g_convoy_plan_8 g_convoy_plan_9))))))) [fz arrivals_, fz most_, fz many_, fz table_, j_best, j_used, j_sizes, j_end, j_start]) (((m_least_convoy_wait arrivals_ most_ many_).bind fun best_ => (m_convoy_plan_c_3 arrivals_ table_ best_))) from
  (s_last (s_asc (s_asg (ρ' := fun (best_ : (Option Int)) => [fz arrivals_, fz most_, fz many_, fz table_, fz best_, j_used, j_sizes, j_end, j_start]) rfl (r_call (k_consP (r_var rfl) (k_consP (r_var rfl) (k_consP (r_var rfl) (k_nil (r_m_least_convoy_wait _ _ _)))))) (fun _ => rfl) fun best_ => (s_tryN (t_m_convoy_plan_c_3 arrivals_ table_ best_))))))
def m_convoy_plan_c_1 (arrivals_ : (List Int)) (most_ : Int) (many_ : Int) : Res (Option (List Int)) :=
  ((m_wait_table arrivals_ most_ many_).bind fun table_ => (m_convoy_plan_c_2 arrivals_ most_ many_ table_))
theorem t_m_convoy_plan_c_1 (arrivals_ : (List Int)) (most_ : Int) (many_ : Int) {j_table j_best j_used j_sizes j_end j_start : Option LV} : Sim 9 (RelF (α := (Option (List Int)))) ((seqS g_convoy_plan_1 (seqS g_convoy_plan_2 (seqS g_convoy_plan_3 (seqS g_convoy_plan_4 (seqS g_convoy_plan_5 (seqS g_convoy_plan_6 (seqS g_convoy_plan_7 (seqS g_convoy_plan_8 g_convoy_plan_9)))))))) [fz arrivals_, fz most_, fz many_, j_table, j_best, j_used, j_sizes, j_end, j_start]) (m_convoy_plan_c_1 arrivals_ most_ many_) := (show Sim 9 (RelF (α := (Option (List Int)))) ((seqS g_convoy_plan_1 (seqS g_convoy_plan_2 (seqS g_convoy_plan_3 (seqS g_convoy_plan_4 (seqS g_convoy_plan_5 (seqS g_convoy_plan_6 (seqS g_convoy_plan_7 (seqS g_convoy_plan_8 g_convoy_plan_9)))))))) [fz arrivals_, fz most_, fz many_, j_table, j_best, j_used, j_sizes, j_end, j_start]) (((m_wait_table arrivals_ most_ many_).bind fun table_ => (m_convoy_plan_c_2 arrivals_ most_ many_ table_))) from
  (s_last (s_asc (s_asg (ρ' := fun (table_ : (List (List (Option (Int × Int))))) => [fz arrivals_, fz most_, fz many_, fz table_, j_best, j_used, j_sizes, j_end, j_start]) rfl (r_call (k_consP (r_var rfl) (k_consP (r_var rfl) (k_consP (r_var rfl) (k_nil (r_m_wait_table _ _ _)))))) (fun _ => rfl) fun table_ => (s_tryN (t_m_convoy_plan_c_2 arrivals_ most_ many_ table_))))))
def m_convoy_plan (arrivals_ : (List Int)) (most_ : Int) (many_ : Int) : Res (Option (List Int)) :=
  ((m_check_convoys arrivals_ most_ many_).bind fun _ => (m_convoy_plan_c_1 arrivals_ most_ many_))
theorem r_m_convoy_plan (arrivals_ : (List Int)) (most_ : Int) (many_ : Int) : Ref (F_convoy_plan [enc arrivals_, enc most_, enc many_]) (m_convoy_plan arrivals_ most_ many_) := f_body (ρ := [fz arrivals_, fz most_, fz many_, none, none, none, none, none, none]) rfl (show Sim 9 (RelF (α := (Option (List Int)))) (G_convoy_plan [fz arrivals_, fz most_, fz many_, none, none, none, none, none, none]) (((m_check_convoys arrivals_ most_ many_).bind fun _ => (m_convoy_plan_c_1 arrivals_ most_ many_))) from
  (s_last (s_asc (s_exp rfl (r_call (k_consP (r_var rfl) (k_consP (r_var rfl) (k_consP (r_var rfl) (k_nil (r_m_check_convoys _ _ _)))))) (s_tryN (t_m_convoy_plan_c_1 arrivals_ most_ many_))))))
/-! ### fewest_convoys -/
def m_fewest_convoys_4b (arrivals_ : (List Int)) (most_ : Int) (longest_ : Int) (at_ : Int) (sizes_ : (List Int)) (first_ : Int) : Res (((List Int) × Int)) :=
  (((if (decide ((sizes_.length : Int) = (0 : Int))) = true then .ok true else (((ix sizes_ (-(1 : Int))).bind fun a => (.ok (decide (a = most_)))).bind fun k => if k = true then .ok true else (((ix arrivals_ at_).bind fun a => ((ix arrivals_ first_).bind fun b => (.ok (a - b)))).bind fun a => (.ok (decide (longest_ < a)))))).bind fun k => (if k = true then ((Res.ok ((0 : Int) : Int)).bind fun v => (app sizes_ v).bind fun sizes_ => ((Res.ok (at_ : Int)).bind fun first_ => (.ok (sizes_, first_)))) else (.ok (sizes_, first_)) : Res ((List Int) × Int))).bind fun s1 => ((Res.ok (-(1 : Int))).bind fun z => (ix s1.1 z).bind fun x => (Res.ok (1 : Int)).bind fun y => (setL s1.1 z (x + y)).bind fun sizes_ => (.ok (sizes_, s1.2))))
theorem b_m_fewest_convoys_4b (arrivals_ : (List Int)) (most_ : Int) (longest_ : Int) (at_ : Int) (sizes_ : (List Int)) (first_ : Int)  : Sim 6 (RelN (fun (s : ((List Int) × Int)) (ρ : Rho) => ∃ j_at : Option LV, ρ = [fz arrivals_, fz most_, fz longest_, ow s.1, fz s.2, j_at])) (g_fewest_convoys_4b [fz arrivals_, fz most_, fz longest_, ow sizes_, fz first_, fz at_]) (m_fewest_convoys_4b arrivals_ most_ longest_ at_ sizes_ first_) := (show Sim 6 (RelN (fun (s : ((List Int) × Int)) (ρ : Rho) => ∃ j_at : Option LV, ρ = [fz arrivals_, fz most_, fz longest_, ow s.1, fz s.2, j_at])) (g_fewest_convoys_4b [fz arrivals_, fz most_, fz longest_, ow sizes_, fz first_, fz at_]) ((((if (decide ((sizes_.length : Int) = (0 : Int))) = true then .ok true else (((ix sizes_ (-(1 : Int))).bind fun a => (.ok (decide (a = most_)))).bind fun k => if k = true then .ok true else (((ix arrivals_ at_).bind fun a => ((ix arrivals_ first_).bind fun b => (.ok (a - b)))).bind fun a => (.ok (decide (longest_ < a)))))).bind fun k => (if k = true then ((Res.ok ((0 : Int) : Int)).bind fun v => (app sizes_ v).bind fun sizes_ => ((Res.ok (at_ : Int)).bind fun first_ => (.ok (sizes_, first_)))) else (.ok (sizes_, first_)) : Res ((List Int) × Int))).bind fun s1 => ((Res.ok (-(1 : Int))).bind fun z => (ix s1.1 z).bind fun x => (Res.ok (1 : Int)).bind fun y => (setL s1.1 z (x + y)).bind fun sizes_ => (.ok (sizes_, s1.2))))) from
  (s_last (s_asc (s_ifJ (R := (fun (s : ((List Int) × Int)) (ρ : Rho) => ρ = [fz arrivals_, fz most_, fz longest_, ow s.1, fz s.2, fz at_])) rfl (t_orQ (r_eqt_pp (by decide) (r_len_p (r_varO rfl)) (r_k (a := (0 : Int)) rfl)) (t_or (r_eqt_ep (by decide) (r_ix_pp (r_varO rfl) (r_neg_p (r_k (a := (1 : Int)) rfl))) (r_var rfl)) (r_gt_ep (r_sub_ee (r_ix_pp (r_var rfl) (r_var rfl)) (r_ix_pp (r_var rfl) (r_var rfl))) (r_var rfl)))) (s_last (s_asc (s_app (ρ' := fun (sizes_ : (List Int)) => [fz arrivals_, fz most_, fz longest_, ow sizes_, fz first_, fz at_]) rfl rfl (r_k (a := (0 : Int)) rfl) (fun _ => rfl) fun sizes_ => (s_asg (ρ' := fun (first_ : Int) => [fz arrivals_, fz most_, fz longest_, ow sizes_, fz first_, fz at_]) rfl (r_var rfl) (fun _ => rfl) fun first_ => (s_end (e_J rfl)))))) (s_last (s_nil (s_end (e_J rfl)))) (by rintro s1 ρ rfl; exact (s_augI (ρ' := fun (sizes_ : (List Int)) => [fz arrivals_, fz most_, fz longest_, ow sizes_, fz s1.2, fz at_]) rfl rfl (r_neg_p (r_k (a := (1 : Int)) rfl)) (r_k (a := (1 : Int)) rfl) (fun _ => rfl) fun sizes_ => (s_end (e_N ⟨_, rfl⟩))))))))
def m_fewest_convoys (arrivals_ : (List Int)) (most_ : Int) (longest_ : Int) : Res (List Int) :=
  ((m_check_convoys arrivals_ most_ (0 : Int)).bind fun _ => (if (!(isNum (enc longest_) (0 : Int) (10000 : Int))) = true then (raiM "PlanError" ["what", "place"] [enc ("longest wait" : Str), enc (0 : Int)]) else ((Res.ok (([] : List Int) : (List Int))).bind fun sizes_ => ((Res.ok ((0 : Int) : Int)).bind fun first_ => ((rng1z (arrivals_.length : Int)).bind fun l => (forM (fun (a : Int) (s : ((List Int) × Int)) => m_fewest_convoys_4b arrivals_ most_ longest_ a s.1 s.2) l (sizes_, first_)).bind fun s2 => (.ok s2.1))))))
theorem r_m_fewest_convoys (arrivals_ : (List Int)) (most_ : Int) (longest_ : Int) : Ref (F_fewest_convoys [enc arrivals_, enc most_, enc longest_]) (m_fewest_convoys arrivals_ most_ longest_) := f_body (ρ := [fz arrivals_, fz most_, fz longest_, none, none, none]) rfl (show Sim 6 (RelF (α := (List Int))) (G_fewest_convoys [fz arrivals_, fz most_, fz longest_, none, none, none]) (((m_check_convoys arrivals_ most_ (0 : Int)).bind fun _ => (if (!(isNum (enc longest_) (0 : Int) (10000 : Int))) = true then (raiM "PlanError" ["what", "place"] [enc ("longest wait" : Str), enc (0 : Int)]) else ((Res.ok (([] : List Int) : (List Int))).bind fun sizes_ => ((Res.ok ((0 : Int) : Int)).bind fun first_ => ((rng1z (arrivals_.length : Int)).bind fun l => (forM (fun (a : Int) (s : ((List Int) × Int)) => m_fewest_convoys_4b arrivals_ most_ longest_ a s.1 s.2) l (sizes_, first_)).bind fun s2 => (.ok s2.1))))))) from
  (s_last (s_asc (s_exp rfl (r_call (k_consP (r_var rfl) (k_consP (r_var rfl) (k_consP (r_k (a := (0 : Int)) rfl) (k_nil (r_m_check_convoys _ _ _)))))) (s_asc (s_ifP rfl (t_notP (t_isB (r_call (k_consP (r_var rfl) (k_consP (r_k (a := (0 : Int)) rfl) (k_consP (r_k (a := (10000 : Int)) rfl) (k_nil (c_num _ _ _)))))))) (s_raiP rfl (a_cons (r_k (a := ("longest wait" : Str)) rfl) (a_cons (r_k (a := (0 : Int)) rfl) a_nil))) (s_nil (s_asc (s_asgO (ρ' := fun (sizes_ : (List Int)) => [fz arrivals_, fz most_, fz longest_, ow sizes_, none, none]) rfl (r_lst (k_nil (lk (c := []) rfl rfl))) (fun _ => rfl) fun sizes_ => (s_asc (s_asg (ρ' := fun (first_ : Int) => [fz arrivals_, fz most_, fz longest_, ow sizes_, fz first_, none]) rfl (r_k (a := (0 : Int)) rfl) (fun _ => rfl) fun first_ => (s_asc (s_for (R := (fun (s : ((List Int) × Int)) (ρ : Rho) => ∃ j_at : Option LV, ρ = [fz arrivals_, fz most_, fz longest_, ow s.1, fz s.2, j_at])) (by rintro s ρ ⟨_, rfl⟩; rfl) (i_rng1 (a_cons (r_len_p (r_var rfl)) a_nil)) ⟨_, rfl⟩ (by rintro a s ρ ⟨j_at, rfl⟩; exact ⟨[fz arrivals_, fz most_, fz longest_, ow s.1, fz s.2, fz a], rfl, b_m_fewest_convoys_4b arrivals_ most_ longest_ a s.1 s.2⟩) (by rintro s2 ρ ⟨j_at, rfl⟩; exact (s_frz (ρ2 := [fz arrivals_, fz most_, fz longest_, fz s2.1, fz s2.2, j_at]) rfl (s_retF rfl (r_var rfl)))))))))))))))))
/-! ### _check_convoys -/
def m_check_convoys_2_1b (arrivals_ : (List D)) (at_ : Int)  : Res (Unit) :=
  ((((ix arrivals_ at_).bind fun a2 => (.ok (isNum (enc a2) (0 : Int) (10000 : Int)))).bind fun k => .ok (!k)).bind fun k => if k = true then (raiM "PlanError" ["what", "place"] [enc ("time" : Str), enc at_]) else ((if (decide ((0 : Int) < at_)) = true then ((ix arrivals_ at_).bind fun a => ((ix arrivals_ (at_ - (1 : Int))).bind fun b => (Res.of (dLt (enc a) (enc b))))) else .ok false).bind fun k => if k = true then (raiM "PlanError" ["what", "place"] [enc ("order" : Str), enc at_]) else (.ok ())))
theorem b_m_check_convoys_2_1b (arrivals_ : (List D)) (most_ : Int) (many_ : Int) (at_ : Int)   : Sim 4 (RelN (fun (s : Unit) (ρ : Rho) => ∃ j_at : Option LV, ρ = [fz arrivals_, fz most_, fz many_, j_at])) (g__check_convoys_1b [fz arrivals_, fz most_, fz many_, fz at_]) (m_check_convoys_2_1b arrivals_ at_) := (show Sim 4 (RelN (fun (s : Unit) (ρ : Rho) => ∃ j_at : Option LV, ρ = [fz arrivals_, fz most_, fz many_, j_at])) (g__check_convoys_1b [fz arrivals_, fz most_, fz many_, fz at_]) (((((ix arrivals_ at_).bind fun a2 => (.ok (isNum (enc a2) (0 : Int) (10000 : Int)))).bind fun k => .ok (!k)).bind fun k => if k = true then (raiM "PlanError" ["what", "place"] [enc ("time" : Str), enc at_]) else ((if (decide ((0 : Int) < at_)) = true then ((ix arrivals_ at_).bind fun a => ((ix arrivals_ (at_ - (1 : Int))).bind fun b => (Res.of (dLt (enc a) (enc b))))) else .ok false).bind fun k => if k = true then (raiM "PlanError" ["what", "place"] [enc ("order" : Str), enc at_]) else (.ok ())))) from
  (s_last (s_asc (s_if rfl (t_not (t_isB (r_call (k_cons (r_ix_pp (r_var rfl) (r_var rfl)) fun a2 => (k_consP (r_k (a := (0 : Int)) rfl) (k_consP (r_k (a := (10000 : Int)) rfl) (k_nil (c_num _ _ _)))))))) (s_raiP rfl (a_cons (r_k (a := ("time" : Str)) rfl) (a_cons (r_var rfl) a_nil))) (s_nil (s_if rfl (t_andQ (r_gt_pp (r_var rfl) (r_k (a := (0 : Int)) rfl)) (r_ltd_ee (r_ix_pp (r_var rfl) (r_var rfl)) (r_ix_pp (r_var rfl) (r_sub_pp (r_var rfl) (r_k (a := (1 : Int)) rfl))))) (s_raiP rfl (a_cons (r_k (a := ("order" : Str)) rfl) (a_cons (r_var rfl) a_nil))) (s_nil (s_end (e_N ⟨_, rfl⟩)))))))))
def m_check_convoys_2 (arrivals_ : (List D)) (most_ : Int) (many_ : Int) : Res Unit :=
  (if (decide ((60 : Int) < (arrivals_.length : Int))) = true then (raiM "TooMany" ["what"] [enc ("boats" : Str)]) else ((rng1z (arrivals_.length : Int)).bind fun l => (forM (fun (a : Int) (s : Unit) => m_check_convoys_2_1b arrivals_ a) l ()).bind fun s3 => (if (!(isNum (enc most_) (1 : Int) (60 : Int))) = true then (raiM "PlanError" ["what", "place"] [enc ("boats in a convoy" : Str), enc (0 : Int)]) else (if (!(isNum (enc many_) (0 : Int) (60 : Int))) = true then (raiM "PlanError" ["what", "place"] [enc ("number of convoys" : Str), enc (0 : Int)]) else (.ok ())))))
theorem r_m_check_convoys_2 (arrivals_ : (List D)) (most_ : Int) (many_ : Int) : Ref (F__check_convoys [enc arrivals_, enc most_, enc many_]) (m_check_convoys_2 arrivals_ most_ many_) := f_body (ρ := [fz arrivals_, fz most_, fz many_, none]) rfl (show Sim 4 (RelF (α := Unit)) (G__check_convoys [fz arrivals_, fz most_, fz many_, none]) ((if (decide ((60 : Int) < (arrivals_.length : Int))) = true then (raiM "TooMany" ["what"] [enc ("boats" : Str)]) else ((rng1z (arrivals_.length : Int)).bind fun l => (forM (fun (a : Int) (s : Unit) => m_check_convoys_2_1b arrivals_ a) l ()).bind fun s3 => (if (!(isNum (enc most_) (1 : Int) (60 : Int))) = true then (raiM "PlanError" ["what", "place"] [enc ("boats in a convoy" : Str), enc (0 : Int)]) else (if (!(isNum (enc many_) (0 : Int) (60 : Int))) = true then (raiM "PlanError" ["what", "place"] [enc ("number of convoys" : Str), enc (0 : Int)]) else (.ok ())))))) from
  (s_last (s_asc (s_ifP rfl (r_gt_pp (r_len_p (r_var rfl)) (r_k (a := (60 : Int)) rfl)) (s_raiP rfl (a_cons (r_k (a := ("boats" : Str)) rfl) a_nil)) (s_nil (s_asc (s_for (R := (fun (s : Unit) (ρ : Rho) => ∃ j_at : Option LV, ρ = [fz arrivals_, fz most_, fz many_, j_at])) (by rintro s ρ ⟨_, rfl⟩; rfl) (i_rng1 (a_cons (r_len_p (r_var rfl)) a_nil)) ⟨_, rfl⟩ (by rintro a s ρ ⟨j_at, rfl⟩; exact ⟨[fz arrivals_, fz most_, fz many_, fz a], rfl, b_m_check_convoys_2_1b arrivals_ most_ many_ a⟩) (by rintro s3 ρ ⟨j_at, rfl⟩; exact (s_asc (s_ifP rfl (t_notP (t_isB (r_call (k_consP (r_var rfl) (k_consP (r_k (a := (1 : Int)) rfl) (k_consP (r_k (a := (60 : Int)) rfl) (k_nil (c_num _ _ _)))))))) (s_raiP rfl (a_cons (r_k (a := ("boats in a convoy" : Str)) rfl) (a_cons (r_k (a := (0 : Int)) rfl) a_nil))) (s_nil (s_ifP rfl (t_notP (t_isB (r_call (k_consP (r_var rfl) (k_consP (r_k (a := (0 : Int)) rfl) (k_consP (r_k (a := (60 : Int)) rfl) (k_nil (c_num _ _ _)))))))) (s_raiP rfl (a_cons (r_k (a := ("number of convoys" : Str)) rfl) (a_cons (r_k (a := (0 : Int)) rfl) a_nil))) (s_nil (s_end (e_F rfl)))))))))))))))
/-! ### _group_wait -/
def m_group_wait_2 (arrivals_ : (List D)) (start_ : Int) (end_ : Int) : Res Int :=
  (((Res.ok ((cut arrivals_ (some start_) (some end_)) : (List D))).bind fun l => lcG (fun (time_ : D) => (.ok true)) (fun (time_ : D) => (((ixN' arrivals_ (end_ - (1 : Int))).bind fun a => (Res.of (dSub (enc a) (enc time_)) : Res D)).bind fun d => (castD d : Res Int))) l).bind sumM)
theorem r_m_group_wait_2 (arrivals_ : (List D)) (start_ : Int) (end_ : Int) : Ref (F__group_wait [enc arrivals_, enc start_, enc end_]) (m_group_wait_2 arrivals_ start_ end_) := f_body (ρ := [fz arrivals_, fz start_, fz end_, none]) rfl (show Sim 4 (RelF (α := Int)) (G__group_wait [fz arrivals_, fz start_, fz end_, none]) ((((Res.ok ((cut arrivals_ (some start_) (some end_)) : (List D))).bind fun l => lcG (fun (time_ : D) => (.ok true)) (fun (time_ : D) => (((ixN' arrivals_ (end_ - (1 : Int))).bind fun a => (Res.of (dSub (enc a) (enc time_)) : Res D)).bind fun d => (castD d : Res Int))) l).bind sumM)) from
  (s_last (s_retF rfl (g_sum (gx_list (ρ' := [fz arrivals_, none, fz end_, none]) (ρ1 := fun (time_ : D) => [fz arrivals_, none, fz end_, fz time_]) (r_slc (r_var rfl) (q_some (r_var rfl)) (q_some (r_var rfl))) rfl (fun _ => rfl) (fun time_ => t_T) (fun time_ => (r_castE (r_subd_ep (r_ixn_pp (r_var rfl) (r_sub_pp (r_var rfl) (r_k (a := (1 : Int)) rfl))) (r_var rfl)))))))))
/-! ### _wait_table -/
def m_wait_table_2_1b_2b_1b (arrivals_ : (List D)) (before_ : (List (Option (Int × Int)))) (end_ : Int) (start_ : Int) (best_ : (Option (Int × Int))) : Res ((Option (Int × Int))) :=
  (((ix before_ start_).bind fun a => (.ok a.isSome)).bind fun k => if k = true then (((((ix before_ start_).bind unw).bind fun a => .ok a.1).bind fun a => ((m_group_wait_2 arrivals_ start_ end_).bind fun b => (.ok (a + b)))).bind fun wait_ => (((if best_.isNone = true then .ok true else (((unw best_).bind fun a => .ok a.1).bind fun b => (.ok (decide (wait_ < b))))).bind fun k => if k = true then (.ok (some (wait_, start_))) else (.ok best_)).bind fun best_ => (.ok best_))) else (.ok best_))
theorem b_m_wait_table_2_1b_2b_1b (arrivals_ : (List D)) (most_ : Int) (many_ : Int) (__ : Int) (table_ : (List (List (Option (Int × Int))))) (before_ : (List (Option (Int × Int)))) (row_ : (List (Option (Int × Int)))) (end_ : Int) (start_ : Int) (best_ : (Option (Int × Int))) {j_wait : Option LV} : Sim 11 (RelN (fun (s : (Option (Int × Int))) (ρ : Rho) => ∃ j_wait j_start : Option LV, ρ = [fz arrivals_, fz most_, fz many_, fz __, ow table_, fz before_, ow row_, fz end_, fz s, j_start, j_wait])) (g__wait_table_1b_2b_1b [fz arrivals_, fz most_, fz many_, fz __, ow table_, fz before_, ow row_, fz end_, fz best_, fz start_, j_wait]) (m_wait_table_2_1b_2b_1b arrivals_ before_ end_ start_ best_) := (show Sim 11 (RelN (fun (s : (Option (Int × Int))) (ρ : Rho) => ∃ j_wait j_start : Option LV, ρ = [fz arrivals_, fz most_, fz many_, fz __, ow table_, fz before_, ow row_, fz end_, fz s, j_start, j_wait])) (g__wait_table_1b_2b_1b [fz arrivals_, fz most_, fz many_, fz __, ow table_, fz before_, ow row_, fz end_, fz best_, fz start_, j_wait]) ((((ix before_ start_).bind fun a => (.ok a.isSome)).bind fun k => if k = true then (((((ix before_ start_).bind unw).bind fun a => .ok a.1).bind fun a => ((m_group_wait_2 arrivals_ start_ end_).bind fun b => (.ok (a + b)))).bind fun wait_ => (((if best_.isNone = true then .ok true else (((unw best_).bind fun a => .ok a.1).bind fun b => (.ok (decide (wait_ < b))))).bind fun k => if k = true then (.ok (some (wait_, start_))) else (.ok best_)).bind fun best_ => (.ok best_))) else (.ok best_))) from
  (s_last (s_if rfl (r_notn_ep (r_ix_pp (r_var rfl) (r_var rfl)) (r_k (a := ()) rfl)) (s_asc (s_asg (ρ' := fun (wait_ : Int) => [fz arrivals_, fz most_, fz many_, fz __, ow table_, fz before_, ow row_, fz end_, fz best_, fz start_, fz wait_]) rfl (r_add_ee (r_binXE (c := fun (a : (Int × Int)) => a.1) (r_unwE (r_ix_pp (r_var rfl) (r_var rfl))) (r_k (a := (0 : Int)) rfl) fun _ => rfl) (r_call (k_consP (r_var rfl) (k_consP (r_var rfl) (k_consP (r_var rfl) (k_nil (r_m_group_wait_2 _ _ _))))))) (fun _ => rfl) fun wait_ => (s_asg (ρ' := fun (best_ : (Option (Int × Int))) => [fz arrivals_, fz most_, fz many_, fz __, ow table_, fz before_, ow row_, fz end_, fz best_, fz start_, fz wait_]) rfl (r_if (t_orQ (r_isn_pp (r_var rfl) (r_k (a := ()) rfl)) (r_lt_pe (r_var rfl) (r_binXE (c := fun (a : (Int × Int)) => a.1) (r_unw (r_var rfl)) (r_k (a := (0 : Int)) rfl) fun _ => rfl))) (r_c (g := some) c_some (r_tup (k_consP (r_var rfl) (k_consP (r_var rfl) (k_nil (tk rfl rfl)))))) (r_var rfl)) (fun _ => rfl) fun best_ => (s_end (e_N ⟨_, _, rfl⟩))))) (s_nil (s_end (e_N ⟨_, _, rfl⟩))))))
def m_wait_table_2_1b_2b (arrivals_ : (List D)) (most_ : Int) (before_ : (List (Option (Int × Int)))) (end_ : Int) (row_ : (List (Option (Int × Int)))) : Res ((List (Option (Int × Int)))) :=
  ((Res.ok ((none : (Option (Int × Int))) : (Option (Int × Int)))).bind fun best_ => ((rng2z (max (0 : Int) (end_ - most_)) end_).bind fun l => (forM (fun (a : Int) (s : (Option (Int × Int))) => m_wait_table_2_1b_2b_1b arrivals_ before_ end_ a s) l best_).bind fun s3 => ((Res.ok (s3 : (Option (Int × Int)))).bind fun v => (app row_ v).bind fun row_ => (.ok row_))))
theorem b_m_wait_table_2_1b_2b (arrivals_ : (List D)) (most_ : Int) (many_ : Int) (__ : Int) (table_ : (List (List (Option (Int × Int))))) (before_ : (List (Option (Int × Int)))) (end_ : Int) (row_ : (List (Option (Int × Int)))) {j_best j_start j_wait : Option LV} : Sim 11 (RelN (fun (s : (List (Option (Int × Int)))) (ρ : Rho) => ∃ j_best j_start j_wait j_end : Option LV, ρ = [fz arrivals_, fz most_, fz many_, fz __, ow table_, fz before_, ow s, j_end, j_best, j_start, j_wait])) (g__wait_table_1b_2b [fz arrivals_, fz most_, fz many_, fz __, ow table_, fz before_, ow row_, fz end_, j_best, j_start, j_wait]) (m_wait_table_2_1b_2b arrivals_ most_ before_ end_ row_) := (show Sim 11 (RelN (fun (s : (List (Option (Int × Int)))) (ρ : Rho) => ∃ j_best j_start j_wait j_end : Option LV, ρ = [fz arrivals_, fz most_, fz many_, fz __, ow table_, fz before_, ow s, j_end, j_best, j_start, j_wait])) (g__wait_table_1b_2b [fz arrivals_, fz most_, fz many_, fz __, ow table_, fz before_, ow row_, fz end_, j_best, j_start, j_wait]) (((Res.ok ((none : (Option (Int × Int))) : (Option (Int × Int)))).bind fun best_ => ((rng2z (max (0 : Int) (end_ - most_)) end_).bind fun l => (forM (fun (a : Int) (s : (Option (Int × Int))) => m_wait_table_2_1b_2b_1b arrivals_ before_ end_ a s) l best_).bind fun s3 => ((Res.ok (s3 : (Option (Int × Int)))).bind fun v => (app row_ v).bind fun row_ => (.ok row_))))) from
  (s_last (s_asc (s_asg (ρ' := fun (best_ : (Option (Int × Int))) => [fz arrivals_, fz most_, fz many_, fz __, ow table_, fz before_, ow row_, fz end_, fz best_, j_start, j_wait]) rfl (r_c (g := (fun _ => (none : (Option (Int × Int))))) c_none (r_k (a := ()) rfl)) (fun _ => rfl) fun best_ => (s_asc (s_for (R := (fun (s : (Option (Int × Int))) (ρ : Rho) => ∃ j_wait j_start : Option LV, ρ = [fz arrivals_, fz most_, fz many_, fz __, ow table_, fz before_, ow row_, fz end_, fz s, j_start, j_wait])) (by rintro s ρ ⟨_, _, rfl⟩; rfl) (i_rng2 (a_cons (r_max2_pp (r_k (a := (0 : Int)) rfl) (r_sub_pp (r_var rfl) (r_var rfl))) (a_cons (r_var rfl) a_nil))) ⟨_, _, rfl⟩ (by rintro a s ρ ⟨j_wait, j_start, rfl⟩; exact ⟨[fz arrivals_, fz most_, fz many_, fz __, ow table_, fz before_, ow row_, fz end_, fz s, fz a, j_wait], rfl, b_m_wait_table_2_1b_2b_1b arrivals_ most_ many_ __ table_ before_ row_ end_ a s⟩) (by rintro s3 ρ ⟨j_wait, j_start, rfl⟩; exact (s_app (ρ' := fun (row_ : (List (Option (Int × Int)))) => [fz arrivals_, fz most_, fz many_, fz __, ow table_, fz before_, ow row_, fz end_, fz s3, j_start, j_wait]) rfl rfl (r_var rfl) (fun _ => rfl) fun row_ => (s_end (e_N ⟨_, _, _, _, rfl⟩))))))))))
def m_wait_table_2_1b (arrivals_ : (List D)) (most_ : Int) (__ : Int) (table_ : (List (List (Option (Int × Int))))) : Res ((List (List (Option (Int × Int))))) :=
  ((ix table_ (-(1 : Int))).bind fun before_ => ((Res.ok ((List.map some [((0 : Int), (0 : Int))]) : (List (Option (Int × Int))))).bind fun row_ => ((rng2z (1 : Int) ((arrivals_.length : Int) + (1 : Int))).bind fun l => (forM (fun (a : Int) (s : (List (Option (Int × Int)))) => m_wait_table_2_1b_2b arrivals_ most_ before_ a s) l row_).bind fun s4 => ((Res.ok (s4 : (List (Option (Int × Int))))).bind fun v => (app table_ v).bind fun table_ => (.ok table_)))))
theorem b_m_wait_table_2_1b (arrivals_ : (List D)) (most_ : Int) (many_ : Int) (__ : Int) (table_ : (List (List (Option (Int × Int))))) {j_before j_row j_end j_best j_start j_wait : Option LV} : Sim 11 (RelN (fun (s : (List (List (Option (Int × Int))))) (ρ : Rho) => ∃ j_before j_row j_end j_best j_start j_wait j__ : Option LV, ρ = [fz arrivals_, fz most_, fz many_, j__, ow s, j_before, j_row, j_end, j_best, j_start, j_wait])) (g__wait_table_1b [fz arrivals_, fz most_, fz many_, fz __, ow table_, j_before, j_row, j_end, j_best, j_start, j_wait]) (m_wait_table_2_1b arrivals_ most_ __ table_) := (show Sim 11 (RelN (fun (s : (List (List (Option (Int × Int))))) (ρ : Rho) => ∃ j_before j_row j_end j_best j_start j_wait j__ : Option LV, ρ = [fz arrivals_, fz most_, fz many_, j__, ow s, j_before, j_row, j_end, j_best, j_start, j_wait])) (g__wait_table_1b [fz arrivals_, fz most_, fz many_, fz __, ow table_, j_before, j_row, j_end, j_best, j_start, j_wait]) (((ix table_ (-(1 : Int))).bind fun before_ => ((Res.ok ((List.map some [((0 : Int), (0 : Int))]) : (List (Option (Int × Int))))).bind fun row_ => ((rng2z (1 : Int) ((arrivals_.length : Int) + (1 : Int))).bind fun l => (forM (fun (a : Int) (s : (List (Option (Int × Int)))) => m_wait_table_2_1b_2b arrivals_ most_ before_ a s) l row_).bind fun s4 => ((Res.ok (s4 : (List (Option (Int × Int))))).bind fun v => (app table_ v).bind fun table_ => (.ok table_)))))) from
  (s_last (s_asc (s_asg (ρ' := fun (before_ : (List (Option (Int × Int)))) => [fz arrivals_, fz most_, fz many_, fz __, ow table_, fz before_, j_row, j_end, j_best, j_start, j_wait]) rfl (r_ix_pp (r_varO rfl) (r_neg_p (r_k (a := (1 : Int)) rfl))) (fun _ => rfl) fun before_ => (s_asc (s_asgO (ρ' := fun (row_ : (List (Option (Int × Int)))) => [fz arrivals_, fz most_, fz many_, fz __, ow table_, fz before_, ow row_, j_end, j_best, j_start, j_wait]) rfl (rl_c (g := some) c_some (r_lst (k_consP (r_tup (k_consP (r_k (a := (0 : Int)) rfl) (k_consP (r_k (a := (0 : Int)) rfl) (k_nil (tk rfl rfl))))) (k_nil (lk (c := [((0 : Int), (0 : Int))]) rfl rfl))))) (fun _ => rfl) fun row_ => (s_asc (s_for (R := (fun (s : (List (Option (Int × Int)))) (ρ : Rho) => ∃ j_best j_start j_wait j_end : Option LV, ρ = [fz arrivals_, fz most_, fz many_, fz __, ow table_, fz before_, ow s, j_end, j_best, j_start, j_wait])) (by rintro s ρ ⟨_, _, _, _, rfl⟩; rfl) (i_rng2 (a_cons (r_k (a := (1 : Int)) rfl) (a_cons (r_add_pp (r_len_p (r_var rfl)) (r_k (a := (1 : Int)) rfl)) a_nil))) ⟨_, _, _, _, rfl⟩ (by rintro a s ρ ⟨j_best, j_start, j_wait, j_end, rfl⟩; exact ⟨[fz arrivals_, fz most_, fz many_, fz __, ow table_, fz before_, ow s, fz a, j_best, j_start, j_wait], rfl, b_m_wait_table_2_1b_2b arrivals_ most_ many_ __ table_ before_ a s⟩) (by rintro s4 ρ ⟨j_best, j_start, j_wait, j_end, rfl⟩; exact (s_frz (ρ2 := [fz arrivals_, fz most_, fz many_, fz __, ow table_, fz before_, fz s4, j_end, j_best, j_start, j_wait]) rfl (s_app (ρ' := fun (table_ : (List (List (Option (Int × Int))))) => [fz arrivals_, fz most_, fz many_, fz __, ow table_, fz before_, fz s4, j_end, j_best, j_start, j_wait]) rfl rfl (r_var rfl) (fun _ => rfl) fun table_ => (s_end (e_N ⟨_, _, _, _, _, _, _, rfl⟩)))))))))))))
def m_wait_table_2 (arrivals_ : (List D)) (most_ : Int) (many_ : Int) : Res (List (List (Option (Int × Int)))) :=
  (((((lcM arrivals_ (fun (__ : D) => (.ok true)) (fun (__ : D) => (.ok ()))).bind fun a => .ok ((fun l => List.map (fun _ => (none : (Option (Int × Int)))) l) a)).bind fun b => (cat (List.map some [((0 : Int), (0 : Int))]) b)).bind fun a2 => (.ok [a2])).bind fun table_ => ((rng1z many_).bind fun l => (forM (fun (a : Int) (s : (List (List (Option (Int × Int))))) => m_wait_table_2_1b arrivals_ most_ a s) l table_).bind fun s5 => (.ok s5)))
theorem r_m_wait_table_2 (arrivals_ : (List D)) (most_ : Int) (many_ : Int) : Ref (F__wait_table [enc arrivals_, enc most_, enc many_]) (m_wait_table_2 arrivals_ most_ many_) := f_body (ρ := [fz arrivals_, fz most_, fz many_, none, none, none, none, none, none, none, none]) rfl (show Sim 11 (RelF (α := (List (List (Option (Int × Int)))))) (G__wait_table [fz arrivals_, fz most_, fz many_, none, none, none, none, none, none, none, none]) ((((((lcM arrivals_ (fun (__ : D) => (.ok true)) (fun (__ : D) => (.ok ()))).bind fun a => .ok ((fun l => List.map (fun _ => (none : (Option (Int × Int)))) l) a)).bind fun b => (cat (List.map some [((0 : Int), (0 : Int))]) b)).bind fun a2 => (.ok [a2])).bind fun table_ => ((rng1z many_).bind fun l => (forM (fun (a : Int) (s : (List (List (Option (Int × Int))))) => m_wait_table_2_1b arrivals_ most_ a s) l table_).bind fun s5 => (.ok s5)))) from
  (s_last (s_asc (s_asgO (ρ' := fun (table_ : (List (List (Option (Int × Int))))) => [fz arrivals_, fz most_, fz many_, none, ow table_, none, none, none, none, none, none]) rfl (r_lst (k_cons (r_addl_pe (r_c (g := (fun l => List.map some l)) (c_list c_some) (r_vO (r_lst (k_consP (r_tup (k_consP (r_k (a := (0 : Int)) rfl) (k_consP (r_k (a := (0 : Int)) rfl) (k_nil (tk rfl rfl))))) (k_nil (lk (c := [((0 : Int), (0 : Int))]) rfl rfl)))))) (r_cE (fun l => List.map (fun _ => (none : (Option (Int × Int)))) l) (c_list c_none) (r_vO (rl_lcP (ρ' := [fz arrivals_, fz most_, fz many_, none, none, none, none, none, none, none, none]) (ρ1 := fun (__ : D) => [fz arrivals_, fz most_, fz many_, fz __, none, none, none, none, none, none, none]) (i_list (r_var rfl)) rfl (fun _ => rfl) (fun __ => t_T) (fun __ => (r_k (a := ()) rfl)))))) fun a2 => (k_nil (lk (c := [a2]) rfl rfl)))) (fun _ => rfl) fun table_ => (s_asc (s_for (R := (fun (s : (List (List (Option (Int × Int))))) (ρ : Rho) => ∃ j_before j_row j_end j_best j_start j_wait j__ : Option LV, ρ = [fz arrivals_, fz most_, fz many_, j__, ow s, j_before, j_row, j_end, j_best, j_start, j_wait])) (by rintro s ρ ⟨_, _, _, _, _, _, _, rfl⟩; rfl) (i_rng1 (a_cons (r_var rfl) a_nil)) ⟨_, _, _, _, _, _, _, rfl⟩ (by rintro a s ρ ⟨j_before, j_row, j_end, j_best, j_start, j_wait, j__, rfl⟩; exact ⟨[fz arrivals_, fz most_, fz many_, fz a, ow s, j_before, j_row, j_end, j_best, j_start, j_wait], rfl, b_m_wait_table_2_1b arrivals_ most_ many_ a s⟩) (by rintro s5 ρ ⟨j_before, j_row, j_end, j_best, j_start, j_wait, j__, rfl⟩; exact (s_frz (ρ2 := [fz arrivals_, fz most_, fz many_, j__, fz s5, j_before, j_row, j_end, j_best, j_start, j_wait]) rfl (s_retF rfl (r_var rfl))))))))))
/-! ### least_convoy_wait -/
def m_least_convoy_wait_2 (arrivals_ : (List D)) (most_ : Int) (many_ : Int) : Res (Option Int) :=
  ((m_check_convoys_2 arrivals_ most_ many_).bind fun _ => (((m_wait_table_2 arrivals_ most_ many_).bind fun l => (lcM l (fun (row_ : (List (Option (Int × Int)))) => ((ix row_ (-(1 : Int))).bind fun a => (.ok a.isSome))) (fun (row_ : (List (Option (Int × Int)))) => (((ix row_ (-(1 : Int))).bind unw).bind fun a => .ok a.1)))).bind fun waits_ => (minNo waits_ ())))
theorem r_m_least_convoy_wait_2 (arrivals_ : (List D)) (most_ : Int) (many_ : Int) : Ref (F_least_convoy_wait [enc arrivals_, enc most_, enc many_]) (m_least_convoy_wait_2 arrivals_ most_ many_) := f_body (ρ := [fz arrivals_, fz most_, fz many_, none, none]) rfl (show Sim 5 (RelF (α := (Option Int))) (G_least_convoy_wait [fz arrivals_, fz most_, fz many_, none, none]) (((m_check_convoys_2 arrivals_ most_ many_).bind fun _ => (((m_wait_table_2 arrivals_ most_ many_).bind fun l => (lcM l (fun (row_ : (List (Option (Int × Int)))) => ((ix row_ (-(1 : Int))).bind fun a => (.ok a.isSome))) (fun (row_ : (List (Option (Int × Int)))) => (((ix row_ (-(1 : Int))).bind unw).bind fun a => .ok a.1)))).bind fun waits_ => (minNo waits_ ())))) from
  (s_last (s_asc (s_exp rfl (r_call (k_consP (r_var rfl) (k_consP (r_var rfl) (k_consP (r_var rfl) (k_nil (r_m_check_convoys_2 _ _ _)))))) (s_asc (s_asg (ρ' := fun (waits_ : (List Int)) => [fz arrivals_, fz most_, fz many_, fz waits_, none]) rfl (r_vO (rl_lc (ρ' := [fz arrivals_, fz most_, fz many_, none, none]) (ρ1 := fun (row_ : (List (Option (Int × Int)))) => [fz arrivals_, fz most_, fz many_, none, fz row_]) (i_list (r_call (k_consP (r_var rfl) (k_consP (r_var rfl) (k_consP (r_var rfl) (k_nil (r_m_wait_table_2 _ _ _))))))) rfl (fun _ => rfl) (fun row_ => (r_notn_ep (r_ix_pp (r_var rfl) (r_neg_p (r_k (a := (1 : Int)) rfl))) (r_k (a := ()) rfl))) (fun row_ => (r_binXE (c := fun (a : (Int × Int)) => a.1) (r_unwE (r_ix_pp (r_var rfl) (r_neg_p (r_k (a := (1 : Int)) rfl)))) (r_k (a := (0 : Int)) rfl) fun _ => rfl)))) (fun _ => rfl) fun waits_ => (s_retF rfl (r_minno_pp (r_var rfl) (r_k (a := ()) rfl)))))))))
/-! ### convoy_plan -/
def m_convoy_plan_2_c_9 (sizes_ : (List Int)) : Res (Option (List Int)) :=
  (.ok (some sizes_))
theorem t_m_convoy_plan_2_c_9 (sizes_ : (List Int)) {j_arrivals j_most j_many j_table j_best j_used j_end j_start : Option LV} : Sim 9 (RelF (α := (Option (List Int)))) (g_convoy_plan_9 [j_arrivals, j_most, j_many, j_table, j_best, j_used, fz sizes_, j_end, j_start]) (m_convoy_plan_2_c_9 sizes_) := (show Sim 9 (RelF (α := (Option (List Int)))) (g_convoy_plan_9 [j_arrivals, j_most, j_many, j_table, j_best, j_used, fz sizes_, j_end, j_start]) ((.ok (some sizes_))) from
  (s_last (s_retF rfl (r_c (g := some) c_some (r_var rfl)))))
def m_convoy_plan_2_8b (table_ : (List (List (Option (Int × Int)))))  (sizes_ : (List Int)) (end_ : Int) (used_ : Int) : Res (((List Int) × Int × Int)) :=
  (((((ix table_ used_).bind fun a => (ix a end_)).bind unw).bind fun a => .ok a.2).bind fun start_ => ((cat [(end_ - start_)] sizes_).bind fun sizes_ => ((Res.ok (start_ : Int)).bind fun end_ => ((Res.ok ((used_ - (1 : Int)) : Int)).bind fun used_ => (.ok (sizes_, end_, used_))))))
theorem b_m_convoy_plan_2_8b (table_ : (List (List (Option (Int × Int)))))  (sizes_ : (List Int)) (end_ : Int) (used_ : Int) {j_start : Option LV} : Sim 9 (RelN (fun (s : ((List Int) × Int × Int)) (ρ : Rho) => ∃ j_start : Option LV, ρ = [j_arrivals, j_most, j_many, fz table_, j_best, fz s.2.2, fz s.1, fz s.2.1, j_start])) (g_convoy_plan_8b [j_arrivals, j_most, j_many, fz table_, j_best, fz used_, fz sizes_, fz end_, j_start]) (m_convoy_plan_2_8b table_ sizes_ end_ used_) := (show Sim 9 (RelN (fun (s : ((List Int) × Int × Int)) (ρ : Rho) => ∃ j_start : Option LV, ρ = [j_arrivals, j_most, j_many, fz table_, j_best, fz s.2.2, fz s.1, fz s.2.1, j_start])) (g_convoy_plan_8b [j_arrivals, j_most, j_many, fz table_, j_best, fz used_, fz sizes_, fz end_, j_start]) ((((((ix table_ used_).bind fun a => (ix a end_)).bind unw).bind fun a => .ok a.2).bind fun start_ => ((cat [(end_ - start_)] sizes_).bind fun sizes_ => ((Res.ok (start_ : Int)).bind fun end_ => ((Res.ok ((used_ - (1 : Int)) : Int)).bind fun used_ => (.ok (sizes_, end_, used_))))))) from
  (s_last (s_asc (s_asg (ρ' := fun (start_ : Int) => [j_arrivals, j_most, j_many, fz table_, j_best, fz used_, fz sizes_, fz end_, fz start_]) rfl (r_binXE (c := fun (a : (Int × Int)) => a.2) (r_unwE (r_ix_ep (r_ix_pp (r_var rfl) (r_var rfl)) (r_var rfl))) (r_k (a := (1 : Int)) rfl) fun _ => rfl) (fun _ => rfl) fun start_ => (s_asc (s_asg (ρ' := fun (sizes_ : (List Int)) => [j_arrivals, j_most, j_many, fz table_, j_best, fz used_, fz sizes_, fz end_, fz start_]) rfl (r_addl_pp (r_vO (r_lst (k_consP (r_sub_pp (r_var rfl) (r_var rfl)) (k_nil (lk (c := [(end_ - start_)]) rfl rfl))))) (r_var rfl)) (fun _ => rfl) fun sizes_ => (s_asc (s_asg (ρ' := fun (end_ : Int) => [j_arrivals, j_most, j_many, fz table_, j_best, fz used_, fz sizes_, fz end_, fz start_]) rfl (r_var rfl) (fun _ => rfl) fun end_ => (s_aug (ρ' := fun (used_ : Int) => [j_arrivals, j_most, j_many, fz table_, j_best, fz used_, fz sizes_, fz end_, fz start_]) rfl (r_sub_pp (r_var rfl) (r_k (a := (1 : Int)) rfl)) (fun _ => rfl) fun used_ => (s_end (e_N ⟨_, rfl⟩)))))))))))
def m_convoy_plan_2_c_8 (table_ : (List (List (Option (Int × Int))))) (used_ : Int) (sizes_ : (List Int)) (end_ : Int) : Res (Option (List Int)) :=
  ((whlM (fun (s : ((List Int) × Int × Int)) => (.ok (decide ((0 : Int) < s.2.2)))) (fun (s : ((List Int) × Int × Int)) => m_convoy_plan_2_8b table_ s.1 s.2.1 s.2.2) 10000 (sizes_, end_, used_)).bind fun s2 => (m_convoy_plan_2_c_9 s2.1))
theorem t_m_convoy_plan_2_c_8 (table_ : (List (List (Option (Int × Int))))) (used_ : Int) (sizes_ : (List Int)) (end_ : Int) {j_arrivals j_most j_many j_best j_start : Option LV} : Sim 9 (RelF (α := (Option (List Int)))) ((seqS g_convoy_plan_8 g_convoy_plan_9) [j_arrivals, j_most, j_many, fz table_, j_best, fz used_, fz sizes_, fz end_, j_start]) (m_convoy_plan_2_c_8 table_ used_ sizes_ end_) := (show Sim 9 (RelF (α := (Option (List Int)))) ((seqS g_convoy_plan_8 g_convoy_plan_9) [j_arrivals, j_most, j_many, fz table_, j_best, fz used_, fz sizes_, fz end_, j_start]) (((whlM (fun (s : ((List Int) × Int × Int)) => (.ok (decide ((0 : Int) < s.2.2)))) (fun (s : ((List Int) × Int × Int)) => m_convoy_plan_2_8b table_ s.1 s.2.1 s.2.2) 10000 (sizes_, end_, used_)).bind fun s2 => (m_convoy_plan_2_c_9 s2.1))) from
  (s_last (s_asc (s_whl (R := (fun (s : ((List Int) × Int × Int)) (ρ : Rho) => ∃ j_start : Option LV, ρ = [j_arrivals, j_most, j_many, fz table_, j_best, fz s.2.2, fz s.1, fz s.2.1, j_start])) (by rintro s ρ ⟨_, rfl⟩; rfl) ⟨_, rfl⟩ (by rintro s ρ ⟨j_start, rfl⟩; exact (r_gt_pp (r_var rfl) (r_k (a := (0 : Int)) rfl))) (by rintro s ρ ⟨j_start, rfl⟩; exact b_m_convoy_plan_2_8b table_ s.1 s.2.1 s.2.2) (by rintro s2 ρ ⟨j_start, rfl⟩; exact (s_tryN (t_m_convoy_plan_2_c_9 s2.1)))))))
def m_convoy_plan_2_c_7 (arrivals_ : (List D)) (table_ : (List (List (Option (Int × Int))))) (used_ : Int) (sizes_ : (List Int)) : Res (Option (List Int)) :=
  ((Res.ok ((arrivals_.length : Int) : Int)).bind fun end_ => (m_convoy_plan_2_c_8 table_ used_ sizes_ end_))
theorem t_m_convoy_plan_2_c_7 (arrivals_ : (List D)) (table_ : (List (List (Option (Int × Int))))) (used_ : Int) (sizes_ : (List Int)) {j_most j_many j_best j_end j_start : Option LV} : Sim 9 (RelF (α := (Option (List Int)))) ((seqS g_convoy_plan_7 (seqS g_convoy_plan_8 g_convoy_plan_9)) [fz arrivals_, j_most, j_many, fz table_, j_best, fz used_, fz sizes_, j_end, j_start]) (m_convoy_plan_2_c_7 arrivals_ table_ used_ sizes_) := (show Sim 9 (RelF (α := (Option (List Int)))) ((seqS g_convoy_plan_7 (seqS g_convoy_plan_8 g_convoy_plan_9)) [fz arrivals_, j_most, j_many, fz table_, j_best, fz used_, fz sizes_, j_end, j_start]) (((Res.ok ((arrivals_.length : Int) : Int)).bind fun end_ => (m_convoy_plan_2_c_8 table_ used_ sizes_ end_))) from
  (s_last (s_asc (s_asg (ρ' := fun (end_ : Int) => [fz arrivals_, j_most, j_many, fz table_, j_best, fz used_, fz sizes_, fz end_, j_start]) rfl (r_len_p (r_var rfl)) (fun _ => rfl) fun end_ => (s_tryN (t_m_convoy_plan_2_c_8 table_ used_ sizes_ end_))))))
def m_convoy_plan_2_c_6 (arrivals_ : (List D)) (table_ : (List (List (Option (Int × Int))))) (used_ : Int) : Res (Option (List Int)) :=
  ((Res.ok (([] : List Int) : (List Int))).bind fun sizes_ => (m_convoy_plan_2_c_7 arrivals_ table_ used_ sizes_))
theorem t_m_convoy_plan_2_c_6 (arrivals_ : (List D)) (table_ : (List (List (Option (Int × Int))))) (used_ : Int) {j_most j_many j_best j_sizes j_end j_start : Option LV} : Sim 9 (RelF (α := (Option (List Int)))) ((seqS g_convoy_plan_6 (seqS g_convoy_plan_7 (seqS g_convoy_plan_8 g_convoy_plan_9))) [fz arrivals_, j_most, j_many, fz table_, j_best, fz used_, j_sizes, j_end, j_start]) (m_convoy_plan_2_c_6 arrivals_ table_ used_) := (show Sim 9 (RelF (α := (Option (List Int)))) ((seqS g_convoy_plan_6 (seqS g_convoy_plan_7 (seqS g_convoy_plan_8 g_convoy_plan_9))) [fz arrivals_, j_most, j_many, fz table_, j_best, fz used_, j_sizes, j_end, j_start]) (((Res.ok (([] : List Int) : (List Int))).bind fun sizes_ => (m_convoy_plan_2_c_7 arrivals_ table_ used_ sizes_))) from
  (s_last (s_asc (s_asg (ρ' := fun (sizes_ : (List Int)) => [fz arrivals_, j_most, j_many, fz table_, j_best, fz used_, fz sizes_, j_end, j_start]) rfl (r_vO (r_lst (k_nil (lk (c := []) rfl rfl)))) (fun _ => rfl) fun sizes_ => (s_tryN (t_m_convoy_plan_2_c_7 arrivals_ table_ used_ sizes_))))))
def m_convoy_plan_2_5b (table_ : (List (List (Option (Int × Int))))) (best_ : (Option Int))  (used_ : Int) : Res (Int) :=
  ((Res.ok ((used_ + (1 : Int)) : Int)).bind fun used_ => (.ok used_))
theorem b_m_convoy_plan_2_5b (arrivals_ : (List D)) (table_ : (List (List (Option (Int × Int))))) (best_ : (Option Int))  (used_ : Int)  : Sim 9 (RelN (fun (s : Int) (ρ : Rho) => ρ = [fz arrivals_, j_most, j_many, fz table_, fz best_, fz s, j_sizes, j_end, j_start])) (g_convoy_plan_5b [fz arrivals_, j_most, j_many, fz table_, fz best_, fz used_, j_sizes, j_end, j_start]) (m_convoy_plan_2_5b table_ best_ used_) := (show Sim 9 (RelN (fun (s : Int) (ρ : Rho) => ρ = [fz arrivals_, j_most, j_many, fz table_, fz best_, fz s, j_sizes, j_end, j_start])) (g_convoy_plan_5b [fz arrivals_, j_most, j_many, fz table_, fz best_, fz used_, j_sizes, j_end, j_start]) (((Res.ok ((used_ + (1 : Int)) : Int)).bind fun used_ => (.ok used_))) from
  (s_last (s_aug (ρ' := fun (used_ : Int) => [fz arrivals_, j_most, j_many, fz table_, fz best_, fz used_, j_sizes, j_end, j_start]) rfl (r_addi_pp (r_var rfl) (r_k (a := (1 : Int)) rfl)) (fun _ => rfl) fun used_ => (s_end (e_N rfl)))))
def m_convoy_plan_2_c_5 (arrivals_ : (List D)) (table_ : (List (List (Option (Int × Int))))) (best_ : (Option Int)) (used_ : Int) : Res (Option (List Int)) :=
  ((whlM (fun (s : Int) => ((((ix table_ s).bind fun a => (ix a (-(1 : Int)))).bind fun a => (.ok a.isNone)).bind fun k => if k = true then .ok true else ((((((ix table_ s).bind fun a => (ix a (-(1 : Int)))).bind unw).bind fun a => .ok a.1).bind fun a => .ok (some a)).bind fun a => (.ok (!decide (a = best_)))))) (fun (s : Int) => m_convoy_plan_2_5b table_ best_ s) 10000 used_).bind fun s1 => (m_convoy_plan_2_c_6 arrivals_ table_ s1))
theorem t_m_convoy_plan_2_c_5 (arrivals_ : (List D)) (table_ : (List (List (Option (Int × Int))))) (best_ : (Option Int)) (used_ : Int) {j_most j_many j_sizes j_end j_start : Option LV} : Sim 9 (RelF (α := (Option (List Int)))) ((seqS g_convoy_plan_5 (seqS g_convoy_plan_6 (seqS g_convoy_plan_7 (seqS g_convoy_plan_8 g_convoy_plan_9)))) [fz arrivals_, j_most, j_many, fz table_, fz best_, fz used_, j_sizes, j_end, j_start]) (m_convoy_plan_2_c_5 arrivals_ table_ best_ used_) := (show Sim 9 (RelF (α := (Option (List Int)))) ((seqS g_convoy_plan_5 (seqS g_convoy_plan_6 (seqS g_convoy_plan_7 (seqS g_convoy_plan_8 g_convoy_plan_9)))) [fz arrivals_, j_most, j_many, fz table_, fz best_, fz used_, j_sizes, j_end, j_start]) (((whlM (fun (s : Int) => ((((ix table_ s).bind fun a => (ix a (-(1 : Int)))).bind fun a => (.ok a.isNone)).bind fun k => if k = true then .ok true else ((((((ix table_ s).bind fun a => (ix a (-(1 : Int)))).bind unw).bind fun a => .ok a.1).bind fun a => .ok (some a)).bind fun a => (.ok (!decide (a = best_)))))) (fun (s : Int) => m_convoy_plan_2_5b table_ best_ s) 10000 used_).bind fun s1 => (m_convoy_plan_2_c_6 arrivals_ table_ s1))) from
  (s_last (s_asc (s_whl (R := (fun (s : Int) (ρ : Rho) => ρ = [fz arrivals_, j_most, j_many, fz table_, fz best_, fz s, j_sizes, j_end, j_start])) (by rintro s ρ rfl; rfl) rfl (by rintro s ρ rfl; exact (t_or (r_isn_ep (r_ix_ep (r_ix_pp (r_var rfl) (r_var rfl)) (r_neg_p (r_k (a := (1 : Int)) rfl))) (r_k (a := ()) rfl)) (r_net_ep (by decide) (r_cE some c_some (r_binXE (c := fun (a : (Int × Int)) => a.1) (r_unwE (r_ix_ep (r_ix_pp (r_var rfl) (r_var rfl)) (r_neg_p (r_k (a := (1 : Int)) rfl)))) (r_k (a := (0 : Int)) rfl) fun _ => rfl)) (r_var rfl)))) (by rintro s ρ rfl; exact b_m_convoy_plan_2_5b arrivals_ table_ best_ s) (by rintro s1 ρ rfl; exact (s_tryN (t_m_convoy_plan_2_c_6 arrivals_ table_ s1)))))))
def m_convoy_plan_2_c_4 (arrivals_ : (List D)) (table_ : (List (List (Option (Int × Int))))) (best_ : (Option Int)) : Res (Option (List Int)) :=
  ((Res.ok ((0 : Int) : Int)).bind fun used_ => (m_convoy_plan_2_c_5 arrivals_ table_ best_ used_))
theorem t_m_convoy_plan_2_c_4 (arrivals_ : (List D)) (table_ : (List (List (Option (Int × Int))))) (best_ : (Option Int)) {j_most j_many j_used j_sizes j_end j_start : Option LV} : Sim 9 (RelF (α := (Option (List Int)))) ((seqS g_convoy_plan_4 (seqS g_convoy_plan_5 (seqS g_convoy_plan_6 (seqS g_convoy_plan_7 (seqS g_convoy_plan_8 g_convoy_plan_9))))) [fz arrivals_, j_most, j_many, fz table_, fz best_, j_used, j_sizes, j_end, j_start]) (m_convoy_plan_2_c_4 arrivals_ table_ best_) := (show Sim 9 (RelF (α := (Option (List Int)))) ((seqS g_convoy_plan_4 (seqS g_convoy_plan_5 (seqS g_convoy_plan_6 (seqS g_convoy_plan_7 (seqS g_convoy_plan_8 g_convoy_plan_9))))) [fz arrivals_, j_most, j_many, fz table_, fz best_, j_used, j_sizes, j_end, j_start]) (((Res.ok ((0 : Int) : Int)).bind fun used_ => (m_convoy_plan_2_c_5 arrivals_ table_ best_ used_))) from
  (s_last (s_asc (s_asg (ρ' := fun (used_ : Int) => [fz arrivals_, j_most, j_many, fz table_, fz best_, fz used_, j_sizes, j_end, j_start]) rfl (r_k (a := (0 : Int)) rfl) (fun _ => rfl) fun used_ => (s_tryN (t_m_convoy_plan_2_c_5 arrivals_ table_ best_ used_))))))
def m_convoy_plan_2_c_3 (arrivals_ : (List D)) (table_ : (List (List (Option (Int × Int))))) (best_ : (Option Int)) : Res (Option (List Int)) :=
  (if best_.isNone = true then (.ok (none : (Option (List Int)))) else (m_convoy_plan_2_c_4 arrivals_ table_ best_))
theorem t_m_convoy_plan_2_c_3 (arrivals_ : (List D)) (table_ : (List (List (Option (Int × Int))))) (best_ : (Option Int)) {j_most j_many j_used j_sizes j_end j_start : Option LV} : Sim 9 (RelF (α := (Option (List Int)))) ((seqS g_convoy_plan_3 (seqS g_convoy_plan_4 (seqS g_convoy_plan_5 (seqS g_convoy_plan_6 (seqS g_convoy_plan_7 (seqS g_convoy_plan_8 g_convoy_plan_9)))))) [fz arrivals_, j_most, j_many, fz table_, fz best_, j_used, j_sizes, j_end, j_start]) (m_convoy_plan_2_c_3 arrivals_ table_ best_) := (show Sim 9 (RelF (α := (Option (List Int)))) ((seqS g_convoy_plan_3 (seqS g_convoy_plan_4 (seqS g_convoy_plan_5 (seqS g_convoy_plan_6 (seqS g_convoy_plan_7 (seqS g_convoy_plan_8 g_convoy_plan_9)))))) [fz arrivals_, j_most, j_many, fz table_, fz best_, j_used, j_sizes, j_end, j_start]) ((if best_.isNone = true then (.ok (none : (Option (List Int)))) else (m_convoy_plan_2_c_4 arrivals_ table_ best_))) from
  (s_last (s_asc (s_ifP rfl (r_isn_pp (r_var rfl) (r_k (a := ()) rfl)) (s_retF rfl (r_c (g := (fun _ => (none : (Option (List Int))))) c_none (r_k (a := ()) rfl))) (s_nil (s_tryN (t_m_convoy_plan_2_c_4 arrivals_ table_ best_)))))))
def m_convoy_plan_2_c_2 (arrivals_ : (List D)) (most_ : Int) (many_ : Int) (table_ : (List (List (Option (Int × Int))))) : Res (Option (List Int)) :=
  ((m_least_convoy_wait_2 arrivals_ most_ many_).bind fun best_ => (m_convoy_plan_2_c_3 arrivals_ table_ best_))
theorem t_m_convoy_plan_2_c_2 (arrivals_ : (List D)) (most_ : Int) (many_ : Int) (table_ : (List (List (Option (Int × Int))))) {j_best j_used j_sizes j_end j_start : Option LV} : Sim 9 (RelF (α := (Option (List Int)))) ((seqS g_convoy_plan_2 (seqS g_convoy_plan_3 (seqS g_convoy_plan_4 (seqS g_convoy_plan_5 (seqS g_convoy_plan_6 (seqS g_convoy_plan_7 (seqS g_convoy_plan_8 g_convoy_plan_9))))))) [fz arrivals_, fz most_, fz many_, fz table_, j_best, j_used, j_sizes, j_end, j_start]) (m_convoy_plan_2_c_2 arrivals_ most_ many_ table_) := (show Sim 9 (RelF (α := (Option (List Int)))) ((seqS g_convoy_plan_2 (seqS g_convoy_plan_3 (seqS g_convoy_plan_4 (seqS g_convoy_plan_5 (seqS g_convoy_plan_6 (seqS g_convoy_plan_7 (seqS g_convoy_plan_8 g_convoy_plan_9))))))) [fz arrivals_, fz most_, fz many_, fz table_, j_best, j_used, j_sizes, j_end, j_start]) (((m_least_convoy_wait_2 arrivals_ most_ many_).bind fun best_ => (m_convoy_plan_2_c_3 arrivals_ table_ best_))) from
  (s_last (s_asc (s_asg (ρ' := fun (best_ : (Option Int)) => [fz arrivals_, fz most_, fz many_, fz table_, fz best_, j_used, j_sizes, j_end, j_start]) rfl (r_call (k_consP (r_var rfl) (k_consP (r_var rfl) (k_consP (r_var rfl) (k_nil (r_m_least_convoy_wait_2 _ _ _)))))) (fun _ => rfl) fun best_ => (s_tryN (t_m_convoy_plan_2_c_3 arrivals_ table_ best_))))))
def m_convoy_plan_2_c_1 (arrivals_ : (List D)) (most_ : Int) (many_ : Int) : Res (Option (List Int)) :=
  ((m_wait_table_2 arrivals_ most_ many_).bind fun table_ => (m_convoy_plan_2_c_2 arrivals_ most_ many_ table_))
theorem t_m_convoy_plan_2_c_1 (arrivals_ : (List D)) (most_ : Int) (many_ : Int) {j_table j_best j_used j_sizes j_end j_start : Option LV} : Sim 9 (RelF (α := (Option (List Int)))) ((seqS g_convoy_plan_1 (seqS g_convoy_plan_2 (seqS g_convoy_plan_3 (seqS g_convoy_plan_4 (seqS g_convoy_plan_5 (seqS g_convoy_plan_6 (seqS g_convoy_plan_7 (seqS g_convoy_plan_8 g_convoy_plan_9)))))))) [fz arrivals_, fz most_, fz many_, j_table, j_best, j_used, j_sizes, j_end, j_start]) (m_convoy_plan_2_c_1 arrivals_ most_ many_) := (show Sim 9 (RelF (α := (Option (List Int)))) ((seqS g_convoy_plan_1 (seqS g_convoy_plan_2 (seqS g_convoy_plan_3 (seqS g_convoy_plan_4 (seqS g_convoy_plan_5 (seqS g_convoy_plan_6 (seqS g_convoy_plan_7 (seqS g_convoy_plan_8 g_convoy_plan_9)))))))) [fz arrivals_, fz most_, fz many_, j_table, j_best, j_used, j_sizes, j_end, j_start]) (((m_wait_table_2 arrivals_ most_ many_).bind fun table_ => (m_convoy_plan_2_c_2 arrivals_ most_ many_ table_))) from
  (s_last (s_asc (s_asg (ρ' := fun (table_ : (List (List (Option (Int × Int))))) => [fz arrivals_, fz most_, fz many_, fz table_, j_best, j_used, j_sizes, j_end, j_start]) rfl (r_call (k_consP (r_var rfl) (k_consP (r_var rfl) (k_consP (r_var rfl) (k_nil (r_m_wait_table_2 _ _ _)))))) (fun _ => rfl) fun table_ => (s_tryN (t_m_convoy_plan_2_c_2 arrivals_ most_ many_ table_))))))
def m_convoy_plan_2 (arrivals_ : (List D)) (most_ : Int) (many_ : Int) : Res (Option (List Int)) :=
  ((m_check_convoys_2 arrivals_ most_ many_).bind fun _ => (m_convoy_plan_2_c_1 arrivals_ most_ many_))
theorem r_m_convoy_plan_2 (arrivals_ : (List D)) (most_ : Int) (many_ : Int) : Ref (F_convoy_plan [enc arrivals_, enc most_, enc many_]) (m_convoy_plan_2 arrivals_ most_ many_) := f_body (ρ := [fz arrivals_, fz most_, fz many_, none, none, none, none, none, none]) rfl (show Sim 9 (RelF (α := (Option (List Int)))) (G_convoy_plan [fz arrivals_, fz most_, fz many_, none, none, none, none, none, none]) (((m_check_convoys_2 arrivals_ most_ many_).bind fun _ => (m_convoy_plan_2_c_1 arrivals_ most_ many_))) from
  (s_last (s_asc (s_exp rfl (r_call (k_consP (r_var rfl) (k_consP (r_var rfl) (k_consP (r_var rfl) (k_nil (r_m_check_convoys_2 _ _ _)))))) (s_tryN (t_m_convoy_plan_2_c_1 arrivals_ most_ many_))))))
/-! ### fewest_convoys -/
def m_fewest_convoys_2_4b (arrivals_ : (List D)) (most_ : Int) (longest_ : Int) (at_ : Int) (sizes_ : (List Int)) (first_ : Int) : Res (((List Int) × Int)) :=
  (((if (decide ((sizes_.length : Int) = (0 : Int))) = true then .ok true else (((ix sizes_ (-(1 : Int))).bind fun a => (.ok (decide (a = most_)))).bind fun k => if k = true then .ok true else (((ix arrivals_ at_).bind fun a => ((ix arrivals_ first_).bind fun b => (Res.of (dSub (enc a) (enc b)) : Res D))).bind fun a => (Res.of (dGt (enc a) (enc longest_)))))).bind fun k => (if k = true then ((Res.ok ((0 : Int) : Int)).bind fun v => (app sizes_ v).bind fun sizes_ => ((Res.ok (at_ : Int)).bind fun first_ => (.ok (sizes_, first_)))) else (.ok (sizes_, first_)) : Res ((List Int) × Int))).bind fun s1 => ((Res.ok (-(1 : Int))).bind fun z => (ix s1.1 z).bind fun x => (Res.ok (1 : Int)).bind fun y => (setL s1.1 z (x + y)).bind fun sizes_ => (.ok (sizes_, s1.2))))
theorem b_m_fewest_convoys_2_4b (arrivals_ : (List D)) (most_ : Int) (longest_ : Int) (at_ : Int) (sizes_ : (List Int)) (first_ : Int)  : Sim 6 (RelN (fun (s : ((List Int) × Int)) (ρ : Rho) => ∃ j_at : Option LV, ρ = [fz arrivals_, fz most_, fz longest_, ow s.1, fz s.2, j_at])) (g_fewest_convoys_4b [fz arrivals_, fz most_, fz longest_, ow sizes_, fz first_, fz at_]) (m_fewest_convoys_2_4b arrivals_ most_ longest_ at_ sizes_ first_) := (show Sim 6 (RelN (fun (s : ((List Int) × Int)) (ρ : Rho) => ∃ j_at : Option LV, ρ = [fz arrivals_, fz most_, fz longest_, ow s.1, fz s.2, j_at])) (g_fewest_convoys_4b [fz arrivals_, fz most_, fz longest_, ow sizes_, fz first_, fz at_]) ((((if (decide ((sizes_.length : Int) = (0 : Int))) = true then .ok true else (((ix sizes_ (-(1 : Int))).bind fun a => (.ok (decide (a = most_)))).bind fun k => if k = true then .ok true else (((ix arrivals_ at_).bind fun a => ((ix arrivals_ first_).bind fun b => (Res.of (dSub (enc a) (enc b)) : Res D))).bind fun a => (Res.of (dGt (enc a) (enc longest_)))))).bind fun k => (if k = true then ((Res.ok ((0 : Int) : Int)).bind fun v => (app sizes_ v).bind fun sizes_ => ((Res.ok (at_ : Int)).bind fun first_ => (.ok (sizes_, first_)))) else (.ok (sizes_, first_)) : Res ((List Int) × Int))).bind fun s1 => ((Res.ok (-(1 : Int))).bind fun z => (ix s1.1 z).bind fun x => (Res.ok (1 : Int)).bind fun y => (setL s1.1 z (x + y)).bind fun sizes_ => (.ok (sizes_, s1.2))))) from
  (s_last (s_asc (s_ifJ (R := (fun (s : ((List Int) × Int)) (ρ : Rho) => ρ = [fz arrivals_, fz most_, fz longest_, ow s.1, fz s.2, fz at_])) rfl (t_orQ (r_eqt_pp (by decide) (r_len_p (r_varO rfl)) (r_k (a := (0 : Int)) rfl)) (t_or (r_eqt_ep (by decide) (r_ix_pp (r_varO rfl) (r_neg_p (r_k (a := (1 : Int)) rfl))) (r_var rfl)) (r_gtd_ep (r_subd_ee (r_ix_pp (r_var rfl) (r_var rfl)) (r_ix_pp (r_var rfl) (r_var rfl))) (r_var rfl)))) (s_last (s_asc (s_app (ρ' := fun (sizes_ : (List Int)) => [fz arrivals_, fz most_, fz longest_, ow sizes_, fz first_, fz at_]) rfl rfl (r_k (a := (0 : Int)) rfl) (fun _ => rfl) fun sizes_ => (s_asg (ρ' := fun (first_ : Int) => [fz arrivals_, fz most_, fz longest_, ow sizes_, fz first_, fz at_]) rfl (r_var rfl) (fun _ => rfl) fun first_ => (s_end (e_J rfl)))))) (s_last (s_nil (s_end (e_J rfl)))) (by rintro s1 ρ rfl; exact (s_augI (ρ' := fun (sizes_ : (List Int)) => [fz arrivals_, fz most_, fz longest_, ow sizes_, fz s1.2, fz at_]) rfl rfl (r_neg_p (r_k (a := (1 : Int)) rfl)) (r_k (a := (1 : Int)) rfl) (fun _ => rfl) fun sizes_ => (s_end (e_N ⟨_, rfl⟩))))))))
def m_fewest_convoys_2 (arrivals_ : (List D)) (most_ : Int) (longest_ : Int) : Res (List Int) :=
  ((m_check_convoys_2 arrivals_ most_ (0 : Int)).bind fun _ => (if (!(isNum (enc longest_) (0 : Int) (10000 : Int))) = true then (raiM "PlanError" ["what", "place"] [enc ("longest wait" : Str), enc (0 : Int)]) else ((Res.ok (([] : List Int) : (List Int))).bind fun sizes_ => ((Res.ok ((0 : Int) : Int)).bind fun first_ => ((rng1z (arrivals_.length : Int)).bind fun l => (forM (fun (a : Int) (s : ((List Int) × Int)) => m_fewest_convoys_2_4b arrivals_ most_ longest_ a s.1 s.2) l (sizes_, first_)).bind fun s2 => (.ok s2.1))))))
theorem r_m_fewest_convoys_2 (arrivals_ : (List D)) (most_ : Int) (longest_ : Int) : Ref (F_fewest_convoys [enc arrivals_, enc most_, enc longest_]) (m_fewest_convoys_2 arrivals_ most_ longest_) := f_body (ρ := [fz arrivals_, fz most_, fz longest_, none, none, none]) rfl (show Sim 6 (RelF (α := (List Int))) (G_fewest_convoys [fz arrivals_, fz most_, fz longest_, none, none, none]) (((m_check_convoys_2 arrivals_ most_ (0 : Int)).bind fun _ => (if (!(isNum (enc longest_) (0 : Int) (10000 : Int))) = true then (raiM "PlanError" ["what", "place"] [enc ("longest wait" : Str), enc (0 : Int)]) else ((Res.ok (([] : List Int) : (List Int))).bind fun sizes_ => ((Res.ok ((0 : Int) : Int)).bind fun first_ => ((rng1z (arrivals_.length : Int)).bind fun l => (forM (fun (a : Int) (s : ((List Int) × Int)) => m_fewest_convoys_2_4b arrivals_ most_ longest_ a s.1 s.2) l (sizes_, first_)).bind fun s2 => (.ok s2.1))))))) from
  (s_last (s_asc (s_exp rfl (r_call (k_consP (r_var rfl) (k_consP (r_var rfl) (k_consP (r_k (a := (0 : Int)) rfl) (k_nil (r_m_check_convoys_2 _ _ _)))))) (s_asc (s_ifP rfl (t_notP (t_isB (r_call (k_consP (r_var rfl) (k_consP (r_k (a := (0 : Int)) rfl) (k_consP (r_k (a := (10000 : Int)) rfl) (k_nil (c_num _ _ _)))))))) (s_raiP rfl (a_cons (r_k (a := ("longest wait" : Str)) rfl) (a_cons (r_k (a := (0 : Int)) rfl) a_nil))) (s_nil (s_asc (s_asgO (ρ' := fun (sizes_ : (List Int)) => [fz arrivals_, fz most_, fz longest_, ow sizes_, none, none]) rfl (r_lst (k_nil (lk (c := []) rfl rfl))) (fun _ => rfl) fun sizes_ => (s_asc (s_asg (ρ' := fun (first_ : Int) => [fz arrivals_, fz most_, fz longest_, ow sizes_, fz first_, none]) rfl (r_k (a := (0 : Int)) rfl) (fun _ => rfl) fun first_ => (s_asc (s_for (R := (fun (s : ((List Int) × Int)) (ρ : Rho) => ∃ j_at : Option LV, ρ = [fz arrivals_, fz most_, fz longest_, ow s.1, fz s.2, j_at])) (by rintro s ρ ⟨_, rfl⟩; rfl) (i_rng1 (a_cons (r_len_p (r_var rfl)) a_nil)) ⟨_, rfl⟩ (by rintro a s ρ ⟨j_at, rfl⟩; exact ⟨[fz arrivals_, fz most_, fz longest_, ow s.1, fz s.2, fz a], rfl, b_m_fewest_convoys_2_4b arrivals_ most_ longest_ a s.1 s.2⟩) (by rintro s2 ρ ⟨j_at, rfl⟩; exact (s_frz (ρ2 := [fz arrivals_, fz most_, fz longest_, fz s2.1, fz s2.2, j_at]) rfl (s_retF rfl (r_var rfl)))))))))))))))))
/-! ### _law_told -/
def m_law_told (which_ : Int) (arrivals_ : (List D)) (most_ : Int) (many_ : Int) : Res D :=
  (tryM ["TooMany", "PlanError"] (if (decide (which_ = (0 : Int))) = true then ((m_least_convoy_wait_2 arrivals_ most_ many_).bind fun a => .ok (enc a)) else (if (decide (which_ = (1 : Int))) = true then ((m_convoy_plan_2 arrivals_ most_ many_).bind fun a => .ok (enc a)) else ((m_fewest_convoys_2 arrivals_ most_ many_).bind fun a => .ok (enc a)))) (hdl ["PlanError"] (fun e => (((fld "PlanError" "what" e).bind fun a1 => ((fld "PlanError" "place" e).bind fun a2 => (.ok (a1, a2)))).bind fun a => .ok (enc a))) (hdl ["TooMany"] (fun e => (((fld "TooMany" "what" e).bind fun a3 => (.ok (a3, ("many" : Str)))).bind fun a => .ok (enc a))) hdl0)))
theorem r_m_law_told (which_ : Int) (arrivals_ : (List D)) (most_ : Int) (many_ : Int) : Ref (F__law_told [enc which_, enc arrivals_, enc most_, enc many_]) (m_law_told which_ arrivals_ most_ many_) := f_body (ρ := [fz which_, fz arrivals_, fz most_, fz many_, none]) rfl (show Sim 5 (RelF (α := D)) (G__law_told [fz which_, fz arrivals_, fz most_, fz many_, none]) ((tryM ["TooMany", "PlanError"] (if (decide (which_ = (0 : Int))) = true then ((m_least_convoy_wait_2 arrivals_ most_ many_).bind fun a => .ok (enc a)) else (if (decide (which_ = (1 : Int))) = true then ((m_convoy_plan_2 arrivals_ most_ many_).bind fun a => .ok (enc a)) else ((m_fewest_convoys_2 arrivals_ most_ many_).bind fun a => .ok (enc a)))) (hdl ["PlanError"] (fun e => (((fld "PlanError" "what" e).bind fun a1 => ((fld "PlanError" "place" e).bind fun a2 => (.ok (a1, a2)))).bind fun a => .ok (enc a))) (hdl ["TooMany"] (fun e => (((fld "TooMany" "what" e).bind fun a3 => (.ok (a3, ("many" : Str)))).bind fun a => .ok (enc a))) hdl0)))) from
  (s_last (s_tryN (s_tryL (fun _ _ _ => noF) (s_last (s_asc (s_ifP rfl (r_eqt_pp (by decide) (r_var rfl) (r_k (a := (0 : Int)) rfl)) (s_retF rfl (r_cE enc c_D (r_call (k_consP (r_var rfl) (k_consP (r_var rfl) (k_consP (r_var rfl) (k_nil (r_m_least_convoy_wait_2 _ _ _)))))))) (s_nil (s_asc (s_ifP rfl (r_eqt_pp (by decide) (r_var rfl) (r_k (a := (1 : Int)) rfl)) (s_retF rfl (r_cE enc c_D (r_call (k_consP (r_var rfl) (k_consP (r_var rfl) (k_consP (r_var rfl) (k_nil (r_m_convoy_plan_2 _ _ _)))))))) (s_nil (s_retF rfl (r_cE enc c_D (r_call (k_consP (r_var rfl) (k_consP (r_var rfl) (k_consP (r_var rfl) (k_nil (r_m_fewest_convoys_2 _ _ _))))))))))))))) (fun e ρ hn => (h_cons (fun _ _ => behF) hn (by decide) (fun ρ' hl he => s_last (s_retF hl (r_cE enc c_D (r_tup (k_cons (r_xf he) fun a1 => (k_cons (r_xf he) fun a2 => (k_nil (tk rfl rfl)))))))) (h_cons (fun _ _ => behF) hn (by decide) (fun ρ' hl he => s_last (s_retF hl (r_cE enc c_D (r_tup (k_cons (r_xf he) fun a3 => (k_consP (r_k (a := ("many" : Str)) rfl) (k_nil (tk rfl rfl)))))))) (h_nil hn))))))))
/-! ### _law_told -/
def m_law_told_2 (which_ : Int) (arrivals_ : (List Int)) (most_ : Int) (many_ : Int) : Res D :=
  (tryM ["TooMany", "PlanError"] (if (decide (which_ = (0 : Int))) = true then ((m_least_convoy_wait arrivals_ most_ many_).bind fun a => .ok (enc a)) else (if (decide (which_ = (1 : Int))) = true then ((m_convoy_plan arrivals_ most_ many_).bind fun a => .ok (enc a)) else ((m_fewest_convoys arrivals_ most_ many_).bind fun a => .ok (enc a)))) (hdl ["PlanError"] (fun e => (((fld "PlanError" "what" e).bind fun a1 => ((fld "PlanError" "place" e).bind fun a2 => (.ok (a1, a2)))).bind fun a => .ok (enc a))) (hdl ["TooMany"] (fun e => (((fld "TooMany" "what" e).bind fun a3 => (.ok (a3, ("many" : Str)))).bind fun a => .ok (enc a))) hdl0)))
theorem r_m_law_told_2 (which_ : Int) (arrivals_ : (List Int)) (most_ : Int) (many_ : Int) : Ref (F__law_told [enc which_, enc arrivals_, enc most_, enc many_]) (m_law_told_2 which_ arrivals_ most_ many_) := f_body (ρ := [fz which_, fz arrivals_, fz most_, fz many_, none]) rfl (show Sim 5 (RelF (α := D)) (G__law_told [fz which_, fz arrivals_, fz most_, fz many_, none]) ((tryM ["TooMany", "PlanError"] (if (decide (which_ = (0 : Int))) = true then ((m_least_convoy_wait arrivals_ most_ many_).bind fun a => .ok (enc a)) else (if (decide (which_ = (1 : Int))) = true then ((m_convoy_plan arrivals_ most_ many_).bind fun a => .ok (enc a)) else ((m_fewest_convoys arrivals_ most_ many_).bind fun a => .ok (enc a)))) (hdl ["PlanError"] (fun e => (((fld "PlanError" "what" e).bind fun a1 => ((fld "PlanError" "place" e).bind fun a2 => (.ok (a1, a2)))).bind fun a => .ok (enc a))) (hdl ["TooMany"] (fun e => (((fld "TooMany" "what" e).bind fun a3 => (.ok (a3, ("many" : Str)))).bind fun a => .ok (enc a))) hdl0)))) from
  (s_last (s_tryN (s_tryL (fun _ _ _ => noF) (s_last (s_asc (s_ifP rfl (r_eqt_pp (by decide) (r_var rfl) (r_k (a := (0 : Int)) rfl)) (s_retF rfl (r_cE enc c_D (r_call (k_consP (r_var rfl) (k_consP (r_var rfl) (k_consP (r_var rfl) (k_nil (r_m_least_convoy_wait _ _ _)))))))) (s_nil (s_asc (s_ifP rfl (r_eqt_pp (by decide) (r_var rfl) (r_k (a := (1 : Int)) rfl)) (s_retF rfl (r_cE enc c_D (r_call (k_consP (r_var rfl) (k_consP (r_var rfl) (k_consP (r_var rfl) (k_nil (r_m_convoy_plan _ _ _)))))))) (s_nil (s_retF rfl (r_cE enc c_D (r_call (k_consP (r_var rfl) (k_consP (r_var rfl) (k_consP (r_var rfl) (k_nil (r_m_fewest_convoys _ _ _))))))))))))))) (fun e ρ hn => (h_cons (fun _ _ => behF) hn (by decide) (fun ρ' hl he => s_last (s_retF hl (r_cE enc c_D (r_tup (k_cons (r_xf he) fun a1 => (k_cons (r_xf he) fun a2 => (k_nil (tk rfl rfl)))))))) (h_cons (fun _ _ => behF) hn (by decide) (fun ρ' hl he => s_last (s_retF hl (r_cE enc c_D (r_tup (k_cons (r_xf he) fun a3 => (k_consP (r_k (a := ("many" : Str)) rfl) (k_nil (tk rfl rfl)))))))) (h_nil hn))))))))
/-! ### law -/
def m_law_20  : Res Bool :=
  ((((m_law_told (0 : Int) ([] : List D) (1 : Int) (61 : Int)).bind fun a38 => ((m_law_told (1 : Int) ([] : List D) (1 : Int) (-(1 : Int))).bind fun a39 => ((m_law_told (2 : Int) ([] : List D) (1 : Int) (-(1 : Int))).bind fun a40 => (.ok [a38, a39, a40])))).bind fun a => .ok (enc a)).bind fun a => (Res.of (dEq a (enc [(("number of convoys" : Str), (0 : Int)), (("number of convoys" : Str), (0 : Int)), (("longest wait" : Str), (0 : Int))]))))
theorem t_m_law_20  {j_script j_digits j_arrivals j_time j_at j_most j_many j_plans j_cuts j_ends j_sizes j_plan j_fit j_kept j_best j_told j_short j_start j_fine j_size j_wrong : Option LV} : Sim 21 (RelF (α := Bool)) (g_law_20 [j_script, j_digits, j_arrivals, j_time, j_at, j_most, j_many, j_plans, j_cuts, j_ends, j_sizes, j_plan, j_fit, j_kept, j_best, j_told, j_short, j_start, j_fine, j_size, j_wrong]) (m_law_20) := (show Sim 21 (RelF (α := Bool)) (g_law_20 [j_script, j_digits, j_arrivals, j_time, j_at, j_most, j_many, j_plans, j_cuts, j_ends, j_sizes, j_plan, j_fit, j_kept, j_best, j_told, j_short, j_start, j_fine, j_size, j_wrong]) (((((m_law_told (0 : Int) ([] : List D) (1 : Int) (61 : Int)).bind fun a38 => ((m_law_told (1 : Int) ([] : List D) (1 : Int) (-(1 : Int))).bind fun a39 => ((m_law_told (2 : Int) ([] : List D) (1 : Int) (-(1 : Int))).bind fun a40 => (.ok [a38, a39, a40])))).bind fun a => .ok (enc a)).bind fun a => (Res.of (dEq a (enc [(("number of convoys" : Str), (0 : Int)), (("number of convoys" : Str), (0 : Int)), (("longest wait" : Str), (0 : Int))]))))) from
  (s_last (s_retF rfl (r_vB (r_eqd_ep (r_cE enc c_D (r_vO (r_lst (k_cons (r_call (k_consP (r_k (a := (0 : Int)) rfl) (k_consP (r_vO (r_lst (k_nil (lk (c := []) rfl rfl)))) (k_consP (r_k (a := (1 : Int)) rfl) (k_consP (r_k (a := (61 : Int)) rfl) (k_nil (r_m_law_told _ _ _ _))))))) fun a38 => (k_cons (r_call (k_consP (r_k (a := (1 : Int)) rfl) (k_consP (r_vO (r_lst (k_nil (lk (c := []) rfl rfl)))) (k_consP (r_k (a := (1 : Int)) rfl) (k_consP (r_neg_p (r_k (a := (1 : Int)) rfl)) (k_nil (r_m_law_told _ _ _ _))))))) fun a39 => (k_cons (r_call (k_consP (r_k (a := (2 : Int)) rfl) (k_consP (r_vO (r_lst (k_nil (lk (c := []) rfl rfl)))) (k_consP (r_k (a := (1 : Int)) rfl) (k_consP (r_neg_p (r_k (a := (1 : Int)) rfl)) (k_nil (r_m_law_told _ _ _ _))))))) fun a40 => (k_nil (lk (c := [a38, a39, a40]) rfl rfl)))))))) (r_c (g := enc) c_D (r_vO (r_lst (k_consP (r_tup (k_consP (r_k (a := ("number of convoys" : Str)) rfl) (k_consP (r_k (a := (0 : Int)) rfl) (k_nil (tk rfl rfl))))) (k_consP (r_tup (k_consP (r_k (a := ("number of convoys" : Str)) rfl) (k_consP (r_k (a := (0 : Int)) rfl) (k_nil (tk rfl rfl))))) (k_consP (r_tup (k_consP (r_k (a := ("longest wait" : Str)) rfl) (k_consP (r_k (a := (0 : Int)) rfl) (k_nil (tk rfl rfl))))) (k_nil (lk (c := [(("number of convoys" : Str), (0 : Int)), (("number of convoys" : Str), (0 : Int)), (("longest wait" : Str), (0 : Int))]) rfl rfl)))))))))))))
def m_law_19 (digits_ : (List Int)) (many_ : Int) : Res Bool :=
  (((((ix digits_ (6 : Int)).bind fun a31 => (m_law_told_2 a31 [(5 : Int), (4 : Int)] (0 : Int) many_)).bind fun a => (Res.of (dNe a (enc (("order" : Str), (1 : Int)))))).bind fun k => if k = true then .ok true else ((((ix digits_ (6 : Int)).bind fun a32 => (m_law_told a32 ([] : List D) (0 : Int) many_)).bind fun a => (Res.of (dNe a (enc (("boats in a convoy" : Str), (0 : Int)))))).bind fun k => if k = true then .ok true else (((ix digits_ (6 : Int)).bind fun a33 => (((Res.ok [(-(1 : Int))]).bind fun l => (Res.ok (61 : Int)).bind fun k => rep l k).bind fun a34 => (m_law_told_2 a33 a34 (0 : Int) many_))).bind fun a => (Res.of (dNe a (enc (("boats" : Str), ("many" : Str)))))))).bind fun k => if k = true then (.ok false) else (m_law_20 ))
theorem t_m_law_19 (digits_ : (List Int)) (many_ : Int) {j_script j_arrivals j_time j_at j_most j_plans j_cuts j_ends j_sizes j_plan j_fit j_kept j_best j_told j_short j_start j_fine j_size j_wrong : Option LV} : Sim 21 (RelF (α := Bool)) ((seqS g_law_19 g_law_20) [j_script, fz digits_, j_arrivals, j_time, j_at, j_most, fz many_, j_plans, j_cuts, j_ends, j_sizes, j_plan, j_fit, j_kept, j_best, j_told, j_short, j_start, j_fine, j_size, j_wrong]) (m_law_19 digits_ many_) := (show Sim 21 (RelF (α := Bool)) ((seqS g_law_19 g_law_20) [j_script, fz digits_, j_arrivals, j_time, j_at, j_most, fz many_, j_plans, j_cuts, j_ends, j_sizes, j_plan, j_fit, j_kept, j_best, j_told, j_short, j_start, j_fine, j_size, j_wrong]) ((((((ix digits_ (6 : Int)).bind fun a31 => (m_law_told_2 a31 [(5 : Int), (4 : Int)] (0 : Int) many_)).bind fun a => (Res.of (dNe a (enc (("order" : Str), (1 : Int)))))).bind fun k => if k = true then .ok true else ((((ix digits_ (6 : Int)).bind fun a32 => (m_law_told a32 ([] : List D) (0 : Int) many_)).bind fun a => (Res.of (dNe a (enc (("boats in a convoy" : Str), (0 : Int)))))).bind fun k => if k = true then .ok true else (((ix digits_ (6 : Int)).bind fun a33 => (((Res.ok [(-(1 : Int))]).bind fun l => (Res.ok (61 : Int)).bind fun k => rep l k).bind fun a34 => (m_law_told_2 a33 a34 (0 : Int) many_))).bind fun a => (Res.of (dNe a (enc (("boats" : Str), ("many" : Str)))))))).bind fun k => if k = true then (.ok false) else (m_law_20 ))) from
  (s_last (s_asc (s_if rfl (t_or (r_ned_ep (r_call (k_cons (r_ix_pp (r_var rfl) (r_k (a := (6 : Int)) rfl)) fun a31 => (k_consP (r_vO (r_lst (k_consP (r_k (a := (5 : Int)) rfl) (k_consP (r_k (a := (4 : Int)) rfl) (k_nil (lk (c := [(5 : Int), (4 : Int)]) rfl rfl)))))) (k_consP (r_k (a := (0 : Int)) rfl) (k_consP (r_var rfl) (k_nil (r_m_law_told_2 _ _ _ _))))))) (r_c (g := enc) c_D (r_tup (k_consP (r_k (a := ("order" : Str)) rfl) (k_consP (r_k (a := (1 : Int)) rfl) (k_nil (tk rfl rfl))))))) (t_or (r_ned_ep (r_call (k_cons (r_ix_pp (r_var rfl) (r_k (a := (6 : Int)) rfl)) fun a32 => (k_consP (r_vO (r_lst (k_nil (lk (c := []) rfl rfl)))) (k_consP (r_k (a := (0 : Int)) rfl) (k_consP (r_var rfl) (k_nil (r_m_law_told _ _ _ _))))))) (r_c (g := enc) c_D (r_tup (k_consP (r_k (a := ("boats in a convoy" : Str)) rfl) (k_consP (r_k (a := (0 : Int)) rfl) (k_nil (tk rfl rfl))))))) (r_ned_ep (r_call (k_cons (r_ix_pp (r_var rfl) (r_k (a := (6 : Int)) rfl)) fun a33 => (k_cons (r_vO (rl_rep (r_lst (k_consP (r_neg_p (r_k (a := (1 : Int)) rfl)) (k_nil (lk (c := [(-(1 : Int))]) rfl rfl)))) (r_k (a := (61 : Int)) rfl))) fun a34 => (k_consP (r_k (a := (0 : Int)) rfl) (k_consP (r_var rfl) (k_nil (r_m_law_told_2 _ _ _ _))))))) (r_c (g := enc) c_D (r_tup (k_consP (r_k (a := ("boats" : Str)) rfl) (k_consP (r_k (a := ("many" : Str)) rfl) (k_nil (tk rfl rfl))))))))) (s_retF rfl (r_k (a := false) rfl)) (s_nil (s_tryN (t_m_law_20 )))))))
def m_law_18 (digits_ : (List Int)) (arrivals_ : (List Int)) (at_ : Int) (most_ : Int) (many_ : Int) (wrong_ : (D × Str)) : Res Bool :=
  ((((ix digits_ (6 : Int)).bind fun a25 => (((cat (List.map enc (cut arrivals_ none (some at_))) [wrong_.1]).bind fun a => (cat a (List.map enc (cut arrivals_ (some at_) none)))).bind fun a26 => (m_law_told a25 a26 most_ many_))).bind fun a => (Res.of (dNe a (enc (wrong_.2, at_))))).bind fun k => if k = true then (.ok false) else (m_law_19 digits_ many_))
theorem t_m_law_18 (digits_ : (List Int)) (arrivals_ : (List Int)) (at_ : Int) (most_ : Int) (many_ : Int) (wrong_ : (D × Str)) {j_script j_time j_plans j_cuts j_ends j_sizes j_plan j_fit j_kept j_best j_told j_short j_start j_fine j_size : Option LV} : Sim 21 (RelF (α := Bool)) ((seqS g_law_18 (seqS g_law_19 g_law_20)) [j_script, fz digits_, fz arrivals_, j_time, fz at_, fz most_, fz many_, j_plans, j_cuts, j_ends, j_sizes, j_plan, j_fit, j_kept, j_best, j_told, j_short, j_start, j_fine, j_size, fz wrong_]) (m_law_18 digits_ arrivals_ at_ most_ many_ wrong_) := (show Sim 21 (RelF (α := Bool)) ((seqS g_law_18 (seqS g_law_19 g_law_20)) [j_script, fz digits_, fz arrivals_, j_time, fz at_, fz most_, fz many_, j_plans, j_cuts, j_ends, j_sizes, j_plan, j_fit, j_kept, j_best, j_told, j_short, j_start, j_fine, j_size, fz wrong_]) (((((ix digits_ (6 : Int)).bind fun a25 => (((cat (List.map enc (cut arrivals_ none (some at_))) [wrong_.1]).bind fun a => (cat a (List.map enc (cut arrivals_ (some at_) none)))).bind fun a26 => (m_law_told a25 a26 most_ many_))).bind fun a => (Res.of (dNe a (enc (wrong_.2, at_))))).bind fun k => if k = true then (.ok false) else (m_law_19 digits_ many_))) from
  (s_last (s_asc (s_if rfl (r_ned_ep (r_call (k_cons (r_ix_pp (r_var rfl) (r_k (a := (6 : Int)) rfl)) fun a25 => (k_cons (r_addl_ep (r_addl_pp (r_c (g := (fun l => List.map enc l)) (c_list c_D) (r_slc (r_varR rfl) q_no (q_some (r_var rfl)))) (r_vO (r_lst (k_consP (r_binX (r_var rfl) (r_k (a := (0 : Int)) rfl) rfl) (k_nil (lk (c := [wrong_.1]) rfl rfl)))))) (r_c (g := (fun l => List.map enc l)) (c_list c_D) (r_slc (r_varR rfl) (q_some (r_var rfl)) q_no))) fun a26 => (k_consP (r_var rfl) (k_consP (r_var rfl) (k_nil (r_m_law_told _ _ _ _))))))) (r_c (g := enc) c_D (r_tup (k_consP (r_binX (r_var rfl) (r_k (a := (1 : Int)) rfl) rfl) (k_consP (r_var rfl) (k_nil (tk rfl rfl))))))) (s_retF rfl (r_k (a := false) rfl)) (s_nil (s_tryN (t_m_law_19 digits_ many_)))))))
def m_law_17 (digits_ : (List Int)) (arrivals_ : (List Int)) (at_ : Int) (most_ : Int) (many_ : Int) : Res Bool :=
  (((ix digits_ (5 : Int)).bind fun b => (ix [((fun (p : (Int × Str)) => (enc p.1, id p.2)) ((-(1 : Int)), ("time" : Str))), ((fun (p : (Int × Str)) => (enc p.1, id p.2)) ((10001 : Int), ("time" : Str))), ((fun (p : (Bool × Str)) => (enc p.1, id p.2)) (true, ("time" : Str))), ((fun (p : (Unit × Str)) => (enc p.1, id p.2)) ((), ("time" : Str))), ((fun (p : (Int × Str)) => (enc p.1, id p.2)) ((-(5 : Int)), ("time" : Str)))] b)).bind fun wrong_ => (m_law_18 digits_ arrivals_ at_ most_ many_ wrong_))
theorem t_m_law_17 (digits_ : (List Int)) (arrivals_ : (List Int)) (at_ : Int) (most_ : Int) (many_ : Int) {j_script j_time j_plans j_cuts j_ends j_sizes j_plan j_fit j_kept j_best j_told j_short j_start j_fine j_size j_wrong : Option LV} : Sim 21 (RelF (α := Bool)) ((seqS g_law_17 (seqS g_law_18 (seqS g_law_19 g_law_20))) [j_script, fz digits_, fz arrivals_, j_time, fz at_, fz most_, fz many_, j_plans, j_cuts, j_ends, j_sizes, j_plan, j_fit, j_kept, j_best, j_told, j_short, j_start, j_fine, j_size, j_wrong]) (m_law_17 digits_ arrivals_ at_ most_ many_) := (show Sim 21 (RelF (α := Bool)) ((seqS g_law_17 (seqS g_law_18 (seqS g_law_19 g_law_20))) [j_script, fz digits_, fz arrivals_, j_time, fz at_, fz most_, fz many_, j_plans, j_cuts, j_ends, j_sizes, j_plan, j_fit, j_kept, j_best, j_told, j_short, j_start, j_fine, j_size, j_wrong]) ((((ix digits_ (5 : Int)).bind fun b => (ix [((fun (p : (Int × Str)) => (enc p.1, id p.2)) ((-(1 : Int)), ("time" : Str))), ((fun (p : (Int × Str)) => (enc p.1, id p.2)) ((10001 : Int), ("time" : Str))), ((fun (p : (Bool × Str)) => (enc p.1, id p.2)) (true, ("time" : Str))), ((fun (p : (Unit × Str)) => (enc p.1, id p.2)) ((), ("time" : Str))), ((fun (p : (Int × Str)) => (enc p.1, id p.2)) ((-(5 : Int)), ("time" : Str)))] b)).bind fun wrong_ => (m_law_18 digits_ arrivals_ at_ most_ many_ wrong_))) from
  (s_last (s_asc (s_asg (ρ' := fun (wrong_ : (D × Str)) => [j_script, fz digits_, fz arrivals_, j_time, fz at_, fz most_, fz many_, j_plans, j_cuts, j_ends, j_sizes, j_plan, j_fit, j_kept, j_best, j_told, j_short, j_start, j_fine, j_size, fz wrong_]) rfl (r_ix_pe (r_vO (r_lst (k_consP (r_c (g := (fun (p : (Int × Str)) => (enc p.1, id p.2))) (c_pair c_D c_id) (r_tup (k_consP (r_neg_p (r_k (a := (1 : Int)) rfl)) (k_consP (r_k (a := ("time" : Str)) rfl) (k_nil (tk rfl rfl)))))) (k_consP (r_c (g := (fun (p : (Int × Str)) => (enc p.1, id p.2))) (c_pair c_D c_id) (r_tup (k_consP (r_k (a := (10001 : Int)) rfl) (k_consP (r_k (a := ("time" : Str)) rfl) (k_nil (tk rfl rfl)))))) (k_consP (r_c (g := (fun (p : (Bool × Str)) => (enc p.1, id p.2))) (c_pair c_D c_id) (r_tup (k_consP (r_k (a := true) rfl) (k_consP (r_k (a := ("time" : Str)) rfl) (k_nil (tk rfl rfl)))))) (k_consP (r_c (g := (fun (p : (Unit × Str)) => (enc p.1, id p.2))) (c_pair c_D c_id) (r_tup (k_consP (r_k (a := ()) rfl) (k_consP (r_k (a := ("time" : Str)) rfl) (k_nil (tk rfl rfl)))))) (k_consP (r_c (g := (fun (p : (Int × Str)) => (enc p.1, id p.2))) (c_pair c_D c_id) (r_tup (k_consP (r_neg_p (r_k (a := (5 : Int)) rfl)) (k_consP (r_k (a := ("time" : Str)) rfl) (k_nil (tk rfl rfl)))))) (k_nil (lk (c := [((fun (p : (Int × Str)) => (enc p.1, id p.2)) ((-(1 : Int)), ("time" : Str))), ((fun (p : (Int × Str)) => (enc p.1, id p.2)) ((10001 : Int), ("time" : Str))), ((fun (p : (Bool × Str)) => (enc p.1, id p.2)) (true, ("time" : Str))), ((fun (p : (Unit × Str)) => (enc p.1, id p.2)) ((), ("time" : Str))), ((fun (p : (Int × Str)) => (enc p.1, id p.2)) ((-(5 : Int)), ("time" : Str)))]) rfl rfl))))))))) (r_ix_pp (r_var rfl) (r_k (a := (5 : Int)) rfl))) (fun _ => rfl) fun wrong_ => (s_tryN (t_m_law_18 digits_ arrivals_ at_ most_ many_ wrong_))))))
def m_law_16 (digits_ : (List Int)) (arrivals_ : (List Int)) (most_ : Int) (many_ : Int) : Res Bool :=
  (((ix digits_ (4 : Int)).bind fun a => (modz a ((arrivals_.length : Int) + (1 : Int)))).bind fun at_ => (m_law_17 digits_ arrivals_ at_ most_ many_))
theorem t_m_law_16 (digits_ : (List Int)) (arrivals_ : (List Int)) (most_ : Int) (many_ : Int) {j_script j_time j_at j_plans j_cuts j_ends j_sizes j_plan j_fit j_kept j_best j_told j_short j_start j_fine j_size j_wrong : Option LV} : Sim 21 (RelF (α := Bool)) ((seqS g_law_16 (seqS g_law_17 (seqS g_law_18 (seqS g_law_19 g_law_20)))) [j_script, fz digits_, fz arrivals_, j_time, j_at, fz most_, fz many_, j_plans, j_cuts, j_ends, j_sizes, j_plan, j_fit, j_kept, j_best, j_told, j_short, j_start, j_fine, j_size, j_wrong]) (m_law_16 digits_ arrivals_ most_ many_) := (show Sim 21 (RelF (α := Bool)) ((seqS g_law_16 (seqS g_law_17 (seqS g_law_18 (seqS g_law_19 g_law_20)))) [j_script, fz digits_, fz arrivals_, j_time, j_at, fz most_, fz many_, j_plans, j_cuts, j_ends, j_sizes, j_plan, j_fit, j_kept, j_best, j_told, j_short, j_start, j_fine, j_size, j_wrong]) ((((ix digits_ (4 : Int)).bind fun a => (modz a ((arrivals_.length : Int) + (1 : Int)))).bind fun at_ => (m_law_17 digits_ arrivals_ at_ most_ many_))) from
  (s_last (s_asc (s_asg (ρ' := fun (at_ : Int) => [j_script, fz digits_, fz arrivals_, j_time, fz at_, fz most_, fz many_, j_plans, j_cuts, j_ends, j_sizes, j_plan, j_fit, j_kept, j_best, j_told, j_short, j_start, j_fine, j_size, j_wrong]) rfl (r_mod_ep (r_ix_pp (r_var rfl) (r_k (a := (4 : Int)) rfl)) (r_add_pp (r_len_p (r_varR rfl)) (r_k (a := (1 : Int)) rfl))) (fun _ => rfl) fun at_ => (s_tryN (t_m_law_17 digits_ arrivals_ at_ most_ many_))))))
def m_law_15 (digits_ : (List Int)) (arrivals_ : (List Int)) (most_ : Int) (many_ : Int) (kept_ : (List Int)) : Res Bool :=
  (((((((Res.ok [(1 : Int)]).bind fun l => (Res.ok (arrivals_.length : Int)).bind fun k => rep l k).bind fun b => (cat [(1 : Int)] b)).bind fun a21 => (m_plan_wait arrivals_ a21)).bind fun a => (.ok a.isSome)).bind fun k => if k = true then .ok true else ((((((Res.ok [(1 : Int)]).bind fun l => (Res.ok (arrivals_.length : Int)).bind fun k => rep l k).bind fun b => (cat [(0 : Int)] b)).bind fun a22 => (m_plan_wait arrivals_ a22)).bind fun a => (.ok a.isSome)).bind fun k => if k = true then .ok true else (.ok (!decide (kept_ = arrivals_))))).bind fun k => if k = true then (.ok false) else (m_law_16 digits_ arrivals_ most_ many_))
theorem t_m_law_15 (digits_ : (List Int)) (arrivals_ : (List Int)) (most_ : Int) (many_ : Int) (kept_ : (List Int)) {j_script j_time j_at j_plans j_cuts j_ends j_sizes j_plan j_fit j_best j_told j_short j_start j_fine j_size j_wrong : Option LV} : Sim 21 (RelF (α := Bool)) ((seqS g_law_15 (seqS g_law_16 (seqS g_law_17 (seqS g_law_18 (seqS g_law_19 g_law_20))))) [j_script, fz digits_, fz arrivals_, j_time, j_at, fz most_, fz many_, j_plans, j_cuts, j_ends, j_sizes, j_plan, j_fit, fz kept_, j_best, j_told, j_short, j_start, j_fine, j_size, j_wrong]) (m_law_15 digits_ arrivals_ most_ many_ kept_) := (show Sim 21 (RelF (α := Bool)) ((seqS g_law_15 (seqS g_law_16 (seqS g_law_17 (seqS g_law_18 (seqS g_law_19 g_law_20))))) [j_script, fz digits_, fz arrivals_, j_time, j_at, fz most_, fz many_, j_plans, j_cuts, j_ends, j_sizes, j_plan, j_fit, fz kept_, j_best, j_told, j_short, j_start, j_fine, j_size, j_wrong]) ((((((((Res.ok [(1 : Int)]).bind fun l => (Res.ok (arrivals_.length : Int)).bind fun k => rep l k).bind fun b => (cat [(1 : Int)] b)).bind fun a21 => (m_plan_wait arrivals_ a21)).bind fun a => (.ok a.isSome)).bind fun k => if k = true then .ok true else ((((((Res.ok [(1 : Int)]).bind fun l => (Res.ok (arrivals_.length : Int)).bind fun k => rep l k).bind fun b => (cat [(0 : Int)] b)).bind fun a22 => (m_plan_wait arrivals_ a22)).bind fun a => (.ok a.isSome)).bind fun k => if k = true then .ok true else (.ok (!decide (kept_ = arrivals_))))).bind fun k => if k = true then (.ok false) else (m_law_16 digits_ arrivals_ most_ many_))) from
  (s_last (s_asc (s_frz (ρ2 := [j_script, fz digits_, fz arrivals_, j_time, j_at, fz most_, fz many_, j_plans, j_cuts, j_ends, j_sizes, j_plan, j_fit, fz kept_, j_best, j_told, j_short, j_start, j_fine, j_size, j_wrong]) rfl (s_if rfl (t_or (r_notn_ep (r_call (k_consP (r_var rfl) (k_cons (r_addl_pe (r_vO (r_lst (k_consP (r_k (a := (1 : Int)) rfl) (k_nil (lk (c := [(1 : Int)]) rfl rfl))))) (r_vO (rl_rep (r_lst (k_consP (r_k (a := (1 : Int)) rfl) (k_nil (lk (c := [(1 : Int)]) rfl rfl)))) (r_len_p (r_varR rfl))))) fun a21 => (k_nil (r_m_plan_wait _ _))))) (r_k (a := ()) rfl)) (t_or (r_notn_ep (r_call (k_consP (r_var rfl) (k_cons (r_addl_pe (r_vO (r_lst (k_consP (r_k (a := (0 : Int)) rfl) (k_nil (lk (c := [(0 : Int)]) rfl rfl))))) (r_vO (rl_rep (r_lst (k_consP (r_k (a := (1 : Int)) rfl) (k_nil (lk (c := [(1 : Int)]) rfl rfl)))) (r_len_p (r_varR rfl))))) fun a22 => (k_nil (r_m_plan_wait _ _))))) (r_k (a := ()) rfl)) (r_net_pp (by decide) (r_var rfl) (r_varR rfl)))) (s_retF rfl (r_k (a := false) rfl)) (s_nil (s_tryN (t_m_law_16 digits_ arrivals_ most_ many_))))))))
def m_law_14 (digits_ : (List Int)) (arrivals_ : (List Int)) (most_ : Int) (many_ : Int) (sizes_ : (List Int)) (kept_ : (List Int)) (short_ : (List (Int × (List Int)))) : Res Bool :=
  ((if (!(isTy "list" (enc sizes_))) = true then .ok true else (if (!memT ((sizes_.length : Int), sizes_) short_) = true then .ok true else (((minT short_).bind fun a => .ok a.1).bind fun b => (.ok (!decide ((sizes_.length : Int) = b)))))).bind fun k => if k = true then (.ok false) else (m_law_15 digits_ arrivals_ most_ many_ kept_))
theorem t_m_law_14 (digits_ : (List Int)) (arrivals_ : (List Int)) (most_ : Int) (many_ : Int) (sizes_ : (List Int)) (kept_ : (List Int)) (short_ : (List (Int × (List Int)))) {j_script j_time j_at j_plans j_cuts j_ends j_plan j_fit j_best j_told j_start j_fine j_size j_wrong : Option LV} : Sim 21 (RelF (α := Bool)) ((seqS g_law_14 (seqS g_law_15 (seqS g_law_16 (seqS g_law_17 (seqS g_law_18 (seqS g_law_19 g_law_20)))))) [j_script, fz digits_, fz arrivals_, j_time, j_at, fz most_, fz many_, j_plans, j_cuts, j_ends, fz sizes_, j_plan, j_fit, fz kept_, j_best, j_told, ow short_, j_start, j_fine, j_size, j_wrong]) (m_law_14 digits_ arrivals_ most_ many_ sizes_ kept_ short_) := (show Sim 21 (RelF (α := Bool)) ((seqS g_law_14 (seqS g_law_15 (seqS g_law_16 (seqS g_law_17 (seqS g_law_18 (seqS g_law_19 g_law_20)))))) [j_script, fz digits_, fz arrivals_, j_time, j_at, fz most_, fz many_, j_plans, j_cuts, j_ends, fz sizes_, j_plan, j_fit, fz kept_, j_best, j_told, ow short_, j_start, j_fine, j_size, j_wrong]) (((if (!(isTy "list" (enc sizes_))) = true then .ok true else (if (!memT ((sizes_.length : Int), sizes_) short_) = true then .ok true else (((minT short_).bind fun a => .ok a.1).bind fun b => (.ok (!decide ((sizes_.length : Int) = b)))))).bind fun k => if k = true then (.ok false) else (m_law_15 digits_ arrivals_ most_ many_ kept_))) from
  (s_last (s_asc (s_if rfl (t_orQ (t_notP (t_isB (r_isiP (r_var rfl)))) (t_orQ (r_nint_pp (α := (Int × (List Int))) (by decide) (r_tup (k_consP (r_len_p (r_var rfl)) (k_consP (r_var rfl) (k_nil (tk rfl rfl))))) (r_varO rfl)) (r_net_pe (by decide) (r_len_p (r_var rfl)) (r_binXE (c := fun (a : (Int × (List Int))) => a.1) (r_mint_p (by decide) (r_varO rfl)) (r_k (a := (0 : Int)) rfl) fun _ => rfl)))) (s_retF rfl (r_k (a := false) rfl)) (s_nil (s_tryN (t_m_law_15 digits_ arrivals_ most_ many_ kept_)))))))
def m_law_13b_2b (digits_ : (List Int)) (arrivals_ : (List Int)) (size_ : Int) (fine_ : Bool) (start_ : Int) : Res ((Bool × Int)) :=
  (((((ix arrivals_ ((start_ + size_) - (1 : Int))).bind fun a => ((ix arrivals_ start_).bind fun b => (.ok (a - b)))).bind fun a => ((ix digits_ (3 : Int)).bind fun b => (.ok (decide (b < a))))).bind fun k => (if k = true then ((Res.ok (false : Bool)).bind fun fine_ => (.ok fine_)) else (.ok fine_) : Res Bool)).bind fun s16 => ((Res.ok ((start_ + size_) : Int)).bind fun start_ => (.ok (s16, start_))))
theorem b_m_law_13b_2b (digits_ : (List Int)) (arrivals_ : (List Int)) (most_ : Int) (many_ : Int) (plans_ : (List (T3 Int Int (List Int)))) (sizes_ : (List Int)) (plan_ : (T3 Int Int (List Int))) (kept_ : (List Int)) (short_ : (List (Int × (List Int)))) (size_ : Int) (fine_ : Bool) (start_ : Int)  : Sim 21 (RelN (fun (s : (Bool × Int)) (ρ : Rho) => ∃ j_size : Option LV, ρ = [j_script, fz digits_, fz arrivals_, j_time, j_at, fz most_, fz many_, fz plans_, j_cuts, j_ends, fz sizes_, fz plan_, j_fit, fz kept_, j_best, j_told, ow short_, fz s.2, fz s.1, j_size, j_wrong])) (g_law_13b_2b [j_script, fz digits_, fz arrivals_, j_time, j_at, fz most_, fz many_, fz plans_, j_cuts, j_ends, fz sizes_, fz plan_, j_fit, fz kept_, j_best, j_told, ow short_, fz start_, fz fine_, fz size_, j_wrong]) (m_law_13b_2b digits_ arrivals_ size_ fine_ start_) := (show Sim 21 (RelN (fun (s : (Bool × Int)) (ρ : Rho) => ∃ j_size : Option LV, ρ = [j_script, fz digits_, fz arrivals_, j_time, j_at, fz most_, fz many_, fz plans_, j_cuts, j_ends, fz sizes_, fz plan_, j_fit, fz kept_, j_best, j_told, ow short_, fz s.2, fz s.1, j_size, j_wrong])) (g_law_13b_2b [j_script, fz digits_, fz arrivals_, j_time, j_at, fz most_, fz many_, fz plans_, j_cuts, j_ends, fz sizes_, fz plan_, j_fit, fz kept_, j_best, j_told, ow short_, fz start_, fz fine_, fz size_, j_wrong]) ((((((ix arrivals_ ((start_ + size_) - (1 : Int))).bind fun a => ((ix arrivals_ start_).bind fun b => (.ok (a - b)))).bind fun a => ((ix digits_ (3 : Int)).bind fun b => (.ok (decide (b < a))))).bind fun k => (if k = true then ((Res.ok (false : Bool)).bind fun fine_ => (.ok fine_)) else (.ok fine_) : Res Bool)).bind fun s16 => ((Res.ok ((start_ + size_) : Int)).bind fun start_ => (.ok (s16, start_))))) from
  (s_last (s_asc (s_ifJ (R := (fun (s : Bool) (ρ : Rho) => ρ = [j_script, fz digits_, fz arrivals_, j_time, j_at, fz most_, fz many_, fz plans_, j_cuts, j_ends, fz sizes_, fz plan_, j_fit, fz kept_, j_best, j_told, ow short_, fz start_, fz s, fz size_, j_wrong])) rfl (r_gt_ee (r_sub_ee (r_ix_pp (r_varR rfl) (r_sub_pp (r_add_pp (r_var rfl) (r_var rfl)) (r_k (a := (1 : Int)) rfl))) (r_ix_pp (r_varR rfl) (r_var rfl))) (r_ix_pp (r_var rfl) (r_k (a := (3 : Int)) rfl))) (s_last (s_asg (ρ' := fun (fine_ : Bool) => [j_script, fz digits_, fz arrivals_, j_time, j_at, fz most_, fz many_, fz plans_, j_cuts, j_ends, fz sizes_, fz plan_, j_fit, fz kept_, j_best, j_told, ow short_, fz start_, fz fine_, fz size_, j_wrong]) rfl (r_k (a := false) rfl) (fun _ => rfl) fun fine_ => (s_end (e_J rfl)))) (s_last (s_nil (s_end (e_J rfl)))) (by rintro s16 ρ rfl; exact (s_asg (ρ' := fun (start_ : Int) => [j_script, fz digits_, fz arrivals_, j_time, j_at, fz most_, fz many_, fz plans_, j_cuts, j_ends, fz sizes_, fz plan_, j_fit, fz kept_, j_best, j_told, ow short_, fz start_, fz s16, fz size_, j_wrong]) rfl (r_add_pp (r_var rfl) (r_var rfl)) (fun _ => rfl) fun start_ => (s_end (e_N ⟨_, rfl⟩))))))))
def m_law_13b (digits_ : (List Int)) (arrivals_ : (List Int)) (plan_ : (T3 Int Int (List Int))) (short_ : (List (Int × (List Int)))) : Res ((List (Int × (List Int)))) :=
  ((Res.ok ((0 : Int) : Int)).bind fun start_ => ((Res.ok (true : Bool)).bind fun fine_ => ((Res.ok (plan_.c : (List Int))).bind fun l => (forM (fun (a : Int) (s : (Bool × Int)) => m_law_13b_2b digits_ arrivals_ a s.1 s.2) l (fine_, start_)).bind fun s17 => (if s17.1 = true then ((Res.ok ((plan_.b, plan_.c) : (Int × (List Int)))).bind fun v => (app short_ v).bind fun short_ => (.ok short_)) else (.ok short_)))))
theorem b_m_law_13b (digits_ : (List Int)) (arrivals_ : (List Int)) (most_ : Int) (many_ : Int) (plans_ : (List (T3 Int Int (List Int)))) (sizes_ : (List Int)) (kept_ : (List Int)) (plan_ : (T3 Int Int (List Int))) (short_ : (List (Int × (List Int)))) {j_start j_fine j_size : Option LV} : Sim 21 (RelN (fun (s : (List (Int × (List Int)))) (ρ : Rho) => ∃ j_start j_fine j_size j_plan : Option LV, ρ = [j_script, fz digits_, fz arrivals_, j_time, j_at, fz most_, fz many_, fz plans_, j_cuts, j_ends, fz sizes_, j_plan, j_fit, fz kept_, j_best, j_told, ow s, j_start, j_fine, j_size, j_wrong])) (g_law_13b [j_script, fz digits_, fz arrivals_, j_time, j_at, fz most_, fz many_, fz plans_, j_cuts, j_ends, fz sizes_, fz plan_, j_fit, fz kept_, j_best, j_told, ow short_, j_start, j_fine, j_size, j_wrong]) (m_law_13b digits_ arrivals_ plan_ short_) := (show Sim 21 (RelN (fun (s : (List (Int × (List Int)))) (ρ : Rho) => ∃ j_start j_fine j_size j_plan : Option LV, ρ = [j_script, fz digits_, fz arrivals_, j_time, j_at, fz most_, fz many_, fz plans_, j_cuts, j_ends, fz sizes_, j_plan, j_fit, fz kept_, j_best, j_told, ow s, j_start, j_fine, j_size, j_wrong])) (g_law_13b [j_script, fz digits_, fz arrivals_, j_time, j_at, fz most_, fz many_, fz plans_, j_cuts, j_ends, fz sizes_, fz plan_, j_fit, fz kept_, j_best, j_told, ow short_, j_start, j_fine, j_size, j_wrong]) (((Res.ok ((0 : Int) : Int)).bind fun start_ => ((Res.ok (true : Bool)).bind fun fine_ => ((Res.ok (plan_.c : (List Int))).bind fun l => (forM (fun (a : Int) (s : (Bool × Int)) => m_law_13b_2b digits_ arrivals_ a s.1 s.2) l (fine_, start_)).bind fun s17 => (if s17.1 = true then ((Res.ok ((plan_.b, plan_.c) : (Int × (List Int)))).bind fun v => (app short_ v).bind fun short_ => (.ok short_)) else (.ok short_)))))) from
  (s_last (s_asc (s_asg (ρ' := fun (start_ : Int) => [j_script, fz digits_, fz arrivals_, j_time, j_at, fz most_, fz many_, fz plans_, j_cuts, j_ends, fz sizes_, fz plan_, j_fit, fz kept_, j_best, j_told, ow short_, fz start_, j_fine, j_size, j_wrong]) rfl (r_k (a := (0 : Int)) rfl) (fun _ => rfl) fun start_ => (s_asc (s_asg (ρ' := fun (fine_ : Bool) => [j_script, fz digits_, fz arrivals_, j_time, j_at, fz most_, fz many_, fz plans_, j_cuts, j_ends, fz sizes_, fz plan_, j_fit, fz kept_, j_best, j_told, ow short_, fz start_, fz fine_, j_size, j_wrong]) rfl (r_k (a := true) rfl) (fun _ => rfl) fun fine_ => (s_asc (s_for (R := (fun (s : (Bool × Int)) (ρ : Rho) => ∃ j_size : Option LV, ρ = [j_script, fz digits_, fz arrivals_, j_time, j_at, fz most_, fz many_, fz plans_, j_cuts, j_ends, fz sizes_, fz plan_, j_fit, fz kept_, j_best, j_told, ow short_, fz s.2, fz s.1, j_size, j_wrong])) (by rintro s ρ ⟨_, rfl⟩; rfl) (i_list (r_binX (r_var rfl) (r_k (a := (2 : Int)) rfl) rfl)) ⟨_, rfl⟩ (by rintro a s ρ ⟨j_size, rfl⟩; exact ⟨[j_script, fz digits_, fz arrivals_, j_time, j_at, fz most_, fz many_, fz plans_, j_cuts, j_ends, fz sizes_, fz plan_, j_fit, fz kept_, j_best, j_told, ow short_, fz s.2, fz s.1, fz a, j_wrong], rfl, b_m_law_13b_2b digits_ arrivals_ most_ many_ plans_ sizes_ plan_ kept_ short_ a s.1 s.2⟩) (by rintro s17 ρ ⟨j_size, rfl⟩; exact (s_ifP rfl (t_isB (r_var rfl)) (s_app (ρ' := fun (short_ : (List (Int × (List Int)))) => [j_script, fz digits_, fz arrivals_, j_time, j_at, fz most_, fz many_, fz plans_, j_cuts, j_ends, fz sizes_, fz plan_, j_fit, fz kept_, j_best, j_told, ow short_, fz s17.2, fz s17.1, j_size, j_wrong]) rfl rfl (r_slcX (r_var rfl) (q_some (r_k (a := (1 : Int)) rfl)) q_no rfl) (fun _ => rfl) fun short_ => (s_end (e_N ⟨_, _, _, _, rfl⟩))) (s_nil (s_end (e_N ⟨_, _, _, _, rfl⟩)))))))))))))
def m_law_13 (digits_ : (List Int)) (arrivals_ : (List Int)) (most_ : Int) (many_ : Int) (plans_ : (List (T3 Int Int (List Int)))) (sizes_ : (List Int)) (kept_ : (List Int)) (short_ : (List (Int × (List Int)))) : Res Bool :=
  ((Res.ok (plans_ : (List (T3 Int Int (List Int))))).bind fun l => (forM (fun (a : (T3 Int Int (List Int))) (s : (List (Int × (List Int)))) => m_law_13b digits_ arrivals_ a s) l short_).bind fun s18 => (m_law_14 digits_ arrivals_ most_ many_ sizes_ kept_ s18))
theorem t_m_law_13 (digits_ : (List Int)) (arrivals_ : (List Int)) (most_ : Int) (many_ : Int) (plans_ : (List (T3 Int Int (List Int)))) (sizes_ : (List Int)) (kept_ : (List Int)) (short_ : (List (Int × (List Int)))) {j_script j_time j_at j_cuts j_ends j_plan j_fit j_best j_told j_start j_fine j_size j_wrong : Option LV} : Sim 21 (RelF (α := Bool)) ((seqS g_law_13 (seqS g_law_14 (seqS g_law_15 (seqS g_law_16 (seqS g_law_17 (seqS g_law_18 (seqS g_law_19 g_law_20))))))) [j_script, fz digits_, fz arrivals_, j_time, j_at, fz most_, fz many_, fz plans_, j_cuts, j_ends, fz sizes_, j_plan, j_fit, fz kept_, j_best, j_told, ow short_, j_start, j_fine, j_size, j_wrong]) (m_law_13 digits_ arrivals_ most_ many_ plans_ sizes_ kept_ short_) := (show Sim 21 (RelF (α := Bool)) ((seqS g_law_13 (seqS g_law_14 (seqS g_law_15 (seqS g_law_16 (seqS g_law_17 (seqS g_law_18 (seqS g_law_19 g_law_20))))))) [j_script, fz digits_, fz arrivals_, j_time, j_at, fz most_, fz many_, fz plans_, j_cuts, j_ends, fz sizes_, j_plan, j_fit, fz kept_, j_best, j_told, ow short_, j_start, j_fine, j_size, j_wrong]) (((Res.ok (plans_ : (List (T3 Int Int (List Int))))).bind fun l => (forM (fun (a : (T3 Int Int (List Int))) (s : (List (Int × (List Int)))) => m_law_13b digits_ arrivals_ a s) l short_).bind fun s18 => (m_law_14 digits_ arrivals_ most_ many_ sizes_ kept_ s18))) from
  (s_last (s_asc (s_frz (ρ2 := [j_script, fz digits_, fz arrivals_, j_time, j_at, fz most_, fz many_, fz plans_, j_cuts, j_ends, fz sizes_, j_plan, j_fit, fz kept_, j_best, j_told, ow short_, j_start, j_fine, j_size, j_wrong]) rfl (s_for (R := (fun (s : (List (Int × (List Int)))) (ρ : Rho) => ∃ j_start j_fine j_size j_plan : Option LV, ρ = [j_script, fz digits_, fz arrivals_, j_time, j_at, fz most_, fz many_, fz plans_, j_cuts, j_ends, fz sizes_, j_plan, j_fit, fz kept_, j_best, j_told, ow s, j_start, j_fine, j_size, j_wrong])) (by rintro s ρ ⟨_, _, _, _, rfl⟩; rfl) (i_list (r_var rfl)) ⟨_, _, _, _, rfl⟩ (by rintro a s ρ ⟨j_start, j_fine, j_size, j_plan, rfl⟩; exact ⟨[j_script, fz digits_, fz arrivals_, j_time, j_at, fz most_, fz many_, fz plans_, j_cuts, j_ends, fz sizes_, fz a, j_fit, fz kept_, j_best, j_told, ow s, j_start, j_fine, j_size, j_wrong], rfl, b_m_law_13b digits_ arrivals_ most_ many_ plans_ sizes_ kept_ a s⟩) (by rintro s18 ρ ⟨j_start, j_fine, j_size, j_plan, rfl⟩; exact (s_tryN (t_m_law_14 digits_ arrivals_ most_ many_ sizes_ kept_ s18))))))))
def m_law_12 (digits_ : (List Int)) (arrivals_ : (List Int)) (most_ : Int) (many_ : Int) (plans_ : (List (T3 Int Int (List Int)))) (sizes_ : (List Int)) (kept_ : (List Int)) : Res Bool :=
  ((Res.ok (([] : List (Int × (List Int))) : (List (Int × (List Int))))).bind fun short_ => (m_law_13 digits_ arrivals_ most_ many_ plans_ sizes_ kept_ short_))
theorem t_m_law_12 (digits_ : (List Int)) (arrivals_ : (List Int)) (most_ : Int) (many_ : Int) (plans_ : (List (T3 Int Int (List Int)))) (sizes_ : (List Int)) (kept_ : (List Int)) {j_script j_time j_at j_cuts j_ends j_plan j_fit j_best j_told j_short j_start j_fine j_size j_wrong : Option LV} : Sim 21 (RelF (α := Bool)) ((seqS g_law_12 (seqS g_law_13 (seqS g_law_14 (seqS g_law_15 (seqS g_law_16 (seqS g_law_17 (seqS g_law_18 (seqS g_law_19 g_law_20)))))))) [j_script, fz digits_, fz arrivals_, j_time, j_at, fz most_, fz many_, fz plans_, j_cuts, j_ends, fz sizes_, j_plan, j_fit, fz kept_, j_best, j_told, j_short, j_start, j_fine, j_size, j_wrong]) (m_law_12 digits_ arrivals_ most_ many_ plans_ sizes_ kept_) := (show Sim 21 (RelF (α := Bool)) ((seqS g_law_12 (seqS g_law_13 (seqS g_law_14 (seqS g_law_15 (seqS g_law_16 (seqS g_law_17 (seqS g_law_18 (seqS g_law_19 g_law_20)))))))) [j_script, fz digits_, fz arrivals_, j_time, j_at, fz most_, fz many_, fz plans_, j_cuts, j_ends, fz sizes_, j_plan, j_fit, fz kept_, j_best, j_told, j_short, j_start, j_fine, j_size, j_wrong]) (((Res.ok (([] : List (Int × (List Int))) : (List (Int × (List Int))))).bind fun short_ => (m_law_13 digits_ arrivals_ most_ many_ plans_ sizes_ kept_ short_))) from
  (s_last (s_asc (s_asgO (ρ' := fun (short_ : (List (Int × (List Int)))) => [j_script, fz digits_, fz arrivals_, j_time, j_at, fz most_, fz many_, fz plans_, j_cuts, j_ends, fz sizes_, j_plan, j_fit, fz kept_, j_best, j_told, ow short_, j_start, j_fine, j_size, j_wrong]) rfl (r_lst (k_nil (lk (c := []) rfl rfl))) (fun _ => rfl) fun short_ => (s_tryN (t_m_law_13 digits_ arrivals_ most_ many_ plans_ sizes_ kept_ short_))))))
def m_law_11 (digits_ : (List Int)) (arrivals_ : (List Int)) (most_ : Int) (many_ : Int) (plans_ : (List (T3 Int Int (List Int)))) (kept_ : (List Int)) : Res Bool :=
  (((ix digits_ (3 : Int)).bind fun a15 => (m_fewest_convoys arrivals_ most_ a15)).bind fun sizes_ => (m_law_12 digits_ arrivals_ most_ many_ plans_ sizes_ kept_))
theorem t_m_law_11 (digits_ : (List Int)) (arrivals_ : (List Int)) (most_ : Int) (many_ : Int) (plans_ : (List (T3 Int Int (List Int)))) (kept_ : (List Int)) {j_script j_time j_at j_cuts j_ends j_sizes j_plan j_fit j_best j_told j_short j_start j_fine j_size j_wrong : Option LV} : Sim 21 (RelF (α := Bool)) ((seqS g_law_11 (seqS g_law_12 (seqS g_law_13 (seqS g_law_14 (seqS g_law_15 (seqS g_law_16 (seqS g_law_17 (seqS g_law_18 (seqS g_law_19 g_law_20))))))))) [j_script, fz digits_, fz arrivals_, j_time, j_at, fz most_, fz many_, fz plans_, j_cuts, j_ends, j_sizes, j_plan, j_fit, fz kept_, j_best, j_told, j_short, j_start, j_fine, j_size, j_wrong]) (m_law_11 digits_ arrivals_ most_ many_ plans_ kept_) := (show Sim 21 (RelF (α := Bool)) ((seqS g_law_11 (seqS g_law_12 (seqS g_law_13 (seqS g_law_14 (seqS g_law_15 (seqS g_law_16 (seqS g_law_17 (seqS g_law_18 (seqS g_law_19 g_law_20))))))))) [j_script, fz digits_, fz arrivals_, j_time, j_at, fz most_, fz many_, fz plans_, j_cuts, j_ends, j_sizes, j_plan, j_fit, fz kept_, j_best, j_told, j_short, j_start, j_fine, j_size, j_wrong]) ((((ix digits_ (3 : Int)).bind fun a15 => (m_fewest_convoys arrivals_ most_ a15)).bind fun sizes_ => (m_law_12 digits_ arrivals_ most_ many_ plans_ sizes_ kept_))) from
  (s_last (s_asc (s_frz (ρ2 := [j_script, fz digits_, fz arrivals_, j_time, j_at, fz most_, fz many_, fz plans_, j_cuts, j_ends, j_sizes, j_plan, j_fit, fz kept_, j_best, j_told, j_short, j_start, j_fine, j_size, j_wrong]) rfl (s_asg (ρ' := fun (sizes_ : (List Int)) => [j_script, fz digits_, fz arrivals_, j_time, j_at, fz most_, fz many_, fz plans_, j_cuts, j_ends, fz sizes_, j_plan, j_fit, fz kept_, j_best, j_told, j_short, j_start, j_fine, j_size, j_wrong]) rfl (r_call (k_consP (r_var rfl) (k_consP (r_var rfl) (k_cons (r_ix_pp (r_var rfl) (r_k (a := (3 : Int)) rfl)) fun a15 => (k_nil (r_m_fewest_convoys _ _ _)))))) (fun _ => rfl) fun sizes_ => (s_tryN (t_m_law_12 digits_ arrivals_ most_ many_ plans_ sizes_ kept_)))))))
def m_law_10 (digits_ : (List Int)) (arrivals_ : (List Int)) (most_ : Int) (many_ : Int) (plans_ : (List (T3 Int Int (List Int)))) (fit_ : (List (T3 Int Int (List Int)))) (kept_ : (List Int)) : Res Bool :=
  (if (decide ((fit_.length : Int) = (0 : Int))) = true then ((((m_least_convoy_wait arrivals_ most_ many_).bind fun a => (.ok a.isSome)).bind fun k => if k = true then .ok true else ((m_convoy_plan arrivals_ most_ many_).bind fun a => (.ok a.isSome))).bind fun k => if k = true then (.ok false) else (m_law_11 digits_ arrivals_ most_ many_ plans_ kept_)) else (((lcM fit_ (fun (plan_ : (T3 Int Int (List Int))) => (.ok true)) (fun (plan_ : (T3 Int Int (List Int))) => (.ok (plan_.a, plan_.b)))).bind fun a => (minT a)).bind fun best_ => ((m_convoy_plan arrivals_ most_ many_).bind fun told_ => (((((m_least_convoy_wait arrivals_ most_ many_).bind fun a13 => (stri (enc best_.1) (enc a13))).bind fun k => .ok (!k)).bind fun k => if k = true then .ok true else (.ok ((!(isTy "list" (enc told_))) || (!memT (T3.mk best_.1 best_.2 told_) (List.map (fun (p : (T3 Int Int (List Int))) => T3.mk (id p.a) (id p.b) (some p.c)) fit_))))).bind fun k => if k = true then (.ok false) else (m_law_11 digits_ arrivals_ most_ many_ plans_ kept_)))))
theorem t_m_law_10 (digits_ : (List Int)) (arrivals_ : (List Int)) (most_ : Int) (many_ : Int) (plans_ : (List (T3 Int Int (List Int)))) (fit_ : (List (T3 Int Int (List Int)))) (kept_ : (List Int)) {j_script j_time j_at j_cuts j_ends j_sizes j_plan j_best j_told j_short j_start j_fine j_size j_wrong : Option LV} : Sim 21 (RelF (α := Bool)) ((seqS g_law_10 (seqS g_law_11 (seqS g_law_12 (seqS g_law_13 (seqS g_law_14 (seqS g_law_15 (seqS g_law_16 (seqS g_law_17 (seqS g_law_18 (seqS g_law_19 g_law_20)))))))))) [j_script, fz digits_, fz arrivals_, j_time, j_at, fz most_, fz many_, fz plans_, j_cuts, j_ends, j_sizes, j_plan, fz fit_, fz kept_, j_best, j_told, j_short, j_start, j_fine, j_size, j_wrong]) (m_law_10 digits_ arrivals_ most_ many_ plans_ fit_ kept_) := (show Sim 21 (RelF (α := Bool)) ((seqS g_law_10 (seqS g_law_11 (seqS g_law_12 (seqS g_law_13 (seqS g_law_14 (seqS g_law_15 (seqS g_law_16 (seqS g_law_17 (seqS g_law_18 (seqS g_law_19 g_law_20)))))))))) [j_script, fz digits_, fz arrivals_, j_time, j_at, fz most_, fz many_, fz plans_, j_cuts, j_ends, j_sizes, j_plan, fz fit_, fz kept_, j_best, j_told, j_short, j_start, j_fine, j_size, j_wrong]) ((if (decide ((fit_.length : Int) = (0 : Int))) = true then ((((m_least_convoy_wait arrivals_ most_ many_).bind fun a => (.ok a.isSome)).bind fun k => if k = true then .ok true else ((m_convoy_plan arrivals_ most_ many_).bind fun a => (.ok a.isSome))).bind fun k => if k = true then (.ok false) else (m_law_11 digits_ arrivals_ most_ many_ plans_ kept_)) else (((lcM fit_ (fun (plan_ : (T3 Int Int (List Int))) => (.ok true)) (fun (plan_ : (T3 Int Int (List Int))) => (.ok (plan_.a, plan_.b)))).bind fun a => (minT a)).bind fun best_ => ((m_convoy_plan arrivals_ most_ many_).bind fun told_ => (((((m_least_convoy_wait arrivals_ most_ many_).bind fun a13 => (stri (enc best_.1) (enc a13))).bind fun k => .ok (!k)).bind fun k => if k = true then .ok true else (.ok ((!(isTy "list" (enc told_))) || (!memT (T3.mk best_.1 best_.2 told_) (List.map (fun (p : (T3 Int Int (List Int))) => T3.mk (id p.a) (id p.b) (some p.c)) fit_))))).bind fun k => if k = true then (.ok false) else (m_law_11 digits_ arrivals_ most_ many_ plans_ kept_)))))) from
  (s_last (s_asc (s_ifP rfl (r_eqt_pp (by decide) (r_len_p (r_var rfl)) (r_k (a := (0 : Int)) rfl)) (s_frz (ρ2 := [j_script, fz digits_, fz arrivals_, j_time, j_at, fz most_, fz many_, fz plans_, j_cuts, j_ends, j_sizes, j_plan, fz fit_, fz kept_, j_best, j_told, j_short, j_start, j_fine, j_size, j_wrong]) rfl (s_if rfl (t_or (r_notn_ep (r_call (k_consP (r_var rfl) (k_consP (r_var rfl) (k_consP (r_var rfl) (k_nil (r_m_least_convoy_wait _ _ _)))))) (r_k (a := ()) rfl)) (r_notn_ep (r_call (k_consP (r_var rfl) (k_consP (r_var rfl) (k_consP (r_var rfl) (k_nil (r_m_convoy_plan _ _ _)))))) (r_k (a := ()) rfl))) (s_retF rfl (r_k (a := false) rfl)) (s_nil (s_tryN (t_m_law_11 digits_ arrivals_ most_ many_ plans_ kept_))))) (s_asc (s_asg (ρ' := fun (best_ : (Int × Int)) => [j_script, fz digits_, fz arrivals_, j_time, j_at, fz most_, fz many_, fz plans_, j_cuts, j_ends, j_sizes, j_plan, fz fit_, fz kept_, fz best_, j_told, j_short, j_start, j_fine, j_size, j_wrong]) rfl (r_mint_e (by decide) (r_vO (rl_lcP (ρ' := [j_script, fz digits_, fz arrivals_, j_time, j_at, fz most_, fz many_, fz plans_, j_cuts, j_ends, j_sizes, none, fz fit_, fz kept_, j_best, j_told, j_short, j_start, j_fine, j_size, j_wrong]) (ρ1 := fun (plan_ : (T3 Int Int (List Int))) => [j_script, fz digits_, fz arrivals_, j_time, j_at, fz most_, fz many_, fz plans_, j_cuts, j_ends, j_sizes, fz plan_, fz fit_, fz kept_, j_best, j_told, j_short, j_start, j_fine, j_size, j_wrong]) (i_list (r_var rfl)) rfl (fun _ => rfl) (fun plan_ => t_T) (fun plan_ => (r_slcX (r_var rfl) q_no (q_some (r_k (a := (2 : Int)) rfl)) rfl))))) (fun _ => rfl) fun best_ => (s_asc (s_frz (ρ2 := [j_script, fz digits_, fz arrivals_, j_time, j_at, fz most_, fz many_, fz plans_, j_cuts, j_ends, j_sizes, j_plan, fz fit_, fz kept_, fz best_, j_told, j_short, j_start, j_fine, j_size, j_wrong]) rfl (s_asg (ρ' := fun (told_ : (Option (List Int))) => [j_script, fz digits_, fz arrivals_, j_time, j_at, fz most_, fz many_, fz plans_, j_cuts, j_ends, j_sizes, j_plan, fz fit_, fz kept_, fz best_, fz told_, j_short, j_start, j_fine, j_size, j_wrong]) rfl (r_call (k_consP (r_var rfl) (k_consP (r_var rfl) (k_consP (r_var rfl) (k_nil (r_m_convoy_plan _ _ _)))))) (fun _ => rfl) fun told_ => (s_frz (ρ2 := [j_script, fz digits_, fz arrivals_, j_time, j_at, fz most_, fz many_, fz plans_, j_cuts, j_ends, j_sizes, j_plan, fz fit_, fz kept_, fz best_, fz told_, j_short, j_start, j_fine, j_size, j_wrong]) rfl (s_if rfl (t_or (t_not (t_isB (r_call (k_consP (r_binX (r_var rfl) (r_k (a := (0 : Int)) rfl) rfl) (k_cons (r_call (k_consP (r_var rfl) (k_consP (r_var rfl) (k_consP (r_var rfl) (k_nil (r_m_least_convoy_wait _ _ _)))))) fun a13 => (k_nil (c_stri _ _))))))) (t_orP (t_notP (t_isB (r_isiP (r_var rfl)))) (r_nint_pp (α := (T3 Int Int (Option (List Int)))) (by decide) (r_tup (k_consP (r_binX (r_var rfl) (r_k (a := (0 : Int)) rfl) rfl) (k_consP (r_binX (r_var rfl) (r_k (a := (1 : Int)) rfl) rfl) (k_consP (r_var rfl) (k_nil (tk rfl rfl)))))) (r_c (g := (fun l => List.map (fun (p : (T3 Int Int (List Int))) => T3.mk (id p.a) (id p.b) (some p.c)) l)) (c_list (c_t3 c_id c_id c_some)) (r_var rfl))))) (s_retF rfl (r_k (a := false) rfl)) (s_nil (s_tryN (t_m_law_11 digits_ arrivals_ most_ many_ plans_ kept_))))))))))))))
def m_law_9 (digits_ : (List Int)) (arrivals_ : (List Int)) (most_ : Int) (many_ : Int) (plans_ : (List (T3 Int Int (List Int)))) (fit_ : (List (T3 Int Int (List Int)))) : Res Bool :=
  ((Res.ok (arrivals_ : (List Int))).bind fun kept_ => (m_law_10 digits_ arrivals_ most_ many_ plans_ fit_ kept_))
theorem t_m_law_9 (digits_ : (List Int)) (arrivals_ : (List Int)) (most_ : Int) (many_ : Int) (plans_ : (List (T3 Int Int (List Int)))) (fit_ : (List (T3 Int Int (List Int)))) {j_script j_time j_at j_cuts j_ends j_sizes j_plan j_kept j_best j_told j_short j_start j_fine j_size j_wrong : Option LV} : Sim 21 (RelF (α := Bool)) ((seqS g_law_9 (seqS g_law_10 (seqS g_law_11 (seqS g_law_12 (seqS g_law_13 (seqS g_law_14 (seqS g_law_15 (seqS g_law_16 (seqS g_law_17 (seqS g_law_18 (seqS g_law_19 g_law_20))))))))))) [j_script, fz digits_, fz arrivals_, j_time, j_at, fz most_, fz many_, fz plans_, j_cuts, j_ends, j_sizes, j_plan, fz fit_, j_kept, j_best, j_told, j_short, j_start, j_fine, j_size, j_wrong]) (m_law_9 digits_ arrivals_ most_ many_ plans_ fit_) := (show Sim 21 (RelF (α := Bool)) ((seqS g_law_9 (seqS g_law_10 (seqS g_law_11 (seqS g_law_12 (seqS g_law_13 (seqS g_law_14 (seqS g_law_15 (seqS g_law_16 (seqS g_law_17 (seqS g_law_18 (seqS g_law_19 g_law_20))))))))))) [j_script, fz digits_, fz arrivals_, j_time, j_at, fz most_, fz many_, fz plans_, j_cuts, j_ends, j_sizes, j_plan, fz fit_, j_kept, j_best, j_told, j_short, j_start, j_fine, j_size, j_wrong]) (((Res.ok (arrivals_ : (List Int))).bind fun kept_ => (m_law_10 digits_ arrivals_ most_ many_ plans_ fit_ kept_))) from
  (s_last (s_asc (s_asg (ρ' := fun (kept_ : (List Int)) => [j_script, fz digits_, fz arrivals_, j_time, j_at, fz most_, fz many_, fz plans_, j_cuts, j_ends, j_sizes, j_plan, fz fit_, fz kept_, j_best, j_told, j_short, j_start, j_fine, j_size, j_wrong]) rfl (r_vO (rl_list_p (r_varR rfl))) (fun _ => rfl) fun kept_ => (s_tryN (t_m_law_10 digits_ arrivals_ most_ many_ plans_ fit_ kept_))))))
def m_law_8 (digits_ : (List Int)) (arrivals_ : (List Int)) (most_ : Int) (many_ : Int) (plans_ : (List (T3 Int Int (List Int)))) : Res Bool :=
  ((lcM plans_ (fun (plan_ : (T3 Int Int (List Int))) => (.ok (decide (plan_.b ≤ many_)))) (fun (plan_ : (T3 Int Int (List Int))) => (.ok plan_))).bind fun fit_ => (m_law_9 digits_ arrivals_ most_ many_ plans_ fit_))
theorem t_m_law_8 (digits_ : (List Int)) (arrivals_ : (List Int)) (most_ : Int) (many_ : Int) (plans_ : (List (T3 Int Int (List Int)))) {j_script j_time j_at j_cuts j_ends j_sizes j_plan j_fit j_kept j_best j_told j_short j_start j_fine j_size j_wrong : Option LV} : Sim 21 (RelF (α := Bool)) ((seqS g_law_8 (seqS g_law_9 (seqS g_law_10 (seqS g_law_11 (seqS g_law_12 (seqS g_law_13 (seqS g_law_14 (seqS g_law_15 (seqS g_law_16 (seqS g_law_17 (seqS g_law_18 (seqS g_law_19 g_law_20)))))))))))) [j_script, fz digits_, fz arrivals_, j_time, j_at, fz most_, fz many_, ow plans_, j_cuts, j_ends, j_sizes, j_plan, j_fit, j_kept, j_best, j_told, j_short, j_start, j_fine, j_size, j_wrong]) (m_law_8 digits_ arrivals_ most_ many_ plans_) := (show Sim 21 (RelF (α := Bool)) ((seqS g_law_8 (seqS g_law_9 (seqS g_law_10 (seqS g_law_11 (seqS g_law_12 (seqS g_law_13 (seqS g_law_14 (seqS g_law_15 (seqS g_law_16 (seqS g_law_17 (seqS g_law_18 (seqS g_law_19 g_law_20)))))))))))) [j_script, fz digits_, fz arrivals_, j_time, j_at, fz most_, fz many_, ow plans_, j_cuts, j_ends, j_sizes, j_plan, j_fit, j_kept, j_best, j_told, j_short, j_start, j_fine, j_size, j_wrong]) (((lcM plans_ (fun (plan_ : (T3 Int Int (List Int))) => (.ok (decide (plan_.b ≤ many_)))) (fun (plan_ : (T3 Int Int (List Int))) => (.ok plan_))).bind fun fit_ => (m_law_9 digits_ arrivals_ most_ many_ plans_ fit_))) from
  (s_last (s_asc (s_frz (ρ2 := [j_script, fz digits_, fz arrivals_, j_time, j_at, fz most_, fz many_, fz plans_, j_cuts, j_ends, j_sizes, j_plan, j_fit, j_kept, j_best, j_told, j_short, j_start, j_fine, j_size, j_wrong]) rfl (s_asg (ρ' := fun (fit_ : (List (T3 Int Int (List Int)))) => [j_script, fz digits_, fz arrivals_, j_time, j_at, fz most_, fz many_, fz plans_, j_cuts, j_ends, j_sizes, j_plan, fz fit_, j_kept, j_best, j_told, j_short, j_start, j_fine, j_size, j_wrong]) rfl (r_vO (rl_lcP (ρ' := [j_script, fz digits_, fz arrivals_, j_time, j_at, fz most_, fz many_, fz plans_, j_cuts, j_ends, j_sizes, none, j_fit, j_kept, j_best, j_told, j_short, j_start, j_fine, j_size, j_wrong]) (ρ1 := fun (plan_ : (T3 Int Int (List Int))) => [j_script, fz digits_, fz arrivals_, j_time, j_at, fz most_, fz many_, fz plans_, j_cuts, j_ends, j_sizes, fz plan_, j_fit, j_kept, j_best, j_told, j_short, j_start, j_fine, j_size, j_wrong]) (i_list (r_var rfl)) rfl (fun _ => rfl) (fun plan_ => (r_le_pp (r_binX (r_var rfl) (r_k (a := (1 : Int)) rfl) rfl) (r_var rfl))) (fun plan_ => (r_var rfl)))) (fun _ => rfl) fun fit_ => (s_tryN (t_m_law_9 digits_ arrivals_ most_ many_ plans_ fit_)))))))
def m_law_7b (arrivals_ : (List Int)) (most_ : Int) (cuts_ : (List Int)) (plans_ : (List (T3 Int Int (List Int)))) : Res (Step (List (T3 Int Int (List Int))) Bool) :=
  (((cat [(0 : Int)] cuts_).bind fun a => (cat a [(arrivals_.length : Int)])).bind fun ends_ => ((if (decide ((0 : Int) < (arrivals_.length : Int))) = true then ((rng1z ((ends_.length : Int) - (1 : Int))).bind fun l => (lcM l (fun (at_ : Int) => (.ok true)) (fun (at_ : Int) => ((ix ends_ (at_ + (1 : Int))).bind fun a => ((ix ends_ at_).bind fun b => (.ok (a - b))))))) else (.ok ([] : List Int))).bind fun sizes_ => (((((cat sizes_ [(0 : Int)]).bind fun a => (maxz a)).bind fun a => (.ok (decide (a ≤ most_)))).bind fun k => (if k = true then (((m_law_wait arrivals_ sizes_).bind fun a5 => (.ok (T3.mk a5 (sizes_.length : Int) sizes_))).bind fun v => (app plans_ v).bind fun plans_ => (.ok plans_)) else (.ok plans_) : Res (List (T3 Int Int (List Int))))).bind fun s6 => ((((m_law_wait arrivals_ sizes_).bind fun a9 => ((m_plan_wait arrivals_ sizes_).bind fun a10 => (stri (enc a9) (enc a10)))).bind fun k => .ok (!k)).bind fun k => if k = true then (.ok (.rt false)) else (.ok (.nx s6))))))
theorem b_m_law_7b (digits_ : (List Int)) (arrivals_ : (List Int)) (most_ : Int) (many_ : Int) (cuts_ : (List Int)) (plans_ : (List (T3 Int Int (List Int)))) {j_ends j_sizes : Option LV} : Sim 21 (RelC (β := Bool) (fun (s : (List (T3 Int Int (List Int)))) (ρ : Rho) => ∃ j_ends j_sizes j_cuts : Option LV, ρ = [j_script, fz digits_, fz arrivals_, j_time, j_at, fz most_, fz many_, ow s, j_cuts, j_ends, j_sizes, j_plan, j_fit, j_kept, j_best, j_told, j_short, j_start, j_fine, j_size, j_wrong])) (g_law_7b [j_script, fz digits_, fz arrivals_, j_time, j_at, fz most_, fz many_, ow plans_, fz cuts_, j_ends, j_sizes, j_plan, j_fit, j_kept, j_best, j_told, j_short, j_start, j_fine, j_size, j_wrong]) (m_law_7b arrivals_ most_ cuts_ plans_) := (show Sim 21 (RelC (β := Bool) (fun (s : (List (T3 Int Int (List Int)))) (ρ : Rho) => ∃ j_ends j_sizes j_cuts : Option LV, ρ = [j_script, fz digits_, fz arrivals_, j_time, j_at, fz most_, fz many_, ow s, j_cuts, j_ends, j_sizes, j_plan, j_fit, j_kept, j_best, j_told, j_short, j_start, j_fine, j_size, j_wrong])) (g_law_7b [j_script, fz digits_, fz arrivals_, j_time, j_at, fz most_, fz many_, ow plans_, fz cuts_, j_ends, j_sizes, j_plan, j_fit, j_kept, j_best, j_told, j_short, j_start, j_fine, j_size, j_wrong]) ((((cat [(0 : Int)] cuts_).bind fun a => (cat a [(arrivals_.length : Int)])).bind fun ends_ => ((if (decide ((0 : Int) < (arrivals_.length : Int))) = true then ((rng1z ((ends_.length : Int) - (1 : Int))).bind fun l => (lcM l (fun (at_ : Int) => (.ok true)) (fun (at_ : Int) => ((ix ends_ (at_ + (1 : Int))).bind fun a => ((ix ends_ at_).bind fun b => (.ok (a - b))))))) else (.ok ([] : List Int))).bind fun sizes_ => (((((cat sizes_ [(0 : Int)]).bind fun a => (maxz a)).bind fun a => (.ok (decide (a ≤ most_)))).bind fun k => (if k = true then (((m_law_wait arrivals_ sizes_).bind fun a5 => (.ok (T3.mk a5 (sizes_.length : Int) sizes_))).bind fun v => (app plans_ v).bind fun plans_ => (.ok plans_)) else (.ok plans_) : Res (List (T3 Int Int (List Int))))).bind fun s6 => ((((m_law_wait arrivals_ sizes_).bind fun a9 => ((m_plan_wait arrivals_ sizes_).bind fun a10 => (stri (enc a9) (enc a10)))).bind fun k => .ok (!k)).bind fun k => if k = true then (.ok (.rt false)) else (.ok (.nx s6))))))) from
  (s_last (s_asc (s_asg (ρ' := fun (ends_ : (List Int)) => [j_script, fz digits_, fz arrivals_, j_time, j_at, fz most_, fz many_, ow plans_, fz cuts_, fz ends_, j_sizes, j_plan, j_fit, j_kept, j_best, j_told, j_short, j_start, j_fine, j_size, j_wrong]) rfl (r_addl_ep (r_addl_pp (r_vO (r_lst (k_consP (r_k (a := (0 : Int)) rfl) (k_nil (lk (c := [(0 : Int)]) rfl rfl))))) (r_var rfl)) (r_vO (r_lst (k_consP (r_len_p (r_varR rfl)) (k_nil (lk (c := [(arrivals_.length : Int)]) rfl rfl)))))) (fun _ => rfl) fun ends_ => (s_asc (s_asg (ρ' := fun (sizes_ : (List Int)) => [j_script, fz digits_, fz arrivals_, j_time, j_at, fz most_, fz many_, ow plans_, fz cuts_, fz ends_, fz sizes_, j_plan, j_fit, j_kept, j_best, j_told, j_short, j_start, j_fine, j_size, j_wrong]) rfl (r_ifQ (r_gt_pp (r_len_p (r_varR rfl)) (r_k (a := (0 : Int)) rfl)) (r_vO (rl_lc (ρ' := [j_script, fz digits_, fz arrivals_, j_time, none, fz most_, fz many_, ow plans_, fz cuts_, fz ends_, j_sizes, j_plan, j_fit, j_kept, j_best, j_told, j_short, j_start, j_fine, j_size, j_wrong]) (ρ1 := fun (at_ : Int) => [j_script, fz digits_, fz arrivals_, j_time, fz at_, fz most_, fz many_, ow plans_, fz cuts_, fz ends_, j_sizes, j_plan, j_fit, j_kept, j_best, j_told, j_short, j_start, j_fine, j_size, j_wrong]) (i_rng1 (a_cons (r_sub_pp (r_len_p (r_var rfl)) (r_k (a := (1 : Int)) rfl)) a_nil)) rfl (fun _ => rfl) (fun at_ => t_T) (fun at_ => (r_sub_ee (r_ix_pp (r_var rfl) (r_add_pp (r_var rfl) (r_k (a := (1 : Int)) rfl))) (r_ix_pp (r_var rfl) (r_var rfl)))))) (r_vO (r_lst (k_nil (lk (c := []) rfl rfl))))) (fun _ => rfl) fun sizes_ => (s_asc (s_ifJ (R := (fun (s : (List (T3 Int Int (List Int)))) (ρ : Rho) => ρ = [j_script, fz digits_, fz arrivals_, j_time, j_at, fz most_, fz many_, ow s, fz cuts_, fz ends_, fz sizes_, j_plan, j_fit, j_kept, j_best, j_told, j_short, j_start, j_fine, j_size, j_wrong])) rfl (r_le_ep (r_maxz_e (r_addl_pp (r_var rfl) (r_vO (r_lst (k_consP (r_k (a := (0 : Int)) rfl) (k_nil (lk (c := [(0 : Int)]) rfl rfl))))))) (r_var rfl)) (s_last (s_frz (ρ2 := [j_script, fz digits_, fz arrivals_, j_time, j_at, fz most_, fz many_, ow plans_, fz cuts_, fz ends_, fz sizes_, j_plan, j_fit, j_kept, j_best, j_told, j_short, j_start, j_fine, j_size, j_wrong]) rfl (s_app (ρ' := fun (plans_ : (List (T3 Int Int (List Int)))) => [j_script, fz digits_, fz arrivals_, j_time, j_at, fz most_, fz many_, ow plans_, fz cuts_, fz ends_, fz sizes_, j_plan, j_fit, j_kept, j_best, j_told, j_short, j_start, j_fine, j_size, j_wrong]) rfl rfl (r_tup (k_cons (r_call (k_consP (r_var rfl) (k_consP (r_var rfl) (k_nil (r_m_law_wait _ _))))) fun a5 => (k_consP (r_len_p (r_var rfl)) (k_consP (r_var rfl) (k_nil (tk rfl rfl)))))) (fun _ => rfl) fun plans_ => (s_end (e_J rfl))))) (s_last (s_nil (s_end (e_J rfl)))) (by rintro s6 ρ rfl; exact (s_frz (ρ2 := [j_script, fz digits_, fz arrivals_, j_time, j_at, fz most_, fz many_, ow s6, fz cuts_, fz ends_, fz sizes_, j_plan, j_fit, j_kept, j_best, j_told, j_short, j_start, j_fine, j_size, j_wrong]) rfl (s_if rfl (t_not (t_isB (r_call (k_cons (r_call (k_consP (r_var rfl) (k_consP (r_var rfl) (k_nil (r_m_law_wait _ _))))) fun a9 => (k_cons (r_call (k_consP (r_var rfl) (k_consP (r_var rfl) (k_nil (r_m_plan_wait _ _))))) fun a10 => (k_nil (c_stri _ _))))))) (s_retCP rfl (r_k (a := false) rfl)) (s_nil (s_end (e_C ⟨_, _, _, rfl⟩))))))))))))))
def m_law_7 (digits_ : (List Int)) (arrivals_ : (List Int)) (most_ : Int) (many_ : Int) (plans_ : (List (T3 Int Int (List Int)))) : Res Bool :=
  ((((Res.ok (1 : Int)).bind fun i => (Res.ok (arrivals_.length : Int)).bind fun j => lrng i j).bind fun a3 => (m_law_subsets a3)).bind fun l => (forC (fun (a : (List Int)) (s : (List (T3 Int Int (List Int)))) => m_law_7b arrivals_ most_ a s) l plans_).bind (stp (fun s11 => (m_law_8 digits_ arrivals_ most_ many_ s11)) (fun b => .ok b)))
theorem t_m_law_7 (digits_ : (List Int)) (arrivals_ : (List Int)) (most_ : Int) (many_ : Int) (plans_ : (List (T3 Int Int (List Int)))) {j_script j_time j_at j_cuts j_ends j_sizes j_plan j_fit j_kept j_best j_told j_short j_start j_fine j_size j_wrong : Option LV} : Sim 21 (RelF (α := Bool)) ((seqS g_law_7 (seqS g_law_8 (seqS g_law_9 (seqS g_law_10 (seqS g_law_11 (seqS g_law_12 (seqS g_law_13 (seqS g_law_14 (seqS g_law_15 (seqS g_law_16 (seqS g_law_17 (seqS g_law_18 (seqS g_law_19 g_law_20))))))))))))) [j_script, fz digits_, ow arrivals_, j_time, j_at, fz most_, fz many_, ow plans_, j_cuts, j_ends, j_sizes, j_plan, j_fit, j_kept, j_best, j_told, j_short, j_start, j_fine, j_size, j_wrong]) (m_law_7 digits_ arrivals_ most_ many_ plans_) := (show Sim 21 (RelF (α := Bool)) ((seqS g_law_7 (seqS g_law_8 (seqS g_law_9 (seqS g_law_10 (seqS g_law_11 (seqS g_law_12 (seqS g_law_13 (seqS g_law_14 (seqS g_law_15 (seqS g_law_16 (seqS g_law_17 (seqS g_law_18 (seqS g_law_19 g_law_20))))))))))))) [j_script, fz digits_, ow arrivals_, j_time, j_at, fz most_, fz many_, ow plans_, j_cuts, j_ends, j_sizes, j_plan, j_fit, j_kept, j_best, j_told, j_short, j_start, j_fine, j_size, j_wrong]) (((((Res.ok (1 : Int)).bind fun i => (Res.ok (arrivals_.length : Int)).bind fun j => lrng i j).bind fun a3 => (m_law_subsets a3)).bind fun l => (forC (fun (a : (List Int)) (s : (List (T3 Int Int (List Int)))) => m_law_7b arrivals_ most_ a s) l plans_).bind (stp (fun s11 => (m_law_8 digits_ arrivals_ most_ many_ s11)) (fun b => .ok b)))) from
  (s_last (s_asc (s_frz (ρ2 := [j_script, fz digits_, fz arrivals_, j_time, j_at, fz most_, fz many_, ow plans_, j_cuts, j_ends, j_sizes, j_plan, j_fit, j_kept, j_best, j_told, j_short, j_start, j_fine, j_size, j_wrong]) rfl (s_forC (R := (fun (s : (List (T3 Int Int (List Int)))) (ρ : Rho) => ∃ j_ends j_sizes j_cuts : Option LV, ρ = [j_script, fz digits_, fz arrivals_, j_time, j_at, fz most_, fz many_, ow s, j_cuts, j_ends, j_sizes, j_plan, j_fit, j_kept, j_best, j_told, j_short, j_start, j_fine, j_size, j_wrong])) (by rintro s ρ ⟨_, _, _, rfl⟩; rfl) (i_list (r_call (k_cons (r_vO (rl_lrg2 (r_k (a := (1 : Int)) rfl) (r_len_p (r_varR rfl)))) fun a3 => (k_nil (r_m_law_subsets _))))) ⟨_, _, _, rfl⟩ (by rintro a s ρ ⟨j_ends, j_sizes, j_cuts, rfl⟩; exact ⟨[j_script, fz digits_, fz arrivals_, j_time, j_at, fz most_, fz many_, ow s, fz a, j_ends, j_sizes, j_plan, j_fit, j_kept, j_best, j_told, j_short, j_start, j_fine, j_size, j_wrong], rfl, b_m_law_7b digits_ arrivals_ most_ many_ a s⟩) (fun _ => .inr rfl) (by rintro s11 ρ ⟨j_ends, j_sizes, j_cuts, rfl⟩; exact (s_tryN (t_m_law_8 digits_ arrivals_ most_ many_ s11))))))))
def m_law_6 (digits_ : (List Int)) (arrivals_ : (List Int)) (most_ : Int) (many_ : Int) : Res Bool :=
  ((Res.ok (([] : List (T3 Int Int (List Int))) : (List (T3 Int Int (List Int))))).bind fun plans_ => (m_law_7 digits_ arrivals_ most_ many_ plans_))
theorem t_m_law_6 (digits_ : (List Int)) (arrivals_ : (List Int)) (most_ : Int) (many_ : Int) {j_script j_time j_at j_plans j_cuts j_ends j_sizes j_plan j_fit j_kept j_best j_told j_short j_start j_fine j_size j_wrong : Option LV} : Sim 21 (RelF (α := Bool)) ((seqS g_law_6 (seqS g_law_7 (seqS g_law_8 (seqS g_law_9 (seqS g_law_10 (seqS g_law_11 (seqS g_law_12 (seqS g_law_13 (seqS g_law_14 (seqS g_law_15 (seqS g_law_16 (seqS g_law_17 (seqS g_law_18 (seqS g_law_19 g_law_20)))))))))))))) [j_script, fz digits_, ow arrivals_, j_time, j_at, fz most_, fz many_, j_plans, j_cuts, j_ends, j_sizes, j_plan, j_fit, j_kept, j_best, j_told, j_short, j_start, j_fine, j_size, j_wrong]) (m_law_6 digits_ arrivals_ most_ many_) := (show Sim 21 (RelF (α := Bool)) ((seqS g_law_6 (seqS g_law_7 (seqS g_law_8 (seqS g_law_9 (seqS g_law_10 (seqS g_law_11 (seqS g_law_12 (seqS g_law_13 (seqS g_law_14 (seqS g_law_15 (seqS g_law_16 (seqS g_law_17 (seqS g_law_18 (seqS g_law_19 g_law_20)))))))))))))) [j_script, fz digits_, ow arrivals_, j_time, j_at, fz most_, fz many_, j_plans, j_cuts, j_ends, j_sizes, j_plan, j_fit, j_kept, j_best, j_told, j_short, j_start, j_fine, j_size, j_wrong]) (((Res.ok (([] : List (T3 Int Int (List Int))) : (List (T3 Int Int (List Int))))).bind fun plans_ => (m_law_7 digits_ arrivals_ most_ many_ plans_))) from
  (s_last (s_asc (s_asgO (ρ' := fun (plans_ : (List (T3 Int Int (List Int)))) => [j_script, fz digits_, ow arrivals_, j_time, j_at, fz most_, fz many_, ow plans_, j_cuts, j_ends, j_sizes, j_plan, j_fit, j_kept, j_best, j_told, j_short, j_start, j_fine, j_size, j_wrong]) rfl (r_lst (k_nil (lk (c := []) rfl rfl))) (fun _ => rfl) fun plans_ => (s_tryN (t_m_law_7 digits_ arrivals_ most_ many_ plans_))))))
def m_law_5 (digits_ : (List Int)) (arrivals_ : (List Int)) (most_ : Int) : Res Bool :=
  ((ix digits_ (2 : Int)).bind fun many_ => (m_law_6 digits_ arrivals_ most_ many_))
theorem t_m_law_5 (digits_ : (List Int)) (arrivals_ : (List Int)) (most_ : Int) {j_script j_time j_at j_many j_plans j_cuts j_ends j_sizes j_plan j_fit j_kept j_best j_told j_short j_start j_fine j_size j_wrong : Option LV} : Sim 21 (RelF (α := Bool)) ((seqS g_law_5 (seqS g_law_6 (seqS g_law_7 (seqS g_law_8 (seqS g_law_9 (seqS g_law_10 (seqS g_law_11 (seqS g_law_12 (seqS g_law_13 (seqS g_law_14 (seqS g_law_15 (seqS g_law_16 (seqS g_law_17 (seqS g_law_18 (seqS g_law_19 g_law_20))))))))))))))) [j_script, fz digits_, ow arrivals_, j_time, j_at, fz most_, j_many, j_plans, j_cuts, j_ends, j_sizes, j_plan, j_fit, j_kept, j_best, j_told, j_short, j_start, j_fine, j_size, j_wrong]) (m_law_5 digits_ arrivals_ most_) := (show Sim 21 (RelF (α := Bool)) ((seqS g_law_5 (seqS g_law_6 (seqS g_law_7 (seqS g_law_8 (seqS g_law_9 (seqS g_law_10 (seqS g_law_11 (seqS g_law_12 (seqS g_law_13 (seqS g_law_14 (seqS g_law_15 (seqS g_law_16 (seqS g_law_17 (seqS g_law_18 (seqS g_law_19 g_law_20))))))))))))))) [j_script, fz digits_, ow arrivals_, j_time, j_at, fz most_, j_many, j_plans, j_cuts, j_ends, j_sizes, j_plan, j_fit, j_kept, j_best, j_told, j_short, j_start, j_fine, j_size, j_wrong]) (((ix digits_ (2 : Int)).bind fun many_ => (m_law_6 digits_ arrivals_ most_ many_))) from
  (s_last (s_asc (s_asg (ρ' := fun (many_ : Int) => [j_script, fz digits_, ow arrivals_, j_time, j_at, fz most_, fz many_, j_plans, j_cuts, j_ends, j_sizes, j_plan, j_fit, j_kept, j_best, j_told, j_short, j_start, j_fine, j_size, j_wrong]) rfl (r_ix_pp (r_var rfl) (r_k (a := (2 : Int)) rfl)) (fun _ => rfl) fun many_ => (s_tryN (t_m_law_6 digits_ arrivals_ most_ many_))))))
def m_law_4 (digits_ : (List Int)) (arrivals_ : (List Int)) : Res Bool :=
  (((ix digits_ (1 : Int)).bind fun a => (.ok (a + (1 : Int)))).bind fun most_ => (m_law_5 digits_ arrivals_ most_))
theorem t_m_law_4 (digits_ : (List Int)) (arrivals_ : (List Int)) {j_script j_time j_at j_most j_many j_plans j_cuts j_ends j_sizes j_plan j_fit j_kept j_best j_told j_short j_start j_fine j_size j_wrong : Option LV} : Sim 21 (RelF (α := Bool)) ((seqS g_law_4 (seqS g_law_5 (seqS g_law_6 (seqS g_law_7 (seqS g_law_8 (seqS g_law_9 (seqS g_law_10 (seqS g_law_11 (seqS g_law_12 (seqS g_law_13 (seqS g_law_14 (seqS g_law_15 (seqS g_law_16 (seqS g_law_17 (seqS g_law_18 (seqS g_law_19 g_law_20)))))))))))))))) [j_script, fz digits_, ow arrivals_, j_time, j_at, j_most, j_many, j_plans, j_cuts, j_ends, j_sizes, j_plan, j_fit, j_kept, j_best, j_told, j_short, j_start, j_fine, j_size, j_wrong]) (m_law_4 digits_ arrivals_) := (show Sim 21 (RelF (α := Bool)) ((seqS g_law_4 (seqS g_law_5 (seqS g_law_6 (seqS g_law_7 (seqS g_law_8 (seqS g_law_9 (seqS g_law_10 (seqS g_law_11 (seqS g_law_12 (seqS g_law_13 (seqS g_law_14 (seqS g_law_15 (seqS g_law_16 (seqS g_law_17 (seqS g_law_18 (seqS g_law_19 g_law_20)))))))))))))))) [j_script, fz digits_, ow arrivals_, j_time, j_at, j_most, j_many, j_plans, j_cuts, j_ends, j_sizes, j_plan, j_fit, j_kept, j_best, j_told, j_short, j_start, j_fine, j_size, j_wrong]) ((((ix digits_ (1 : Int)).bind fun a => (.ok (a + (1 : Int)))).bind fun most_ => (m_law_5 digits_ arrivals_ most_))) from
  (s_last (s_asc (s_asg (ρ' := fun (most_ : Int) => [j_script, fz digits_, ow arrivals_, j_time, j_at, fz most_, j_many, j_plans, j_cuts, j_ends, j_sizes, j_plan, j_fit, j_kept, j_best, j_told, j_short, j_start, j_fine, j_size, j_wrong]) rfl (r_add_ep (r_ix_pp (r_var rfl) (r_k (a := (1 : Int)) rfl)) (r_k (a := (1 : Int)) rfl)) (fun _ => rfl) fun most_ => (s_tryN (t_m_law_5 digits_ arrivals_ most_))))))
def m_law_3b (script_ : (List Int)) (at_ : Int) (time_ : Int) (arrivals_ : (List Int)) : Res ((Int × (List Int))) :=
  (((((draw script_ ((1 : Int) + at_) [(6 : Int)]).bind fun a => (ix a (0 : Int))).bind fun b => (ix [(0 : Int), (1 : Int), (3 : Int), (9 : Int), (1500 : Int), (0 : Int)] b)).bind fun b => (.ok (time_ + b))).bind fun time_ => ((Res.ok ((min time_ (10000 : Int)) : Int)).bind fun v => (app arrivals_ v).bind fun arrivals_ => (.ok (time_, arrivals_))))
theorem b_m_law_3b (script_ : (List Int)) (digits_ : (List Int)) (at_ : Int) (time_ : Int) (arrivals_ : (List Int))  : Sim 21 (RelN (fun (s : (Int × (List Int))) (ρ : Rho) => ∃ j_at : Option LV, ρ = [fz script_, fz digits_, ow s.2, fz s.1, j_at, j_most, j_many, j_plans, j_cuts, j_ends, j_sizes, j_plan, j_fit, j_kept, j_best, j_told, j_short, j_start, j_fine, j_size, j_wrong])) (g_law_3b [fz script_, fz digits_, ow arrivals_, fz time_, fz at_, j_most, j_many, j_plans, j_cuts, j_ends, j_sizes, j_plan, j_fit, j_kept, j_best, j_told, j_short, j_start, j_fine, j_size, j_wrong]) (m_law_3b script_ at_ time_ arrivals_) := (show Sim 21 (RelN (fun (s : (Int × (List Int))) (ρ : Rho) => ∃ j_at : Option LV, ρ = [fz script_, fz digits_, ow s.2, fz s.1, j_at, j_most, j_many, j_plans, j_cuts, j_ends, j_sizes, j_plan, j_fit, j_kept, j_best, j_told, j_short, j_start, j_fine, j_size, j_wrong])) (g_law_3b [fz script_, fz digits_, ow arrivals_, fz time_, fz at_, j_most, j_many, j_plans, j_cuts, j_ends, j_sizes, j_plan, j_fit, j_kept, j_best, j_told, j_short, j_start, j_fine, j_size, j_wrong]) ((((((draw script_ ((1 : Int) + at_) [(6 : Int)]).bind fun a => (ix a (0 : Int))).bind fun b => (ix [(0 : Int), (1 : Int), (3 : Int), (9 : Int), (1500 : Int), (0 : Int)] b)).bind fun b => (.ok (time_ + b))).bind fun time_ => ((Res.ok ((min time_ (10000 : Int)) : Int)).bind fun v => (app arrivals_ v).bind fun arrivals_ => (.ok (time_, arrivals_))))) from
  (s_last (s_asc (s_asg (ρ' := fun (time_ : Int) => [fz script_, fz digits_, ow arrivals_, fz time_, fz at_, j_most, j_many, j_plans, j_cuts, j_ends, j_sizes, j_plan, j_fit, j_kept, j_best, j_told, j_short, j_start, j_fine, j_size, j_wrong]) rfl (r_add_pe (r_var rfl) (r_ix_pe (r_vO (r_lst (k_consP (r_k (a := (0 : Int)) rfl) (k_consP (r_k (a := (1 : Int)) rfl) (k_consP (r_k (a := (3 : Int)) rfl) (k_consP (r_k (a := (9 : Int)) rfl) (k_consP (r_k (a := (1500 : Int)) rfl) (k_consP (r_k (a := (0 : Int)) rfl) (k_nil (lk (c := [(0 : Int), (1 : Int), (3 : Int), (9 : Int), (1500 : Int), (0 : Int)]) rfl rfl)))))))))) (r_ix_ep (r_call (k_consP (r_var rfl) (k_consP (r_add_pp (r_k (a := (1 : Int)) rfl) (r_var rfl)) (k_consP (r_vO (r_lst (k_consP (r_k (a := (6 : Int)) rfl) (k_nil (lk (c := [(6 : Int)]) rfl rfl))))) (k_nil (c_draw _ _ _)))))) (r_k (a := (0 : Int)) rfl)))) (fun _ => rfl) fun time_ => (s_app (ρ' := fun (arrivals_ : (List Int)) => [fz script_, fz digits_, ow arrivals_, fz time_, fz at_, j_most, j_many, j_plans, j_cuts, j_ends, j_sizes, j_plan, j_fit, j_kept, j_best, j_told, j_short, j_start, j_fine, j_size, j_wrong]) rfl rfl (r_min2_pp (r_var rfl) (r_k (a := (10000 : Int)) rfl)) (fun _ => rfl) fun arrivals_ => (s_end (e_N ⟨_, rfl⟩)))))))
def m_law_3 (script_ : (List Int)) (digits_ : (List Int)) (arrivals_ : (List Int)) (time_ : Int) : Res Bool :=
  (((ix digits_ (0 : Int)).bind rng1z).bind fun l => (forM (fun (a : Int) (s : (Int × (List Int))) => m_law_3b script_ a s.1 s.2) l (time_, arrivals_)).bind fun s1 => (m_law_4 digits_ s1.2))
theorem t_m_law_3 (script_ : (List Int)) (digits_ : (List Int)) (arrivals_ : (List Int)) (time_ : Int) {j_at j_most j_many j_plans j_cuts j_ends j_sizes j_plan j_fit j_kept j_best j_told j_short j_start j_fine j_size j_wrong : Option LV} : Sim 21 (RelF (α := Bool)) ((seqS g_law_3 (seqS g_law_4 (seqS g_law_5 (seqS g_law_6 (seqS g_law_7 (seqS g_law_8 (seqS g_law_9 (seqS g_law_10 (seqS g_law_11 (seqS g_law_12 (seqS g_law_13 (seqS g_law_14 (seqS g_law_15 (seqS g_law_16 (seqS g_law_17 (seqS g_law_18 (seqS g_law_19 g_law_20))))))))))))))))) [fz script_, fz digits_, ow arrivals_, fz time_, j_at, j_most, j_many, j_plans, j_cuts, j_ends, j_sizes, j_plan, j_fit, j_kept, j_best, j_told, j_short, j_start, j_fine, j_size, j_wrong]) (m_law_3 script_ digits_ arrivals_ time_) := (show Sim 21 (RelF (α := Bool)) ((seqS g_law_3 (seqS g_law_4 (seqS g_law_5 (seqS g_law_6 (seqS g_law_7 (seqS g_law_8 (seqS g_law_9 (seqS g_law_10 (seqS g_law_11 (seqS g_law_12 (seqS g_law_13 (seqS g_law_14 (seqS g_law_15 (seqS g_law_16 (seqS g_law_17 (seqS g_law_18 (seqS g_law_19 g_law_20))))))))))))))))) [fz script_, fz digits_, ow arrivals_, fz time_, j_at, j_most, j_many, j_plans, j_cuts, j_ends, j_sizes, j_plan, j_fit, j_kept, j_best, j_told, j_short, j_start, j_fine, j_size, j_wrong]) ((((ix digits_ (0 : Int)).bind rng1z).bind fun l => (forM (fun (a : Int) (s : (Int × (List Int))) => m_law_3b script_ a s.1 s.2) l (time_, arrivals_)).bind fun s1 => (m_law_4 digits_ s1.2))) from
  (s_last (s_asc (s_for (R := (fun (s : (Int × (List Int))) (ρ : Rho) => ∃ j_at : Option LV, ρ = [fz script_, fz digits_, ow s.2, fz s.1, j_at, j_most, j_many, j_plans, j_cuts, j_ends, j_sizes, j_plan, j_fit, j_kept, j_best, j_told, j_short, j_start, j_fine, j_size, j_wrong])) (by rintro s ρ ⟨_, rfl⟩; rfl) (i_rng1E (r_ix_pp (r_var rfl) (r_k (a := (0 : Int)) rfl))) ⟨_, rfl⟩ (by rintro a s ρ ⟨j_at, rfl⟩; exact ⟨[fz script_, fz digits_, ow s.2, fz s.1, fz a, j_most, j_many, j_plans, j_cuts, j_ends, j_sizes, j_plan, j_fit, j_kept, j_best, j_told, j_short, j_start, j_fine, j_size, j_wrong], rfl, b_m_law_3b script_ digits_ a s.1 s.2⟩) (by rintro s1 ρ ⟨j_at, rfl⟩; exact (s_tryN (t_m_law_4 digits_ s1.2)))))))
def m_law_2 (script_ : (List Int)) (digits_ : (List Int)) (arrivals_ : (List Int)) : Res Bool :=
  ((Res.ok ((0 : Int) : Int)).bind fun time_ => (m_law_3 script_ digits_ arrivals_ time_))
theorem t_m_law_2 (script_ : (List Int)) (digits_ : (List Int)) (arrivals_ : (List Int)) {j_time j_at j_most j_many j_plans j_cuts j_ends j_sizes j_plan j_fit j_kept j_best j_told j_short j_start j_fine j_size j_wrong : Option LV} : Sim 21 (RelF (α := Bool)) ((seqS g_law_2 (seqS g_law_3 (seqS g_law_4 (seqS g_law_5 (seqS g_law_6 (seqS g_law_7 (seqS g_law_8 (seqS g_law_9 (seqS g_law_10 (seqS g_law_11 (seqS g_law_12 (seqS g_law_13 (seqS g_law_14 (seqS g_law_15 (seqS g_law_16 (seqS g_law_17 (seqS g_law_18 (seqS g_law_19 g_law_20)))))))))))))))))) [fz script_, fz digits_, ow arrivals_, j_time, j_at, j_most, j_many, j_plans, j_cuts, j_ends, j_sizes, j_plan, j_fit, j_kept, j_best, j_told, j_short, j_start, j_fine, j_size, j_wrong]) (m_law_2 script_ digits_ arrivals_) := (show Sim 21 (RelF (α := Bool)) ((seqS g_law_2 (seqS g_law_3 (seqS g_law_4 (seqS g_law_5 (seqS g_law_6 (seqS g_law_7 (seqS g_law_8 (seqS g_law_9 (seqS g_law_10 (seqS g_law_11 (seqS g_law_12 (seqS g_law_13 (seqS g_law_14 (seqS g_law_15 (seqS g_law_16 (seqS g_law_17 (seqS g_law_18 (seqS g_law_19 g_law_20)))))))))))))))))) [fz script_, fz digits_, ow arrivals_, j_time, j_at, j_most, j_many, j_plans, j_cuts, j_ends, j_sizes, j_plan, j_fit, j_kept, j_best, j_told, j_short, j_start, j_fine, j_size, j_wrong]) (((Res.ok ((0 : Int) : Int)).bind fun time_ => (m_law_3 script_ digits_ arrivals_ time_))) from
  (s_last (s_asc (s_asg (ρ' := fun (time_ : Int) => [fz script_, fz digits_, ow arrivals_, fz time_, j_at, j_most, j_many, j_plans, j_cuts, j_ends, j_sizes, j_plan, j_fit, j_kept, j_best, j_told, j_short, j_start, j_fine, j_size, j_wrong]) rfl (r_k (a := (0 : Int)) rfl) (fun _ => rfl) fun time_ => (s_tryN (t_m_law_3 script_ digits_ arrivals_ time_))))))
def m_law_1 (script_ : (List Int)) (digits_ : (List Int)) : Res Bool :=
  ((Res.ok (([] : List Int) : (List Int))).bind fun arrivals_ => (m_law_2 script_ digits_ arrivals_))
theorem t_m_law_1 (script_ : (List Int)) (digits_ : (List Int)) {j_arrivals j_time j_at j_most j_many j_plans j_cuts j_ends j_sizes j_plan j_fit j_kept j_best j_told j_short j_start j_fine j_size j_wrong : Option LV} : Sim 21 (RelF (α := Bool)) ((seqS g_law_1 (seqS g_law_2 (seqS g_law_3 (seqS g_law_4 (seqS g_law_5 (seqS g_law_6 (seqS g_law_7 (seqS g_law_8 (seqS g_law_9 (seqS g_law_10 (seqS g_law_11 (seqS g_law_12 (seqS g_law_13 (seqS g_law_14 (seqS g_law_15 (seqS g_law_16 (seqS g_law_17 (seqS g_law_18 (seqS g_law_19 g_law_20))))))))))))))))))) [fz script_, fz digits_, j_arrivals, j_time, j_at, j_most, j_many, j_plans, j_cuts, j_ends, j_sizes, j_plan, j_fit, j_kept, j_best, j_told, j_short, j_start, j_fine, j_size, j_wrong]) (m_law_1 script_ digits_) := (show Sim 21 (RelF (α := Bool)) ((seqS g_law_1 (seqS g_law_2 (seqS g_law_3 (seqS g_law_4 (seqS g_law_5 (seqS g_law_6 (seqS g_law_7 (seqS g_law_8 (seqS g_law_9 (seqS g_law_10 (seqS g_law_11 (seqS g_law_12 (seqS g_law_13 (seqS g_law_14 (seqS g_law_15 (seqS g_law_16 (seqS g_law_17 (seqS g_law_18 (seqS g_law_19 g_law_20))))))))))))))))))) [fz script_, fz digits_, j_arrivals, j_time, j_at, j_most, j_many, j_plans, j_cuts, j_ends, j_sizes, j_plan, j_fit, j_kept, j_best, j_told, j_short, j_start, j_fine, j_size, j_wrong]) (((Res.ok (([] : List Int) : (List Int))).bind fun arrivals_ => (m_law_2 script_ digits_ arrivals_))) from
  (s_last (s_asc (s_asgO (ρ' := fun (arrivals_ : (List Int)) => [fz script_, fz digits_, ow arrivals_, j_time, j_at, j_most, j_many, j_plans, j_cuts, j_ends, j_sizes, j_plan, j_fit, j_kept, j_best, j_told, j_short, j_start, j_fine, j_size, j_wrong]) rfl (r_lst (k_nil (lk (c := []) rfl rfl))) (fun _ => rfl) fun arrivals_ => (s_tryN (t_m_law_2 script_ digits_ arrivals_))))))
def m_law (script_ : (List Int)) : Res Bool :=
  ((draw script_ (0 : Int) [(8 : Int), (4 : Int), (5 : Int), (30 : Int), (8 : Int), (5 : Int), (3 : Int)]).bind fun digits_ => (m_law_1 script_ digits_))
theorem r_m_law (script_ : (List Int)) : Ref (F_law [enc script_]) (m_law script_) := f_body (ρ := [fz script_, none, none, none, none, none, none, none, none, none, none, none, none, none, none, none, none, none, none, none, none]) rfl (show Sim 21 (RelF (α := Bool)) (G_law [fz script_, none, none, none, none, none, none, none, none, none, none, none, none, none, none, none, none, none, none, none, none]) (((draw script_ (0 : Int) [(8 : Int), (4 : Int), (5 : Int), (30 : Int), (8 : Int), (5 : Int), (3 : Int)]).bind fun digits_ => (m_law_1 script_ digits_))) from
  (s_last (s_asc (s_asg (ρ' := fun (digits_ : (List Int)) => [fz script_, fz digits_, none, none, none, none, none, none, none, none, none, none, none, none, none, none, none, none, none, none, none]) rfl (r_call (k_consP (r_var rfl) (k_consP (r_k (a := (0 : Int)) rfl) (k_consP (r_vO (r_lst (k_consP (r_k (a := (8 : Int)) rfl) (k_consP (r_k (a := (4 : Int)) rfl) (k_consP (r_k (a := (5 : Int)) rfl) (k_consP (r_k (a := (30 : Int)) rfl) (k_consP (r_k (a := (8 : Int)) rfl) (k_consP (r_k (a := (5 : Int)) rfl) (k_consP (r_k (a := (3 : Int)) rfl) (k_nil (lk (c := [(8 : Int), (4 : Int), (5 : Int), (30 : Int), (8 : Int), (5 : Int), (3 : Int)]) rfl rfl))))))))))) (k_nil (c_draw _ _ _)))))) (fun _ => rfl) fun digits_ => (s_tryN (t_m_law_1 script_ digits_))))))
end
end K56

set_option Elab.async false
set_option linter.all false
set_option maxRecDepth 100000
set_option maxHeartbeats 4000000
/-! VSub: all subsets of a list, increasing lists -/
namespace VT
open PySem PySem.Spec PyProof.Rows L2 VL
open Enc
section
variable {α : Type}
def subStep (rows : List (List α)) (x : α) : List (List α) := rows ++ rows.map (· ++ [x])
def subs (l : List α) : List (List α) := l.foldl subStep [[]]
theorem subs_snoc (l : List α) (x : α) : subs (l ++ [x]) = subs l ++ (subs l).map (· ++ [x]) := by
  unfold subs
  rw [List.foldl_append]; rfl
theorem subs_len : ∀ (n : Nat) (l : List α), l.length = n → (subs l).length = 2 ^ n
  | 0, l, h => by
    have : l = [] := List.length_eq_zero_iff.mp h
    subst this; rfl
  | n + 1, l, h => by
    rcases List.eq_nil_or_concat l with rfl | ⟨L, b, rfl⟩
    · simp at h
    · rw [List.concat_eq_append] at h ⊢
      rw [subs_snoc, List.length_append, List.length_map, subs_len n L (by simpa using h), Nat.pow_succ]; omega
theorem subs_mem : ∀ (n : Nat) (l s : List α), l.length = n → (s ∈ subs l ↔ s.Sublist l)
  | 0, l, s, h => by
    have : l = [] := List.length_eq_zero_iff.mp h
    subst this
    show s ∈ [[]] ↔ _
    simp
  | n + 1, l, s, h => by
    rcases List.eq_nil_or_concat l with rfl | ⟨L, b, rfl⟩
    · simp at h
    · have hL : L.length = n := by simpa using h
      rw [List.concat_eq_append]
      rw [subs_snoc, List.mem_append, List.mem_map, subs_mem n L s hL, List.sublist_append_iff]
      constructor
      · rintro (h | ⟨t, ht, rfl⟩)
        · exact ⟨s, [], by simp, h, by simp⟩
        · exact ⟨t, [b], rfl, (subs_mem n L t hL).mp ht, List.Sublist.refl _⟩
      · rintro ⟨l1, l2, rfl, h1, h2⟩
        cases l2 with
        | nil => rw [List.append_nil]; exact .inl h1
        | cons c l2 =>
          have hlen := h2.length_le
          have : l2 = [] := by
            cases l2 with
            | nil => rfl
            | cons => simp at hlen
          subst this
          have hc : c = b := by
            have := h2.subset (List.mem_singleton.mpr rfl)
            simpa using this
          subst hc
          exact .inr ⟨l1, (subs_mem n L l1 hL).mpr h1, rfl⟩
theorem sub_iff {l s : List α} : s ∈ subs l ↔ s.Sublist l := subs_mem l.length l s rfl
/-- the loop that makes them -/
theorem subs_loop {fb : α → List (List α) → Res (List (List α))} {l : List α} (hl : l.length ≤ 15) (h : ∀ x rows, x ∈ l → rows.length ≤ 100000 → (∀ r ∈ rows, r.length ≤ 15) → fb x rows = .ok (subStep rows x)) : forM fb l [[]] = .ok (subs l) := by
  obtain ⟨s, h1, h2⟩ := for_ok (fb := fb) (l := l) (s := [[]]) (fun i s => s = subs (l.take i)) rfl fun i a s hi hp => by
    subst hp
    have hlt := (List.getElem?_eq_some_iff.mp hi).1
    have e1 : l.take (i + 1) = l.take i ++ [a] := by rw [List.take_add_one, hi]; rfl
    refine ⟨subs (l.take (i + 1)), ?_, rfl⟩
    rw [e1, subs_snoc]
    refine h a _ (List.mem_of_getElem? hi) ?_ fun r hr => ?_
    · rw [subs_len (l.take i).length _ rfl]
      have : (l.take i).length ≤ 15 := by rw [List.length_take]; omega
      have := Nat.pow_le_pow_right (n := 2) (by omega) this
      have : 2 ^ 15 = 32768 := rfl
      omega
    · have := (sub_iff.mp hr).length_le
      rw [List.length_take] at this; omega
  rw [List.take_length] at h2
  rw [h1, h2]
end
theorem zr_pw (i : Int) (n : Nat) : (zr i n).Pairwise (· < ·) := by
  unfold zr
  rw [List.pairwise_map]
  have := List.pairwise_lt_range (n := n)
  exact this.imp fun h => by omega
/-- the number of items below t -/
def cnt (l : List Int) (t : Int) : Nat := (l.filter fun x => decide (x < t)).length
theorem cnt_cons (x : Int) (l : List Int) (t : Int) : cnt (x :: l) t = (if x < t then 1 else 0) + cnt l t := by
  unfold cnt
  rw [List.filter_cons]
  by_cases h : x < t
  · simp [h]; omega
  · simp [h]
theorem cnt_none {l : List Int} {t : Int} (h : ∀ x ∈ l, t ≤ x) : cnt l t = 0 := by
  unfold cnt
  rw [List.length_eq_zero_iff, List.filter_eq_nil_iff]
  intro x hx
  have := h x hx
  simp; omega
theorem cnt_all {l : List Int} {t : Int} (h : ∀ x ∈ l, x < t) : cnt l t = l.length := by
  unfold cnt
  rw [List.filter_eq_self.mpr fun x hx => by simpa using h x hx]
/-- of two increasing lists of one length that which has fewer below each number is the greater -/
theorem lex_of_cnt : ∀ {s d : List Int}, s.Pairwise (· < ·) → d.Pairwise (· < ·) → s.length = d.length → (∀ t, cnt d t ≤ cnt s t) → ltL (fun a b : Int => decide (a < b)) d s = false
  | [], [], _, _, _, _ => rfl
  | [], _ :: _, _, _, h, _ => by simp at h
  | _ :: _, [], _, _, h, _ => by simp at h
  | x :: s, y :: d, hs, hd, hl, hc => by
    cases hs with
    | cons hx hs =>
      cases hd with
      | cons hy hd =>
        have hxy : x ≤ y := by
          have h1 := hc (y + 1)
          rw [cnt_cons, cnt_cons, if_pos (by omega)] at h1
          by_cases h : x < y + 1
          · omega
          · rw [if_neg h] at h1
            have e0 : cnt s (y + 1) = 0 := cnt_none fun z hz => by have := hx z hz; omega
            omega
        show (decide (y < x) || (!decide (x < y) && ltL _ d s)) = false
        have e1 : decide (y < x) = false := decide_eq_false (by omega)
        rw [e1]
        by_cases e : x < y
        · rw [decide_eq_true e]; rfl
        · have : x = y := by omega
          subst this
          rw [decide_eq_false e]
          show ltL _ d s = false
          refine lex_of_cnt hs hd (by simpa using hl) fun t => ?_
          have h1 := hc t
          rw [cnt_cons, cnt_cons] at h1
          omega
end VT

set_option Elab.async false
set_option linter.all false
set_option maxRecDepth 100000
set_option maxHeartbeats 4000000
/-! VH: small helpers of the laws' mathematics -/
namespace VT
open PySem PySem.Spec PyProof.Rows L2 VL
open Enc
theorem fitc {ds : List Int} {a : Int} {as : List Int} (k : Fits ds (a :: as)) : ∃ x r, ds = x :: r ∧ (0 ≤ x ∧ x < a) ∧ Fits r as := by
  obtain ⟨x, r, e, h1, h2, k⟩ := fits_cons k
  exact ⟨x, r, e, ⟨h1, h2⟩, k⟩
theorem fit1 {ds : List Int} {z0 : Int} (k : Fits ds [z0]) : ∃ x0, ds = [x0] ∧ (0 ≤ x0 ∧ x0 < z0) := by
  obtain ⟨x0, r, rfl, h0, k⟩ := fitc k
  rw [fits_nil k]
  exact ⟨x0, rfl, h0⟩
theorem fit2 {ds : List Int} {z0 z1 : Int} (k : Fits ds [z0, z1]) : ∃ x0 x1, ds = [x0, x1] ∧ (0 ≤ x0 ∧ x0 < z0) ∧ (0 ≤ x1 ∧ x1 < z1) := by
  obtain ⟨x0, r, rfl, h0, k⟩ := fitc k
  obtain ⟨x1, r, rfl, h1, k⟩ := fitc k
  rw [fits_nil k]
  exact ⟨x0, x1, rfl, h0, h1⟩
theorem fit3 {ds : List Int} {z0 z1 z2 : Int} (k : Fits ds [z0, z1, z2]) : ∃ x0 x1 x2, ds = [x0, x1, x2] ∧ (0 ≤ x0 ∧ x0 < z0) ∧ (0 ≤ x1 ∧ x1 < z1) ∧ (0 ≤ x2 ∧ x2 < z2) := by
  obtain ⟨x0, r, rfl, h0, k⟩ := fitc k
  obtain ⟨x1, r, rfl, h1, k⟩ := fitc k
  obtain ⟨x2, r, rfl, h2, k⟩ := fitc k
  rw [fits_nil k]
  exact ⟨x0, x1, x2, rfl, h0, h1, h2⟩
theorem fit4 {ds : List Int} {z0 z1 z2 z3 : Int} (k : Fits ds [z0, z1, z2, z3]) : ∃ x0 x1 x2 x3, ds = [x0, x1, x2, x3] ∧ (0 ≤ x0 ∧ x0 < z0) ∧ (0 ≤ x1 ∧ x1 < z1) ∧ (0 ≤ x2 ∧ x2 < z2) ∧ (0 ≤ x3 ∧ x3 < z3) := by
  obtain ⟨x0, r, rfl, h0, k⟩ := fitc k
  obtain ⟨x1, r, rfl, h1, k⟩ := fitc k
  obtain ⟨x2, r, rfl, h2, k⟩ := fitc k
  obtain ⟨x3, r, rfl, h3, k⟩ := fitc k
  rw [fits_nil k]
  exact ⟨x0, x1, x2, x3, rfl, h0, h1, h2, h3⟩
theorem fit5 {ds : List Int} {z0 z1 z2 z3 z4 : Int} (k : Fits ds [z0, z1, z2, z3, z4]) : ∃ x0 x1 x2 x3 x4, ds = [x0, x1, x2, x3, x4] ∧ (0 ≤ x0 ∧ x0 < z0) ∧ (0 ≤ x1 ∧ x1 < z1) ∧ (0 ≤ x2 ∧ x2 < z2) ∧ (0 ≤ x3 ∧ x3 < z3) ∧ (0 ≤ x4 ∧ x4 < z4) := by
  obtain ⟨x0, r, rfl, h0, k⟩ := fitc k
  obtain ⟨x1, r, rfl, h1, k⟩ := fitc k
  obtain ⟨x2, r, rfl, h2, k⟩ := fitc k
  obtain ⟨x3, r, rfl, h3, k⟩ := fitc k
  obtain ⟨x4, r, rfl, h4, k⟩ := fitc k
  rw [fits_nil k]
  exact ⟨x0, x1, x2, x3, x4, rfl, h0, h1, h2, h3, h4⟩
theorem fit6 {ds : List Int} {z0 z1 z2 z3 z4 z5 : Int} (k : Fits ds [z0, z1, z2, z3, z4, z5]) : ∃ x0 x1 x2 x3 x4 x5, ds = [x0, x1, x2, x3, x4, x5] ∧ (0 ≤ x0 ∧ x0 < z0) ∧ (0 ≤ x1 ∧ x1 < z1) ∧ (0 ≤ x2 ∧ x2 < z2) ∧ (0 ≤ x3 ∧ x3 < z3) ∧ (0 ≤ x4 ∧ x4 < z4) ∧ (0 ≤ x5 ∧ x5 < z5) := by
  obtain ⟨x0, r, rfl, h0, k⟩ := fitc k
  obtain ⟨x1, r, rfl, h1, k⟩ := fitc k
  obtain ⟨x2, r, rfl, h2, k⟩ := fitc k
  obtain ⟨x3, r, rfl, h3, k⟩ := fitc k
  obtain ⟨x4, r, rfl, h4, k⟩ := fitc k
  obtain ⟨x5, r, rfl, h5, k⟩ := fitc k
  rw [fits_nil k]
  exact ⟨x0, x1, x2, x3, x4, x5, rfl, h0, h1, h2, h3, h4, h5⟩
theorem fit7 {ds : List Int} {z0 z1 z2 z3 z4 z5 z6 : Int} (k : Fits ds [z0, z1, z2, z3, z4, z5, z6]) : ∃ x0 x1 x2 x3 x4 x5 x6, ds = [x0, x1, x2, x3, x4, x5, x6] ∧ (0 ≤ x0 ∧ x0 < z0) ∧ (0 ≤ x1 ∧ x1 < z1) ∧ (0 ≤ x2 ∧ x2 < z2) ∧ (0 ≤ x3 ∧ x3 < z3) ∧ (0 ≤ x4 ∧ x4 < z4) ∧ (0 ≤ x5 ∧ x5 < z5) ∧ (0 ≤ x6 ∧ x6 < z6) := by
  obtain ⟨x0, r, rfl, h0, k⟩ := fitc k
  obtain ⟨x1, r, rfl, h1, k⟩ := fitc k
  obtain ⟨x2, r, rfl, h2, k⟩ := fitc k
  obtain ⟨x3, r, rfl, h3, k⟩ := fitc k
  obtain ⟨x4, r, rfl, h4, k⟩ := fitc k
  obtain ⟨x5, r, rfl, h5, k⟩ := fitc k
  obtain ⟨x6, r, rfl, h6, k⟩ := fitc k
  rw [fits_nil k]
  exact ⟨x0, x1, x2, x3, x4, x5, x6, rfl, h0, h1, h2, h3, h4, h5, h6⟩
theorem fit8 {ds : List Int} {z0 z1 z2 z3 z4 z5 z6 z7 : Int} (k : Fits ds [z0, z1, z2, z3, z4, z5, z6, z7]) : ∃ x0 x1 x2 x3 x4 x5 x6 x7, ds = [x0, x1, x2, x3, x4, x5, x6, x7] ∧ (0 ≤ x0 ∧ x0 < z0) ∧ (0 ≤ x1 ∧ x1 < z1) ∧ (0 ≤ x2 ∧ x2 < z2) ∧ (0 ≤ x3 ∧ x3 < z3) ∧ (0 ≤ x4 ∧ x4 < z4) ∧ (0 ≤ x5 ∧ x5 < z5) ∧ (0 ≤ x6 ∧ x6 < z6) ∧ (0 ≤ x7 ∧ x7 < z7) := by
  obtain ⟨x0, r, rfl, h0, k⟩ := fitc k
  obtain ⟨x1, r, rfl, h1, k⟩ := fitc k
  obtain ⟨x2, r, rfl, h2, k⟩ := fitc k
  obtain ⟨x3, r, rfl, h3, k⟩ := fitc k
  obtain ⟨x4, r, rfl, h4, k⟩ := fitc k
  obtain ⟨x5, r, rfl, h5, k⟩ := fitc k
  obtain ⟨x6, r, rfl, h6, k⟩ := fitc k
  obtain ⟨x7, r, rfl, h7, k⟩ := fitc k
  rw [fits_nil k]
  exact ⟨x0, x1, x2, x3, x4, x5, x6, x7, rfl, h0, h1, h2, h3, h4, h5, h6, h7⟩
theorem fit9 {ds : List Int} {z0 z1 z2 z3 z4 z5 z6 z7 z8 : Int} (k : Fits ds [z0, z1, z2, z3, z4, z5, z6, z7, z8]) : ∃ x0 x1 x2 x3 x4 x5 x6 x7 x8, ds = [x0, x1, x2, x3, x4, x5, x6, x7, x8] ∧ (0 ≤ x0 ∧ x0 < z0) ∧ (0 ≤ x1 ∧ x1 < z1) ∧ (0 ≤ x2 ∧ x2 < z2) ∧ (0 ≤ x3 ∧ x3 < z3) ∧ (0 ≤ x4 ∧ x4 < z4) ∧ (0 ≤ x5 ∧ x5 < z5) ∧ (0 ≤ x6 ∧ x6 < z6) ∧ (0 ≤ x7 ∧ x7 < z7) ∧ (0 ≤ x8 ∧ x8 < z8) := by
  obtain ⟨x0, r, rfl, h0, k⟩ := fitc k
  obtain ⟨x1, r, rfl, h1, k⟩ := fitc k
  obtain ⟨x2, r, rfl, h2, k⟩ := fitc k
  obtain ⟨x3, r, rfl, h3, k⟩ := fitc k
  obtain ⟨x4, r, rfl, h4, k⟩ := fitc k
  obtain ⟨x5, r, rfl, h5, k⟩ := fitc k
  obtain ⟨x6, r, rfl, h6, k⟩ := fitc k
  obtain ⟨x7, r, rfl, h7, k⟩ := fitc k
  obtain ⟨x8, r, rfl, h8, k⟩ := fitc k
  rw [fits_nil k]
  exact ⟨x0, x1, x2, x3, x4, x5, x6, x7, x8, rfl, h0, h1, h2, h3, h4, h5, h6, h7, h8⟩
theorem fit10 {ds : List Int} {z0 z1 z2 z3 z4 z5 z6 z7 z8 z9 : Int} (k : Fits ds [z0, z1, z2, z3, z4, z5, z6, z7, z8, z9]) : ∃ x0 x1 x2 x3 x4 x5 x6 x7 x8 x9, ds = [x0, x1, x2, x3, x4, x5, x6, x7, x8, x9] ∧ (0 ≤ x0 ∧ x0 < z0) ∧ (0 ≤ x1 ∧ x1 < z1) ∧ (0 ≤ x2 ∧ x2 < z2) ∧ (0 ≤ x3 ∧ x3 < z3) ∧ (0 ≤ x4 ∧ x4 < z4) ∧ (0 ≤ x5 ∧ x5 < z5) ∧ (0 ≤ x6 ∧ x6 < z6) ∧ (0 ≤ x7 ∧ x7 < z7) ∧ (0 ≤ x8 ∧ x8 < z8) ∧ (0 ≤ x9 ∧ x9 < z9) := by
  obtain ⟨x0, r, rfl, h0, k⟩ := fitc k
  obtain ⟨x1, r, rfl, h1, k⟩ := fitc k
  obtain ⟨x2, r, rfl, h2, k⟩ := fitc k
  obtain ⟨x3, r, rfl, h3, k⟩ := fitc k
  obtain ⟨x4, r, rfl, h4, k⟩ := fitc k
  obtain ⟨x5, r, rfl, h5, k⟩ := fitc k
  obtain ⟨x6, r, rfl, h6, k⟩ := fitc k
  obtain ⟨x7, r, rfl, h7, k⟩ := fitc k
  obtain ⟨x8, r, rfl, h8, k⟩ := fitc k
  obtain ⟨x9, r, rfl, h9, k⟩ := fitc k
  rw [fits_nil k]
  exact ⟨x0, x1, x2, x3, x4, x5, x6, x7, x8, x9, rfl, h0, h1, h2, h3, h4, h5, h6, h7, h8, h9⟩
theorem fit11 {ds : List Int} {z0 z1 z2 z3 z4 z5 z6 z7 z8 z9 z10 : Int} (k : Fits ds [z0, z1, z2, z3, z4, z5, z6, z7, z8, z9, z10]) : ∃ x0 x1 x2 x3 x4 x5 x6 x7 x8 x9 x10, ds = [x0, x1, x2, x3, x4, x5, x6, x7, x8, x9, x10] ∧ (0 ≤ x0 ∧ x0 < z0) ∧ (0 ≤ x1 ∧ x1 < z1) ∧ (0 ≤ x2 ∧ x2 < z2) ∧ (0 ≤ x3 ∧ x3 < z3) ∧ (0 ≤ x4 ∧ x4 < z4) ∧ (0 ≤ x5 ∧ x5 < z5) ∧ (0 ≤ x6 ∧ x6 < z6) ∧ (0 ≤ x7 ∧ x7 < z7) ∧ (0 ≤ x8 ∧ x8 < z8) ∧ (0 ≤ x9 ∧ x9 < z9) ∧ (0 ≤ x10 ∧ x10 < z10) := by
  obtain ⟨x0, r, rfl, h0, k⟩ := fitc k
  obtain ⟨x1, r, rfl, h1, k⟩ := fitc k
  obtain ⟨x2, r, rfl, h2, k⟩ := fitc k
  obtain ⟨x3, r, rfl, h3, k⟩ := fitc k
  obtain ⟨x4, r, rfl, h4, k⟩ := fitc k
  obtain ⟨x5, r, rfl, h5, k⟩ := fitc k
  obtain ⟨x6, r, rfl, h6, k⟩ := fitc k
  obtain ⟨x7, r, rfl, h7, k⟩ := fitc k
  obtain ⟨x8, r, rfl, h8, k⟩ := fitc k
  obtain ⟨x9, r, rfl, h9, k⟩ := fitc k
  obtain ⟨x10, r, rfl, h10, k⟩ := fitc k
  rw [fits_nil k]
  exact ⟨x0, x1, x2, x3, x4, x5, x6, x7, x8, x9, x10, rfl, h0, h1, h2, h3, h4, h5, h6, h7, h8, h9, h10⟩
theorem fit12 {ds : List Int} {z0 z1 z2 z3 z4 z5 z6 z7 z8 z9 z10 z11 : Int} (k : Fits ds [z0, z1, z2, z3, z4, z5, z6, z7, z8, z9, z10, z11]) : ∃ x0 x1 x2 x3 x4 x5 x6 x7 x8 x9 x10 x11, ds = [x0, x1, x2, x3, x4, x5, x6, x7, x8, x9, x10, x11] ∧ (0 ≤ x0 ∧ x0 < z0) ∧ (0 ≤ x1 ∧ x1 < z1) ∧ (0 ≤ x2 ∧ x2 < z2) ∧ (0 ≤ x3 ∧ x3 < z3) ∧ (0 ≤ x4 ∧ x4 < z4) ∧ (0 ≤ x5 ∧ x5 < z5) ∧ (0 ≤ x6 ∧ x6 < z6) ∧ (0 ≤ x7 ∧ x7 < z7) ∧ (0 ≤ x8 ∧ x8 < z8) ∧ (0 ≤ x9 ∧ x9 < z9) ∧ (0 ≤ x10 ∧ x10 < z10) ∧ (0 ≤ x11 ∧ x11 < z11) := by
  obtain ⟨x0, r, rfl, h0, k⟩ := fitc k
  obtain ⟨x1, r, rfl, h1, k⟩ := fitc k
  obtain ⟨x2, r, rfl, h2, k⟩ := fitc k
  obtain ⟨x3, r, rfl, h3, k⟩ := fitc k
  obtain ⟨x4, r, rfl, h4, k⟩ := fitc k
  obtain ⟨x5, r, rfl, h5, k⟩ := fitc k
  obtain ⟨x6, r, rfl, h6, k⟩ := fitc k
  obtain ⟨x7, r, rfl, h7, k⟩ := fitc k
  obtain ⟨x8, r, rfl, h8, k⟩ := fitc k
  obtain ⟨x9, r, rfl, h9, k⟩ := fitc k
  obtain ⟨x10, r, rfl, h10, k⟩ := fitc k
  obtain ⟨x11, r, rfl, h11, k⟩ := fitc k
  rw [fits_nil k]
  exact ⟨x0, x1, x2, x3, x4, x5, x6, x7, x8, x9, x10, x11, rfl, h0, h1, h2, h3, h4, h5, h6, h7, h8, h9, h10, h11⟩
theorem cutN_to {α : Type} {ds : List α} {k : Nat} : cut ds none (some (k : Int)) = ds.take k := by
  unfold cut
  rw [HT.sIx_none, HT.sIx_nat]
  simp
theorem cutN_from {α : Type} {ds : List α} {k : Nat} : cut ds (some (k : Int)) none = ds.drop k := by
  unfold cut
  rw [HT.sIx_none, HT.sIx_nat]
  by_cases h : k ≤ ds.length
  · rw [Nat.min_eq_left h, List.take_of_length_le (by rw [List.length_drop]; exact Nat.le_refl _)]
  · rw [Nat.min_eq_right (by omega), List.drop_eq_nil_of_le (Nat.le_refl _), List.drop_eq_nil_of_le (by omega)]; simp
theorem cutN {α : Type} {ds : List α} {p e : Nat} (hp : p ≤ e) (he : e ≤ ds.length) : cut ds (some (p : Int)) (some (e : Int)) = (ds.drop p).take (e - p) := by
  unfold cut
  rw [HT.sIx_nat, HT.sIx_nat, Nat.min_eq_left (by omega : p ≤ ds.length), Nat.min_eq_left he]
theorem zr_nat {i : Int} {n : Nat} (h : i ∈ zr 0 n) : ∃ k : Nat, i = k ∧ k < n := by
  obtain ⟨k, rfl⟩ := Int.eq_ofNat_of_zero_le (zr_mem.mp h).1
  exact ⟨k, rfl, by have := (zr_mem.mp h).2; omega⟩
theorem zr_at {n i : Nat} {a : Int} (h : (zr 0 n)[i]? = some a) : a = (i : Int) ∧ i < n := by
  have hlt : i < n := by have := (List.getElem?_eq_some_iff.mp h).1; rwa [zr_len] at this
  rw [zr_get hlt] at h
  injection h with h
  exact ⟨by omega, hlt⟩
theorem rep_ok {α : Type} {x : α} {k : Int} (n : Nat) (h : k = n) (hn : n ≤ 1000000) : rep [x] k = .ok (List.replicate n x) := by
  subst h
  unfold rep
  rw [if_pos ⟨by omega, by omega, sz_le (by simp; omega)⟩]
  rw [Int.toNat_natCast]
  congr 1
  clear hn
  induction n with
  | zero => rfl
  | succ n ih => rw [List.replicate_succ, List.flatten_cons, ih, List.replicate_succ]; rfl
/-- the place that is drawn within a list's length -/
theorem mod_nat (d : Int) (n : Nat) : ∃ k : Nat, modz d ((n : Int) + 1) = .ok (k : Int) ∧ k ≤ n := by
  have q0 := Int.emod_nonneg d (show (n : Int) + 1 ≠ 0 by omega)
  have q1 := Int.emod_lt_of_pos d (show (0 : Int) < (n : Int) + 1 by omega)
  obtain ⟨k, e⟩ := Int.eq_ofNat_of_zero_le q0
  exact ⟨k, by rw [modz_ok (by omega), e], by omega⟩
theorem mod_lt (d : Int) {n : Nat} (h : 0 < n) : ∃ k : Nat, modz d (n : Int) = .ok (k : Int) ∧ k < n := by
  have q0 := Int.emod_nonneg d (show (n : Int) ≠ 0 by omega)
  have q1 := Int.emod_lt_of_pos d (show (0 : Int) < (n : Int) by omega)
  obtain ⟨k, e⟩ := Int.eq_ofNat_of_zero_le q0
  exact ⟨k, by rw [modz_ok (by omega), e], by omega⟩
end VT

set_option Elab.async false
set_option linter.all false
set_option maxRecDepth 100000
set_option maxHeartbeats 4000000
namespace K56
open PySem PySem.Spec PyProof.Rows L2 VL VT
open Enc
/-! ### the boats -/
def at_ (g : List Int) (t : Nat) : Int := g.getD t 0
theorem ix_at {g : List Int} {t : Nat} (h : t < g.length) : ix g (t : Int) = .ok (at_ g t) := by
  refine ix_get (n := t) rfl ?_
  unfold at_
  rw [List.getD_eq_getElem?_getD, List.getElem?_eq_getElem h]; rfl
structure AOk (g : List Int) : Prop where
  len : g.length ≤ 60
  num : ∀ x ∈ g, 0 ≤ x ∧ x ≤ 10000
  up : ∀ t, t + 1 < g.length → at_ g t ≤ at_ g (t + 1)
theorem AOk.at {g : List Int} (h : AOk g) (t : Nat) : 0 ≤ at_ g t ∧ at_ g t ≤ 10000 := by
  unfold at_
  rw [List.getD_eq_getElem?_getD]
  cases e : g[t]? with
  | none => exact ⟨by decide, by decide⟩
  | some x => exact h.num x (List.mem_of_getElem? e)
variable {g : List Int} {most many : Int}
theorem check_ok (h : AOk g) (h1 : 1 ≤ most ∧ most ≤ 60) (h2 : 0 ≤ many ∧ many ≤ 60) : m_check_convoys g most many = .ok () := by
  have hl := h.len
  unfold m_check_convoys
  have c : ¬ ((60 : Int) < (g.length : Int)) := by omega
  dsimp! [c, rng1_ok (j := (g.length : Int)) g.length rfl (by omega)]
  rw [forM_unit fun a ha => ?_]
  · dsimp! [h1.1, h1.2, h2.1, h2.2]
  · obtain ⟨t, rfl⟩ := Int.eq_ofNat_of_zero_le (zr_mem.mp ha).1
    have ht := (zr_mem.mp ha).2
    have hg := h.at t
    unfold m_check_convoys_1b
    by_cases c0 : (0 : Int) < (t : Int)
    · have c1 : ¬ at_ g t < at_ g (t - 1) := by
        have := h.up (t - 1) (by omega)
        rw [show t - 1 + 1 = t by omega] at this
        omega
      have e2 : ix g ((t : Int) - 1) = .ok (at_ g (t - 1)) := by
        have := ix_at (g := g) (t := t - 1) (by omega)
        rw [show ((t - 1 : Nat) : Int) = (t : Int) - 1 by omega] at this
        exact this
      dsimp! [ix_at (g := g) (t := t) (by omega), hg.1, hg.2, c0, e2, c1]
    · dsimp! [ix_at (g := g) (t := t) (by omega), hg.1, hg.2, c0]
theorem cutN {α : Type} {ds : List α} {p e : Nat} (hp : p ≤ e) (he : e ≤ ds.length) : cut ds (some (p : Int)) (some (e : Int)) = (ds.drop p).take (e - p) := by
  unfold cut
  rw [HT.sIx_nat, HT.sIx_nat, Nat.min_eq_left (by omega : p ≤ ds.length), Nat.min_eq_left he]
/-- what a group waits for its last boat -/
def gw (g : List Int) (p e : Nat) : Int := (((g.drop p).take (e - p)).map fun t => at_ g (e - 1) - t).sum
theorem group (h : AOk g) {p e : Nat} (hp : p < e) (he : e ≤ g.length) : m_group_wait g p e = .ok (gw g p e) := by
  have hl := h.len
  unfold m_group_wait
  have hx : ixN' g ((e : Int) - 1) = .ok (at_ g (e - 1)) := by
    refine ixn_get (n := e - 1) (by omega) ?_ (by omega)
    unfold at_
    rw [List.getD_eq_getElem?_getD, List.getElem?_eq_getElem (by omega : e - 1 < g.length)]; rfl
  dsimp! [cutN (Nat.le_of_lt hp) he, hx]
  rw [lcG_map (fun _ => true) (fun t : Int => at_ g (e - 1) - t) (fun _ _ => rfl) fun _ _ _ => rfl, List.filter_eq_self.mpr fun _ _ => rfl]
  dsimp! []
  refine sum_ok (by rw [List.length_map, List.length_take]; omega) fun n hn => ?_
  obtain ⟨y, hy, rfl⟩ := List.mem_map.mp hn
  have h1 := h.num y (List.mem_of_mem_drop (List.mem_of_mem_take hy))
  have h2 := h.at (e - 1)
  omega
end K56

set_option Elab.async false
set_option linter.all false
set_option maxRecDepth 100000
set_option maxHeartbeats 4000000
namespace K56
open PySem PySem.Spec PyProof.Rows L2 VL VT
open Enc
variable {g : List Int} {most many : Int}
/-! ### plans -/
/-- a plan from boat p: sizes of its groups -/
def wt (g : List Int) : Nat → List Nat → Int
  | _, [] => 0
  | p, x :: xs => gw g p (p + x) + wt g (p + x) xs
def zs (l : List Nat) : List Int := l.map fun (n : Nat) => (n : Int)
theorem law_loop (h : AOk g) : ∀ (l : List Nat) (p : Nat) (t : Int), (∀ x ∈ l, 0 < x) → p + l.sum ≤ g.length → forM (fun (a : Int) (s : (Int × Int)) => m_law_wait_2b g a s.1 s.2) (zs l) (t, (p : Int)) = .ok (t + wt g p l, ((p + l.sum : Nat) : Int))
  | [], p, t, _, _ => by
    show Res.ok (t, (p : Int)) = _
    simp [wt]
  | x :: l, p, t, hp, hs => by
    have hl := h.len
    rw [List.sum_cons] at hs
    have hx := hp x (List.mem_cons_self ..)
    have e : m_law_wait_2b g x t p = .ok (t + gw g p (p + x), ((p + x : Nat) : Int)) := by
      have hc := cutN (ds := g) (p := p) (e := p + x) (by omega) (by omega)
      rw [show ((p + x : Nat) : Int) = (p : Int) + x by omega] at hc
      have hi : ix g ((p : Int) + x - 1) = .ok (at_ g (p + x - 1)) := by
        have := ix_at (g := g) (t := p + x - 1) (by omega)
        rw [show ((p + x - 1 : Nat) : Int) = (p : Int) + x - 1 by omega] at this
        exact this
      unfold m_law_wait_2b
      dsimp! [hc, hi, lc_mapP (l := (g.drop p).take (p + x - p)) (g := fun t : Int => at_ g (p + x - 1) - t) (by rw [List.length_take]; omega)]
      rw [show ((p + x : Nat) : Int) = (p : Int) + x by omega]
      rfl
    show (m_law_wait_2b g x t p).bind _ = _
    rw [e]
    have ih := law_loop h l (p + x) (t + gw g p (p + x)) (fun y hy => hp y (List.mem_cons_of_mem _ hy)) (by omega)
    show forM (fun (a : Int) (s : (Int × Int)) => m_law_wait_2b g a s.1 s.2) (zs l) _ = _
    rw [ih, List.sum_cons, Int.add_assoc, Nat.add_assoc]
    rfl
theorem plan_loop (h : AOk g) : ∀ (l : List Nat) (p : Nat) (t : Int), (∀ x ∈ l, 0 < x) → p + l.sum ≤ g.length → forM (fun (a : Int) (s : (Int × Int)) => m_plan_wait_3b g a s.1 s.2) (zs l) (t, (p : Int)) = .ok (t + wt g p l, ((p + l.sum : Nat) : Int))
  | [], p, t, _, _ => by
    show Res.ok (t, (p : Int)) = _
    simp [wt]
  | x :: l, p, t, hp, hs => by
    rw [List.sum_cons] at hs
    have hx := hp x (List.mem_cons_self ..)
    have e : m_plan_wait_3b g x t p = .ok (t + gw g p (p + x), ((p + x : Nat) : Int)) := by
      have hg := group h (p := p) (e := p + x) (by omega) (by omega)
      rw [show ((p + x : Nat) : Int) = (p : Int) + x by omega] at hg ⊢
      unfold m_plan_wait_3b
      dsimp! [hg]
    show (m_plan_wait_3b g x t p).bind _ = _
    rw [e]
    have ih := plan_loop h l (p + x) (t + gw g p (p + x)) (fun y hy => hp y (List.mem_cons_of_mem _ hy)) (by omega)
    show forM (fun (a : Int) (s : (Int × Int)) => m_plan_wait_3b g a s.1 s.2) (zs l) _ = _
    rw [ih, List.sum_cons, Int.add_assoc, Nat.add_assoc]
    rfl
theorem law_wait (h : AOk g) {l : List Nat} (hp : ∀ x ∈ l, 0 < x) (hs : l.sum ≤ g.length) : m_law_wait g (zs l) = .ok (wt g 0 l) := by
  unfold m_law_wait
  have e := law_loop h l 0 0 hp (by omega)
  rw [Int.zero_add] at e
  dsimp! []
  have e : forM (fun (a : Int) (s : (Int × Int)) => m_law_wait_2b g a s.1 s.2) (zs l) (0, 0) = _ := e
  rw [e]; rfl
end K56

set_option Elab.async false
set_option linter.all false
set_option maxRecDepth 100000
set_option maxHeartbeats 4000000
namespace K56
open PySem PySem.Spec PyProof.Rows L2 VL VT
open Enc
variable {g : List Int} {most : Nat}
/-! ### the table -/
abbrev Cell := Option (Int × Int)
/-- one cell from the row before: the first start of the least wait -/
def stepC (g : List Int) (before : Nat → Cell) (e : Nat) (best : Cell) (st : Nat) : Cell := match before st with
  | none => best
  | some c => match best with
    | none => some (c.1 + gw g st e, (st : Int))
    | some b => if c.1 + gw g st e < b.1 then some (c.1 + gw g st e, (st : Int)) else some b
def cell (g : List Int) (most : Nat) (before : Nat → Cell) (e : Nat) : Cell := ((List.range (e - (e - most))).map (· + (e - most))).foldl (stepC g before e) none
def tab (g : List Int) (most : Nat) : Nat → Nat → Cell
  | 0, e => if e = 0 then some (0, 0) else none
  | k + 1, e => if e = 0 then some (0, 0) else cell g most (tab g most k) e
def rowL (g : List Int) (most k : Nat) : List Cell := (List.range (g.length + 1)).map (tab g most k)
/-- a plan of e boats in groups of at most `most` -/
structure Pl (most e : Nat) (l : List Nat) : Prop where
  pos : ∀ x ∈ l, 0 < x
  le : ∀ x ∈ l, x ≤ most
  sum : l.sum = e
theorem wt_snoc (g : List Int) : ∀ (l : List Nat) (p x : Nat), wt g p (l ++ [x]) = wt g p l + gw g (p + l.sum) (p + l.sum + x)
  | [], p, x => by simp [wt]
  | y :: l, p, x => by
    show gw g p (p + y) + wt g (p + y) (l ++ [x]) = gw g p (p + y) + wt g (p + y) l + _
    rw [wt_snoc g l (p + y) x, List.sum_cons, Int.add_assoc, Nat.add_assoc p y l.sum]
/-- the cell's value: the least over the starts, the start that gives it -/
theorem fold_cell (before : Nat → Cell) (e : Nat) : ∀ (l : List Nat) (b : Cell), (∀ st ∈ l, ∀ c, before st = some c → ∃ r, l.foldl (stepC g before e) b = some r ∧ r.1 ≤ c.1 + gw g st e) ∧ (∀ x, b = some x → ∃ r, l.foldl (stepC g before e) b = some r ∧ r.1 ≤ x.1) ∧ (∀ r, l.foldl (stepC g before e) b = some r → b = some r ∨ ∃ st ∈ l, ∃ c, before st = some c ∧ r = (c.1 + gw g st e, (st : Int)))
  | [], b => ⟨fun st h => (by cases h), fun x h => ⟨x, h, Int.le_refl _⟩, fun r h => .inl h⟩
  | st :: l, b => by
    obtain ⟨h1, h2, h3⟩ := fold_cell before e l (stepC g before e b st)
    have key : (∀ c, before st = some c → ∃ y, stepC g before e b st = some y ∧ y.1 ≤ c.1 + gw g st e) ∧ (∀ x, b = some x → ∃ y, stepC g before e b st = some y ∧ y.1 ≤ x.1) ∧ (∀ y, stepC g before e b st = some y → b = some y ∨ ∃ c, before st = some c ∧ y = (c.1 + gw g st e, (st : Int))) := by
      unfold stepC
      cases hb : before st with
      | none => exact ⟨fun c hc => (by cases hc), fun x hx => ⟨x, hx, Int.le_refl _⟩, fun y hy => .inl hy⟩
      | some c =>
        cases b with
        | none => exact ⟨fun c' hc => (by cases hc; exact ⟨_, rfl, Int.le_refl _⟩), fun x hx => (by cases hx), fun y hy => (by cases hy; exact .inr ⟨c, rfl, rfl⟩)⟩
        | some x =>
          dsimp only
          by_cases k : c.1 + gw g st e < x.1
          · rw [if_pos k]
            exact ⟨fun c' hc => (by cases hc; exact ⟨_, rfl, Int.le_refl _⟩), fun x' hx => (by cases hx; exact ⟨_, rfl, Int.le_of_lt k⟩), fun y hy => (by cases hy; exact .inr ⟨c, rfl, rfl⟩)⟩
          · rw [if_neg k]
            exact ⟨fun c' hc => (by cases hc; exact ⟨_, rfl, by omega⟩), fun x' hx => (by cases hx; exact ⟨_, rfl, Int.le_refl _⟩), fun y hy => .inl hy⟩
    obtain ⟨k1, k2, k3⟩ := key
    refine ⟨fun s' hs c hc => ?_, fun x hx => ?_, fun r hr => ?_⟩
    · rcases List.mem_cons.mp hs with q | q
      · subst q
        obtain ⟨y, y1, y2⟩ := k1 c hc
        obtain ⟨r, r1, r2⟩ := h2 y y1
        exact ⟨r, r1, Int.le_trans r2 y2⟩
      · exact h1 s' q c hc
    · obtain ⟨y, y1, y2⟩ := k2 x hx
      obtain ⟨r, r1, r2⟩ := h2 y y1
      exact ⟨r, r1, Int.le_trans r2 y2⟩
    · rcases h3 r hr with q | ⟨s', q1, q2⟩
      · rcases k3 r q with z | ⟨c, z1, z2⟩
        · exact .inl z
        · exact .inr ⟨st, List.mem_cons_self .., c, z1, z2⟩
      · exact .inr ⟨s', List.mem_cons_of_mem _ q1, q2⟩
theorem starts_mem {e st : Nat} : st ∈ (List.range (e - (e - most))).map (· + (e - most)) ↔ st < e ∧ e ≤ st + most := by
  rw [List.mem_map]
  constructor
  · rintro ⟨k, hk, rfl⟩
    have := List.mem_range.mp hk
    omega
  · rintro ⟨h1, h2⟩
    exact ⟨st - (e - most), List.mem_range.mpr (by omega), by omega⟩
theorem Pl.snoc {e x : Nat} {l : List Nat} (h : Pl most e l) (h1 : 0 < x) (h2 : x ≤ most) : Pl most (e + x) (l ++ [x]) := by
  refine ⟨fun y hy => ?_, fun y hy => ?_, by rw [List.sum_append, h.sum]; simp⟩
  · rcases List.mem_append.mp hy with k | k
    · exact h.pos y k
    · have : y = x := by simpa using k
      omega
  · rcases List.mem_append.mp hy with k | k
    · exact h.le y k
    · have : y = x := by simpa using k
      omega
theorem Pl.zero {l : List Nat} (h : Pl most 0 l) : l = [] := by
  cases l with
  | nil => rfl
  | cons x l =>
    have h1 := h.pos x (List.mem_cons_self ..)
    have h2 := h.sum
    rw [List.sum_cons] at h2
    omega
theorem Pl.split {e : Nat} {l : List Nat} (h : Pl most e l) (he : 0 < e) : ∃ l' x, l = l' ++ [x] ∧ Pl most (e - x) l' ∧ 0 < x ∧ x ≤ most ∧ x ≤ e := by
  rcases List.eq_nil_or_concat l with rfl | ⟨l', x, rfl⟩
  · have := h.sum
    simp at this
    omega
  · have hx : x ∈ l' ++ [x] := by simp
    have h1 := h.pos x (by simpa using hx)
    have h2 := h.le x (by simpa using hx)
    have h3 := h.sum
    rw [List.concat_eq_append] at h3 h
    rw [List.sum_append] at h3
    simp at h3
    refine ⟨l', x, by simp, ⟨fun y hy => h.pos y (List.mem_append_left _ hy), fun y hy => h.le y (List.mem_append_left _ hy), by omega⟩, h1, h2, by omega⟩
theorem tab_le (g : List Int) : ∀ (k e : Nat) (l : List Nat), Pl most e l → l.length ≤ k → ∃ r, tab g most k e = some r ∧ r.1 ≤ wt g 0 l
  | 0, e, l, h, hk => by
    have : l = [] := List.length_eq_zero_iff.mp (by omega)
    subst this
    have he : e = 0 := by have := h.sum; simpa using this.symm
    subst he
    exact ⟨(0, 0), rfl, Int.le_refl _⟩
  | k + 1, e, l, h, hk => by
    by_cases he : e = 0
    · subst he
      have := h.zero
      subst this
      exact ⟨(0, 0), rfl, Int.le_refl _⟩
    · obtain ⟨l', x, rfl, p1, p2, p3, p4⟩ := h.split (by omega)
      rw [List.length_append] at hk
      obtain ⟨c, c1, c2⟩ := tab_le g k (e - x) l' p1 (by simpa using hk)
      obtain ⟨r, r1, r2⟩ := (fold_cell (g := g) (tab g most k) e ((List.range (e - (e - most))).map (· + (e - most))) none).1 (e - x) (starts_mem.mpr ⟨by omega, by omega⟩) c c1
      refine ⟨r, ?_, ?_⟩
      · unfold tab
        rw [if_neg he]
        exact r1
      · rw [wt_snoc, p1.sum, Nat.zero_add, show e - x + x = e by omega]
        omega
theorem tab_get (g : List Int) : ∀ (k e : Nat) (r : Int × Int), tab g most k e = some r → (e = 0 ∧ r = (0, 0)) ∨ (0 < e ∧ ∃ k' st : Nat, ∃ c : Int × Int, k = k' + 1 ∧ st < e ∧ e ≤ st + most ∧ tab g most k' st = some c ∧ r = (c.1 + gw g st e, (st : Int)))
  | 0, e, r, h => by
    unfold tab at h
    split at h
    · cases h; exact .inl ⟨by assumption, rfl⟩
    · cases h
  | k + 1, e, r, h => by
    unfold tab at h
    split at h
    · cases h; exact .inl ⟨by assumption, rfl⟩
    · rename_i he
      rcases (fold_cell (g := g) (tab g most k) e ((List.range (e - (e - most))).map (· + (e - most))) none).2.2 r h with q | ⟨st, q1, c, q2, q3⟩
      · cases q
      · have := starts_mem.mp q1
        exact .inr ⟨by omega, k, st, c, rfl, this.1, this.2, q2, q3⟩
theorem tab_plan (g : List Int) : ∀ (k e : Nat) (r : Int × Int), tab g most k e = some r → ∃ l, Pl most e l ∧ l.length ≤ k ∧ wt g 0 l = r.1
  | k, e, r, h => by
    rcases tab_get g k e r h with ⟨rfl, rfl⟩ | ⟨he, k', st, c, rfl, h1, h2, h3, rfl⟩
    · exact ⟨[], ⟨fun x hx => (by cases hx), fun x hx => (by cases hx), rfl⟩, Nat.zero_le _, rfl⟩
    · obtain ⟨l, p1, p2, p3⟩ := tab_plan g k' st c h3
      refine ⟨l ++ [e - st], ?_, by rw [List.length_append]; simpa using p2, ?_⟩
      · have := p1.snoc (x := e - st) (by omega) (by omega)
        rw [show st + (e - st) = e by omega] at this
        exact this
      · rw [wt_snoc, p1.sum, p3, Nat.zero_add, show st + (e - st) = e by omega]
end K56

set_option Elab.async false
set_option linter.all false
set_option maxRecDepth 100000
set_option maxHeartbeats 4000000
namespace K56
open PySem PySem.Spec PyProof.Rows L2 VL VT
open Enc
variable {g : List Int} {most : Nat}
theorem row_get {f : Nat → Cell} {n st : Nat} (h : st ≤ n) : ix ((List.range (n + 1)).map f) (st : Int) = .ok (f st) := by
  refine ix_get (n := st) rfl ?_
  rw [List.getElem?_map, List.getElem?_range (by omega)]; rfl
theorem turn (hg : AOk g) {f : Nat → Cell} {st e : Nat} (h1 : st < e) (h2 : e ≤ g.length) (b : Cell) : m_wait_table_1b_2b_1b g ((List.range (g.length + 1)).map f) e st b = .ok (stepC g f e b st) := by
  unfold m_wait_table_1b_2b_1b stepC
  have hr := row_get (f := f) (n := g.length) (st := st) (by omega)
  rw [hr]
  cases e1 : f st with
  | none => dsimp! []
  | some c =>
    cases b with
    | none => dsimp! [group hg h1 h2]
    | some x =>
      by_cases k : c.1 + gw g st e < x.1
      · dsimp! [group hg h1 h2, k]
      · dsimp! [group hg h1 h2, k]
theorem zr_map (lo n : Nat) : zr (lo : Int) n = ((List.range n).map (· + lo)).map fun (k : Nat) => (k : Int) := by
  unfold zr
  rw [List.map_map]
  apply List.map_congr_left
  intro k _
  show (lo : Int) + (k : Nat) = ((k + lo : Nat) : Int)
  omega
theorem forM_zs {σ : Type} {fb : Int → σ → Res σ} {st : σ → Nat → σ} : ∀ (l : List Nat) (x : σ), (∀ a ∈ l, ∀ x, fb a x = .ok (st x a)) → forM fb (l.map fun (k : Nat) => (k : Int)) x = .ok (l.foldl st x)
  | [], x, _ => rfl
  | a :: l, x, h => by
    show (fb a x).bind _ = _
    rw [h a (List.mem_cons_self ..) x]
    exact forM_zs l _ fun b hb => h b (List.mem_cons_of_mem _ hb)
theorem cell_ok (hg : AOk g) {f : Nat → Cell} {e : Nat} (h0 : 0 < e) (h2 : e ≤ g.length) (hm : most ≤ 60) (row_ : List Cell) (hr : row_.length ≤ 100) : m_wait_table_1b_2b g most ((List.range (g.length + 1)).map f) e row_ = .ok (row_ ++ [cell g most f e]) := by
  have hl := hg.len
  unfold m_wait_table_1b_2b
  have hmx : max (0 : Int) ((e : Int) - most) = ((e - most : Nat) : Int) := by omega
  dsimp! [hmx, rng2_ok (i := ((e - most : Nat) : Int)) (j := (e : Int)) (e - (e - most)) (by omega) (by omega) (by omega) (by omega) (by omega)]
  rw [zr_map, forM_zs _ _ fun a ha x => turn hg (starts_mem.mp ha).1 h2 x]
  have e1 : List.foldl (stepC g f e) none (List.map (fun x => x + (e - most)) (List.range (e - (e - most)))) = cell g most f e := rfl
  have e2 := VT.app_ok (l := row_) (x := cell g most f e) (by omega)
  dsimp! [e1, e2]
theorem row_ok (hg : AOk g) {k : Nat} {table : List (List Cell)} {z : Int} (hm : most ≤ 60) (ht : table.getLast? = some (rowL g most k)) (hn : table.length ≤ 100) : m_wait_table_1b g most z table = .ok (table ++ [rowL g most (k + 1)]) := by
  have hl := hg.len
  unfold m_wait_table_1b
  have e0 : ix table (-(1 : Int)) = .ok (rowL g most k) := ix_last ht
  dsimp! [e0, rng2_ok (i := (1 : Int)) (j := (g.length : Int) + 1) g.length (by omega) (by omega) (by omega) (by omega) (by omega)]
  refine for_b (P := fun i (s : List Cell) => s = (List.range (i + 1)).map (tab g most (k + 1))) rfl (fun i a s hi hp => ?_) fun s hp => ?_
  · subst hp
    have hlt : i < g.length := by have := (List.getElem?_eq_some_iff.mp hi).1; rwa [zr_len] at this
    rw [zr_get hlt] at hi
    cases hi
    have := cell_ok hg (f := tab g most k) (e := i + 1) (most := most) (by omega) (by omega) hm ((List.range (i + 1)).map (tab g most (k + 1))) (by rw [List.length_map, List.length_range]; omega)
    rw [show ((i + 1 : Nat) : Int) = 1 + (i : Nat) by omega] at this
    refine ⟨_, this, ?_⟩
    conv => rhs; rw [List.range_succ, List.map_append]
    rfl
  · subst hp
    rw [zr_len]
    have e2 := VT.app_ok (l := table) (x := rowL g most (k + 1)) (by omega)
    show (app table (rowL g most (k + 1))).bind _ = _
    rw [e2]; rfl
end K56

set_option Elab.async false
set_option linter.all false
set_option maxRecDepth 100000
set_option maxHeartbeats 4000000
namespace K56
open PySem PySem.Spec PyProof.Rows L2 VL VT
open Enc
variable {g : List Int} {most many : Nat}
def tabL (g : List Int) (most many : Nat) : List (List Cell) := (List.range (many + 1)).map (rowL g most)
theorem table_ok (hg : AOk g) (hm : most ≤ 60) (hn : many ≤ 60) : m_wait_table g most many = .ok (tabL g most many) := by
  have hl := hg.len
  unfold m_wait_table
  have e0 : List.map some [((0 : Int), (0 : Int))] ++ (fun l => List.map (fun _ => (none : Option (Int × Int))) l) (g.map fun _ => ()) = rowL g most 0 := by
    unfold rowL
    apply List.ext_getElem
    · simp
    · intro i h1 h2
      cases i with
      | zero => simp [tab]
      | succ i => simp [tab]
  have e9 : cat [(some ((0 : Int), (0 : Int)) : Cell)] (List.map (fun _ => (none : Cell)) (g.map fun _ => ())) = .ok (rowL g most 0) := by
    rw [← e0]
    exact cat_ok (by simp; omega)
  dsimp! [lc_mapP (l := g) (g := fun _ : Int => ()) (by omega), e9]
  dsimp! [rng1_ok (j := (many : Int)) many rfl (by omega)]
  refine for_b (P := fun i (s : List (List Cell)) => s = (List.range (i + 1)).map (rowL g most)) rfl (fun i a s hi hp => ?_) fun s hp => ?_
  · subst hp
    have hlt : i < many := by have := (List.getElem?_eq_some_iff.mp hi).1; rwa [zr_len] at this
    refine ⟨_, row_ok hg (k := i) hm ?_ (by rw [List.length_map, List.length_range]; omega), ?_⟩
    · rw [List.range_succ, List.map_append]; simp
    · conv => rhs; rw [List.range_succ, List.map_append]
      rfl
  · subst hp
    rw [zr_len]; rfl
end K56

set_option Elab.async false
set_option linter.all false
set_option maxRecDepth 100000
set_option maxHeartbeats 4000000
namespace K56
open PySem PySem.Spec PyProof.Rows L2 VL VT
open Enc
variable {g : List Int} {most many : Nat}
theorem row_last (k : Nat) : ix (rowL g most k) (-(1 : Int)) = .ok (tab g most k g.length) := by
  refine ix_last ?_
  unfold rowL
  rw [List.range_succ, List.map_append]; simp
def vals (g : List Int) (most many : Nat) : List Int := ((tabL g most many).filter fun r => (r.getLast?.getD none).isSome).map fun r => ((r.getLast?.getD none).getD (0, 0)).1
theorem row_last' (k : Nat) : (rowL g most k).getLast?.getD none = tab g most k g.length := by
  unfold rowL
  rw [List.range_succ, List.map_append]; simp
theorem tabL_mem {r : List Cell} : r ∈ tabL g most many ↔ ∃ k, k ≤ many ∧ r = rowL g most k := by
  unfold tabL
  rw [List.mem_map]
  constructor
  · rintro ⟨k, hk, rfl⟩; exact ⟨k, by have := List.mem_range.mp hk; omega, rfl⟩
  · rintro ⟨k, hk, rfl⟩; exact ⟨k, List.mem_range.mpr (by omega), rfl⟩
theorem vals_mem {v : Int} : v ∈ vals g most many ↔ ∃ k, k ≤ many ∧ ∃ r, tab g most k g.length = some r ∧ v = r.1 := by
  unfold vals
  rw [List.mem_map]
  constructor
  · rintro ⟨r, hr, rfl⟩
    obtain ⟨h1, h2⟩ := List.mem_filter.mp hr
    obtain ⟨k, hk, rfl⟩ := tabL_mem.mp h1
    rw [row_last'] at h2 ⊢
    cases e : tab g most k g.length with
    | none => rw [e] at h2; cases h2
    | some c => exact ⟨k, hk, c, e, rfl⟩
  · rintro ⟨k, hk, c, e, rfl⟩
    refine ⟨rowL g most k, List.mem_filter.mpr ⟨tabL_mem.mpr ⟨k, hk, rfl⟩, by rw [row_last', e]; rfl⟩, ?_⟩
    rw [row_last', e]; rfl
theorem least_ok (hg : AOk g) (h1 : 1 ≤ most) (hm : most ≤ 60) (hn : many ≤ 60) : m_least_convoy_wait g most many = minNo (vals g most many) () := by
  have hl := hg.len
  unfold m_least_convoy_wait
  dsimp! [check_ok hg (most := (most : Int)) (many := (many : Int)) (by omega) (by omega), table_ok hg hm hn]
  have e : lcM (tabL g most many) (fun (row_ : (List (Option (Int × Int)))) => ((ix row_ (-(1 : Int))).bind fun a => (.ok a.isSome))) (fun (row_ : (List (Option (Int × Int)))) => (((ix row_ (-(1 : Int))).bind unw).bind fun a => .ok a.1)) = .ok (vals g most many) := by
    refine lc_filt _ _ (by unfold tabL; rw [List.length_map, List.length_range]; omega) (fun r hr => ?_) fun r hr hc => ?_
    · obtain ⟨k, hk, rfl⟩ := tabL_mem.mp hr
      rw [row_last, row_last']; rfl
    · obtain ⟨k, hk, rfl⟩ := tabL_mem.mp hr
      rw [row_last'] at hc ⊢
      rw [row_last]
      cases e : tab g most k g.length with
      | none => rw [e] at hc; cases hc
      | some c => rfl
  dsimp! [e]
theorem least_cases (hg : AOk g) (h1 : 1 ≤ most) (hm : most ≤ 60) (hn : many ≤ 60) : (m_least_convoy_wait g most many = .ok none ∧ ∀ k, k ≤ many → tab g most k g.length = none) ∨ ∃ w, m_least_convoy_wait g most many = .ok (some w) ∧ (∃ k r, k ≤ many ∧ tab g most k g.length = some r ∧ r.1 = w) ∧ ∀ k r, k ≤ many → tab g most k g.length = some r → w ≤ r.1 := by
  rw [least_ok hg h1 hm hn]
  cases e : vals g most many with
  | nil =>
    left
    refine ⟨rfl, fun k hk => ?_⟩
    cases e2 : tab g most k g.length with
    | none => rfl
    | some r =>
      have : r.1 ∈ vals g most many := vals_mem.mpr ⟨k, hk, r, e2, rfl⟩
      rw [e] at this; cases this
  | cons x xs =>
    right
    have h2 := foldmin_mem xs x
    have h3 := foldmin_le xs x
    rw [← e] at h2 h3
    obtain ⟨k, hk, r, e2, e3⟩ := vals_mem.mp h2
    exact ⟨_, rfl, ⟨k, r, hk, e2, e3.symm⟩, fun k r hk e4 => h3 _ (vals_mem.mpr ⟨k, hk, r, e4, rfl⟩)⟩
end K56

set_option Elab.async false
set_option linter.all false
set_option maxRecDepth 100000
set_option maxHeartbeats 4000000
namespace K56
open PySem PySem.Spec PyProof.Rows L2 VL VT
open Enc
variable {g : List Int} {most many : Nat}
/-! ### convoy_plan -/
theorem tabL_get {k : Nat} (h : k ≤ many) : ix (tabL g most many) (k : Int) = .ok (rowL g most k) := by
  unfold tabL
  refine ix_get (n := k) rfl ?_
  rw [List.getElem?_map, List.getElem?_range (by omega)]; rfl
/-- the way back -/
structure Way (g : List Int) (most n K : Nat) (w : Int) (l : List Nat) (e k : Nat) : Prop where
  cell : ∃ c, tab g most k e = some c ∧ c.1 + wt g e l = w
  pos : ∀ x ∈ l, 0 < x
  le : ∀ x ∈ l, x ≤ most
  sum : e + l.sum = n
  len : l.length + k = K
theorem way_back (hg : AOk g) {K : Nat} {w : Int} (hn : many ≤ 60) (hK : K ≤ many) (hmin : ∀ k r, k < K → tab g most k g.length = some r → w < r.1) (hk : ∃ c, tab g most K g.length = some c ∧ c.1 = w) :
    ∃ l, m_convoy_plan_c_8 (tabL g most many) (K : Int) [] (g.length : Int) = .ok (some (zs l)) ∧ Pl most g.length l ∧ l.length = K ∧ wt g 0 l = w := by
  have hl := hg.len
  obtain ⟨s, h1, h2, h3⟩ := whl_ok (fc := fun (s : ((List Int) × Int × Int)) => (.ok (decide ((0 : Int) < s.2.2)))) (fb := fun (s : ((List Int) × Int × Int)) => m_convoy_plan_8b (tabL g most many) s.1 s.2.1 s.2.2)
    (fun s => ∃ l e k, s = (zs l, ((e : Nat) : Int), ((k : Nat) : Int)) ∧ Way g most g.length K w l e k) (fun s => s.2.2.toNat) (by
      rintro s ⟨l, e, k, rfl, W⟩
      by_cases k0 : k = 0
      · subst k0
        exact .inl rfl
      · refine .inr ⟨by show Res.ok (decide ((0 : Int) < (k : Int))) = _; rw [decide_eq_true (by omega)], ?_⟩
        obtain ⟨c, c1, c2⟩ := W.cell
        rcases tab_get g k e c c1 with ⟨rfl, rfl⟩ | ⟨he, k', st, c', rfl, q1, q2, q3, rfl⟩
        · exfalso
          have hp : Pl most g.length l := ⟨W.pos, W.le, by have := W.sum; omega⟩
          have hlen := W.len
          obtain ⟨r, r1, r2⟩ := tab_le g (K - k) g.length l hp (by omega)
          have := hmin (K - k) r (by omega) r1
          have : wt g 0 l = w := by simpa using c2
          omega
        · have hsum := W.sum
          have hlen := W.len
          refine ⟨(zs ((e - st) :: l), (st : Int), (k' : Int)), ?_, ⟨_, _, _, rfl, ⟨⟨c', q3, ?_⟩, ?_, ?_, ?_, ?_⟩⟩, by show ((k' : Nat) : Int).toNat < ((k' + 1 : Nat) : Int).toNat; omega⟩
          · show m_convoy_plan_8b (tabL g most many) (zs l) (e : Int) ((k' + 1 : Nat) : Int) = _
            unfold m_convoy_plan_8b
            have e1 := tabL_get (g := g) (most := most) (many := many) (k := k' + 1) (by omega)
            have e2 : ix (rowL g most (k' + 1)) (e : Int) = .ok (tab g most (k' + 1) e) := row_get (by omega)
            rw [e1]
            have e3 : (Res.ok (rowL g most (k' + 1))).bind (fun a => ix a (e : Int)) = .ok (some (c'.1 + gw g st e, (st : Int))) := by
              show ix (rowL g most (k' + 1)) (e : Int) = _
              rw [e2, c1]
            have hz : (zs l).length ≤ 60 := by unfold zs; rw [List.length_map]; omega
            have e4 : cat [(e : Int) - (st : Int)] (zs l) = .ok (zs ((e - st) :: l)) := by
              rw [cat_ok (by simp; omega)]
              unfold zs
              rw [List.map_cons]
              have : ((e - st : Nat) : Int) = (e : Int) - st := by omega
              rw [this]; rfl
            rw [e3]
            dsimp! [e4]
            congr 3; omega
          · show c'.1 + (gw g st (st + (e - st)) + wt g (st + (e - st)) l) = w
            rw [show st + (e - st) = e by omega]
            have : c'.1 + gw g st e + wt g e l = w := c2
            omega
          · intro x hx
            rcases List.mem_cons.mp hx with rfl | hx
            · omega
            · exact W.pos x hx
          · intro x hx
            rcases List.mem_cons.mp hx with rfl | hx
            · omega
            · exact W.le x hx
          · rw [List.sum_cons]; omega
          · rw [List.length_cons]; omega) 10000 ([], (g.length : Int), (K : Int)) ⟨[], g.length, K, rfl, ⟨by obtain ⟨c, c1, c2⟩ := hk; exact ⟨c, c1, by simp [wt, c2]⟩, fun x hx => (by cases hx), fun x hx => (by cases hx), by simp, by simp⟩⟩ (by show (K : Int).toNat < 10000; omega)
  obtain ⟨l, e, k, rfl, W⟩ := h2
  have hk0 : k = 0 := by
    have h4 : Res.ok (decide ((0 : Int) < (k : Int))) = Res.ok false := h3
    have h5 : decide ((0 : Int) < (k : Int)) = false := by injection h4
    have := of_decide_eq_false h5
    omega
  subst hk0
  obtain ⟨c, c1, c2⟩ := W.cell
  have he : e = 0 ∧ c = (0, 0) := by
    unfold tab at c1
    split at c1
    · cases c1; exact ⟨by assumption, rfl⟩
    · cases c1
  obtain ⟨rfl, rfl⟩ := he
  refine ⟨l, ?_, ⟨W.pos, W.le, by have := W.sum; omega⟩, by have := W.len; omega, by simpa using c2⟩
  unfold m_convoy_plan_c_8
  rw [h1]; rfl
theorem cell_test {k : Nat} {w : Int} (h : k ≤ many) : ((((ix (tabL g most many) (k : Int)).bind fun a => (ix a (-(1 : Int)))).bind fun a => (.ok a.isNone)).bind fun q => if q = true then .ok true else ((((((ix (tabL g most many) (k : Int)).bind fun a => (ix a (-(1 : Int)))).bind unw).bind fun a => .ok a.1).bind fun a => .ok (some a)).bind fun a => (.ok (!decide (a = some w))))) = (.ok (match tab g most k g.length with | none => true | some r => !decide (r.1 = w)) : Res Bool) := by
  rw [tabL_get h]
  have e3 : (Res.ok (rowL g most k)).bind (fun a => ix a (-(1 : Int))) = .ok (tab g most k g.length) := row_last k
  rw [e3]
  cases tab g most k g.length with
  | none => rfl
  | some r =>
    show Res.ok (!decide (some r.1 = some w)) = .ok (!decide (r.1 = w))
    congr 2
    exact decide_eq_decide.mpr ⟨fun h => by injection h, fun h => by rw [h]⟩
theorem plan_cases (hg : AOk g) (h1 : 1 ≤ most) (hm : most ≤ 60) (hn : many ≤ 60) : (m_least_convoy_wait g most many = .ok none ∧ m_convoy_plan g most many = .ok none ∧ ∀ l, Pl most g.length l → ¬ l.length ≤ many) ∨
    ∃ w l, m_least_convoy_wait g most many = .ok (some w) ∧ m_convoy_plan g most many = .ok (some (zs l)) ∧ Pl most g.length l ∧ l.length ≤ many ∧ wt g 0 l = w ∧ ∀ l', Pl most g.length l' → l'.length ≤ many → w ≤ wt g 0 l' ∧ (wt g 0 l' = w → l.length ≤ l'.length) := by
  have hc := check_ok hg (most := (most : Int)) (many := (many : Int)) (by omega) (by omega)
  rcases least_cases hg h1 hm hn with ⟨e1, e2⟩ | ⟨w, e1, ⟨k0, r0, hk0, t0, w0⟩, e3⟩
  · left
    refine ⟨e1, ?_, fun l hl hk => ?_⟩
    · unfold m_convoy_plan m_convoy_plan_c_1 m_convoy_plan_c_2 m_convoy_plan_c_3
      rw [hc, Res.ok_bind, table_ok hg hm hn, Res.ok_bind, e1]; rfl
    · obtain ⟨r, r1, _⟩ := tab_le g many g.length l hl hk
      rw [e2 many (Nat.le_refl _)] at r1; cases r1
  · right
    -- the first row of the least wait
    obtain ⟨s, s1, s2, s3⟩ := whl_ok (fc := fun (s : Int) => ((((ix (tabL g most many) s).bind fun a => (ix a (-(1 : Int)))).bind fun a => (.ok a.isNone)).bind fun k => if k = true then .ok true else ((((((ix (tabL g most many) s).bind fun a => (ix a (-(1 : Int)))).bind unw).bind fun a => .ok a.1).bind fun a => .ok (some a)).bind fun a => (.ok (!decide (a = some w)))))) (fb := fun (s : Int) => m_convoy_plan_5b (tabL g most many) (some w) s)
      (fun s => ∃ k : Nat, s = (k : Int) ∧ k ≤ k0 ∧ ∀ j r, j < k → tab g most j g.length = some r → w < r.1) (fun s => k0 - s.toNat) (by
        rintro s ⟨k, rfl, hk, hj⟩
        have ct := cell_test (g := g) (most := most) (many := many) (k := k) (w := w) (by omega)
        cases e : tab g most k g.length with
        | none =>
          have hkk : k ≠ k0 := by rintro rfl; rw [t0] at e; cases e
          rw [e] at ct
          refine .inr ⟨ct, ((k + 1 : Nat) : Int), rfl, ⟨k + 1, rfl, by omega, fun j r hjk hr => ?_⟩, by show k0 - ((k + 1 : Nat) : Int).toNat < k0 - ((k : Nat) : Int).toNat; omega⟩
          by_cases hj2 : j = k
          · subst hj2; rw [e] at hr; cases hr
          · exact hj j r (by omega) hr
        | some r =>
          rw [e] at ct
          by_cases hw : r.1 = w
          · left; rw [ct]; show Res.ok (!decide (r.1 = w)) = _; rw [decide_eq_true hw]; rfl
          · have hkk : k ≠ k0 := by
              rintro rfl
              rw [t0] at e
              injection e with e
              exact hw (by rw [← e]; exact w0)
            have ct2 : _ = Res.ok (!decide (r.1 = w)) := ct
            rw [decide_eq_false hw] at ct2
            refine .inr ⟨ct2, ((k + 1 : Nat) : Int), rfl, ⟨k + 1, rfl, by omega, fun j r' hjk hr => ?_⟩, by show k0 - ((k + 1 : Nat) : Int).toNat < k0 - ((k : Nat) : Int).toNat; omega⟩
            by_cases hj2 : j = k
            · subst hj2
              rw [e] at hr
              injection hr with hr
              have := e3 j r (by omega) e
              rw [← hr]; omega
            · exact hj j r' (by omega) hr) 10000 0 ⟨0, rfl, Nat.zero_le _, fun j r h => absurd h (by omega)⟩ (by show k0 - (0 : Int).toNat < 10000; omega)
    obtain ⟨K, rfl, hK, hmin⟩ := s2
    have ct := cell_test (g := g) (most := most) (many := many) (k := K) (w := w) (by omega)
    have ct3 := ct.symm.trans s3
    obtain ⟨r, r1, r2⟩ : ∃ r, tab g most K g.length = some r ∧ r.1 = w := by
      cases e : tab g most K g.length with
      | none => rw [e] at ct3; cases ct3
      | some r =>
        rw [e] at ct3
        have ct4 : Res.ok (!decide (r.1 = w)) = Res.ok false := ct3
        injection ct4 with ct4
        refine ⟨r, rfl, ?_⟩
        by_cases hw : r.1 = w
        · exact hw
        · rw [decide_eq_false hw] at ct4; cases ct4
    obtain ⟨l, l1, l2, l3, l4⟩ := way_back hg (many := many) (K := K) hn (by omega) hmin ⟨r, r1, r2⟩
    refine ⟨w, l, e1, ?_, l2, by omega, l4, fun l' hl' hk' => ?_⟩
    · unfold m_convoy_plan m_convoy_plan_c_1 m_convoy_plan_c_2 m_convoy_plan_c_3
      rw [hc, Res.ok_bind, table_ok hg hm hn, Res.ok_bind, e1]
      show m_convoy_plan_c_4 g (tabL g most many) (some w) = _
      unfold m_convoy_plan_c_4 m_convoy_plan_c_5
      rw [Res.ok_bind, s1, Res.ok_bind]
      exact l1
    · obtain ⟨r', q1, q2⟩ := tab_le g l'.length g.length l' hl' (Nat.le_refl _)
      have := e3 l'.length r' hk' q1
      refine ⟨by omega, fun hw => ?_⟩
      rw [l3]
      by_cases hlt : l'.length < K
      · have := hmin _ r' hlt q1
        omega
      · omega
end K56

set_option Elab.async false
set_option linter.all false
set_option maxRecDepth 100000
set_option maxHeartbeats 4000000
namespace K56
open PySem PySem.Spec PyProof.Rows L2 VL VT
open Enc
variable {g : List Int} {most many : Nat} {L : Int}
/-! ### fewest_convoys -/
def Fine (g : List Int) (L : Int) : Nat → List Nat → Prop
  | _, [] => True
  | p, x :: xs => at_ g (p + x - 1) - at_ g p ≤ L ∧ Fine g L (p + x) xs
theorem fine_snoc (g : List Int) (L : Int) : ∀ (l : List Nat) (p x : Nat), Fine g L p (l ++ [x]) ↔ Fine g L p l ∧ at_ g (p + l.sum + x - 1) - at_ g (p + l.sum) ≤ L
  | [], p, x => by
    show (at_ g (p + x - 1) - at_ g p ≤ L ∧ True) ↔ _
    simp [Fine]
  | y :: l, p, x => by
    show (at_ g (p + y - 1) - at_ g p ≤ L ∧ Fine g L (p + y) (l ++ [x])) ↔ (at_ g (p + y - 1) - at_ g p ≤ L ∧ Fine g L (p + y) l) ∧ _
    rw [fine_snoc g L l (p + y) x, List.sum_cons, Nat.add_assoc p y l.sum, and_assoc]
theorem AOk.mono (h : AOk g) : ∀ {a b : Nat}, a ≤ b → b < g.length → at_ g a ≤ at_ g b := by
  intro a b hab hb
  induction b with
  | zero => rw [show a = 0 by omega]; exact Int.le_refl _
  | succ b ih =>
    by_cases e : a = b + 1
    · subst e; exact Int.le_refl _
    · exact Int.le_trans (ih (by omega) (by omega)) (h.up b hb)
/-- the greedy's state at boat t -/
structure Gr (g : List Int) (most : Nat) (L : Int) (t : Nat) (init : List Nat) (x : Nat) : Prop where
  pl : Pl most t (init ++ [x])
  fine : Fine g L 0 (init ++ [x])
  best : ∀ l', Pl most t l' → Fine g L 0 l' → init.length + 1 ≤ l'.length
  last : ∀ i' x', Pl most t (i' ++ [x']) → Fine g L 0 (i' ++ [x']) → i'.length = init.length → i'.sum ≤ init.sum
/-- a plan of t + 1 boats less its last boat -/
theorem less_one (hg : AOk g) {t : Nat} (ht : t + 1 ≤ g.length) {i' : List Nat} {x' : Nat} (h : Pl most (t + 1) (i' ++ [x'])) (f : Fine g L 0 (i' ++ [x'])) : (x' = 1 ∧ Pl most t i' ∧ Fine g L 0 i') ∨ (2 ≤ x' ∧ Pl most t (i' ++ [x' - 1]) ∧ Fine g L 0 (i' ++ [x' - 1])) := by
  have hs := h.sum
  have hx := h.pos x' (by simp)
  have hm := h.le x' (by simp)
  rw [List.sum_append] at hs
  simp at hs
  rw [fine_snoc] at f
  obtain ⟨f1, f2⟩ := f
  by_cases e : x' = 1
  · left
    exact ⟨e, ⟨fun y hy => h.pos y (List.mem_append_left _ hy), fun y hy => h.le y (List.mem_append_left _ hy), by omega⟩, f1⟩
  · right
    refine ⟨by omega, ⟨fun y hy => ?_, fun y hy => ?_, by rw [List.sum_append]; simp; omega⟩, ?_⟩
    · rcases List.mem_append.mp hy with k | k
      · exact h.pos y (List.mem_append_left _ k)
      · have : y = x' - 1 := by simpa using k
        omega
    · rcases List.mem_append.mp hy with k | k
      · exact h.le y (List.mem_append_left _ k)
      · have : y = x' - 1 := by simpa using k
        omega
    · rw [fine_snoc]
      refine ⟨f1, ?_⟩
      have := hg.mono (a := 0 + i'.sum + (x' - 1) - 1) (b := 0 + i'.sum + x' - 1) (by omega) (by omega)
      omega
theorem Pl.nil_snoc {t : Nat} {l : List Nat} (h : Pl most (t + 1) l) : ∃ i' x', l = i' ++ [x'] := by
  obtain ⟨i', x', e, _⟩ := h.split (by omega)
  exact ⟨i', x', e⟩
theorem gr_first (h1 : 1 ≤ most) (hL : 0 ≤ L) : Gr g most L 1 [] 1 := by
  refine ⟨⟨by simp, by simp; omega, by simp⟩, ?_, fun l' h _ => ?_, fun i' x' h _ hl => ?_⟩
  · show at_ g (0 + 1 - 1) - at_ g 0 ≤ L ∧ True
    exact ⟨by simp; exact hL, trivial⟩
  · obtain ⟨i', x', rfl⟩ := h.nil_snoc
    simp
  · have : i' = [] := List.length_eq_zero_iff.mp (by simpa using hl)
    subst this; simp
theorem gr_open (hg : AOk g) (h1 : 1 ≤ most) (hL : 0 ≤ L) {t : Nat} (ht : t + 1 ≤ g.length) {init : List Nat} {x : Nat} (G : Gr g most L t init x) (h0 : 0 < t) (hc : x = most ∨ L < at_ g t - at_ g init.sum) : Gr g most L (t + 1) (init ++ [x]) 1 := by
  have hs := G.pl.sum
  refine ⟨?_, ?_, fun l' h f => ?_, fun i' x' h f hl => ?_⟩
  · have := G.pl.snoc (x := 1) (by omega) h1
    exact this
  · rw [fine_snoc]
    refine ⟨G.fine, ?_⟩
    rw [hs]
    simp; exact hL
  · obtain ⟨i', x', rfl⟩ := h.nil_snoc
    rw [List.length_append, List.length_append]
    show init.length + 1 + 1 ≤ i'.length + 1
    rcases less_one hg ht h f with ⟨e, p1, p2⟩ | ⟨e, p1, p2⟩
    · have := G.best _ p1 p2; omega
    · have hb := G.best _ p1 p2
      rw [List.length_append] at hb
      have hb : init.length + 1 ≤ i'.length + 1 := hb
      by_cases hlt : i'.length = init.length
      · exfalso
        have hla := G.last _ _ p1 p2 hlt
        have hsum := h.sum
        rw [List.sum_append] at hsum hs
        simp at hsum hs
        rcases hc with hc | hc
        · have := h.le x' (by simp)
          omega
        · rw [fine_snoc] at f
          have f2 := f.2
          rw [Nat.zero_add, show i'.sum + x' - 1 = t by omega] at f2
          have := hg.mono (a := i'.sum) (b := init.sum) hla (by omega)
          omega
      · omega
  · have hsum := h.sum
    have hx := h.pos x' (by simp)
    rw [List.sum_append] at hsum
    simp at hsum
    rw [hs]; omega
theorem gr_more (hg : AOk g) {t : Nat} (ht : t + 1 ≤ g.length) {init : List Nat} {x : Nat} (G : Gr g most L t init x) (h0 : 0 < t) (h2 : x ≠ most) (h3 : at_ g t - at_ g init.sum ≤ L) : Gr g most L (t + 1) init (x + 1) := by
  have hs := G.pl.sum
  have hxm := G.pl.le x (by simp)
  have hxp := G.pl.pos x (by simp)
  rw [List.sum_append] at hs
  simp at hs
  refine ⟨⟨fun y hy => ?_, fun y hy => ?_, by rw [List.sum_append]; simp; omega⟩, ?_, fun l' h f => ?_, fun i' x' h f hl => ?_⟩
  · rcases List.mem_append.mp hy with k | k
    · exact G.pl.pos y (List.mem_append_left _ k)
    · have : y = x + 1 := by simpa using k
      omega
  · rcases List.mem_append.mp hy with k | k
    · exact G.pl.le y (List.mem_append_left _ k)
    · have : y = x + 1 := by simpa using k
      omega
  · rw [fine_snoc]
    refine ⟨((fine_snoc g L init 0 x).mp G.fine).1, ?_⟩
    rw [Nat.zero_add, show init.sum + (x + 1) - 1 = t by omega]
    exact h3
  · obtain ⟨i', x', rfl⟩ := h.nil_snoc
    rw [List.length_append]
    show init.length + 1 ≤ i'.length + 1
    rcases less_one hg ht h f with ⟨e, p1, p2⟩ | ⟨e, p1, p2⟩
    · have := G.best _ p1 p2; omega
    · have hb := G.best _ p1 p2
      rw [List.length_append] at hb
      exact hb
  · rcases less_one hg ht h f with ⟨e, p1, p2⟩ | ⟨e, p1, p2⟩
    · have := G.best _ p1 p2; omega
    · exact G.last _ _ p1 p2 hl
theorem setL_last {l : List Int} {x y : Int} : setL (l ++ [x]) (-1) y = .ok (l ++ [y]) := by
  unfold setL
  have : ixN (l ++ [x]).length (-1) = some l.length := by
    rw [List.length_append]
    unfold ixN
    simp only [List.length_cons, List.length_nil]
    split <;> (try split) <;> first | (congr 1; omega) | (exfalso; omega)
  rw [this]
  show Res.ok ((l ++ [x]).set l.length y) = _
  rw [List.set_append_right _ _ (Nat.le_refl _)]; simp
theorem zs_snoc (l : List Nat) (x : Nat) : zs (l ++ [x]) = zs l ++ [(x : Int)] := by unfold zs; rw [List.map_append]; rfl
theorem few_turn (hg : AOk g) (hm : most ≤ 60) {t : Nat} (ht : t + 1 ≤ g.length) {init : List Nat} {x : Nat} (G : Gr g most L t init x) (h0 : 0 < t) :
    m_fewest_convoys_4b g most L t (zs (init ++ [x])) (init.sum : Nat) = if x = most ∨ L < at_ g t - at_ g init.sum then .ok (zs ((init ++ [x]) ++ [1]), (t : Int)) else .ok (zs (init ++ [x + 1]), ((init.sum : Nat) : Int)) := by
  have hl := hg.len
  have hs := G.pl.sum
  have hle : ∀ l : List Nat, (∀ y ∈ l, 0 < y) → l.length ≤ l.sum := by
    intro l
    induction l with
    | nil => intro _; simp
    | cons y l ih =>
      intro hp
      have := ih fun z hz => hp z (List.mem_cons_of_mem _ hz)
      have := hp y (List.mem_cons_self ..)
      rw [List.length_cons, List.sum_cons]; omega
  have hlen := hle _ G.pl.pos
  rw [hs] at hlen
  have hlast : ix (zs (init ++ [x])) (-1) = .ok (x : Int) := ix_last (by rw [zs_snoc]; simp)
  have hlen0 : ¬ ((zs (init ++ [x])).length : Int) = 0 := by unfold zs; simp; omega
  rw [List.sum_append] at hs
  simp at hs
  have hx := G.pl.pos x (by simp)
  have ha : ix g (t : Int) = .ok (at_ g t) := ix_at (by omega)
  have hf : ix g ((init.sum : Nat) : Int) = .ok (at_ g init.sum) := ix_at (by omega)
  unfold m_fewest_convoys_4b
  rw [decide_eq_false hlen0]
  have happ : app (zs (init ++ [x])) 0 = .ok (zs (init ++ [x]) ++ [0]) := app_ok (by unfold zs; rw [List.length_map]; omega)
  have hset : setL (zs (init ++ [x]) ++ [0]) (-1) (0 + 1) = .ok (zs ((init ++ [x]) ++ [1])) := by rw [setL_last, zs_snoc (init ++ [x]) 1]; rfl
  have hix : ix (zs (init ++ [x]) ++ [0]) (-1) = .ok (0 : Int) := ix_last (by simp)
  have hset2 : setL (zs (init ++ [x])) (-1) ((x : Int) + 1) = .ok (zs (init ++ [x + 1])) := by rw [zs_snoc init x, setL_last, zs_snoc init (x + 1)]; rfl
  by_cases c1 : x = most
  · have c1' : (x : Int) = (most : Int) := by omega
    conv => rhs; rw [if_pos (.inl c1)]
    subst c1
    dsimp! [hlast, happ, hix, hset]
  · have c1' : ¬ (x : Int) = (most : Int) := by omega
    by_cases c2 : L < at_ g t - at_ g init.sum
    · conv => rhs; rw [if_pos (.inr c2)]
      dsimp! [hlast, c1', ha, hf, c2, happ, hix, hset]
    · conv => rhs; rw [if_neg (by rintro (h | h); exact c1 h; exact c2 h)]
      dsimp! [hlast, c1', ha, hf, c2, hset2]
theorem few_first (hg : AOk g) (h0 : 1 ≤ g.length) : m_fewest_convoys_4b g most L 0 [] 0 = .ok ([1], 0) := by
  unfold m_fewest_convoys_4b
  have happ : app ([] : List Int) 0 = .ok [0] := app_ok (by simp)
  have hset : setL [(0 : Int)] (-1) (0 + 1) = .ok [1] := setL_last (l := []) (x := 0)
  have hix : ix [(0 : Int)] (-1) = .ok (0 : Int) := ix_last rfl
  dsimp! [happ, hix, hset]
theorem fewest_ok (hg : AOk g) (h1 : 1 ≤ most) (hm : most ≤ 60) (hL : 0 ≤ L ∧ L ≤ 10000) : ∃ l, m_fewest_convoys g most L = .ok (zs l) ∧ Pl most g.length l ∧ Fine g L 0 l ∧ ∀ l', Pl most g.length l' → Fine g L 0 l' → l.length ≤ l'.length := by
  have hl := hg.len
  have hc := check_ok hg (most := (most : Int)) (many := 0) (by omega) (by omega)
  obtain ⟨s, s1, s2⟩ := for_ok (fb := fun (a : Int) (s : ((List Int) × Int)) => m_fewest_convoys_4b g most L a s.1 s.2) (l := zr 0 g.length) (s := ([], 0))
    (fun i s => (i = 0 ∧ s = ([], 0)) ∨ (0 < i ∧ ∃ init x, s = (zs (init ++ [x]), ((init.sum : Nat) : Int)) ∧ Gr g most L i init x)) (.inl ⟨rfl, rfl⟩) fun i a s hi hp => by
      have hlt : i < g.length := by have := (List.getElem?_eq_some_iff.mp hi).1; rwa [zr_len] at this
      rw [zr_get hlt] at hi
      have ha : a = (i : Int) := by injection hi with hi; omega
      subst ha
      rcases hp with ⟨rfl, rfl⟩ | ⟨h0, init, x, rfl, G⟩
      · exact ⟨([1], 0), few_first hg (by omega), .inr ⟨by omega, [], 1, rfl, gr_first h1 hL.1⟩⟩
      · have e := few_turn hg hm (t := i) (by omega) G h0
        show ∃ s', m_fewest_convoys_4b g most L i (zs (init ++ [x])) ((init.sum : Nat) : Int) = .ok s' ∧ _
        rw [e]
        by_cases c : x = most ∨ L < at_ g i - at_ g init.sum
        · rw [if_pos c]
          refine ⟨_, rfl, .inr ⟨by omega, init ++ [x], 1, ?_, gr_open hg h1 hL.1 (by omega) G h0 c⟩⟩
          rw [G.pl.sum]
        · rw [if_neg c]
          refine ⟨_, rfl, .inr ⟨by omega, init, x + 1, rfl, gr_more hg (by omega) G h0 (fun k => c (.inl k)) (by
            by_cases k : L < at_ g i - at_ g init.sum
            · exact absurd (.inr k) c
            · omega)⟩⟩
  rw [zr_len] at s2
  have e0 : m_fewest_convoys g most L = .ok s.1 := by
    unfold m_fewest_convoys
    dsimp! [hc, hL.1, hL.2, rng1_ok (j := (g.length : Int)) g.length rfl (by omega)]
    show (forM (fun (a : Int) (s : ((List Int) × Int)) => m_fewest_convoys_4b g most L a s.1 s.2) (zr 0 g.length) ([], 0)).bind _ = _
    rw [s1]; rfl
  rw [e0]
  rcases s2 with ⟨h0, rfl⟩ | ⟨h0, init, x, rfl, G⟩
  · refine ⟨[], rfl, ⟨by simp, by simp, by rw [h0]; rfl⟩, trivial, fun l' _ _ => Nat.zero_le _⟩
  · refine ⟨_, rfl, G.pl, G.fine, fun l' p f => ?_⟩
    rw [List.length_append]
    exact G.best l' p f
end K56

set_option Elab.async false
set_option linter.all false
set_option maxRecDepth 100000
set_option maxHeartbeats 4000000
namespace K56
open PySem PySem.Spec PyProof.Rows L2 VL VT
open Enc
variable {g : List Int} {most many : Nat} {L : Int}
/-! ### the law's plans: all cuts -/
def dif : Int → List Int → Int → List Int
  | p, [], n => [n - p]
  | p, c :: cs, n => (c - p) :: dif c cs n
theorem dif_zip : ∀ (cs : List Int) (p n : Int), List.zipWith (fun a b => b - a) (p :: (cs ++ [n])) (cs ++ [n]) = dif p cs n
  | [], p, n => rfl
  | c :: cs, p, n => by
    show (c - p) :: List.zipWith (fun a b => b - a) (c :: (cs ++ [n])) (cs ++ [n]) = _
    rw [dif_zip cs c n]; rfl
theorem dif_to : ∀ (cs : List Int) (p n : Nat), cs.Pairwise (· < ·) → (∀ c ∈ cs, (p : Int) < c ∧ c < n) → p < n → ∃ l : List Nat, dif p cs n = zs l ∧ p + l.sum = n ∧ ∀ x ∈ l, 0 < x
  | [], p, n, _, _, h => ⟨[n - p], by show [(n : Int) - p] = [((n - p : Nat) : Int)]; congr 1; omega, by simp; omega, by simp; omega⟩
  | c :: cs, p, n, hp, hc, h => by
    have h1 := hc c (List.mem_cons_self ..)
    obtain ⟨q, rfl⟩ := Int.eq_ofNat_of_zero_le (show 0 ≤ c by omega)
    cases hp with
    | cons hq hp =>
      obtain ⟨l, e, s, ps⟩ := dif_to cs q n hp (fun d hd => ⟨hq d hd, (hc d (List.mem_cons_of_mem _ hd)).2⟩) (by omega)
      refine ⟨(q - p) :: l, ?_, by rw [List.sum_cons]; omega, fun x hx => ?_⟩
      · show ((q : Int) - p) :: dif q cs n = ((q - p : Nat) : Int) :: zs l
        rw [e]; congr 1; omega
      · rcases List.mem_cons.mp hx with rfl | hx
        · omega
        · exact ps x hx
theorem dif_from : ∀ (l : List Nat) (p n : Nat), l ≠ [] → p + l.sum = n → (∀ x ∈ l, 0 < x) → ∃ cs : List Int, dif p cs n = zs l ∧ cs.Pairwise (· < ·) ∧ ∀ c ∈ cs, (p : Int) < c ∧ c < n
  | [], p, n, h, _, _ => absurd rfl h
  | [x], p, n, _, hs, hp => ⟨[], by
      have : p + x = n := by simpa using hs
      show [(n : Int) - p] = [(x : Int)]
      congr 1; omega, List.Pairwise.nil, fun c hc => (by cases hc)⟩
  | x :: y :: l, p, n, _, hs, hp => by
    rw [List.sum_cons] at hs
    have hx := hp x (List.mem_cons_self ..)
    have hy := hp y (List.mem_cons_of_mem _ (List.mem_cons_self ..))
    have hys : (y :: l).sum = y + l.sum := List.sum_cons
    obtain ⟨cs, e, pw, b⟩ := dif_from (y :: l) (p + x) n (by simp) (by omega) fun z hz => hp z (List.mem_cons_of_mem _ hz)
    refine ⟨((p + x : Nat) : Int) :: cs, ?_, List.Pairwise.cons (fun c hc => (b c hc).1) pw, fun c hc => ?_⟩
    · show (((p + x : Nat) : Int) - p) :: dif ((p + x : Nat) : Int) cs n = (x : Int) :: zs (y :: l)
      rw [e]; congr 1; omega
    · rcases List.mem_cons.mp hc with rfl | hc
      · omega
      · have := b c hc; omega
theorem inc_sub : ∀ (n : Nat) (i : Int) (s : List Int), s.Pairwise (· < ·) → (∀ x ∈ s, i ≤ x ∧ x < i + n) → s.Sublist (zr i n)
  | 0, i, [], _, _ => List.Sublist.refl _
  | 0, i, x :: s, _, h => by have := h x (List.mem_cons_self ..); omega
  | n + 1, i, [], _, _ => List.nil_sublist _
  | n + 1, i, x :: s, hp, h => by
    rw [zr_cons]
    cases hp with
    | cons hq hp =>
      have hx := h x (List.mem_cons_self ..)
      by_cases e : x = i
      · subst e
        refine List.Sublist.cons_cons _ (inc_sub n (x + 1) s hp fun y hy => ?_)
        have := hq y hy
        have := h y (List.mem_cons_of_mem _ hy)
        omega
      · refine List.Sublist.cons _ (inc_sub n (i + 1) (x :: s) (.cons hq hp) fun y hy => ?_)
        rcases List.mem_cons.mp hy with rfl | hy
        · omega
        · have := hq y hy
          have := h y (List.mem_cons_of_mem _ hy)
          omega
def szs (n : Nat) (cs : List Int) : List Int := if 0 < n then dif 0 cs n else []
/-- the plans of n boats are those of the cuts -/
theorem szs_to {n : Nat} {cs : List Int} (h : cs ∈ subs (zr 1 (n - 1))) : ∃ l : List Nat, szs n cs = zs l ∧ l.sum = n ∧ ∀ x ∈ l, 0 < x := by
  have hs := sub_iff.mp h
  unfold szs
  by_cases h0 : 0 < n
  · rw [if_pos h0]
    obtain ⟨l, e, s, p⟩ := dif_to cs 0 n ((zr_pw 1 (n - 1)).sublist hs) (fun c hc => by have := zr_mem.mp (hs.subset hc); omega) h0
    exact ⟨l, e, by omega, p⟩
  · rw [if_neg h0]
    exact ⟨[], rfl, by simp; omega, by simp⟩
theorem szs_from {n : Nat} {l : List Nat} (hs : l.sum = n) (hp : ∀ x ∈ l, 0 < x) : ∃ cs ∈ subs (zr 1 (n - 1)), szs n cs = zs l := by
  cases l with
  | nil =>
    have : n = 0 := by simpa using hs.symm
    subst this
    exact ⟨[], sub_iff.mpr (List.nil_sublist _), rfl⟩
  | cons x l =>
    have hx := hp x (List.mem_cons_self ..)
    rw [List.sum_cons] at hs
    have h0 : 0 < n := by omega
    obtain ⟨cs, e, pw, b⟩ := dif_from (x :: l) 0 n (by simp) (by rw [List.sum_cons]; omega) hp
    refine ⟨cs, sub_iff.mpr (inc_sub _ _ _ pw fun c hc => ?_), ?_⟩
    · have := b c hc; omega
    · unfold szs; rw [if_pos h0]; exact e
/-- the sizes as the law has them -/
theorem sizes_ok {e : List Int} {p : Int} {t : List Int} (he : e = p :: t) (hl : t.length ≤ 1000) : lcM (zr 0 t.length) (fun (at_ : Int) => (.ok true)) (fun (at_ : Int) => ((ix e (at_ + (1 : Int))).bind fun a => ((ix e at_).bind fun b => (.ok (a - b))))) = .ok (List.zipWith (fun a b => b - a) (p :: t) t) := by
  subst he
  rw [lc_map (fun a : Int => (p :: t).getD (a.toNat + 1) 0 - (p :: t).getD a.toNat 0) (by rw [zr_len]; omega) fun a ha => ?_]
  · congr 1
    apply List.ext_getElem
    · simp [zr_len]
    · intro i h1 h2
      rw [List.length_map, zr_len] at h1
      rw [List.getElem_map, List.getElem_zipWith]
      have : (zr 0 t.length)[i]'(by rw [zr_len]; exact h1) = (i : Int) := by
        have := zr_get (i := 0) h1
        rw [List.getElem?_eq_getElem (by rw [zr_len]; exact h1)] at this
        injection this with this
        omega
      rw [this]
      show (p :: t).getD (i + 1) 0 - (p :: t).getD i 0 = _
      rw [List.getD_eq_getElem?_getD, List.getD_eq_getElem?_getD, List.getElem?_cons_succ, List.getElem?_eq_getElem h1, List.getElem?_eq_getElem (by rw [List.length_cons]; omega)]
      rfl
  · obtain ⟨k, rfl⟩ := Int.eq_ofNat_of_zero_le (zr_mem.mp ha).1
    have hk := (zr_mem.mp ha).2
    have h1 : k < t.length := by omega
    have e1 : ix (p :: t) ((k : Int) + 1) = .ok ((p :: t).getD (k + 1) 0) := ix_get (n := k + 1) (by omega) (by rw [List.getD_eq_getElem?_getD, List.getElem?_cons_succ, List.getElem?_eq_getElem h1]; rfl)
    have e2 : ix (p :: t) (k : Int) = .ok ((p :: t).getD k 0) := ix_get (n := k) rfl (by rw [List.getD_eq_getElem?_getD, List.getElem?_eq_getElem (by rw [List.length_cons]; omega)]; rfl)
    rw [e1, e2]; rfl
abbrev Plan := T3 Int Int (List Int)
def mkP (g : List Int) (l : List Nat) : Plan := ⟨wt g 0 l, (l.length : Int), zs l⟩
def unz (l : List Int) : List Nat := l.map Int.toNat
theorem unz_zs (l : List Nat) : unz (zs l) = l := by
  unfold unz zs
  rw [List.map_map]
  have : (Int.toNat ∘ fun (n : Nat) => (n : Int)) = id := by funext x; rfl
  rw [this, List.map_id]
def fitB (most : Nat) (l : List Nat) : Bool := l.all fun x => decide (x ≤ most)
def planOf (g : List Int) (most : Nat) (cs : List Int) : Option Plan := if fitB most (unz (szs g.length cs)) = true then some (mkP g (unz (szs g.length cs))) else none
theorem max_fit {l : List Nat} : ∃ v, maxz (zs l ++ [0]) = .ok v ∧ decide (v ≤ (most : Int)) = fitB most l := by
  obtain ⟨v, e, h1, h2⟩ := maxz_ex (l := zs l ++ [0]) (by simp)
  refine ⟨v, e, ?_⟩
  unfold fitB
  by_cases c : v ≤ most
  · rw [decide_eq_true c]
    symm
    rw [List.all_eq_true]
    intro x hx
    have := h2 (x : Int) (List.mem_append_left _ (List.mem_map.mpr ⟨x, hx, rfl⟩))
    exact decide_eq_true (by omega)
  · rw [decide_eq_false c]
    symm
    rw [List.all_eq_false]
    rcases List.mem_append.mp h1 with k | k
    · obtain ⟨x, hx, rfl⟩ := List.mem_map.mp k
      exact ⟨x, hx, by simpa using c⟩
    · have : v = 0 := by simpa using k
      omega
theorem pos_len : ∀ l : List Nat, (∀ y ∈ l, 0 < y) → l.length ≤ l.sum
  | [], _ => Nat.zero_le _
  | y :: l, h => by
    have := pos_len l fun z hz => h z (List.mem_cons_of_mem _ hz)
    have := h y (List.mem_cons_self ..)
    rw [List.length_cons, List.sum_cons]; omega
theorem lb (h : AOk g) {p e : Nat} (hp : p < e) (he : e ≤ g.length) : 0 ≤ gw g p e ∧ gw g p e ≤ 10000 * (e - p : Nat) := by
  unfold gw
  have hh : ∀ t ∈ (g.drop p).take (e - p), 0 ≤ at_ g (e - 1) - t ∧ at_ g (e - 1) - t ≤ 10000 := by
    intro t ht
    have h1 : t ∈ g := List.mem_of_mem_drop (List.mem_of_mem_take ht)
    have h2 := h.num t h1
    obtain ⟨i, hi, rfl⟩ := List.mem_iff_getElem.mp ht
    rw [List.length_take, List.length_drop] at hi
    have : ((g.drop p).take (e - p))[i] = at_ g (p + i) := by
      unfold at_
      rw [List.getElem_take, List.getElem_drop, List.getD_eq_getElem?_getD, List.getElem?_eq_getElem (by omega)]; rfl
    rw [this]
    have := h.mono (a := p + i) (b := e - 1) (by omega) (by omega)
    have := h.at (p + i)
    have := h.at (e - 1)
    omega
  have hlen : ((g.drop p).take (e - p)).length ≤ e - p := by rw [List.length_take]; omega
  generalize (g.drop p).take (e - p) = l at hh hlen
  generalize e - p = m at hlen
  induction l generalizing m with
  | nil => simp; omega
  | cons x l ih =>
    rw [List.length_cons] at hlen
    have h1 := hh x (List.mem_cons_self ..)
    have h2 := ih (fun t ht => hh t (List.mem_cons_of_mem _ ht)) (m - 1) (by omega)
    rw [List.map_cons, List.sum_cons]
    omega
theorem zs_sum : ∀ l : List Nat, (zs l).sum = ((l.sum : Nat) : Int)
  | [] => rfl
  | x :: l => by
    have := zs_sum l
    show (x : Int) + (zs l).sum = _
    rw [this, List.sum_cons]; omega
theorem plan_wait_ok (h : AOk g) {l : List Nat} (hs : l.sum = g.length) (hpos : ∀ x ∈ l, 0 < x) : m_plan_wait g (zs l) = .ok (some (wt g 0 l)) := by
  have hl := h.len
  unfold m_plan_wait
  have hsum : (zs l).sum = (g.length : Int) := by rw [zs_sum, hs]
  have hany : lcG (fun (size_ : Int) => (.ok true : Res Bool)) (fun (size_ : Int) => (.ok (decide (size_ < (1 : Int))) : Res Bool)) (zs l) = .ok ((zs l).map fun x => decide (x < 1)) := by
    rw [lcG_map (fun _ => true) (fun x : Int => decide (x < 1)) (fun _ _ => rfl) fun _ _ _ => rfl, List.filter_eq_self.mpr fun _ _ => rfl]
  have hno : ((zs l).map fun x => decide (x < 1)).any id = false := by
    rw [List.any_eq_false]
    intro b hb
    obtain ⟨x, hx, rfl⟩ := List.mem_map.mp hb
    obtain ⟨y, hy, rfl⟩ := List.mem_map.mp hx
    have := hpos y hy
    simp; omega
  have hpl := plan_loop h l 0 0 hpos (by omega)
  rw [Int.zero_add] at hpl
  have hpl : forM (fun (a : Int) (s : (Int × Int)) => m_plan_wait_3b g a s.1 s.2) (zs l) (0, 0) = .ok (wt g 0 l, ((0 + l.sum : Nat) : Int)) := hpl
  dsimp! [hsum, hany, hno, hpl]
theorem turn7 (h : AOk g) (h7 : g.length ≤ 7) {cs : List Int} (hc : cs ∈ subs (zr 1 (g.length - 1))) {plans : List Plan} (hp : plans.length ≤ 1000) : m_law_7b g most cs plans = .ok (.nx (plans ++ (planOf g most cs).toList)) := by
  obtain ⟨l, e, hs, hpos⟩ := szs_to hc
  have hcl : cs.length ≤ 7 := by have := (sub_iff.mp hc).length_le; rw [zr_len] at this; omega
  have hll : l.length ≤ 7 := by have := pos_len l hpos; omega
  have e1 : cat [(0 : Int)] cs = .ok (0 :: cs) := cat_ok (by simp; omega)
  have e2 : cat (0 :: cs) [(g.length : Int)] = .ok (0 :: (cs ++ [(g.length : Int)])) := cat_ok (by simp; omega)
  have e3 : (if (decide ((0 : Int) < (g.length : Int))) = true then ((rng1z (((0 :: (cs ++ [(g.length : Int)])).length : Int) - (1 : Int))).bind fun l => (lcM l (fun (at_ : Int) => (.ok true)) (fun (at_ : Int) => ((ix (0 :: (cs ++ [(g.length : Int)])) (at_ + (1 : Int))).bind fun a => ((ix (0 :: (cs ++ [(g.length : Int)])) at_).bind fun b => (.ok (a - b))))))) else (.ok ([] : List Int))) = .ok (zs l) := by
    rw [← e]
    unfold szs
    by_cases h0 : 0 < g.length
    · rw [if_pos h0, decide_eq_true (by omega : (0 : Int) < (g.length : Int)), if_pos rfl]
      have hr : ((0 :: (cs ++ [(g.length : Int)])).length : Int) - 1 = ((cs ++ [(g.length : Int)]).length : Int) := by rw [List.length_cons]; omega
      rw [rng1_ok (j := ((0 :: (cs ++ [(g.length : Int)])).length : Int) - 1) (cs ++ [(g.length : Int)]).length hr (by simp; omega), Res.ok_bind]
      rw [sizes_ok (e := 0 :: (cs ++ [(g.length : Int)])) rfl (by simp; omega), dif_zip]
    · rw [if_neg h0, decide_eq_false (by omega : ¬ (0 : Int) < (g.length : Int))]; rfl
  have e4 : cat (zs l) [(0 : Int)] = .ok (zs l ++ [0]) := cat_ok (by unfold zs; simp; omega)
  obtain ⟨v, e5, e6⟩ := max_fit (most := most) (l := l)
  have e7 : m_law_wait g (zs l) = .ok (wt g 0 l) := law_wait h hpos (by omega)
  have e8 : m_plan_wait g (zs l) = .ok (some (wt g 0 l)) := plan_wait_ok h hs hpos
  unfold m_law_7b
  have e9 : ((zs l).length : Int) = (l.length : Int) := by unfold zs; rw [List.length_map]
  have e10 : stri (enc (wt g 0 l)) (enc (some (wt g 0 l))) = .ok true := stri_ok (a := wt g 0 l) (by decide) trivial
  rw [e1, Res.ok_bind, e2, Res.ok_bind, e3, Res.ok_bind, e4, Res.ok_bind, e5, Res.ok_bind, Res.ok_bind, e6, e7, e8]
  unfold planOf
  rw [e, unz_zs]
  by_cases hf : fitB most l = true
  · have e11 : app plans (T3.mk (wt g 0 l) ((zs l).length : Int) (zs l)) = .ok (plans ++ [mkP g l]) := by
      rw [VT.app_ok (by omega), e9]; rfl
    rw [hf, if_pos rfl, if_pos rfl]
    dsimp! [e11, e10]
    rfl
  · have hf : fitB most l = false := by simpa using hf
    rw [hf, if_neg (by decide), if_neg (by decide)]
    dsimp! [e10]
    simp
end K56

set_option Elab.async false
set_option linter.all false
set_option maxRecDepth 100000
set_option maxHeartbeats 4000000
namespace K56
open PySem PySem.Spec PyProof.Rows L2 VL VT
open Enc
variable {g : List Int} {most many : Nat} {L : Int}
/-! ### the law's own plans -/
def plansL (g : List Int) (most : Nat) : List Plan := (subs (zr 1 (g.length - 1))).filterMap (planOf g most)
theorem fitB_iff {l : List Nat} : fitB most l = true ↔ ∀ x ∈ l, x ≤ most := by
  unfold fitB
  rw [List.all_eq_true]
  constructor
  · intro h x hx; simpa using h x hx
  · intro h x hx; simpa using h x hx
theorem plans_mem {p : Plan} : p ∈ plansL g most ↔ ∃ l, Pl most g.length l ∧ p = mkP g l := by
  unfold plansL
  rw [List.mem_filterMap]
  constructor
  · rintro ⟨cs, hc, h⟩
    obtain ⟨l, e, hs, hp⟩ := szs_to hc
    unfold planOf at h
    rw [e, unz_zs] at h
    split at h
    · rename_i hf
      injection h with h
      exact ⟨l, ⟨hp, fitB_iff.mp hf, hs⟩, h.symm⟩
    · cases h
  · rintro ⟨l, hl, rfl⟩
    obtain ⟨cs, hc, e⟩ := szs_from hl.sum hl.pos
    refine ⟨cs, hc, ?_⟩
    unfold planOf
    rw [e, unz_zs, if_pos (fitB_iff.mpr hl.le)]
theorem subs7 (h7 : g.length ≤ 7) : (subs (zr 1 (g.length - 1))).length ≤ 64 := by
  rw [subs_len (g.length - 1) _ (zr_len _ _)]
  exact Nat.le_trans (Nat.pow_le_pow_right (n := 2) (by decide) (by omega : g.length - 1 ≤ 6)) (by decide)
theorem plans_len (h7 : g.length ≤ 7) : (plansL g most).length ≤ 64 := Nat.le_trans (List.length_filterMap_le _ _) (subs7 h7)
def fineB (g : List Int) (L : Int) : Nat → List Nat → Bool
  | _, [] => true
  | p, x :: xs => decide (at_ g (p + x - 1) - at_ g p ≤ L) && fineB g L (p + x) xs
theorem fineB_iff : ∀ (l : List Nat) (p : Nat), fineB g L p l = true ↔ Fine g L p l
  | [], p => by simp [fineB, Fine]
  | x :: l, p => by
    show (decide (at_ g (p + x - 1) - at_ g p ≤ L) && fineB g L (p + x) l) = true ↔ (at_ g (p + x - 1) - at_ g p ≤ L ∧ Fine g L (p + x) l)
    rw [Bool.and_eq_true, decide_eq_true_eq, fineB_iff l (p + x)]
theorem fine_loop (h : AOk g) (d0 d1 d2 d4 d5 d6 : Int) : ∀ (l : List Nat) (p : Nat) (b : Bool), (∀ x ∈ l, 0 < x) → p + l.sum ≤ g.length → forM (fun (a : Int) (s : (Bool × Int)) => m_law_13b_2b [d0, d1, d2, L, d4, d5, d6] g a s.1 s.2) (zs l) (b, (p : Int)) = .ok (b && fineB g L p l, ((p + l.sum : Nat) : Int))
  | [], p, b, _, _ => by
    show Res.ok (b, (p : Int)) = _
    simp [fineB]
  | x :: l, p, b, hp, hs => by
    rw [List.sum_cons] at hs
    have hx := hp x (List.mem_cons_self ..)
    have e : m_law_13b_2b [d0, d1, d2, L, d4, d5, d6] g x b p = .ok (b && decide (at_ g (p + x - 1) - at_ g p ≤ L), ((p + x : Nat) : Int)) := by
      have h1 : ix g ((p : Int) + (x : Int) - 1) = .ok (at_ g (p + x - 1)) := by
        have := ix_at (g := g) (t := p + x - 1) (by omega)
        rw [show ((p + x - 1 : Nat) : Int) = (p : Int) + (x : Int) - 1 by omega] at this
        exact this
      have h2 : ix g (p : Int) = .ok (at_ g p) := ix_at (by omega)
      unfold m_law_13b_2b
      by_cases c : at_ g (p + x - 1) - at_ g p ≤ L
      · have c' : ¬ L < at_ g (p + x - 1) - at_ g p := by omega
        dsimp! [h1, h2, c, c']
        congr 3
      · have c' : L < at_ g (p + x - 1) - at_ g p := by omega
        dsimp! [h1, h2, c, c']
        congr 3
    show (m_law_13b_2b [d0, d1, d2, L, d4, d5, d6] g x b p).bind _ = _
    rw [e]
    have ih := fine_loop h d0 d1 d2 d4 d5 d6 l (p + x) (b && decide (at_ g (p + x - 1) - at_ g p ≤ L)) (fun y hy => hp y (List.mem_cons_of_mem _ hy)) (by omega)
    show forM _ (zs l) _ = _
    rw [ih, List.sum_cons, Nat.add_assoc, Bool.and_assoc]
    rfl
def pfine (g : List Int) (L : Int) (p : Plan) : Bool := fineB g L 0 (unz p.c)
theorem turn13 (h : AOk g) {d0 d1 d2 d4 d5 d6 : Int} {p : Plan} (hp : p ∈ plansL g most) {short : List (Int × List Int)} (hs : short.length ≤ 1000) : m_law_13b [d0, d1, d2, L, d4, d5, d6] g p short = .ok (if pfine g L p = true then short ++ [(p.b, p.c)] else short) := by
  obtain ⟨l, hl, rfl⟩ := plans_mem.mp hp
  have e := fine_loop (L := L) h d0 d1 d2 d4 d5 d6 l 0 true hl.pos (by rw [hl.sum]; omega)
  unfold m_law_13b pfine
  show ((forM (fun (a : Int) (s : (Bool × Int)) => m_law_13b_2b [d0, d1, d2, L, d4, d5, d6] g a s.1 s.2) (zs l) (true, 0)).bind _) = _
  have e : forM (fun (a : Int) (s : (Bool × Int)) => m_law_13b_2b [d0, d1, d2, L, d4, d5, d6] g a s.1 s.2) (zs l) (true, 0) = _ := e
  rw [e, Bool.true_and]
  have e2 : unz (mkP g l).c = l := unz_zs l
  rw [e2]
  cases fineB g L 0 l with
  | true =>
    have e3 : app short ((mkP g l).b, (mkP g l).c) = .ok (short ++ [((mkP g l).b, (mkP g l).c)]) := VT.app_ok (by omega)
    show ((app short ((mkP g l).b, (mkP g l).c)).bind _) = _
    rw [e3]; rfl
  | false => rfl
def shortL (g : List Int) (most : Nat) (L : Int) : List (Int × List Int) := ((plansL g most).filter (pfine g L)).map fun p => (p.b, p.c)
theorem short_mem {q : Int × List Int} : q ∈ shortL g most L ↔ ∃ l, Pl most g.length l ∧ Fine g L 0 l ∧ q = ((l.length : Int), zs l) := by
  unfold shortL
  rw [List.mem_map]
  constructor
  · rintro ⟨p, hp, rfl⟩
    obtain ⟨h1, h2⟩ := List.mem_filter.mp hp
    obtain ⟨l, hl, rfl⟩ := plans_mem.mp h1
    refine ⟨l, hl, (fineB_iff l 0).mp ?_, rfl⟩
    have e2 : unz (mkP g l).c = l := unz_zs l
    unfold pfine at h2
    rw [e2] at h2
    exact h2
  · rintro ⟨l, hl, hf, rfl⟩
    refine ⟨mkP g l, List.mem_filter.mpr ⟨plans_mem.mpr ⟨l, hl, rfl⟩, ?_⟩, rfl⟩
    unfold pfine
    have e2 : unz (mkP g l).c = l := unz_zs l
    rw [e2]
    exact (fineB_iff l 0).mpr hf
theorem for_filter {α β : Type} {fb : α → List β → Res (List β)} {p : α → Bool} {f : α → β} {l : List α} (hl : l.length ≤ 100) (h : ∀ a s, a ∈ l → s.length ≤ 1000 → fb a s = .ok (if p a = true then s ++ [f a] else s)) : forM fb l [] = .ok ((l.filter p).map f) := by
  obtain ⟨s', h1, h2⟩ := for_ok (fb := fb) (l := l) (s := []) (fun i s => s = ((l.take i).filter p).map f) rfl fun i a s hi hp => by
    subst hp
    have e1 : l.take (i + 1) = l.take i ++ [a] := by rw [List.take_add_one, hi]; rfl
    refine ⟨_, h a _ (List.mem_of_getElem? hi) ?_, ?_⟩
    · rw [List.length_map]
      have := List.length_filter_le p (l.take i)
      rw [List.length_take] at this; omega
    · rw [e1, List.filter_append, List.map_append, List.filter_cons]
      by_cases c : p a = true
      · rw [if_pos c, if_pos c]; rfl
      · rw [if_neg c, if_neg c]; simp
  rw [List.take_length] at h2
  rw [h1, h2]
theorem memT_true {α : Type} [DecidableEq α] {a : α} {l : List α} (h : a ∈ l) : memT a l = true := decide_eq_true h
section
variable {d0 d1 d2 d4 d5 d6 : Int}
/-- the errors' end, asked for below -/
def End15 (g : List Int) (most many : Nat) (d0 d1 d2 L d4 d5 d6 : Int) : Prop := m_law_15 [d0, d1, d2, L, d4, d5, d6] g most many g = .ok true
theorem part11 (h : AOk g) (h7 : g.length ≤ 7) (h1 : 1 ≤ most) (hm : most ≤ 60) (hL : 0 ≤ L ∧ L ≤ 10000) (he : End15 g most many d0 d1 d2 L d4 d5 d6) : m_law_11 [d0, d1, d2, L, d4, d5, d6] g most many (plansL g most) g = .ok true := by
  obtain ⟨l, e1, e2, e3, e4⟩ := fewest_ok h h1 hm hL
  unfold m_law_11
  dsimp! [e1]
  unfold m_law_12
  dsimp! []
  unfold m_law_13
  have e5 : forM (fun (a : (T3 Int Int (List Int))) (s : (List (Int × (List Int)))) => m_law_13b [d0, d1, d2, L, d4, d5, d6] g a s) (plansL g most) [] = .ok (shortL g most L) :=
    for_filter (by have := plans_len (most := most) h7; omega) fun a s ha hs => turn13 h ha hs
  dsimp! [e5]
  unfold m_law_14
  have hmem : ((l.length : Int), zs l) ∈ shortL g most L := short_mem.mpr ⟨l, e2, e3, rfl⟩
  have hlen : ((zs l).length : Int) = l.length := by unfold zs; rw [List.length_map]
  obtain ⟨v, v1, v2, v3⟩ := minT_ex (l := shortL g most L) (List.ne_nil_of_mem hmem)
  obtain ⟨l', p1, p2, rfl⟩ := short_mem.mp v2
  have hle := v3 _ hmem
  rw [le_fst] at hle
  have := e4 l' p1 p2
  have hv : (l.length : Int) = (l'.length : Int) := by omega
  have hin : memT (((zs l).length : Int), zs l) (shortL g most L) = true := by rw [hlen]; exact memT_true hmem
  have hty : isTy "list" (enc (zs l)) = true := rfl
  rw [v1, hin, hty, hlen]
  dsimp! [hv]
  exact he
theorem part10 (h : AOk g) (h7 : g.length ≤ 7) (h1 : 1 ≤ most) (hm : most ≤ 60) (hn : many ≤ 60) (hL : 0 ≤ L ∧ L ≤ 10000) (he : End15 g most many d0 d1 d2 L d4 d5 d6) : m_law_8 [d0, d1, d2, L, d4, d5, d6] g most many (plansL g most) = .ok true := by
  have hpl := plans_len (most := most) h7
  have h11 := part11 h h7 h1 hm hL he
  unfold m_law_8
  rw [lc_filt (fun p : Plan => decide (p.b ≤ (many : Int))) (fun p => p) (by omega) (fun _ _ => rfl) fun _ _ _ => rfl, List.map_id']
  dsimp! []
  unfold m_law_9
  dsimp! []
  have hfm : ∀ p : Plan, p ∈ (plansL g most).filter (fun p : Plan => decide (p.b ≤ (many : Int))) ↔ ∃ l, Pl most g.length l ∧ l.length ≤ many ∧ p = mkP g l := by
    intro p
    rw [List.mem_filter]
    constructor
    · rintro ⟨h1, h2⟩
      obtain ⟨l, hl, rfl⟩ := plans_mem.mp h1
      have h3 : (l.length : Int) ≤ many := of_decide_eq_true h2
      exact ⟨l, hl, by omega, rfl⟩
    · rintro ⟨l, hl, hk, rfl⟩
      refine ⟨plans_mem.mpr ⟨l, hl, rfl⟩, decide_eq_true ?_⟩
      show (l.length : Int) ≤ many
      omega
  have hfl : ((plansL g most).filter (fun p : Plan => decide (p.b ≤ (many : Int)))).length ≤ 64 := Nat.le_trans (List.length_filter_le _ _) hpl
  generalize (plansL g most).filter (fun p : Plan => decide (p.b ≤ (many : Int))) = fit at hfm hfl
  unfold m_law_10
  rcases plan_cases h h1 hm hn with ⟨c1, c2, c3⟩ | ⟨w, l, c1, c2, c3, c4, c5, c6⟩
  · have : fit = [] := by
      cases fit with
      | nil => rfl
      | cons p r =>
        obtain ⟨l, hl, hk, _⟩ := (hfm p).mp (List.mem_cons_self ..)
        exact absurd hk (c3 l hl)
    subst this
    dsimp! [c1, c2]
    exact h11
  · have hin : mkP g l ∈ fit := (hfm _).mpr ⟨l, c3, c4, rfl⟩
    have hne : ¬ (fit.length : Int) = 0 := by
      intro e
      have : fit = [] := List.length_eq_zero_iff.mp (by omega)
      rw [this] at hin; cases hin
    have hmin : minT (fit.map fun p : Plan => (p.a, p.b)) = .ok (w, (l.length : Int)) := by
      refine minT_of (List.mem_map.mpr ⟨mkP g l, hin, by show (wt g 0 l, (l.length : Int)) = _; rw [c5]⟩) fun y hy => ?_
      obtain ⟨p, hp, rfl⟩ := List.mem_map.mp hy
      obtain ⟨l', q1, q2, rfl⟩ := (hfm p).mp hp
      show VT.le (w, (l.length : Int)) (wt g 0 l', (l'.length : Int)) = true
      rw [le_pair]
      obtain ⟨k1, k2⟩ := c6 l' q1 q2
      by_cases k : wt g 0 l' = w
      · right; exact ⟨k.symm, by have := k2 k; omega⟩
      · left; omega
    have hst : stri (enc w) (enc (some w)) = .ok true := stri_ok (a := w) (by decide) trivial
    have hme : memT (T3.mk w (l.length : Int) (some (zs l))) (List.map (fun (p : (T3 Int Int (List Int))) => T3.mk (id p.a) (id p.b) (some p.c)) fit) = true :=
      memT_true (List.mem_map.mpr ⟨mkP g l, hin, by show T3.mk (wt g 0 l) (l.length : Int) (some (zs l)) = _; rw [c5]⟩)
    have hty : isTy "list" (enc (some (zs l))) = true := rfl
    dsimp! [hne, lc_mapP (l := fit) (g := fun p : Plan => (p.a, p.b)) (by omega), hmin, c1, c2, hst, hty, hme]
    exact h11
theorem part7 (h : AOk g) (h7 : g.length ≤ 7) (h1 : 1 ≤ most) (hm : most ≤ 60) (hn : many ≤ 60) (hL : 0 ≤ L ∧ L ≤ 10000) (he : End15 g most many d0 d1 d2 L d4 d5 d6) : m_law_7 [d0, d1, d2, L, d4, d5, d6] g most many [] = .ok true := by
  unfold m_law_7
  have e1 : lrng 1 (g.length : Int) = .ok (zr 1 (g.length - 1)) := by
    rw [lrng_ok (by omega) (by omega) (by omega) (by omega), show ((g.length : Int) - 1).toNat = g.length - 1 by omega]
  have e2 : m_law_subsets (zr 1 (g.length - 1)) = .ok (subs (zr 1 (g.length - 1))) := by
    unfold m_law_subsets
    have := subs_loop (fb := fun (a : Int) (s : (List (List Int))) => m_law_subsets_1b a s) (l := zr 1 (g.length - 1)) (by rw [zr_len]; omega) fun x rows hx hr hrl => by
      unfold m_law_subsets_1b subStep
      rw [lc_map (fun r : List Int => r ++ [x]) (by omega) fun r hr' => cat_ok (by have := hrl r hr'; simp; omega)]
      rw [Res.ok_bind, cat_ok (by rw [List.length_map]; omega)]; rfl
    dsimp! [this]
  have hs7 := subs7 h7
  dsimp! [e1, e2]
  refine forC_b (P := fun i (s : List Plan) => s = ((subs (zr 1 (g.length - 1))).take i).filterMap (planOf g most)) rfl (fun i cs s hi hp => ?_) fun s hp => ?_
  · subst hp
    refine ⟨_, turn7 h h7 (List.mem_of_getElem? hi) ?_, ?_⟩
    · have := List.length_filterMap_le (planOf g most) ((subs (zr 1 (g.length - 1))).take i)
      rw [List.length_take] at this; omega
    · have e1 : (subs (zr 1 (g.length - 1))).take (i + 1) = (subs (zr 1 (g.length - 1))).take i ++ [cs] := by rw [List.take_add_one, hi]; rfl
      rw [e1, List.filterMap_append]
      congr 1
  · subst hp
    rw [List.take_length]
    exact part10 h h7 h1 hm hn hL he
end
end K56

set_option Elab.async false
set_option linter.all false
set_option maxRecDepth 100000
set_option maxHeartbeats 4000000
namespace K56
open PySem PySem.Spec PyProof.Rows L2 VL VT
open Enc
/-! ### the errors -/
theorem planC : (["TooMany", "PlanError"] : List Str).contains ("PlanError" : Str) = true := by decide +kernel
theorem manyC : (["TooMany", "PlanError"] : List Str).contains ("TooMany" : Str) = true := by decide +kernel
section
variable {ds : List D} {w m : Int} {e : Err}
theorem told_ex (h : m_check_convoys_2 ds m w = .ex e) (h0 : m_check_convoys_2 ds m 0 = .ex e) (q : Int) : m_law_told q ds m w = tryM ["TooMany", "PlanError"] (.ex e) (hdl ["PlanError"] (fun e => (((fld "PlanError" "what" e).bind fun a1 => ((fld "PlanError" "place" e).bind fun a2 => (.ok (a1, a2)))).bind fun a => .ok (enc a))) (hdl ["TooMany"] (fun e => (((fld "TooMany" "what" e).bind fun a3 => (.ok (a3, ("many" : Str)))).bind fun a => .ok (enc a))) hdl0)) := by
  have e1 : m_least_convoy_wait_2 ds m w = .ex e := by unfold m_least_convoy_wait_2; rw [h]; rfl
  have e2 : m_convoy_plan_2 ds m w = .ex e := by unfold m_convoy_plan_2; rw [h]; rfl
  have e3 : m_fewest_convoys_2 ds m w = .ex e := by unfold m_fewest_convoys_2; rw [h0]; rfl
  unfold m_law_told
  rw [e1, e2, e3]
  congr 1
  split
  · rfl
  · split <;> rfl
theorem told_plan {t : Str} {i : Int} (h : m_check_convoys_2 ds m w = .ex (planE t i)) (h0 : m_check_convoys_2 ds m 0 = .ex (planE t i)) (q : Int) : m_law_told q ds m w = .ok (enc (t, i)) := by
  rw [told_ex h h0, try_plan planC, hdl_plan (by decide +kernel)]
  rfl
end
section
variable {ds : List Int} {w m : Int} {e : Err}
theorem told2_ex (h : m_check_convoys ds m w = .ex e) (h0 : m_check_convoys ds m 0 = .ex e) (q : Int) : m_law_told_2 q ds m w = tryM ["TooMany", "PlanError"] (.ex e) (hdl ["PlanError"] (fun e => (((fld "PlanError" "what" e).bind fun a1 => ((fld "PlanError" "place" e).bind fun a2 => (.ok (a1, a2)))).bind fun a => .ok (enc a))) (hdl ["TooMany"] (fun e => (((fld "TooMany" "what" e).bind fun a3 => (.ok (a3, ("many" : Str)))).bind fun a => .ok (enc a))) hdl0)) := by
  have e1 : m_least_convoy_wait ds m w = .ex e := by unfold m_least_convoy_wait; rw [h]; rfl
  have e2 : m_convoy_plan ds m w = .ex e := by unfold m_convoy_plan; rw [h]; rfl
  have e3 : m_fewest_convoys ds m w = .ex e := by unfold m_fewest_convoys; rw [h0]; rfl
  unfold m_law_told_2
  rw [e1, e2, e3]
  congr 1
  split
  · rfl
  · split <;> rfl
theorem told2_plan {t : Str} {i : Int} (h : m_check_convoys ds m w = .ex (planE t i)) (h0 : m_check_convoys ds m 0 = .ex (planE t i)) (q : Int) : m_law_told_2 q ds m w = .ok (enc (t, i)) := by
  rw [told2_ex h h0, try_plan planC, hdl_plan (by decide +kernel)]
  rfl
theorem told2_many {t : Str} (h : m_check_convoys ds m w = .ex (manyE t)) (h0 : m_check_convoys ds m 0 = .ex (manyE t)) (q : Int) : m_law_told_2 q ds m w = .ok (enc (t, ("many" : Str))) := by
  rw [told2_ex h h0, try_many manyC, hdl_nmany (by decide +kernel), hdl_many (by decide +kernel)]
  rfl
end
theorem chk_bad {ds : List D} {m w : Int} (h : ds.length ≤ 60) {g : List Int} (hg : AOk g) (k : Nat) (hk : k ≤ g.length) (hp : ∀ i, i < k → ds[i]? = some (enc (at_ g i))) {d : D} (hd : ds[k]? = some d) (hb : isNum d 0 10000 = false) : m_check_convoys_2 ds m w = .ex (planE "time" k) := by
  have hkl : k < ds.length := (List.getElem?_eq_some_iff.mp hd).1
  have c : ¬ ((60 : Int) < (ds.length : Int)) := by omega
  unfold m_check_convoys_2
  dsimp! [c, rng1_ok (j := (ds.length : Int)) ds.length rfl (by omega)]
  have e1 : forM (fun (a : Int) (s : Unit) => m_check_convoys_2_1b ds a) (zr 0 ds.length) () = .ex (planE "time" k) := by
    refine forM_unit_ex k (zr_get hkl) (fun i a hi ha => ?_) ?_
    · obtain ⟨rfl, _⟩ := zr_at ha
      have hn := hg.at i
      have e2 : ix ds (i : Int) = .ok (enc (at_ g i)) := ix_get (n := i) rfl (hp i hi)
      unfold m_check_convoys_2_1b
      by_cases c0 : (0 : Int) < (i : Int)
      · have c1 : ¬ at_ g i < at_ g (i - 1) := by
          have := hg.mono (a := i - 1) (b := i) (by omega) (by omega)
          omega
        have e3 : ix ds ((i : Int) - 1) = .ok (enc (at_ g (i - 1))) := ix_get (n := i - 1) (by omega) (hp (i - 1) (by omega))
        have e4 : Res.of (dLt (enc (at_ g i)) (enc (at_ g (i - 1)))) = .ok false := by
          show Res.of (some (decide (at_ g i < at_ g (i - 1)))) = _
          rw [decide_eq_false c1]; rfl
        dsimp! [e2, e3, isNum_i, hn.1, hn.2, c0, e4]
      · dsimp! [e2, isNum_i, hn.1, hn.2, c0]
    · rw [Int.zero_add]
      unfold m_check_convoys_2_1b
      rw [ix_get (n := k) rfl hd]
      dsimp! [hb, rai_plan (w := "time") (i := (k : Int)) (γ := Unit) (by decide) (by omega) (by omega)]
  dsimp! [e1]
theorem chk_nil_most {w : Int} : m_check_convoys_2 [] 0 w = .ex (planE "boats in a convoy" 0) := by
  unfold m_check_convoys_2
  have e : isNum (enc (0 : Int)) 1 60 = false := rfl
  dsimp! [rng1_ok (j := (0 : Int)) 0 rfl (by omega), e, rai_plan (w := "boats in a convoy") (i := (0 : Int)) (γ := Unit) (by decide) (by omega) (by omega)]
  rfl
theorem chk_nil_many {w : Int} (h : isNum (enc w) 0 60 = false) : m_check_convoys_2 [] 1 w = .ex (planE "number of convoys" 0) := by
  unfold m_check_convoys_2
  have e : isNum (enc (1 : Int)) 1 60 = true := rfl
  dsimp! [rng1_ok (j := (0 : Int)) 0 rfl (by omega), e, h, rai_plan (w := "number of convoys") (i := (0 : Int)) (γ := Unit) (by decide) (by omega) (by omega)]
  rfl
theorem chk_nil_ok : m_check_convoys_2 [] 1 0 = .ok () := by
  unfold m_check_convoys_2
  have e : isNum (enc (1 : Int)) 1 60 = true := rfl
  have e0 : isNum (enc (0 : Int)) 0 60 = true := rfl
  dsimp! [rng1_ok (j := (0 : Int)) 0 rfl (by omega), e, e0]
  rfl
theorem chk_order {w : Int} : m_check_convoys [5, 4] 0 w = .ex (planE "order" 1) := by
  unfold m_check_convoys
  have e0 : isNum (enc (5 : Int)) 0 10000 = true := rfl
  have e1 : isNum (enc (4 : Int)) 0 10000 = true := rfl
  have e : forM (fun (a : Int) (s : Unit) => m_check_convoys_1b [5, 4] a) (zr 0 2) () = .ex (planE "order" 1) := by
    show (m_check_convoys_1b [5, 4] 0).bind (fun _ => (m_check_convoys_1b [5, 4] 1).bind fun _ => .ok ()) = _
    have a0 : m_check_convoys_1b [5, 4] 0 = .ok () := by
      unfold m_check_convoys_1b
      dsimp! [e0]
      simp
    have a1 : m_check_convoys_1b [5, 4] 1 = .ex (planE "order" 1) := by
      unfold m_check_convoys_1b
      have l0 : (1 : Int) - 1 = 0 := rfl
      have l1 : decide ((0 : Int) < 1) = true := rfl
      have l2 : decide ((4 : Int) < 5) = true := rfl
      rw [l0, l1, VT.ix1, VT.ix0]
      dsimp! [l2, rai_plan (w := "order") (i := (1 : Int)) (γ := Unit) (by decide) (by omega) (by omega)]
      rw [if_neg (by decide)]
    rw [a0, a1]; rfl
  have e3 : rng1z (([5, 4] : List Int).length : Int) = .ok (zr 0 2) := rng1_ok 2 rfl (by omega)
  have c : decide ((60 : Int) < (([5, 4] : List Int).length : Int)) = false := rfl
  rw [c, e3]
  dsimp! [e]
theorem chk_many {ds : List Int} {m w : Int} (h : 60 < ds.length) : m_check_convoys ds m w = .ex (manyE "boats") := by
  unfold m_check_convoys
  have c : (60 : Int) < (ds.length : Int) := by omega
  dsimp! [c, rai_many (w := "boats") (γ := Unit) (by decide)]
theorem few_bad : m_fewest_convoys_2 [] 1 (-1) = .ex (planE "longest wait" 0) := by
  unfold m_fewest_convoys_2
  have e : isNum (enc (-1 : Int)) 0 10000 = false := rfl
  dsimp! [chk_nil_ok, e, rai_plan (w := "longest wait") (i := (0 : Int)) (γ := List Int) (by decide) (by omega) (by omega)]
variable {g : List Int} {most many : Nat} {d0 d1 d2 L d4 d5 d6 : Int}
theorem end20 : m_law_20 = .ok true := by
  have e0 : m_law_told 0 ([] : List D) 1 61 = .ok (enc (("number of convoys" : Str), (0 : Int))) := by
    have e1 : m_least_convoy_wait_2 [] 1 61 = .ex (planE "number of convoys" 0) := by unfold m_least_convoy_wait_2; rw [chk_nil_many rfl]; rfl
    unfold m_law_told
    dsimp! [e1]
    rw [try_plan planC, hdl_plan (by decide +kernel)]; rfl
  have e1 : m_law_told 1 ([] : List D) 1 (-1) = .ok (enc (("number of convoys" : Str), (0 : Int))) := by
    have e1 : m_convoy_plan_2 [] 1 (-1) = .ex (planE "number of convoys" 0) := by unfold m_convoy_plan_2; rw [chk_nil_many rfl]; rfl
    unfold m_law_told
    have c : decide ((1 : Int) = 0) = false := rfl
    dsimp! [e1, c]
    rw [try_plan planC, hdl_plan (by decide +kernel)]; rfl
  have e2 : m_law_told 2 ([] : List D) 1 (-1) = .ok (enc (("longest wait" : Str), (0 : Int))) := by
    unfold m_law_told
    have c : decide ((2 : Int) = 0) = false := rfl
    have c1 : decide ((2 : Int) = 1) = false := rfl
    dsimp! [few_bad, c, c1]
    rw [try_plan planC, hdl_plan (by decide +kernel)]; rfl
  unfold m_law_20
  rw [e0, e1, e2]
  show Res.of (dEq (enc [(("number of convoys" : Str), (0 : Int)), (("number of convoys" : Str), (0 : Int)), (("longest wait" : Str), (0 : Int))]) (enc [(("number of convoys" : Str), (0 : Int)), (("number of convoys" : Str), (0 : Int)), (("longest wait" : Str), (0 : Int))])) = _
  rw [dEq_enc (by decide) (by decide +kernel) (by decide +kernel)]; simp
theorem end19 : m_law_19 [d0, d1, d2, L, d4, d5, d6] many = .ok true := by
  have hr : rep [(-1 : Int)] 61 = .ok (List.replicate 61 (-1)) := rep_ok 61 rfl (by decide)
  have e0 := told2_plan (chk_order (w := many)) chk_order d6
  have e1 := told_plan (chk_nil_most (w := many)) chk_nil_most d6
  have e2 := told2_many (chk_many (ds := List.replicate 61 (-1)) (m := 0) (w := many) (by simp)) (chk_many (by simp)) d6
  unfold m_law_19
  dsimp! [hr, e0, e1, e2, dNe_wp (w := "order") (i := (1 : Int)) (by decide +kernel), dNe_wp (w := "boats in a convoy") (i := (0 : Int)) (by decide +kernel), dNe_ww (w := "boats") (i := "many") (by decide +kernel) (by decide +kernel)]
  exact end20
theorem end18 (hg : AOk g) (h7 : g.length ≤ 7) {k : Nat} (hk : k ≤ g.length) {d : D} (hb : isNum d 0 10000 = false) : m_law_18 [d0, d1, d2, L, d4, d5, d6] g k most many (d, "time") = .ok true := by
  have c1 : (List.map (enc : Int → D) (g.take k)).length = k := by rw [List.length_map, List.length_take]; omega
  have c2 : (List.map (enc : Int → D) (g.drop k)).length = g.length - k := by rw [List.length_map, List.length_drop]
  have hc : ∀ w : Int, m_check_convoys_2 (((g.take k).map enc) ++ [d] ++ ((g.drop k).map enc)) most w = .ex (planE "time" k) := fun w => by
    refine chk_bad (by simp only [List.length_append, c1, c2, List.length_cons, List.length_nil]; omega) hg k hk (fun i hi => ?_) (d := d) ?_ hb
    · rw [List.append_assoc, List.getElem?_append_left (by omega), List.getElem?_map, List.getElem?_take_of_lt hi]
      unfold at_
      rw [List.getD_eq_getElem?_getD, List.getElem?_eq_getElem (by omega)]; rfl
    · rw [List.append_assoc, List.getElem?_append_right (by omega), c1, Nat.sub_self]; rfl
  have e := told_plan (hc many) (hc 0) d6
  unfold m_law_18
  rw [cutN_to, cutN_from]
  dsimp! [cat_ok (a := List.map (enc : Int → D) (g.take k)) (b := [d]) (by rw [c1]; simp; omega), cat_ok (a := List.map (enc : Int → D) (g.take k) ++ [d]) (b := List.map (enc : Int → D) (g.drop k)) (by rw [List.length_append, c1, c2]; simp; omega)]
  rw [e]
  dsimp! [dNe_wp (w := "time") (i := (k : Int)) (by decide +kernel)]
  exact end19
theorem end16 (hg : AOk g) (h7 : g.length ≤ 7) (h5 : 0 ≤ d5 ∧ d5 < 5) : m_law_16 [d0, d1, d2, L, d4, d5, d6] g most many = .ok true := by
  obtain ⟨k, e, hk⟩ := mod_nat d4 g.length
  unfold m_law_16
  dsimp! [e]
  unfold m_law_17
  rcases (by omega : d5 = 0 ∨ d5 = 1 ∨ d5 = 2 ∨ d5 = 3 ∨ d5 = 4) with rfl | rfl | rfl | rfl | rfl <;> (dsimp! []; exact end18 hg h7 hk rfl)
theorem rep1_sum (n : Nat) : (List.replicate n (1 : Int)).sum = n := by
  induction n with
  | zero => rfl
  | succ n ih => rw [List.replicate_succ, List.sum_cons, ih]; omega
theorem end15 (hg : AOk g) (h7 : g.length ≤ 7) (h5 : 0 ≤ d5 ∧ d5 < 5) : End15 g most many d0 d1 d2 L d4 d5 d6 := by
  unfold End15 m_law_15
  have hr : rep [(1 : Int)] g.length = .ok (List.replicate g.length 1) := rep_ok g.length rfl (by omega)
  have e1 : m_plan_wait g (1 :: List.replicate g.length 1) = .ok none := by
    unfold m_plan_wait
    have c : ¬ (1 :: List.replicate g.length (1 : Int)).sum = (g.length : Int) := by rw [List.sum_cons, rep1_sum]; omega
    dsimp! [c]
  have e2 : m_plan_wait g (0 :: List.replicate g.length 1) = .ok none := by
    unfold m_plan_wait
    have c : (0 :: List.replicate g.length (1 : Int)).sum = (g.length : Int) := by rw [List.sum_cons, rep1_sum]; omega
    have hany : lcG (fun (size_ : Int) => (.ok true : Res Bool)) (fun (size_ : Int) => (.ok (decide (size_ < (1 : Int))) : Res Bool)) (0 :: List.replicate g.length 1) = .ok ((0 :: List.replicate g.length 1).map fun x : Int => decide (x < 1)) := by
      rw [lcG_map (fun _ => true) (fun x : Int => decide (x < 1)) (fun _ _ => rfl) fun _ _ _ => rfl, List.filter_eq_self.mpr fun _ _ => rfl]
    have hno : ((0 :: List.replicate g.length 1).map fun x : Int => decide (x < 1)).any id = true := rfl
    dsimp! [c, hany]
    rw [if_pos (by simp)]
  have k1 : cat [(1 : Int)] (List.replicate g.length 1) = .ok (1 :: List.replicate g.length 1) := cat_ok (by simp; omega)
  have k0 : cat [(0 : Int)] (List.replicate g.length 1) = .ok (0 :: List.replicate g.length 1) := cat_ok (by simp; omega)
  dsimp! [hr, k1, k0, e1, e2]
  exact end16 hg h7 h5
/-! ### the law -/
theorem part4 (hg : AOk g) (h7 : g.length ≤ 7) (h1 : 0 ≤ d1 ∧ d1 < 4) (h2 : 0 ≤ d2 ∧ d2 < 5) (hL : 0 ≤ L ∧ L < 30) (h5 : 0 ≤ d5 ∧ d5 < 5) : m_law_4 [d0, d1, d2, L, d4, d5, d6] g = .ok true := by
  obtain ⟨m, rfl⟩ := Int.eq_ofNat_of_zero_le h1.1
  obtain ⟨k, rfl⟩ := Int.eq_ofNat_of_zero_le h2.1
  unfold m_law_4
  dsimp! []
  unfold m_law_5
  dsimp! []
  unfold m_law_6
  dsimp! []
  rw [show (m : Int) + 1 = ((m + 1 : Nat) : Int) by omega]
  exact part7 (most := m + 1) (many := k) hg h7 (by omega) (by omega) (by omega) (by omega) (end15 hg h7 h5)
theorem part3 {s : List Int} (h0 : 0 ≤ d0 ∧ d0 < 8) (h1 : 0 ≤ d1 ∧ d1 < 4) (h2 : 0 ≤ d2 ∧ d2 < 5) (hL : 0 ≤ L ∧ L < 30) (h5 : 0 ≤ d5 ∧ d5 < 5) : m_law_3 s [d0, d1, d2, L, d4, d5, d6] [] 0 = .ok true := by
  obtain ⟨n, rfl⟩ := Int.eq_ofNat_of_zero_le h0.1
  unfold m_law_3
  dsimp! [rng1_ok (j := (n : Int)) n rfl (by omega)]
  refine for_b (P := fun i (s : Int × List Int) => s.2.length = i ∧ 0 ≤ s.1 ∧ s.1 ≤ 1500 * i ∧ (∀ x ∈ s.2, 0 ≤ x ∧ x ≤ 10000 ∧ x ≤ s.1) ∧ s.2.Pairwise (· ≤ ·) ∧ (∀ x ∈ s.2, x ≤ min s.1 10000)) ⟨rfl, by omega, by omega, by simp, List.Pairwise.nil, by simp⟩ (fun i a st hi hp => ?_) fun st hp => ?_
  · obtain ⟨rfl, hin⟩ := zr_at hi
    obtain ⟨t, l⟩ := st
    obtain ⟨p1, p2, p3, p4, p5, p6⟩ := hp
    dsimp only at p1 p2 p3 p4 p5 p6
    obtain ⟨ds, e, hf⟩ := draw_get s (k := 1 + (i : Int)) (z := [6]) (by omega) (by omega) (by decide) (by decide)
    obtain ⟨x, rfl, hx⟩ := fit1 hf
    have hix : ∃ v, ix [(0 : Int), 1, 3, 9, 1500, 0] x = .ok v ∧ 0 ≤ v ∧ v ≤ 1500 := by
      rcases (by omega : x = 0 ∨ x = 1 ∨ x = 2 ∨ x = 3 ∨ x = 4 ∨ x = 5) with rfl | rfl | rfl | rfl | rfl | rfl
      · exact ⟨_, VT.ix0, by decide, by decide⟩
      · exact ⟨_, VT.ix1, by decide, by decide⟩
      · exact ⟨_, VT.ix2, by decide, by decide⟩
      · exact ⟨_, VT.ix3, by decide, by decide⟩
      · exact ⟨_, VT.ix4, by decide, by decide⟩
      · exact ⟨_, VT.ix5, by decide, by decide⟩
    obtain ⟨v, e2, v1, v2⟩ := hix
    have e3 : app l (min (t + v) 10000) = .ok (l ++ [min (t + v) 10000]) := VT.app_ok (by omega)
    refine ⟨(t + v, l ++ [min (t + v) 10000]), ?_, by rw [List.length_append]; simp [p1], by dsimp only; omega, by dsimp only; omega, ?_, ?_, ?_⟩
    · unfold m_law_3b
      dsimp! [e, e2, e3]
    · intro y hy
      dsimp only at hy ⊢
      rcases List.mem_append.mp hy with k | k
      · have := p4 y k; omega
      · have : y = min (t + v) 10000 := by simpa using k
        omega
    · dsimp only
      rw [List.pairwise_append]
      refine ⟨p5, by simp, fun y hy z hz => ?_⟩
      have hz : z = min (t + v) 10000 := by simpa using hz
      have := p6 y hy
      omega
    · intro y hy
      dsimp only at hy ⊢
      rcases List.mem_append.mp hy with k | k
      · have := p6 y k; omega
      · have : y = min (t + v) 10000 := by simpa using k
        omega
  · obtain ⟨p1, p2, p3, p4, p5, p6⟩ := hp
    rw [zr_len] at p1
    refine part4 ⟨by omega, fun x hx => by have := p4 x hx; omega, fun t ht => ?_⟩ (by omega) h1 h2 hL h5
    unfold at_
    rw [List.getD_eq_getElem?_getD, List.getD_eq_getElem?_getD, List.getElem?_eq_getElem (by omega), List.getElem?_eq_getElem ht]
    exact List.pairwise_iff_getElem.mp p5 t (t + 1) (by omega) ht (by omega)
theorem m_true (s : List Int) (hl : s.length ≤ 63) : m_law s = .ok true := by
  obtain ⟨ds, e, hf⟩ := draw_get s (k := 0) (z := [8, 4, 5, 30, 8, 5, 3]) (by omega) (by omega) (by decide) (by decide)
  obtain ⟨d0, d1, d2, d3, d4, d5, d6, rfl, b0, b1, b2, b3, b4, b5, b6⟩ := fit7 hf
  unfold m_law
  dsimp! [e]
  unfold m_law_1
  dsimp! []
  unfold m_law_2
  dsimp! []
  exact part3 b0 b1 b2 b3 b5
theorem law_true : ∀ ns : List Int, ns.length ≤ 63 → F_law [.list (ns.map .int)] = .ok (.bool true) := law_of r_m_law m_true
end K56

set_option Elab.async false
set_option linter.all false
set_option maxRecDepth 100000
set_option maxHeartbeats 8000000
namespace K56
open PySem PySem.Spec PyProof.Rows L2 VL
section
theorem all_mk {w : World} {K : PySem.W.Frag} {h : Heap} {mg : Str → Option Value} {fa : Addr} (X : K.In h) (G : h.Ns mainGlobals mg) (hfa : mg "law" = some (.ref fa)) (own : ∀ nm ∈ (["_group_wait", "plan_wait"] : List Str), ∃ f, mg nm = some (.ref f) ∧ LamX.OwnTab K f h)
    {f0 f1 f2 f3 f4 f5 f6 f7 f8 f9 f10 f11 f12 f13 f14 : Addr}
    {od0 an0 od1 an1 od2 an2 od3 an3 od4 an4 od5 an5 od6 an6 od7 an7 od8 an8 od9 an9 od10 an10 od11 an11 od12 an12 od13 an13 od14 an14 : Option Addr}
    {sl0 sl1 sl2 sl3 sl4 sl5 sl6 sl7 sl8 sl9 sl10 sl11 sl12 sl13 sl14 : Array (Option Value)}
    {oc0 kV0 dc0 pm0 ct0 cd0 oc1 kV1 dc1 pm1 ct1 cd1 oc2 kV2 dc2 pm2 ct2 oc3 kV3 dc3 pm3 ct3 cd3 oc4 kV4 dc4 pm4 ct4 cd4 oc5 kV5 dc5 pm5 ct5 cd5 oc6 kV6 dc6 pm6 ct6 oc7 kV7 dc7 pm7 ct7 cd7 oc8 kV8 dc8 pm8 ct8 cd8 oc9 kV9 dc9 pm9 ct9 cd9 oc10 kV10 dc10 pm10 ct10 cd10 oc11 kV11 dc11 pm11 ct11 cd11 oc12 kV12 dc12 pm12 ct12 cd12 oc13 kV13 dc13 pm13 ct13 cd13 oc14 kV14 dc14 pm14 ct14 cd14 : Value}
    {co2 tb2 co6 tb6 : Addr}
    {ce2 ce6 : Value}
    {cf2 cf6 : Option Addr}
    {cv2 cv6 : Array Value}
    {cx2 cx6 : Array (Option Value)}
    {t_ROWS : Tok}
    {t_TIME : Tok}
    {C0 B0 I0 N0 X0 Y0 : Addr}
    {nm0 q0 file0 : Str} {bs0 bm0 : List Value} {sn0 : List Str} {sb0 : List Value} {ab0 : Bool} {co0 : Option Bool} {dd0 : Option Addr} {m00 m10 m20 m30 m50 : Option Value}
    {ce0 : ClassData} {u10 u20 u30 u40 u50 u60 u70 : Value} {w10 w20 w30 w40 w50 : Option Addr} {x10 x20 x30 x40 : Array (Option Value)} {vs0 : Array Value} {tf0 : Tok}
    {C1 B1 I1 N1 X1 Y1 : Addr}
    {nm1 q1 file1 : Str} {bs1 bm1 : List Value} {sn1 : List Str} {sb1 : List Value} {ab1 : Bool} {co1 : Option Bool} {dd1 : Option Addr} {m01 m11 m21 m31 m51 : Option Value}
    {ce1 : ClassData} {u11 u21 u31 u41 u51 u61 u71 : Value} {w11 w21 w31 w41 w51 : Option Addr} {x11 x21 x31 x41 : Array (Option Value)} {vs1 : Array Value} {tf1 : Tok}
    (a0 : PySem.W.nsIn K mainGlobals "is_number" = some (some (.ref f0)))
    (l0 : K.lookup f0 = some ⟨oc0, od0, .func (PySem.W.fnOf "is_number" "is_number" (defArgs s_is_number) (defBody s_is_number) (defScope s_is_number) .none kV0 dc0 pm0 an0 cd0 ct0), sl0⟩)
    (c0 : PySem.W.codeIn K cd0 "is_number" = true)
    (k0 : PySem.W.keepIn K (.ref f0) = true)
    (a1 : PySem.W.nsIn K mainGlobals "_check_convoys" = some (some (.ref f1)))
    (l1 : K.lookup f1 = some ⟨oc1, od1, .func (PySem.W.fnOf "_check_convoys" "_check_convoys" (defArgs s__check_convoys) (defBody s__check_convoys) (defScope s__check_convoys) .none kV1 dc1 pm1 an1 cd1 ct1), sl1⟩)
    (c1 : PySem.W.codeIn K cd1 "_check_convoys" = true)
    (k1 : PySem.W.keepIn K (.ref f1) = true)
    (a2 : PySem.W.nsIn K mainGlobals "_group_wait" = some (some (.ref f2)))
    (l2 : K.lookup f2 = some ⟨oc2, od2, .func (PySem.W.fnOf "_group_wait" "_group_wait" (defArgs s__group_wait) (defBody s__group_wait) (defScope s__group_wait) .none kV2 dc2 pm2 an2 (.ref co2) ct2), sl2⟩)
    (c2 : PySem.W.codeIn K (.ref co2) "_group_wait" = true)
    (tl2 : K.lookup co2 = some ⟨ce2, cf2, .fields cv2, cx2⟩)
    (tv2 : cv2[11]? = some (.ref tb2))
    (th2 : PySem.W.codeHdIn K co2 tb2 = true)
    (tn2 : K.lookup tb2 = none)
    (k2 : PySem.W.keepIn K (.ref f2) = true)
    (a3 : PySem.W.nsIn K mainGlobals "_wait_table" = some (some (.ref f3)))
    (l3 : K.lookup f3 = some ⟨oc3, od3, .func (PySem.W.fnOf "_wait_table" "_wait_table" (defArgs s__wait_table) (defBody s__wait_table) (defScope s__wait_table) .none kV3 dc3 pm3 an3 cd3 ct3), sl3⟩)
    (c3 : PySem.W.codeIn K cd3 "_wait_table" = true)
    (k3 : PySem.W.keepIn K (.ref f3) = true)
    (a4 : PySem.W.nsIn K mainGlobals "least_convoy_wait" = some (some (.ref f4)))
    (l4 : K.lookup f4 = some ⟨oc4, od4, .func (PySem.W.fnOf "least_convoy_wait" "least_convoy_wait" (defArgs s_least_convoy_wait) (defBody s_least_convoy_wait) (defScope s_least_convoy_wait) .none kV4 dc4 pm4 an4 cd4 ct4), sl4⟩)
    (c4 : PySem.W.codeIn K cd4 "least_convoy_wait" = true)
    (k4 : PySem.W.keepIn K (.ref f4) = true)
    (a5 : PySem.W.nsIn K mainGlobals "convoy_plan" = some (some (.ref f5)))
    (l5 : K.lookup f5 = some ⟨oc5, od5, .func (PySem.W.fnOf "convoy_plan" "convoy_plan" (defArgs s_convoy_plan) (defBody s_convoy_plan) (defScope s_convoy_plan) .none kV5 dc5 pm5 an5 cd5 ct5), sl5⟩)
    (c5 : PySem.W.codeIn K cd5 "convoy_plan" = true)
    (k5 : PySem.W.keepIn K (.ref f5) = true)
    (a6 : PySem.W.nsIn K mainGlobals "plan_wait" = some (some (.ref f6)))
    (l6 : K.lookup f6 = some ⟨oc6, od6, .func (PySem.W.fnOf "plan_wait" "plan_wait" (defArgs s_plan_wait) (defBody s_plan_wait) (defScope s_plan_wait) .none kV6 dc6 pm6 an6 (.ref co6) ct6), sl6⟩)
    (c6 : PySem.W.codeIn K (.ref co6) "plan_wait" = true)
    (tl6 : K.lookup co6 = some ⟨ce6, cf6, .fields cv6, cx6⟩)
    (tv6 : cv6[11]? = some (.ref tb6))
    (th6 : PySem.W.codeHdIn K co6 tb6 = true)
    (tn6 : K.lookup tb6 = none)
    (k6 : PySem.W.keepIn K (.ref f6) = true)
    (a7 : PySem.W.nsIn K mainGlobals "fewest_convoys" = some (some (.ref f7)))
    (l7 : K.lookup f7 = some ⟨oc7, od7, .func (PySem.W.fnOf "fewest_convoys" "fewest_convoys" (defArgs s_fewest_convoys) (defBody s_fewest_convoys) (defScope s_fewest_convoys) .none kV7 dc7 pm7 an7 cd7 ct7), sl7⟩)
    (c7 : PySem.W.codeIn K cd7 "fewest_convoys" = true)
    (k7 : PySem.W.keepIn K (.ref f7) = true)
    (a8 : PySem.W.nsIn K mainGlobals "_law_strictly" = some (some (.ref f8)))
    (l8 : K.lookup f8 = some ⟨oc8, od8, .func (PySem.W.fnOf "_law_strictly" "_law_strictly" (defArgs s__law_strictly) (defBody s__law_strictly) (defScope s__law_strictly) .none kV8 dc8 pm8 an8 cd8 ct8), sl8⟩)
    (c8 : PySem.W.codeIn K cd8 "_law_strictly" = true)
    (k8 : PySem.W.keepIn K (.ref f8) = true)
    (a9 : PySem.W.nsIn K mainGlobals "_law_cell" = some (some (.ref f9)))
    (l9 : K.lookup f9 = some ⟨oc9, od9, .func (PySem.W.fnOf "_law_cell" "_law_cell" (defArgs s__law_cell) (defBody s__law_cell) (defScope s__law_cell) .none kV9 dc9 pm9 an9 cd9 ct9), sl9⟩)
    (c9 : PySem.W.codeIn K cd9 "_law_cell" = true)
    (k9 : PySem.W.keepIn K (.ref f9) = true)
    (a10 : PySem.W.nsIn K mainGlobals "_law_draw" = some (some (.ref f10)))
    (l10 : K.lookup f10 = some ⟨oc10, od10, .func (PySem.W.fnOf "_law_draw" "_law_draw" (defArgs s__law_draw) (defBody s__law_draw) (defScope s__law_draw) .none kV10 dc10 pm10 an10 cd10 ct10), sl10⟩)
    (c10 : PySem.W.codeIn K cd10 "_law_draw" = true)
    (k10 : PySem.W.keepIn K (.ref f10) = true)
    (a11 : PySem.W.nsIn K mainGlobals "_law_subsets" = some (some (.ref f11)))
    (l11 : K.lookup f11 = some ⟨oc11, od11, .func (PySem.W.fnOf "_law_subsets" "_law_subsets" (defArgs s__law_subsets) (defBody s__law_subsets) (defScope s__law_subsets) .none kV11 dc11 pm11 an11 cd11 ct11), sl11⟩)
    (c11 : PySem.W.codeIn K cd11 "_law_subsets" = true)
    (k11 : PySem.W.keepIn K (.ref f11) = true)
    (a12 : PySem.W.nsIn K mainGlobals "_law_told" = some (some (.ref f12)))
    (l12 : K.lookup f12 = some ⟨oc12, od12, .func (PySem.W.fnOf "_law_told" "_law_told" (defArgs s__law_told) (defBody s__law_told) (defScope s__law_told) .none kV12 dc12 pm12 an12 cd12 ct12), sl12⟩)
    (c12 : PySem.W.codeIn K cd12 "_law_told" = true)
    (k12 : PySem.W.keepIn K (.ref f12) = true)
    (a13 : PySem.W.nsIn K mainGlobals "_law_wait" = some (some (.ref f13)))
    (l13 : K.lookup f13 = some ⟨oc13, od13, .func (PySem.W.fnOf "_law_wait" "_law_wait" (defArgs s__law_wait) (defBody s__law_wait) (defScope s__law_wait) .none kV13 dc13 pm13 an13 cd13 ct13), sl13⟩)
    (c13 : PySem.W.codeIn K cd13 "_law_wait" = true)
    (k13 : PySem.W.keepIn K (.ref f13) = true)
    (a14 : PySem.W.nsIn K mainGlobals "law" = some (some (.ref f14)))
    (l14 : K.lookup f14 = some ⟨oc14, od14, .func (PySem.W.fnOf "law" "law" (defArgs s_law) (defBody s_law) (defScope s_law) .none kV14 dc14 pm14 an14 cd14 ct14), sl14⟩)
    (c14 : PySem.W.codeIn K cd14 "law" = true)
    (k14 : PySem.W.keepIn K (.ref f14) = true)
    (z_any : PySem.W.nsIn K mainGlobals "any" = some none)
    (z_bool : PySem.W.nsIn K mainGlobals "bool" = some none)
    (z_int : PySem.W.nsIn K mainGlobals "int" = some none)
    (z_isinstance : PySem.W.nsIn K mainGlobals "isinstance" = some none)
    (z_len : PySem.W.nsIn K mainGlobals "len" = some none)
    (z_list : PySem.W.nsIn K mainGlobals "list" = some none)
    (z_max : PySem.W.nsIn K mainGlobals "max" = some none)
    (z_min : PySem.W.nsIn K mainGlobals "min" = some none)
    (z_range : PySem.W.nsIn K mainGlobals "range" = some none)
    (z_str : PySem.W.nsIn K mainGlobals "str" = some none)
    (z_sum : PySem.W.nsIn K mainGlobals "sum" = some none)
    (z_super : PySem.W.nsIn K mainGlobals "super" = some none)
    (z_tuple : PySem.W.nsIn K mainGlobals "tuple" = some none)
    (v_ROWS : PySem.W.nsIn K mainGlobals "ROWS" = some (some (.int 60 t_ROWS)))
    (v_TIME : PySem.W.nsIn K mainGlobals "TIME" = some (some (.int 10000 t_TIME)))
    (gC0 : PySem.W.nsIn K mainGlobals "TooMany" = some (some (.ref C0)))
    (gB0 : PySem.W.nsIn K mainGlobals "CanalError" = some (some (.ref B0)))
    (xL0 : K.lookup C0 = some (excClassObj nm0 q0 C0 N0 bs0 bm0 true sn0 sb0 ab0 co0 dd0 m00 m10 m20 m30 m50 "ValueError.__new__"))
    (bmr0 : PySem.HandSPX.refsVE bm0 = true)
    (xB0 : K.lookup B0 = some ⟨u10, w10, .cls ce0, x10⟩)
    (mB0 : ce0.mro = bm0)
    (iB0 : PySem.W.findIn K (.ref B0) "__init__" = some (some (.builtin "ValueError.__init__")))
    (sa0 : PySem.W.findIn K (.ref C0) "__setattr__" = some (some (.builtin "object.__setattr__")))
    (ga0 : PySem.W.findIn K (.ref C0) "__getattribute__" = some (some (.builtin "BaseException.__getattribute__")))
    (gg0 : PySem.W.findIn K (.ref C0) "__getattr__" = some none)
    (nf0_what : PySem.W.findIn K (.ref C0) "what" = some none)
    (iC0 : PySem.W.findIn K (.ref C0) "__init__" = some (some (.ref I0)))
    (tI0 : PySem.W.typeIn K (.ref I0) = some (.type "function"))
    (lI0 : K.lookup I0 = some ⟨u20, w20, .func (PySem.W.ksFn "__init__" "TooMany.__init__" (defArgs (inClass s_TooMany 0)) (defBody (inClass s_TooMany 0)) (defScope (inClass s_TooMany 0)) .none .none u30 u40 w30 (.ref X0) u50 Y0), x20⟩)
    (cI0 : PySem.W.codeIn K (.ref X0) "TooMany.__init__" = true)
    (lX0 : K.lookup X0 = some ⟨u60, w40, .fields vs0, x30⟩)
    (vX0 : vs0[2]? = some (.str file0 tf0))
    (fX0 : ((PySem.Challenge.pw_canalworks_k56_whole_convoys.main.file : Str) == file0) = true)
    (lY0 : K.lookup Y0 = some ⟨u70, w50, .cell (some (.ref C0)), x40⟩)
    (kC0 : PySem.W.keepIn K (.ref C0) = true)
    (eC0 : PySem.W.subIn K (.ref C0) (.type "BaseException") = some true)
    (vC0 : PySem.W.subIn K (.ref C0) (.type "ValueError") = some true)
    (tC0 : PySem.W.typeIn K (.ref C0) = some (.type "type"))
    (mC0 : PySem.W.mroIn K C0 (.ref C0) = some true)
    (hC0 : PySem.W.hasDictIn K C0 = true)
    (sC0 : PySem.W.isClsIn K C0 = true)
    (gC1 : PySem.W.nsIn K mainGlobals "PlanError" = some (some (.ref C1)))
    (gB1 : PySem.W.nsIn K mainGlobals "CanalError" = some (some (.ref B1)))
    (xL1 : K.lookup C1 = some (excClassObj nm1 q1 C1 N1 bs1 bm1 true sn1 sb1 ab1 co1 dd1 m01 m11 m21 m31 m51 "ValueError.__new__"))
    (bmr1 : PySem.HandSPX.refsVE bm1 = true)
    (xB1 : K.lookup B1 = some ⟨u11, w11, .cls ce1, x11⟩)
    (mB1 : ce1.mro = bm1)
    (iB1 : PySem.W.findIn K (.ref B1) "__init__" = some (some (.builtin "ValueError.__init__")))
    (sa1 : PySem.W.findIn K (.ref C1) "__setattr__" = some (some (.builtin "object.__setattr__")))
    (ga1 : PySem.W.findIn K (.ref C1) "__getattribute__" = some (some (.builtin "BaseException.__getattribute__")))
    (gg1 : PySem.W.findIn K (.ref C1) "__getattr__" = some none)
    (nf1_what : PySem.W.findIn K (.ref C1) "what" = some none)
    (nf1_place : PySem.W.findIn K (.ref C1) "place" = some none)
    (iC1 : PySem.W.findIn K (.ref C1) "__init__" = some (some (.ref I1)))
    (tI1 : PySem.W.typeIn K (.ref I1) = some (.type "function"))
    (lI1 : K.lookup I1 = some ⟨u21, w21, .func (PySem.W.ksFn "__init__" "PlanError.__init__" (defArgs (inClass s_PlanError 0)) (defBody (inClass s_PlanError 0)) (defScope (inClass s_PlanError 0)) .none .none u31 u41 w31 (.ref X1) u51 Y1), x21⟩)
    (cI1 : PySem.W.codeIn K (.ref X1) "PlanError.__init__" = true)
    (lX1 : K.lookup X1 = some ⟨u61, w41, .fields vs1, x31⟩)
    (vX1 : vs1[2]? = some (.str file1 tf1))
    (fX1 : ((PySem.Challenge.pw_canalworks_k56_whole_convoys.main.file : Str) == file1) = true)
    (lY1 : K.lookup Y1 = some ⟨u71, w51, .cell (some (.ref C1)), x41⟩)
    (kC1 : PySem.W.keepIn K (.ref C1) = true)
    (eC1 : PySem.W.subIn K (.ref C1) (.type "BaseException") = some true)
    (vC1 : PySem.W.subIn K (.ref C1) (.type "ValueError") = some true)
    (tC1 : PySem.W.typeIn K (.ref C1) = some (.type "type"))
    (mC1 : PySem.W.mroIn K C1 (.ref C1) = some true)
    (hC1 : PySem.W.hasDictIn K C1 = true)
    (sC1 : PySem.W.isClsIn K C1 = true)
    (ss0_0 : PySem.W.subIn K (.ref C0) (.ref C0) = some true)
    (ss0_1 : PySem.W.subIn K (.ref C0) (.ref C1) = some false)
    (ss1_0 : PySem.W.subIn K (.ref C1) (.ref C0) = some false)
    (ss1_1 : PySem.W.subIn K (.ref C1) (.ref C1) = some true)
    (opq : PySem.W.nsIn K cStatics "thirdparty.any" = some none)
    : LawGot PySem.Challenge.pw_canalworks_k56_whole_convoys F_law w K 11 mg fa h := by
  have e2 : f14 = fa := by have e := (PySem.W.mg_of X G a14).symm.trans hfa; cases e; rfl
  subst e2
  have Fn0 := fun_mk (st := s_is_number) l0 c0 k0
  have Bn0 := Fn0.binds (ps := ["thing", "low", "high"]) fun _ _ _ _ _ _ us hl => match us, hl with | [_, _, _], _ => rfl
  have Fn1 := fun_mk (st := s__check_convoys) l1 c1 k1
  have Bn1 := Fn1.binds (ps := ["arrivals", "most", "many"]) fun _ _ _ _ _ _ us hl => match us, hl with | [_, _, _], _ => rfl
  have Fn2 := fun_mk (st := s__group_wait) l2 c2 k2
  have Bn2 := Fn2.binds (ps := ["arrivals", "start", "end"]) fun _ _ _ _ _ _ us hl => match us, hl with | [_, _, _], _ => rfl
  have Ft2 := funT_mk (st := s__group_wait) l2 c2
  have Ot2 : h.get? tb2 = some { cls := .none, data := .fields #[] } := by
    obtain ⟨f, hf, ho⟩ := own "_group_wait" (by decide +kernel)
    have e := (PySem.W.mg_of X G a2).symm.trans hf
    cases e
    exact ho _ _ _ _ _ _ _ _ l2 rfl rfl tl2 tv2
  have Fn3 := fun_mk (st := s__wait_table) l3 c3 k3
  have Bn3 := Fn3.binds (ps := ["arrivals", "most", "many"]) fun _ _ _ _ _ _ us hl => match us, hl with | [_, _, _], _ => rfl
  have Fn4 := fun_mk (st := s_least_convoy_wait) l4 c4 k4
  have Bn4 := Fn4.binds (ps := ["arrivals", "most", "many"]) fun _ _ _ _ _ _ us hl => match us, hl with | [_, _, _], _ => rfl
  have Fn5 := fun_mk (st := s_convoy_plan) l5 c5 k5
  have Bn5 := Fn5.binds (ps := ["arrivals", "most", "many"]) fun _ _ _ _ _ _ us hl => match us, hl with | [_, _, _], _ => rfl
  have Fn6 := fun_mk (st := s_plan_wait) l6 c6 k6
  have Bn6 := Fn6.binds (ps := ["arrivals", "sizes"]) fun _ _ _ _ _ _ us hl => match us, hl with | [_, _], _ => rfl
  have Ft6 := funT_mk (st := s_plan_wait) l6 c6
  have Ot6 : h.get? tb6 = some { cls := .none, data := .fields #[] } := by
    obtain ⟨f, hf, ho⟩ := own "plan_wait" (by decide +kernel)
    have e := (PySem.W.mg_of X G a6).symm.trans hf
    cases e
    exact ho _ _ _ _ _ _ _ _ l6 rfl rfl tl6 tv6
  have Fn7 := fun_mk (st := s_fewest_convoys) l7 c7 k7
  have Bn7 := Fn7.binds (ps := ["arrivals", "most", "longest"]) fun _ _ _ _ _ _ us hl => match us, hl with | [_, _, _], _ => rfl
  have Fn8 := fun_mk (st := s__law_strictly) l8 c8 k8
  have Bn8 := Fn8.binds (ps := ["expected", "actual"]) fun _ _ _ _ _ _ us hl => match us, hl with | [_, _], _ => rfl
  have Fn9 := fun_mk (st := s__law_cell) l9 c9 k9
  have Bn9 := Fn9.binds (ps := ["script", "k"]) fun _ _ _ _ _ _ us hl => match us, hl with | [_, _], _ => rfl
  have Fn10 := fun_mk (st := s__law_draw) l10 c10 k10
  have Bn10 := Fn10.binds (ps := ["script", "k", "sizes"]) fun _ _ _ _ _ _ us hl => match us, hl with | [_, _, _], _ => rfl
  have Fn11 := fun_mk (st := s__law_subsets) l11 c11 k11
  have Bn11 := Fn11.binds (ps := ["things"]) fun _ _ _ _ _ _ us hl => match us, hl with | [_], _ => rfl
  have Fn12 := fun_mk (st := s__law_told) l12 c12 k12
  have Bn12 := Fn12.binds (ps := ["which", "arrivals", "most", "many"]) fun _ _ _ _ _ _ us hl => match us, hl with | [_, _, _, _], _ => rfl
  have Fn13 := fun_mk (st := s__law_wait) l13 c13 k13
  have Bn13 := Fn13.binds (ps := ["arrivals", "sizes"]) fun _ _ _ _ _ _ us hl => match us, hl with | [_, _], _ => rfl
  have Fn14 := fun_mk (st := s_law) l14 c14 k14
  have Bn14 := Fn14.binds (ps := ["script"]) fun _ _ _ _ _ _ us hl => match us, hl with | [_], _ => rfl
  have T : ∀ base : Heap, (∀ p ∈ ([(co2, tb2), (co6, tb6)] : List (Addr × Addr)), LamX.TabB base mg p.1 p.2) → Txt PySem.Challenge.pw_canalworks_k56_whole_convoys K mg base (fun n => ([f0, f1, f2, f3, f4, f5, f6, f7, f8, f9, f10, f11, f12, f13, f14] : List Addr).getD n f0)
      (fun n => ([PySem.W.fnOf "is_number" "is_number" (defArgs s_is_number) (defBody s_is_number) (defScope s_is_number) .none kV0 dc0 pm0 an0 cd0 ct0, PySem.W.fnOf "_check_convoys" "_check_convoys" (defArgs s__check_convoys) (defBody s__check_convoys) (defScope s__check_convoys) .none kV1 dc1 pm1 an1 cd1 ct1, PySem.W.fnOf "_group_wait" "_group_wait" (defArgs s__group_wait) (defBody s__group_wait) (defScope s__group_wait) .none kV2 dc2 pm2 an2 (.ref co2) ct2, PySem.W.fnOf "_wait_table" "_wait_table" (defArgs s__wait_table) (defBody s__wait_table) (defScope s__wait_table) .none kV3 dc3 pm3 an3 cd3 ct3, PySem.W.fnOf "least_convoy_wait" "least_convoy_wait" (defArgs s_least_convoy_wait) (defBody s_least_convoy_wait) (defScope s_least_convoy_wait) .none kV4 dc4 pm4 an4 cd4 ct4, PySem.W.fnOf "convoy_plan" "convoy_plan" (defArgs s_convoy_plan) (defBody s_convoy_plan) (defScope s_convoy_plan) .none kV5 dc5 pm5 an5 cd5 ct5, PySem.W.fnOf "plan_wait" "plan_wait" (defArgs s_plan_wait) (defBody s_plan_wait) (defScope s_plan_wait) .none kV6 dc6 pm6 an6 (.ref co6) ct6, PySem.W.fnOf "fewest_convoys" "fewest_convoys" (defArgs s_fewest_convoys) (defBody s_fewest_convoys) (defScope s_fewest_convoys) .none kV7 dc7 pm7 an7 cd7 ct7, PySem.W.fnOf "_law_strictly" "_law_strictly" (defArgs s__law_strictly) (defBody s__law_strictly) (defScope s__law_strictly) .none kV8 dc8 pm8 an8 cd8 ct8, PySem.W.fnOf "_law_cell" "_law_cell" (defArgs s__law_cell) (defBody s__law_cell) (defScope s__law_cell) .none kV9 dc9 pm9 an9 cd9 ct9, PySem.W.fnOf "_law_draw" "_law_draw" (defArgs s__law_draw) (defBody s__law_draw) (defScope s__law_draw) .none kV10 dc10 pm10 an10 cd10 ct10, PySem.W.fnOf "_law_subsets" "_law_subsets" (defArgs s__law_subsets) (defBody s__law_subsets) (defScope s__law_subsets) .none kV11 dc11 pm11 an11 cd11 ct11, PySem.W.fnOf "_law_told" "_law_told" (defArgs s__law_told) (defBody s__law_told) (defScope s__law_told) .none kV12 dc12 pm12 an12 cd12 ct12, PySem.W.fnOf "_law_wait" "_law_wait" (defArgs s__law_wait) (defBody s__law_wait) (defScope s__law_wait) .none kV13 dc13 pm13 an13 cd13 ct13, PySem.W.fnOf "law" "law" (defArgs s_law) (defBody s_law) (defScope s_law) .none kV14 dc14 pm14 an14 cd14 ct14] : List FuncData).getD n (PySem.W.fnOf "law" "law" (defArgs s_law) (defBody s_law) (defScope s_law) .none kV14 dc14 pm14 an14 cd14 ct14))
      (fun n => ([C0, I0, C1, I1] : List Addr).getD n f0)
      (fun n => ([f0, f0, co2, f0, f0, f0, co6, f0, f0, f0, f0, f0, f0, f0, f0] : List Addr).getD n f0) (fun n => ([f0, f0, tb2, f0, f0, f0, tb6, f0, f0, f0, f0, f0, f0, f0, f0] : List Addr).getD n f0) (([(co2, tb2), (co6, tb6)] : List (Addr × Addr)).map (·.2)) := fun base hT =>
    { fn_is_number := Fn0,
      b_is_number := Bn0,
      m_is_number := PySem.W.mg_of X G a0,
      k_is_number := k0,
      fn__check_convoys := Fn1,
      b__check_convoys := Bn1,
      m__check_convoys := PySem.W.mg_of X G a1,
      k__check_convoys := k1,
      fn__group_wait := Ft2,
      b__group_wait := Bn2,
      m__group_wait := PySem.W.mg_of X G a2,
      k__group_wait := k2,
      tb__group_wait := tab_conv (hT (co2, tb2) (by simp)),
      tm__group_wait := (by simp),
      fn__wait_table := Fn3,
      b__wait_table := Bn3,
      m__wait_table := PySem.W.mg_of X G a3,
      k__wait_table := k3,
      fn_least_convoy_wait := Fn4,
      b_least_convoy_wait := Bn4,
      m_least_convoy_wait := PySem.W.mg_of X G a4,
      k_least_convoy_wait := k4,
      fn_convoy_plan := Fn5,
      b_convoy_plan := Bn5,
      m_convoy_plan := PySem.W.mg_of X G a5,
      k_convoy_plan := k5,
      fn_plan_wait := Ft6,
      b_plan_wait := Bn6,
      m_plan_wait := PySem.W.mg_of X G a6,
      k_plan_wait := k6,
      tb_plan_wait := tab_conv (hT (co6, tb6) (by simp)),
      tm_plan_wait := (by simp),
      fn_fewest_convoys := Fn7,
      b_fewest_convoys := Bn7,
      m_fewest_convoys := PySem.W.mg_of X G a7,
      k_fewest_convoys := k7,
      fn__law_strictly := Fn8,
      b__law_strictly := Bn8,
      m__law_strictly := PySem.W.mg_of X G a8,
      k__law_strictly := k8,
      fn__law_cell := Fn9,
      b__law_cell := Bn9,
      m__law_cell := PySem.W.mg_of X G a9,
      k__law_cell := k9,
      fn__law_draw := Fn10,
      b__law_draw := Bn10,
      m__law_draw := PySem.W.mg_of X G a10,
      k__law_draw := k10,
      fn__law_subsets := Fn11,
      b__law_subsets := Bn11,
      m__law_subsets := PySem.W.mg_of X G a11,
      k__law_subsets := k11,
      fn__law_told := Fn12,
      b__law_told := Bn12,
      m__law_told := PySem.W.mg_of X G a12,
      k__law_told := k12,
      fn__law_wait := Fn13,
      b__law_wait := Bn13,
      m__law_wait := PySem.W.mg_of X G a13,
      k__law_wait := k13,
      fn_law := Fn14,
      b_law := Bn14,
      m_law := PySem.W.mg_of X G a14,
      k_law := k14,
      n_any := PySem.W.mg_none_of X G z_any,
      n_bool := PySem.W.mg_none_of X G z_bool,
      n_int := PySem.W.mg_none_of X G z_int,
      n_isinstance := PySem.W.mg_none_of X G z_isinstance,
      n_len := PySem.W.mg_none_of X G z_len,
      n_list := PySem.W.mg_none_of X G z_list,
      n_max := PySem.W.mg_none_of X G z_max,
      n_min := PySem.W.mg_none_of X G z_min,
      n_range := PySem.W.mg_none_of X G z_range,
      n_str := PySem.W.mg_none_of X G z_str,
      n_sum := PySem.W.mg_none_of X G z_sum,
      n_super := PySem.W.mg_none_of X G z_super,
      n_tuple := PySem.W.mg_none_of X G z_tuple,
      c_ROWS := ⟨_, PySem.W.mg_of X G v_ROWS⟩,
      c_TIME := ⟨_, PySem.W.mg_of X G v_TIME⟩,
      e_TooMany := { cls := ⟨_, _, _, _, _, _, _, _, _, _, _, _, _, _, _, xL0, bmr0⟩, sa := sa0, noF := (by intro f hf; simp only [List.mem_cons, List.mem_nil_iff, or_false] at hf; rcases hf with rfl <;> assumption), iC := iC0, tC := tI0, kC := kC0, exC := eC0, veC := vC0, tyC := tC0, mr := mC0, opq := opq, sup := sup_of xL0 xB0 mB0 iB0, fn := ⟨_, _, _, _, _, _, _, _, _, _, _, _, _, _, _, _, _, _, _, _, _, _, _, _, _, _, _, _, _, _, _, _, _, lI0, cI0, (.con (by decide) (.fld (by decide) .nil)), by decide, rfl, (.cons .nil), lX0, vX0, fX0, lY0, rfl, rfl, rfl, rfl, rfl, by decide +kernel, rfl, rfl, by decide +kernel, fun us hl => match us, hl with | [_, _], _ => rfl⟩, top := by decide +kernel, dbg := by decide +kernel, few := by decide, nd := by decide +kernel },
      m_TooMany := PySem.W.mg_of X G gC0,
      xf_TooMany := ⟨ga0, gg0, eC0, hC0⟩,
      nf_TooMany_what := nf0_what,
      ex_TooMany := (by intro nm C hc hm; simp only [List.contains_cons, List.contains_nil, Bool.or_false, Bool.or_eq_true, beq_iff_eq] at hc; rcases hc with rfl | rfl <;> first | exact exm_eq (PySem.W.mg_of X G gC0) hm (exm_of eC0 sC0 tC0 ss0_0) | exact exm_eq (PySem.W.mg_of X G gC1) hm (exm_of eC0 sC0 tC0 ss1_0)),
      e_PlanError := { cls := ⟨_, _, _, _, _, _, _, _, _, _, _, _, _, _, _, xL1, bmr1⟩, sa := sa1, noF := (by intro f hf; simp only [List.mem_cons, List.mem_nil_iff, or_false] at hf; rcases hf with rfl | rfl <;> assumption), iC := iC1, tC := tI1, kC := kC1, exC := eC1, veC := vC1, tyC := tC1, mr := mC1, opq := opq, sup := sup_of xL1 xB1 mB1 iB1, fn := ⟨_, _, _, _, _, _, _, _, _, _, _, _, _, _, _, _, _, _, _, _, _, _, _, _, _, _, _, _, _, _, _, _, _, lI1, cI1, (.fld (by decide) (.con (by decide) (.fld (by decide) .nil))), by decide, rfl, (.cons (.cons .nil)), lX1, vX1, fX1, lY1, rfl, rfl, rfl, rfl, rfl, by decide +kernel, rfl, rfl, by decide +kernel, fun us hl => match us, hl with | [_, _, _], _ => rfl⟩, top := by decide +kernel, dbg := by decide +kernel, few := by decide, nd := by decide +kernel },
      m_PlanError := PySem.W.mg_of X G gC1,
      xf_PlanError := ⟨ga1, gg1, eC1, hC1⟩,
      nf_PlanError_what := nf1_what,
      nf_PlanError_place := nf1_place,
      ex_PlanError := (by intro nm C hc hm; simp only [List.contains_cons, List.contains_nil, Bool.or_false, Bool.or_eq_true, beq_iff_eq] at hc; rcases hc with rfl | rfl <;> first | exact exm_eq (PySem.W.mg_of X G gC0) hm (exm_of eC1 sC1 tC1 ss0_1) | exact exm_eq (PySem.W.mg_of X G gC1) hm (exm_of eC1 sC1 tC1 ss1_1)) }
  exact ⟨_, [(co2, tb2), (co6, tb6)], (by intro p hp; simp only [List.mem_cons, List.mem_nil_iff, or_false] at hp; rcases hp with rfl | rfl <;> assumption), (by intro p hp; simp only [List.mem_cons, List.mem_nil_iff, or_false] at hp; rcases hp with rfl | rfl <;> assumption), (by intro p hp; simp only [List.mem_cons, List.mem_nil_iff, or_false] at hp; rcases hp with rfl | rfl <;> first | exact PySem.W.codeHd_of_K X th2 | exact PySem.W.codeHd_of_K X th6), fun s v => .of_eq rfl, fun base _ _ hT => ok_law (T base hT)⟩
end
end K56
open PySem PySem.W PyProof.Rows in
set_option maxRecDepth 100000 in
set_option maxHeartbeats 0 in
theorem PySem.Challenge.cw_canalworks_k56_whole_convoys_holds : PySem.Challenge.rw_canalworks_k56_whole_convoys.Holds := by
  w_on; o_law; k_head; (case hw => w_witness2)
  k_fill
  refine VL.walk_got (l := PySem.Challenge.rw_canalworks_k56_whole_convoys) (k := 11) (g := K56.F_law) ["_group_wait", "plan_wait"] K56.law_true rfl rfl ⟨rfl, by decide, by decide⟩ (by decide +kernel) (fun w h Y => PySem.W.kIn_of Y) ?F
  case F =>
    intro w mg fa h KX G hmg own
    refine' K56.all_mk KX G hmg own ?a0 ?l0 ?c0 ?k0 ?a1 ?l1 ?c1 ?k1 ?a2 ?l2 ?c2 ?tl2 ?tv2 ?th2 ?tn2 ?k2 ?a3 ?l3 ?c3 ?k3 ?a4 ?l4 ?c4 ?k4 ?a5 ?l5 ?c5 ?k5 ?a6 ?l6 ?c6 ?tl6 ?tv6 ?th6 ?tn6 ?k6 ?a7 ?l7 ?c7 ?k7 ?a8 ?l8 ?c8 ?k8 ?a9 ?l9 ?c9 ?k9 ?a10 ?l10 ?c10 ?k10 ?a11 ?l11 ?c11 ?k11 ?a12 ?l12 ?c12 ?k12 ?a13 ?l13 ?c13 ?k13 ?a14 ?l14 ?c14 ?k14 ?z_any ?z_bool ?z_int ?z_isinstance ?z_len ?z_list ?z_max ?z_min ?z_range ?z_str ?z_sum ?z_super ?z_tuple ?v_ROWS ?v_TIME ?gC0 ?gB0 ?xL0 ?bmr0 ?xB0 ?mB0 ?iB0 ?sa0 ?ga0 ?gg0 ?nf0_what ?iC0 ?tI0 ?lI0 ?cI0 ?lX0 ?vX0 ?fX0 ?lY0 ?kC0 ?eC0 ?vC0 ?tC0 ?mC0 ?hC0 ?sC0 ?gC1 ?gB1 ?xL1 ?bmr1 ?xB1 ?mB1 ?iB1 ?sa1 ?ga1 ?gg1 ?nf1_what ?nf1_place ?iC1 ?tI1 ?lI1 ?cI1 ?lX1 ?vX1 ?fX1 ?lY1 ?kC1 ?eC1 ?vC1 ?tC1 ?mC1 ?hC1 ?sC1 ?ss0_0 ?ss0_1 ?ss1_0 ?ss1_1 ?opq
    (case a0 => k_is)
    (case l0 => k_is)
    (case c0 => k_is)
    (case k0 => k_is)
    (case a1 => k_is)
    (case l1 => k_is)
    (case c1 => k_is)
    (case k1 => k_is)
    (case a2 => k_is)
    (case l2 => k_is)
    (case c2 => k_is)
    (case tl2 => k_is)
    (case tv2 => rfl)
    (case th2 => first | rfl | k_is | decide +kernel)
    (case tn2 => first | rfl | k_is | decide +kernel)
    (case k2 => k_is)
    (case a3 => k_is)
    (case l3 => k_is)
    (case c3 => k_is)
    (case k3 => k_is)
    (case a4 => k_is)
    (case l4 => k_is)
    (case c4 => k_is)
    (case k4 => k_is)
    (case a5 => k_is)
    (case l5 => k_is)
    (case c5 => k_is)
    (case k5 => k_is)
    (case a6 => k_is)
    (case l6 => k_is)
    (case c6 => k_is)
    (case tl6 => k_is)
    (case tv6 => rfl)
    (case th6 => first | rfl | k_is | decide +kernel)
    (case tn6 => first | rfl | k_is | decide +kernel)
    (case k6 => k_is)
    (case a7 => k_is)
    (case l7 => k_is)
    (case c7 => k_is)
    (case k7 => k_is)
    (case a8 => k_is)
    (case l8 => k_is)
    (case c8 => k_is)
    (case k8 => k_is)
    (case a9 => k_is)
    (case l9 => k_is)
    (case c9 => k_is)
    (case k9 => k_is)
    (case a10 => k_is)
    (case l10 => k_is)
    (case c10 => k_is)
    (case k10 => k_is)
    (case a11 => k_is)
    (case l11 => k_is)
    (case c11 => k_is)
    (case k11 => k_is)
    (case a12 => k_is)
    (case l12 => k_is)
    (case c12 => k_is)
    (case k12 => k_is)
    (case a13 => k_is)
    (case l13 => k_is)
    (case c13 => k_is)
    (case k13 => k_is)
    (case a14 => k_is)
    (case l14 => k_is)
    (case c14 => k_is)
    (case k14 => k_is)
    (case z_any => k_is)
    (case z_bool => k_is)
    (case z_int => k_is)
    (case z_isinstance => k_is)
    (case z_len => k_is)
    (case z_list => k_is)
    (case z_max => k_is)
    (case z_min => k_is)
    (case z_range => k_is)
    (case z_str => k_is)
    (case z_sum => k_is)
    (case z_super => k_is)
    (case z_tuple => k_is)
    (case v_ROWS => k_is)
    (case v_TIME => k_is)
    (case gC0 => k_is)
    (case gB0 => k_is)
    (case xL0 => k_is)
    (case bmr0 => rfl)
    (case xB0 => k_is)
    (case mB0 => rfl)
    (case iB0 => k_is)
    (case sa0 => k_is)
    (case ga0 => k_is)
    (case gg0 => k_is)
    (case nf0_what => k_is)
    (case iC0 => k_is)
    (case tI0 => k_is)
    (case lI0 => k_is)
    (case cI0 => k_is)
    (case lX0 => k_is)
    (case vX0 => rfl)
    (case fX0 => first | rfl | decide +kernel)
    (case lY0 => k_is)
    (case kC0 => k_is)
    (case eC0 => k_is)
    (case vC0 => k_is)
    (case tC0 => k_is)
    (case mC0 => k_is)
    (case hC0 => k_is)
    (case sC0 => k_is)
    (case gC1 => k_is)
    (case gB1 => k_is)
    (case xL1 => k_is)
    (case bmr1 => rfl)
    (case xB1 => k_is)
    (case mB1 => rfl)
    (case iB1 => k_is)
    (case sa1 => k_is)
    (case ga1 => k_is)
    (case gg1 => k_is)
    (case nf1_what => k_is)
    (case nf1_place => k_is)
    (case iC1 => k_is)
    (case tI1 => k_is)
    (case lI1 => k_is)
    (case cI1 => k_is)
    (case lX1 => k_is)
    (case vX1 => rfl)
    (case fX1 => first | rfl | decide +kernel)
    (case lY1 => k_is)
    (case kC1 => k_is)
    (case eC1 => k_is)
    (case vC1 => k_is)
    (case tC1 => k_is)
    (case mC1 => k_is)
    (case hC1 => k_is)
    (case sC1 => k_is)
    (case ss0_0 => first | rfl | k_is)
    (case ss0_1 => first | rfl | k_is)
    (case ss1_0 => first | rfl | k_is)
    (case ss1_1 => first | rfl | k_is)
    (case opq => k_is)

