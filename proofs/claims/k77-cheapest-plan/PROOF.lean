import PyProof.Rows.All
import Wide.All
import OpenK.AllK
import Wide.FinOn
import PyProof.EqAt
import PyProof.EqKinds
import PyProof.TupleCall
import HandS.ForMost
import HandS.ForExc
import HandS.Deep
import HandS.TupAny
import HandS.Star
import HandS.IsInst
import HandS.TryMany
import HandS.Evl
import HandS.Conv
import KE.SortData
import KE.LtData
import HandS.Zip
import KE.GoesNew
import KE.GoesEnum
import HandS.Flow
import HandS.Style
import HandS.Iter
import HandS.Defaults
import HandS.SlotsOwn
import PyProof.InstNe
import PySem.Challenge.RW_romwright_k77_whole_cheapest_plan
import HandS.ForSpec
/-! ## AbsA -/
set_option Elab.async false
set_option linter.all false
set_option maxRecDepth 100000
set_option maxHeartbeats 2000000
/-! An own layer over HandS: data as trees (D), a store of the objects that change (MS), readings over them. -/
namespace AL
open PySem PySem.Spec PyProof.Rows L2
open Evl (Ex)

/-- data by value: what does not change any more -/
inductive D where
  | non | bl (b : Bool) | int (i : Int) | str (x : Str)
  | tup (l : List D) | lst (l : List D)
  /-- a list that is locked (the script) -/
  | frl (l : List D)
  | ins (C : Addr) (fs : List (Str × D))

mutual
/-- the value shows the datum, in the part of the heap that stands -/
inductive Shw (G : Hp) : V → D → Prop
  | non : Shw G .non .non
  | bl (b : Bool) : Shw G (.bl b) (.bl b)
  | int (i : Int) : Shw G (.int i) (.int i)
  | str (x : Str) : Shw G (.str x) (.str x)
  | tup {a : Addr} {vs : List V} {ds : List D} : G a = some (.tup vs) → ShwL G vs ds → Shw G (.ref a) (.tup ds)
  | lst {a : Addr} {vs : List V} {ds : List D} : G a = some (.lst vs) → ShwL G vs ds → Shw G (.ref a) (.lst ds)
  | frl {a : Addr} {o : Obj} {vs : List V} {ds : List D} : G a = some (.frz o (.lst vs)) → ShwL G vs ds → Shw G (.ref a) (.frl ds)
  | ins {a C dx : Addr} {fv : List (Str × V)} {fs : List (Str × D)} : G a = some (.ins C dx fv) → ShwF G fv fs → Shw G (.ref a) (.ins C fs)
inductive ShwL (G : Hp) : List V → List D → Prop
  | nil : ShwL G [] []
  | cons {v : V} {vs : List V} {d : D} {ds : List D} : Shw G v d → ShwL G vs ds → ShwL G (v :: vs) (d :: ds)
inductive ShwF (G : Hp) : List (Str × V) → List (Str × D) → Prop
  | nil : ShwF G [] []
  | cons {f : Str} {v : V} {vs : List (Str × V)} {d : D} {ds : List (Str × D)} : Shw G v d → ShwF G vs ds → ShwF G ((f, v) :: vs) ((f, d) :: ds)
end

mutual
theorem Shw.mono {G G' : Hp} (e : Ex G G') : ∀ {v : V} {d : D}, Shw G v d → Shw G' v d
  | _, _, .non => .non
  | _, _, .bl b => .bl b
  | _, _, .int i => .int i
  | _, _, .str x => .str x
  | _, _, .tup h t => .tup (e _ _ h) (ShwL.mono e t)
  | _, _, .lst h t => .lst (e _ _ h) (ShwL.mono e t)
  | _, _, .frl h t => .frl (e _ _ h) (ShwL.mono e t)
  | _, _, .ins h t => .ins (e _ _ h) (ShwF.mono e t)
theorem ShwL.mono {G G' : Hp} (e : Ex G G') : ∀ {v : List V} {d : List D}, ShwL G v d → ShwL G' v d
  | _, _, .nil => .nil
  | _, _, .cons h t => .cons (Shw.mono e h) (ShwL.mono e t)
theorem ShwF.mono {G G' : Hp} (e : Ex G G') : ∀ {v : List (Str × V)} {d : List (Str × D)}, ShwF G v d → ShwF G' v d
  | _, _, .nil => .nil
  | _, _, .cons h t => .cons (Shw.mono e h) (ShwF.mono e t)
end
theorem ShwL.length {G : Hp} : ∀ {vs : List V} {ds : List D}, ShwL G vs ds → vs.length = ds.length
  | _, _, .nil => rfl
  | _, _, .cons _ t => congrArg (· + 1) (ShwL.length t)
theorem ShwL.append {G : Hp} : ∀ {vs ws : List V} {ds es : List D}, ShwL G vs ds → ShwL G ws es → ShwL G (vs ++ ws) (ds ++ es)
  | _, _, _, _, .nil, h => h
  | _, _, _, _, .cons h t, h2 => .cons h (ShwL.append t h2)
theorem ShwL.get {G : Hp} : ∀ {vs : List V} {ds : List D} {i : Nat} {d : D}, ShwL G vs ds → ds[i]? = some d → ∃ v, vs[i]? = some v ∧ Shw G v d
  | _, _, _, _, .nil, e => by simp at e
  | _, _, 0, _, .cons h _, e => by simp at e; subst e; exact ⟨_, rfl, h⟩
  | _, _, i + 1, d, .cons _ t, e => by
    obtain ⟨v, h1, h2⟩ := ShwL.get (i := i) (d := d) t (by simpa using e)
    exact ⟨v, by simpa using h1, h2⟩
theorem ShwL.getV {G : Hp} : ∀ {vs : List V} {ds : List D} {i : Nat} {v : V}, ShwL G vs ds → vs[i]? = some v → ∃ d, ds[i]? = some d ∧ Shw G v d
  | _, _, _, _, .nil, e => by simp at e
  | _, _, 0, _, .cons h _, e => by simp at e; subst e; exact ⟨_, rfl, h⟩
  | _, _, i + 1, d, .cons _ t, e => by
    obtain ⟨v, h1, h2⟩ := ShwL.getV (i := i) (v := d) t (by simpa using e)
    exact ⟨v, by simpa using h1, h2⟩
theorem ShwL.take {G : Hp} : ∀ {vs : List V} {ds : List D} (n : Nat), ShwL G vs ds → ShwL G (vs.take n) (ds.take n)
  | _, _, 0, _ => .nil
  | _, _, _ + 1, .nil => .nil
  | _, _, n + 1, .cons h t => .cons h (ShwL.take n t)
theorem ShwL.drop {G : Hp} : ∀ {vs : List V} {ds : List D} (n : Nat), ShwL G vs ds → ShwL G (vs.drop n) (ds.drop n)
  | _, _, 0, h => h
  | _, _, _ + 1, .nil => .nil
  | _, _, n + 1, .cons _ t => ShwL.drop n t
theorem ShwL.set {G : Hp} {x : V} {d : D} (h : Shw G x d) : ∀ {vs : List V} {ds : List D} (i : Nat), ShwL G vs ds → ShwL G (vs.set i x) (ds.set i d)
  | _, _, _, .nil => .nil
  | _, _, 0, .cons _ t => .cons h t
  | _, _, i + 1, .cons q t => .cons q (ShwL.set h i t)
theorem ShwL.dropLast {G : Hp} : ∀ {vs : List V} {ds : List D}, ShwL G vs ds → ShwL G vs.dropLast ds.dropLast := fun {vs ds} h => by
  rw [List.dropLast_eq_take, List.dropLast_eq_take, h.length]
  exact h.take _
theorem ShwF.lookup {G : Hp} {f : Str} : ∀ {vs : List (Str × V)} {ds : List (Str × D)} {d : D}, ShwF G vs ds → ds.lookup f = some d → ∃ v, vs.lookup f = some v ∧ Shw G v d
  | _, _, _, .nil, e => by simp at e
  | _, _, d, .cons (f := g) h t, e => by
    rw [List.lookup_cons] at e ⊢
    cases q : f == g with
    | true => rw [q] at e; simp at e; subst e; exact ⟨_, rfl, h⟩
    | false => rw [q] at e; exact ShwF.lookup t e
theorem ShwF.none {G : Hp} {f : Str} : ∀ {vs : List (Str × V)} {ds : List (Str × D)}, ShwF G vs ds → ds.lookup f = none → vs.lookup f = none
  | _, _, .nil, _ => rfl
  | _, _, .cons (f := g) h t, e => by
    rw [List.lookup_cons] at e ⊢
    cases q : f == g with
    | true => rw [q] at e; simp at e
    | false => rw [q] at e; exact ShwF.none t e
theorem ShwF.length {G : Hp} : ∀ {vs : List (Str × V)} {ds : List (Str × D)}, ShwF G vs ds → vs.length = ds.length
  | _, _, .nil => rfl
  | _, _, .cons _ t => congrArg (· + 1) (ShwF.length t)
def putD (f : Str) (v : D) : List (Str × D) → List (Str × D)
  | [] => [(f, v)]
  | (g, x) :: r => if g = f then (g, v) :: r else (g, x) :: putD f v r
theorem ShwF.put {G : Hp} {f : Str} {v : V} {d : D} (h : Shw G v d) : ∀ {vs : List (Str × V)} {ds : List (Str × D)}, ShwF G vs ds → ShwF G (putF f v vs) (putD f d ds)
  | _, _, .nil => .cons h .nil
  | _, _, .cons (f := g) q t => by
    unfold putF putD
    by_cases e : g = f
    · rw [if_pos e, if_pos e]; exact .cons h t
    · rw [if_neg e, if_neg e]; exact .cons q (ShwF.put h t)

/-- what an expression gives: a datum, or a bare value (an object of the store, a class) -/
inductive SD where
  | d (d : D) | v (v : V)
  /-- a caught exception: at a, of the class at C, its dict at dd holds the field f -/
  | e (a C dd : Addr) (f : Str) (dv : D)
def SOk (G : Hp) (u : V) : SD → Prop
  | .d d => Shw G u d
  | .v v => u = v
  | .e a _ dd f dv => u = .ref a ∧ ∃ w, G dd = some (.xd [(f, w)]) ∧ Shw G w dv
theorem SOk.mono {G G' : Hp} (e : Ex G G') {u : V} : ∀ {sd : SD}, SOk G u sd → SOk G' u sd
  | .d _, h => Shw.mono e h
  | .v _, h => h
  | .e _ _ _ _ _, ⟨h, w, h1, h2⟩ => ⟨h, w, e _ _ h1, h2.mono e⟩

/-- an object that may change -/
inductive MO where
  | l (ds : List D) | t (kvs : List (List Key × D)) | k (kvs : List (Key × D)) | i (C : Addr) (fs : List (Str × D))
def KvS (κ : Type) (G : Hp) : List (κ × V) → List (κ × D) → Prop := Paired fun p q => p.1 = q.1 ∧ Shw G p.2 q.2
def MOk (G H : Hp) (a : Addr) : MO → Prop
  | .l ds => ∃ vs, H a = some (.lst vs) ∧ ShwL G vs ds
  | .t kvs => ∃ us, H a = some (.dT us) ∧ KvS _ G us kvs
  | .k kvs => ∃ us, H a = some (.dK us) ∧ KvS _ G us kvs
  | .i C fs => ∃ dx fv, H a = some (.ins C dx fv) ∧ ShwF G fv fs
abbrev MS := Addr → Option MO
def mu (ms : MS) (a : Addr) (o : MO) : MS := fun b => if b = a then some o else ms b
def md (ms : MS) (a : Addr) : MS := fun b => if b = a then none else ms b
theorem mu_same {ms : MS} {a : Addr} {o : MO} : mu ms a o a = some o := if_pos rfl
theorem mu_ne {ms : MS} {a b : Addr} {o : MO} (h : b ≠ a) : mu ms a o b = ms b := if_neg h
theorem mu_mu {ms : MS} {a : Addr} {o p : MO} : mu (mu ms a o) a p = mu ms a p := by
  funext b; unfold mu; split <;> rfl
theorem mu_comm {ms : MS} {a b : Addr} {o p : MO} (h : a ≠ b) : mu (mu ms a o) b p = mu (mu ms b p) a o := by
  funext c; unfold mu; split
  · rename_i e; subst e; rw [if_neg (Ne.symm h)]
  · rfl
theorem mu_id {ms : MS} {a : Addr} {o : MO} (h : ms a = some o) : mu ms a o = ms := by
  funext b; unfold mu; split
  · rename_i e; rw [e, h]
  · rfl
def Sub (ms ms' : MS) : Prop := ∀ a o, ms a = some o → ms' a = some o
theorem Sub.refl (ms : MS) : Sub ms ms := fun _ _ h => h
theorem Sub.mu {ms : MS} {a : Addr} {o : MO} (h : ms a = none) : Sub ms (mu ms a o) := fun b u e => by
  rw [mu_ne (fun z => by rw [z, h] at e; cases e)]; exact e
theorem Sub.mumu {ms ms' : MS} {a : Addr} {o : MO} (h : Sub ms ms') : Sub (AL.mu ms a o) (AL.mu ms' a o) := fun b u e => by
  unfold AL.mu at *
  split
  · rename_i z; rw [if_pos z] at e; exact e
  · rename_i z; rw [if_neg z] at e; exact h _ _ e
theorem Sub.trans {a b c : MS} (h : Sub a b) (g : Sub b c) : Sub a c := fun x o e => g x o (h x o e)

theorem KvS.mono {κ : Type} {G G' : Hp} (e : Ex G G') {us : List (κ × V)} {ks : List (κ × D)} (h : KvS κ G us ks) : KvS κ G' us ks := Paired.mapP h fun _ _ q => ⟨q.1, q.2.mono e⟩
theorem MOk.mono {G G' H H' : Hp} (e : Ex G G') {a : Addr} (h : H' a = H a) : ∀ {o : MO}, MOk G H a o → MOk G' H' a o
  | .l _, ⟨vs, h1, h2⟩ => ⟨vs, h.trans h1, h2.mono e⟩
  | .t _, ⟨vs, h1, h2⟩ => ⟨vs, h.trans h1, h2.mono e⟩
  | .k _, ⟨vs, h1, h2⟩ => ⟨vs, h.trans h1, h2.mono e⟩
  | .i _ _, ⟨dx, vs, h1, h2⟩ => ⟨dx, vs, h.trans h1, h2.mono e⟩
theorem MOk.some {G H : Hp} {a : Addr} : ∀ {o : MO}, MOk G H a o → ∃ u, H a = some u
  | .l _, ⟨_, h, _⟩ => ⟨_, h⟩
  | .t _, ⟨_, h, _⟩ => ⟨_, h⟩
  | .k _, ⟨_, h, _⟩ => ⟨_, h⟩
  | .i _ _, ⟨_, _, h, _⟩ => ⟨_, h⟩

/-- the heap H: what stands (G), what is put aside (F), the store (ms) -/
structure Good (H G F : Hp) (ms : MS) : Prop where
  ex : Ex G H
  fr : ∀ a o, F a = some o → H a = some o ∧ G a = none ∧ ms a = none
  ok : ∀ a o, ms a = some o → G a = none ∧ MOk G H a o
section
variable {H G F : Hp} {ms ms' : MS} {a p : Addr} {o : HO} {m m' : MO}
theorem Ex.new' (h : H p = none) (g : Ex G H) : Ex G (upd G p o) := Ex.new (Evl.fresh_back g h)
/-- a new object that stands -/
theorem Good.new (g : Good H G F ms) (h : H p = none) : Good (upd H p o) (upd G p o) F ms where
  ex := fun b u e => by
    by_cases z : b = p
    · subst z; rw [upd_same] at e ⊢; exact e
    · rw [upd_ne z] at e ⊢; exact g.ex b u e
  fr := fun b u e => by
    obtain ⟨h1, h2, h3⟩ := g.fr b u e
    have z : b ≠ p := ne_of_none h1 h
    exact ⟨by rw [upd_ne z]; exact h1, by rw [upd_ne z]; exact h2, h3⟩
  ok := fun b u e => by
    obtain ⟨h1, h2⟩ := g.ok b u e
    obtain ⟨w, hw⟩ := h2.some
    have z : b ≠ p := ne_of_none hw h
    exact ⟨by rw [upd_ne z]; exact h1, h2.mono (Ex.new' h g.ex) (upd_ne z)⟩
theorem Good.exn (g : Good H G F ms) (h : H p = none) : Ex G (upd G p o) := Ex.new' h g.ex
/-- an object of the store changes -/
theorem Good.mut (g : Good H G F ms) (h : ms a = some m) (h' : MOk G (upd H a o) a m') : Good (upd H a o) G F (mu ms a m') where
  ex := fun b u e => by
    rw [upd_ne (ne_of_none e (g.ok a m h).1)]; exact g.ex b u e
  fr := fun b u e => by
    obtain ⟨h1, h2, h3⟩ := g.fr b u e
    have z : b ≠ a := fun z => by rw [z, h] at h3; cases h3
    exact ⟨by rw [upd_ne z]; exact h1, h2, by rw [mu_ne z]; exact h3⟩
  ok := fun b u e => by
    by_cases z : b = a
    · subst z; rw [mu_same] at e; cases e; exact ⟨(g.ok _ _ h).1, h'⟩
    · rw [mu_ne z] at e
      exact ⟨(g.ok b u e).1, (g.ok b u e).2.mono (Ex.refl G) (upd_ne z)⟩
/-- a new object of the store -/
theorem Good.newM (g : Good H G F ms) (h : H p = none) (h' : MOk G (upd H p o) p m') : Good (upd H p o) G F (mu ms p m') where
  ex := fun b u e => by
    rw [upd_ne (ne_of_none (g.ex b u e) h)]; exact g.ex b u e
  fr := fun b u e => by
    obtain ⟨h1, h2, h3⟩ := g.fr b u e
    have z : b ≠ p := ne_of_none h1 h
    exact ⟨by rw [upd_ne z]; exact h1, h2, by rw [mu_ne z]; exact h3⟩
  ok := fun b u e => by
    by_cases z : b = p
    · subst z; rw [mu_same] at e; cases e; exact ⟨Evl.fresh_back g.ex h, h'⟩
    · rw [mu_ne z] at e
      exact ⟨(g.ok b u e).1, (g.ok b u e).2.mono (Ex.refl G) (upd_ne z)⟩
theorem Good.fresh (g : Good H G F ms) (h : H p = none) : ms p = none ∧ G p = none ∧ F p = none := by
  refine ⟨?_, Evl.fresh_back g.ex h, ?_⟩
  · cases e : ms p with
    | none => rfl
    | some m =>
      obtain ⟨u, hu⟩ := (g.ok p m e).2.some
      rw [h] at hu; cases hu
  · cases e : F p with
    | none => rfl
    | some m => rw [(g.fr p m e).1] at h; cases h
theorem Good.drop (g : Good H G F ms) (s : Sub ms' ms) : Good H G F ms' where
  ex := g.ex
  fr := fun b u e => ⟨(g.fr b u e).1, (g.fr b u e).2.1, by
    cases q : ms' b with
    | none => rfl
    | some m => have := s b m q; rw [(g.fr b u e).2.2] at this; cases this⟩
  ok := fun b u e => g.ok b u (s b u e)
/-- an object of the store is put aside -/
theorem Good.aside (g : Good H G F ms) (h : ms a = some m) (ho : H a = some o) : Good H G (upd F a o) (md ms a) where
  ex := g.ex
  fr := fun b u e => by
    by_cases z : b = a
    · subst z; rw [upd_same] at e; cases e; exact ⟨ho, (g.ok _ _ h).1, if_pos rfl⟩
    · rw [upd_ne z] at e
      exact ⟨(g.fr b u e).1, (g.fr b u e).2.1, (if_neg z).trans (g.fr b u e).2.2⟩
  ok := fun b u e => by
    by_cases z : b = a
    · subst z; rw [show md ms b b = none from if_pos rfl] at e; cases e
    · rw [show md ms a b = ms b from if_neg z] at e; exact g.ok b u e
/-- an object is put aside that none knows -/
theorem Good.asideN (g : Good H G F ms) (h : H p = none) : Good (upd H p o) G (upd F p o) ms where
  ex := fun b u e => by rw [upd_ne (ne_of_none (g.ex b u e) h)]; exact g.ex b u e
  fr := fun b u e => by
    by_cases z : b = p
    · subst z; rw [upd_same] at e; cases e; exact ⟨upd_same, (g.fresh h).2.1, (g.fresh h).1⟩
    · rw [upd_ne z] at e ⊢
      exact g.fr b u e
  ok := fun b u e => by
    have z : b ≠ p := fun z => by rw [z, (g.fresh h).1] at e; cases e
    exact ⟨(g.ok b u e).1, (g.ok b u e).2.mono (Ex.refl G) (upd_ne z)⟩
/-- what was put aside changes -/
theorem Good.asideW (g : Good H G (upd F p o) ms) {o' : HO} : Good (upd H p o') G (upd F p o') ms where
  ex := fun b u e => by
    have h := g.fr p o upd_same
    rw [upd_ne (ne_of_none e h.2.1)]; exact g.ex b u e
  fr := fun b u e => by
    have h := g.fr p o upd_same
    by_cases z : b = p
    · subst z; rw [upd_same] at e; cases e; exact ⟨upd_same, h.2⟩
    · rw [upd_ne z] at e ⊢
      exact g.fr b u (by rw [upd_ne z]; exact e)
  ok := fun b u e => by
    have h := g.fr p o upd_same
    have z : b ≠ p := fun z => by rw [z, h.2.2] at e; cases e
    exact ⟨(g.ok b u e).1, (g.ok b u e).2.mono (Ex.refl G) (upd_ne z)⟩
/-- what was put aside stands -/
theorem Good.back (g : Good H G (upd F p o) ms) (hF : F p = none) : Good H (upd G p o) F ms ∧ Ex G (upd G p o) := by
  have h := g.fr p o upd_same
  have ex : Ex G (upd G p o) := Ex.new h.2.1
  refine ⟨⟨fun b u e => ?_, fun b u e => ?_, fun b u e => ?_⟩, ex⟩
  · by_cases z : b = p
    · subst z; rw [upd_same] at e; cases e; exact h.1
    · rw [upd_ne z] at e; exact g.ex b u e
  · have z : b ≠ p := fun z => by rw [z, hF] at e; cases e
    obtain ⟨h1, h2, h3⟩ := g.fr b u (by rw [upd_ne z]; exact e)
    exact ⟨h1, by rw [upd_ne z]; exact h2, h3⟩
  · have z : b ≠ p := fun z => by rw [z, h.2.2] at e; cases e
    exact ⟨by rw [upd_ne z]; exact (g.ok b u e).1, (g.ok b u e).2.mono ex rfl⟩
theorem Good.forget (g : Good H G (upd F p o) ms) (hF : F p = none) : Good H G F ms where
  ex := g.ex
  fr := fun b u e => g.fr b u (by rw [upd_ne (fun z => by rw [z, hF] at e; cases e)]; exact e)
  ok := g.ok
/-- a list of the store that stands from now on -/
theorem Good.freezeL (g : Good H G F ms) {ds : List D} (h : ms a = some (.l ds)) : ∃ G', Ex G G' ∧ Good H G' F (md ms a) ∧ Shw G' (.ref a) (.lst ds) := by
  obtain ⟨hg, vs, hv, hs⟩ := g.ok a _ h
  have ex : Ex G (upd G a (.lst vs)) := Ex.new hg
  refine ⟨_, ex, ⟨fun b u e => ?_, fun b u e => ?_, fun b u e => ?_⟩, .lst upd_same (hs.mono ex)⟩
  · by_cases z : b = a
    · subst z; rw [upd_same] at e; cases e; exact hv
    · rw [upd_ne z] at e; exact g.ex b u e
  · obtain ⟨h1, h2, h3⟩ := g.fr b u e
    have z : b ≠ a := fun z => by rw [z, h] at h3; cases h3
    exact ⟨h1, by rw [upd_ne z]; exact h2, (if_neg z).trans h3⟩
  · by_cases z : b = a
    · subst z; rw [show md ms b b = none from if_pos rfl] at e; cases e
    · rw [show md ms a b = ms b from if_neg z] at e
      exact ⟨by rw [upd_ne z]; exact (g.ok b u e).1, (g.ok b u e).2.mono ex rfl⟩
theorem Good.freezeI (g : Good H G F ms) {C : Addr} {fs : List (Str × D)} (h : ms a = some (.i C fs)) : ∃ G', Ex G G' ∧ Good H G' F (md ms a) ∧ Shw G' (.ref a) (.ins C fs) := by
  obtain ⟨hg, dx, vs, hv, hs⟩ := g.ok a _ h
  have ex : Ex G (upd G a (.ins C dx vs)) := Ex.new hg
  refine ⟨_, ex, ⟨fun b u e => ?_, fun b u e => ?_, fun b u e => ?_⟩, .ins upd_same (hs.mono ex)⟩
  · by_cases z : b = a
    · subst z; rw [upd_same] at e; cases e; exact hv
    · rw [upd_ne z] at e; exact g.ex b u e
  · obtain ⟨h1, h2, h3⟩ := g.fr b u e
    have z : b ≠ a := fun z => by rw [z, h] at h3; cases h3
    exact ⟨h1, by rw [upd_ne z]; exact h2, (if_neg z).trans h3⟩
  · by_cases z : b = a
    · subst z; rw [show md ms b b = none from if_pos rfl] at e; cases e
    · rw [show md ms a b = ms b from if_neg z] at e
      exact ⟨by rw [upd_ne z]; exact (g.ok b u e).1, (g.ok b u e).2.mono ex rfl⟩
end
end AL

/-! ## AbsB -/
set_option Elab.async false
set_option linter.all false
set_option maxRecDepth 100000
set_option maxHeartbeats 2000000
namespace AL
open PySem PySem.Spec PyProof.Rows L2
open Evl (Ex)

theorem okd {G : Hp} {v : V} {d : D} (h : Shw G v d) : SOk G v (.d d) := h
theorem okv {G : Hp} {v : V} : SOk G v (.v v) := rfl

/-! ### slots -/
abbrev Gam := List (Option SD)
def EOk (G : Hp) (σ : L2.St) (Γ : Gam) : Prop := σ.length = Γ.length ∧ ∀ (i : Nat) (sd : SD), Γ[i]? = some (some sd) → ∃ v, σ[i]? = some (some v) ∧ SOk G v sd
theorem EOk.mono {G G' : Hp} {σ : L2.St} {Γ : Gam} (e : Ex G G') (h : EOk G σ Γ) : EOk G' σ Γ :=
  ⟨h.1, fun i sd q => let ⟨v, a, b⟩ := h.2 i sd q; ⟨v, a, b.mono e⟩⟩
theorem EOk.set {G : Hp} {σ : L2.St} {Γ : Gam} {v : V} {sd : SD} (h : EOk G σ Γ) (s : SOk G v sd) (i : Nat) : EOk G (σ.set i (some v)) (Γ.set i (some sd)) := by
  refine ⟨by rw [List.length_set, List.length_set]; exact h.1, fun j t q => ?_⟩
  rw [List.getElem?_set] at q ⊢
  by_cases e : i = j
  · rw [if_pos e] at q ⊢
    rw [h.1]
    split at q
    · rename_i z; rw [if_pos z]; cases q; exact ⟨v, rfl, s⟩
    · cases q
  · rw [if_neg e] at q ⊢; exact h.2 j t q
def wipeG (Γ : Gam) : List Nat → Gam
  | [] => Γ
  | v :: vs => (wipeG Γ vs).set v none
theorem EOk.forget {G : Hp} {σ : L2.St} {Γ : Gam} (h : EOk G σ Γ) (i : Nat) : EOk G (σ.set i none) (Γ.set i none) := by
  refine ⟨by rw [List.length_set, List.length_set]; exact h.1, fun j t q => ?_⟩
  rw [List.getElem?_set] at q ⊢
  by_cases e : i = j
  · rw [if_pos e] at q
    split at q
    · cases q
    · cases q
  · rw [if_neg e] at q ⊢; exact h.2 j t q
theorem EOk.wipe {G : Hp} {σ : L2.St} {Γ : Gam} (h : EOk G σ Γ) : ∀ vs : List Nat, EOk G (L2.wipe σ vs) (wipeG Γ vs)
  | [] => h
  | v :: vs => (EOk.wipe h vs).forget v
/-- a slot's knowledge dropped -/
def GSub (Γ Γ' : Gam) : Prop := Γ.length = Γ'.length ∧ ∀ (i : Nat) (sd : SD), Γ[i]? = some (some sd) → Γ'[i]? = some (some sd)
theorem EOk.sub {G : Hp} {σ : L2.St} {Γ Γ' : Gam} (h : EOk G σ Γ') (s : GSub Γ Γ') : EOk G σ Γ := ⟨h.1.trans s.1.symm, fun i sd q => h.2 i sd (s.2 i sd q)⟩

abbrev SOkL (G : Hp) : List V → List SD → Prop := Paired (SOk G)
theorem SOkL.mono {G G' : Hp} (e : Ex G G') {vs : List V} {sds : List SD} (h : SOkL G vs sds) : SOkL G' vs sds := Paired.mapP h fun _ _ q => q.mono e

/-! ### what is wanted -/
abbrev AX := Addr → Str → D → MS → Prop
def KE (G F : Hp) (k : SD → MS → Prop) (Q : VK) : Prop := ∀ v H2 G2 sd ms2, Ex G G2 → Good H2 G2 F ms2 → SOk G2 v sd → k sd ms2 → Q v H2
def KT (G F : Hp) (k : Bool → MS → Prop) (Q : Bool → Hp → Prop) : Prop := ∀ b H2 G2 ms2, Ex G G2 → Good H2 G2 F ms2 → k b ms2 → Q b H2
def KA (n : Nat) (G F : Hp) (k : List SD → MS → Prop) (Q : List V → Hp → Prop) : Prop := ∀ vs H2 G2 sds ms2, Ex G G2 → Good H2 G2 F ms2 → SOkL G2 vs sds → sds.length = n → k sds ms2 → Q vs H2
def XW (W : WX) (G F : Hp) (σ : L2.St) (x : AX) : Prop := ∀ C d f u dv H2 G2 ms2, Ex G G2 → Good H2 G2 F ms2 → G2 d = some (.xd [(f, u)]) → Shw G2 u dv → x C f dv ms2 → W (.ref C) (some d) σ H2
theorem KE.mono {G G1 F : Hp} {k : SD → MS → Prop} {Q : VK} (e : Ex G G1) (h : KE G F k Q) : KE G1 F k Q := fun v H2 G2 sd ms2 e2 => h v H2 G2 sd ms2 (e.trans e2)
theorem KT.mono {G G1 F : Hp} {k : Bool → MS → Prop} {Q : Bool → Hp → Prop} (e : Ex G G1) (h : KT G F k Q) : KT G1 F k Q := fun v H2 G2 ms2 e2 => h v H2 G2 ms2 (e.trans e2)
theorem KA.mono {n : Nat} {G G1 F : Hp} {k : List SD → MS → Prop} {Q : List V → Hp → Prop} (e : Ex G G1) (h : KA n G F k Q) : KA n G1 F k Q := fun v H2 G2 sd ms2 e2 => h v H2 G2 sd ms2 (e.trans e2)
theorem XW.mono {W : WX} {G G1 F : Hp} {σ : L2.St} {x : AX} (e : Ex G G1) (h : XW W G F σ x) : XW W G1 F σ x := fun C d f u dv H2 G2 ms2 e2 => h C d f u dv H2 G2 ms2 (e.trans e2)

/-! ### judgements -/
abbrev AER := Gam → MS → (SD → MS → Prop) → AX → Prop
abbrev ATR := Gam → MS → (Bool → MS → Prop) → AX → Prop
abbrev AAR := Gam → MS → (List SD → MS → Prop) → AX → Prop
structure AE (X : Cx) (W : WX) (e : Expr) (t : TE) (r : AER) : Prop where
  pe : PE X e t
  ok : ∀ Γ ms k x, r Γ ms k x → ∀ σ H G F Q, EOk G σ Γ → Good H G F ms → KE G F k Q → XW W G F σ x → t σ H Q
structure AT (X : Cx) (W : WX) (e : Expr) (t : TT) (r : ATR) : Prop where
  pe : PT X e t
  ok : ∀ Γ ms k x, r Γ ms k x → ∀ σ H G F Q, EOk G σ Γ → Good H G F ms → KT G F k Q → XW W G F σ x → t σ H Q
structure AW (X : Cx) (W : WX) (e : Expr) (t : TT) (r : ATR) : Prop where
  pe : PW X e t
  ok : ∀ Γ ms k x, r Γ ms k x → ∀ σ H G F Q, EOk G σ Γ → Good H G F ms → KT G F k Q → XW W G F σ x → t σ H Q
structure AA (X : Cx) (W : WX) (es : List Expr) (t : TA) (r : AAR) : Prop where
  pe : PA X es t
  ok : ∀ Γ ms k x, r Γ ms k x → ∀ σ H G F Q, EOk G σ Γ → Good H G F ms → KA es.length G F k Q → XW W G F σ x → t σ H Q

/-! ### what operations on values ask -/
def KZ (G F : Hp) (ms : MS) (k : SD → Prop) (Q : VK) : Prop := ∀ z H2 G2 sd, Ex G G2 → Good H2 G2 F ms → SOk G2 z sd → k sd → Q z H2
section
variable {H G F : Hp} {ms : MS} {k : SD → Prop} {Q : VK}
theorem KZ.here (h : KZ G F ms k Q) (g : Good H G F ms) {z : V} {sd : SD} (s : SOk G z sd) (q : k sd) : Q z H := h z H G sd (Ex.refl G) g s q
theorem KZ.tup (h : KZ G F ms k Q) (g : Good H G F ms) {vs : List V} {ds : List D} (s : ShwL G vs ds) (q : k (.d (.tup ds))) : ∀ p, H p = none → Q (.ref p) (upd H p (.tup vs)) := fun p hp =>
  h _ _ _ _ (g.exn hp) (g.new hp) (okd (.tup upd_same (s.mono (g.exn hp)))) q
theorem KZ.lst (h : KZ G F ms k Q) (g : Good H G F ms) {vs : List V} {ds : List D} (s : ShwL G vs ds) (q : k (.d (.lst ds))) : ∀ p, H p = none → Q (.ref p) (upd H p (.lst vs)) := fun p hp =>
  h _ _ _ _ (g.exn hp) (g.new hp) (okd (.lst upd_same (s.mono (g.exn hp)))) q
end
abbrev AO2 := MS → SD → SD → (SD → Prop) → Prop
abbrev AO1 := MS → SD → (SD → Prop) → Prop
abbrev AOL := MS → List SD → (SD → Prop) → Prop
def OpA (r : R2) (o : AO2) : Prop := ∀ ms x y k, o ms x y k → ∀ v u H G F Q, Good H G F ms → SOk G v x → SOk G u y → KZ G F ms k Q → r v u H Q
def UnA (r : V → Hp → VK → Prop) (o : AO1) : Prop := ∀ ms x k, o ms x k → ∀ v H G F Q, Good H G F ms → SOk G v x → KZ G F ms k Q → r v H Q
def ClA (r : List V → Hp → VK → Prop) (o : AOL) : Prop := ∀ ms xs k, o ms xs k → ∀ vs H G F Q, Good H G F ms → SOkL G vs xs → KZ G F ms k Q → r vs H Q
/-- a list or tuple, wherever it stands -/
def seqOf (ms : MS) : SD → Option (List D)
  | .d (.lst ds) => some ds
  | .d (.tup ds) => some ds
  | .d (.frl ds) => some ds
  | .v (.ref p) => match ms p with
    | some (.l ds) => some ds
    | _ => none
  | _ => none
theorem seqOf_ok2 {K : PySem.W.Frag} {H G F : Hp} {ms : MS} (g : Good H G F ms) {u : V} : ∀ {sd : SD} {ds : List D}, SOk G u sd → seqOf ms sd = some ds → ∃ a vs, u = .ref a ∧ ((sd = .d (.tup ds) ∧ SqT K H a vs) ∨ SqL K H a vs) ∧ ShwL G vs ds
  | .d (.lst _), _, s, e => by cases e; cases s with | lst h t => exact ⟨_, _, rfl, .inr (Evl.sq_of (g.ex _ _ h)), t⟩
  | .d (.frl _), _, s, e => by cases e; cases s with | frl h t => exact ⟨_, _, rfl, .inr (.inl (.inr ⟨_, g.ex _ _ h⟩)), t⟩
  | .d (.tup _), _, s, e => by cases e; cases s with | tup h t => exact ⟨_, _, rfl, .inl ⟨rfl, Evl.st_of (g.ex _ _ h)⟩, t⟩
  | .v (.ref p), ds, s, e => by
    have e : (match ms p with | some (.l ds) => some ds | _ => none) = some ds := e
    split at e
    · rename_i q
      cases e
      obtain ⟨_, vs, h1, h2⟩ := g.ok p _ q
      exact ⟨p, vs, s, .inr (Evl.sq_of h1), h2⟩
    · cases e
  | .d .non, _, _, e => by cases e
  | .d (.bl _), _, _, e => by cases e
  | .d (.int _), _, _, e => by cases e
  | .d (.str _), _, _, e => by cases e
  | .d (.ins _ _), _, _, e => by cases e
  | .v .non, _, _, e => by cases e
  | .v (.bl _), _, _, e => by cases e
  | .v (.int _), _, _, e => by cases e
  | .v (.str _), _, _, e => by cases e
  | .v (.byt _), _, _, e => by cases e
  | .v (.flt _), _, _, e => by cases e
  | .v (.ty _), _, _, e => by cases e
  | .e _ _ _ _ _, _, _, e => by cases e
theorem seqOf_ok {K : PySem.W.Frag} {H G F : Hp} {ms : MS} (g : Good H G F ms) {u : V} {sd : SD} {ds : List D} (s : SOk G u sd) (e : seqOf ms sd = some ds) : ∃ a vs, u = .ref a ∧ (SqL K H a vs ∨ SqT K H a vs) ∧ ShwL G vs ds := by
  obtain ⟨a, vs, h1, h2, h3⟩ := seqOf_ok2 (K := K) g s e
  exact ⟨a, vs, h1, h2.elim (fun h => .inr h.2) .inl, h3⟩

/-! ### names, constants -/
section
variable {X : Cx} {W : WX} {pos : Pos}
theorem ae_of {e : Expr} {v : V} {d : D} (h : PE X e (tC v)) (s : ∀ G, Shw G v d) : AE X W e (tC v) (fun _ ms k _ => k (.d d) ms) :=
  ⟨h, fun _ _ _ _ q _ H G _ _ _ g kk _ => kk v H G _ _ (Ex.refl G) g (okd (s G)) q⟩
theorem ae_int {i : Int} {j} : AE X W (.Constant (.int i) j pos) (tC (.int i)) (fun _ ms k _ => k (.d (.int i)) ms) := ae_of pe_int fun _ => .int i
theorem ae_bl {b : Bool} {j} : AE X W (.Constant (.bool b) j pos) (tC (.bl b)) (fun _ ms k _ => k (.d (.bl b)) ms) := ae_of pe_bl fun _ => .bl b
theorem ae_non {j} : AE X W (.Constant .none j pos) (tC .non) (fun _ ms k _ => k (.d .non) ms) := ae_of pe_non fun _ => .non
theorem ae_str {x : Str} {j} : AE X W (.Constant (.str x) j pos) (tC (.str x)) (fun _ ms k _ => k (.d (.str x)) ms) := ae_of pe_str fun _ => .str x
/-- the i-th slot -/
def rV (i : Nat) : AER := fun Γ ms k _ => match Γ[i]? with
  | some (some sd) => k sd ms
  | _ => False
theorem ae_v (i : Nat) {x : Str} (hN : X.N[i]? = some x := by rfl) (hv : Vis X.env.scope x := by first | exact Or.inl rfl | exact Or.inr (Or.inl rfl) | exact Or.inr (Or.inr rfl)) (hd : (x == ("__debug__" : Str)) = false := by decide)
    (hcd : (x == ("__classdict__" : Str)) = false := by decide) : AE X W (.Name x pos) (tVar i) (rV i) := by
  refine ⟨pe_var hN hv hd hcd, fun Γ ms k x h σ H G F Q ev g kk _ => ?_⟩
  unfold rV at h
  split at h
  · rename_i sd e
    obtain ⟨v, h1, h2⟩ := ev.2 i sd e
    exact ⟨v, h1, kk v H G sd ms (Ex.refl G) g h2 h⟩
  · exact h.elim
/-- a constant of the module -/
theorem ae_gint {x : Str} {i : Int} {t : Tok} (hg : Gl X x) (hm : X.mg x = some (.int i t)) (hd : (x == ("__debug__" : Str)) = false := by decide) : AE X W (.Name x pos) (tC (.int i)) (fun _ ms k _ => k (.d (.int i)) ms) := ae_of (pe_glob hg hm (v := .int i) ⟨t, rfl⟩ hd) fun _ => .int i
theorem ae_gstr {x y : Str} {t : Tok} (hg : Gl X x) (hm : X.mg x = some (.str y t)) (hd : (x == ("__debug__" : Str)) = false := by decide) : AE X W (.Name x pos) (tC (.str y)) (fun _ ms k _ => k (.d (.str y)) ms) := ae_of (pe_glob hg hm (v := .str y) ⟨t, rfl⟩ hd) fun _ => .str y

/-! ### arguments, displays -/
theorem aa_nil : AA X W [] tNil (fun _ ms k _ => k [] ms) := ⟨pa_nil, fun _ _ _ _ h _ H G _ _ _ g kk _ => kk [] H G [] _ (Ex.refl G) g .nil rfl h⟩
theorem aa_cons {e : Expr} {es : List Expr} {ra : AER} {rr : AAR} {ta : TE} {tr : TA} (ha : AE X W e ta ra) (hr : AA X W es tr rr) (hs : starEach (e :: es) X.env = (false, eval e X.env) :: starEach es X.env := by rfl) :
    AA X W (e :: es) (tCons ta tr) (fun Γ ms k x => ra Γ ms (fun a ms1 => rr Γ ms1 (fun as ms2 => k (a :: as) ms2) x) x) := by
  have p1 := ha.pe
  have h1 := ha.ok
  have p2 := hr.pe
  have h2 := hr.ok
  refine ⟨pa_cons p1 p2 hs, fun Γ ms k x h σ H G F Q ev g kk xw => ?_⟩
  refine h1 Γ ms _ x h σ H G F _ ev g (fun v H1 G1 sd ms1 e1 g1 s1 q1 => ?_) xw
  refine h2 Γ ms1 _ x q1 σ H1 G1 F _ (ev.mono e1) g1 (fun vs H2 G2 sds ms2 e2 g2 s2 l2 q2 => ?_) (xw.mono e1)
  exact kk _ H2 G2 _ ms2 (e1.trans e2) g2 (.cons (s1.mono e2) s2) (by rw [List.length_cons, l2]; rfl) q2
/-- values that are data -/
def asDs : List SD → (List D → Prop) → Prop
  | [], k => k []
  | .d d :: r, k => asDs r fun ds => k (d :: ds)
  | _ :: _, _ => False
theorem asDs_ok {G : Hp} : ∀ {sds : List SD} {vs : List V} {k : List D → Prop}, SOkL G vs sds → asDs sds k → ∃ ds, ShwL G vs ds ∧ k ds
  | [], _, _, .nil, h => ⟨[], .nil, h⟩
  | .d d :: r, _, k, .cons s t, h => by
    obtain ⟨ds, a, b⟩ := asDs_ok (sds := r) t h
    exact ⟨d :: ds, .cons s a, b⟩
  | .v _ :: _, _, _, .cons _ _, h => h.elim
  | .e _ _ _ _ _ :: _, _, _, .cons _ _, h => h.elim
theorem small_len {n : Nat} (h : n ≤ 1000) : n ≤ sizeLine := Nat.le_trans h (by decide)
theorem ae_tup {es : List Expr} {r : AAR} {t : TA} {x1} (h : AA X W es t r) (hl : es.length ≤ 1000 := by decide) : AE X W (.Tuple es x1 pos) (tTup t) (fun Γ ms k x => r Γ ms (fun sds ms1 => asDs sds fun ds => k (.d (.tup ds)) ms1) x) := by
  have p := h.pe
  have h1 := h.ok
  refine ⟨pe_tup p, fun Γ ms k x h σ H G F Q ev g kk xw => ?_⟩
  refine h1 Γ ms _ x h σ H G F _ ev g (fun vs H1 G1 sds ms1 e1 g1 s1 l1 q1 => ?_) xw
  obtain ⟨ds, sd, q⟩ := asDs_ok s1 q1
  exact ⟨small_len (by rw [s1.length, l1]; exact hl), fun p hp => kk _ _ _ _ _ (e1.trans (g1.exn hp)) (g1.new hp) (okd (.tup upd_same (sd.mono (g1.exn hp)))) q⟩
/-- a list of which nothing is changed later -/
theorem ae_lst {es : List Expr} {r : AAR} {t : TA} (h : AA X W es t r) (hl : es.length ≤ 1000 := by decide) : AE X W (.List es pos) (tLst t) (fun Γ ms k x => r Γ ms (fun sds ms1 => asDs sds fun ds => k (.d (.lst ds)) ms1) x) := by
  have p := h.pe
  have h1 := h.ok
  refine ⟨pe_lst p, fun Γ ms k x h σ H G F Q ev g kk xw => ?_⟩
  refine h1 Γ ms _ x h σ H G F _ ev g (fun vs H1 G1 sds ms1 e1 g1 s1 l1 q1 => ?_) xw
  obtain ⟨ds, sd, q⟩ := asDs_ok s1 q1
  exact ⟨small_len (by rw [s1.length, l1]; exact hl), fun p hp => kk _ _ _ _ _ (e1.trans (g1.exn hp)) (g1.new hp) (okd (.lst upd_same (sd.mono (g1.exn hp)))) q⟩
/-- a list that is changed later: an object of the store -/
theorem ae_lstM {es : List Expr} {r : AAR} {t : TA} (h : AA X W es t r) (hl : es.length ≤ 1000 := by decide) : AE X W (.List es pos) (tLst t) (fun Γ ms k x => r Γ ms (fun sds ms1 => asDs sds fun ds => ∀ p, ms1 p = none → k (.v (.ref p)) (mu ms1 p (.l ds))) x) := by
  have p := h.pe
  have h1 := h.ok
  refine ⟨pe_lst p, fun Γ ms k x h σ H G F Q ev g kk xw => ?_⟩
  refine h1 Γ ms _ x h σ H G F _ ev g (fun vs H1 G1 sds ms1 e1 g1 s1 l1 q1 => ?_) xw
  obtain ⟨ds, sd, q⟩ := asDs_ok s1 q1
  refine ⟨small_len (by rw [s1.length, l1]; exact hl), fun p hp => kk _ _ _ _ _ e1 (g1.newM (m' := .l ds) hp ⟨vs, upd_same, sd⟩) okv (q p (g1.fresh hp).1)⟩
/-- {}: keys that are tuples; ints and texts -/
theorem ae_dictT : AE X W (.Dict [] [] pos) tDNewT (fun _ ms k _ => ∀ p, ms p = none → k (.v (.ref p)) (mu ms p (.t []))) :=
  ⟨pe_dnewT, fun _ _ _ _ h _ _ G _ _ _ g kk _ p hp => kk _ _ _ _ _ (Ex.refl G) (g.newM (m' := .t []) hp ⟨[], upd_same, .nil⟩) okv (h p (g.fresh hp).1)⟩
theorem ae_dictK : AE X W (.Dict [] [] pos) tDNewK (fun _ ms k _ => ∀ p, ms p = none → k (.v (.ref p)) (mu ms p (.k []))) :=
  ⟨pe_dnewK, fun _ _ _ _ h _ _ G _ _ _ g kk _ p hp => kk _ _ _ _ _ (Ex.refl G) (g.newM (m' := .k []) hp ⟨[], upd_same, .nil⟩) okv (h p (g.fresh hp).1)⟩

/-! ### operators -/
variable {a b c : Expr} {ra rb rc : AER} {ta tb tc : TE}
theorem ae_bin {op : Operator} {r : R2} {o : AO2} (ho : OpR X (binaryOp op) r) (oa : OpA r o) (ha : AE X W a ta ra) (hb : AE X W b tb rb) :
    AE X W (.BinOp a op b pos) (tOp r ta tb) (fun Γ ms k x => ra Γ ms (fun u ms1 => rb Γ ms1 (fun v ms2 => o ms2 u v fun z => k z ms2) x) x) := by
  have p1 := ha.pe
  have h1 := ha.ok
  have p2 := hb.pe
  have h2 := hb.ok
  refine ⟨pe_op ho p1 p2, fun Γ ms k x h σ H G F Q ev g kk xw => ?_⟩
  refine h1 Γ ms _ x h σ H G F _ ev g (fun v H1 G1 sd ms1 e1 g1 s1 q1 => ?_) xw
  refine h2 Γ ms1 _ x q1 σ H1 G1 F _ (ev.mono e1) g1 (fun u H2 G2 sd2 ms2 e2 g2 s2 q2 => ?_) (xw.mono e1)
  exact oa ms2 _ _ _ q2 v u H2 G2 F Q g2 (s1.mono e2) s2 fun z H3 G3 sd3 e3 g3 s3 q3 => kk z H3 G3 sd3 ms2 ((e1.trans e2).trans e3) g3 s3 q3
theorem ae_un {op : UnaryOp} {r : V → Hp → VK → Prop} {o : AO1} (ho : UnR X (unaryOp op) r) (oa : UnA r o) (ha : AE X W a ta ra) : AE X W (.UnaryOp op a pos) (tUn r ta) (fun Γ ms k x => ra Γ ms (fun u ms1 => o ms1 u fun z => k z ms1) x) := by
  have p1 := ha.pe
  have h1 := ha.ok
  refine ⟨pe_un ho p1, fun Γ ms k x h σ H G F Q ev g kk xw => ?_⟩
  refine h1 Γ ms _ x h σ H G F _ ev g (fun v H1 G1 sd ms1 e1 g1 s1 q1 => ?_) xw
  exact oa ms1 _ _ q1 v H1 G1 F Q g1 s1 fun z H3 G3 sd3 e3 g3 s3 q3 => kk z H3 G3 sd3 ms1 (e1.trans e3) g3 s3 q3
theorem ae_cmp {op : CmpOp} {r : R2} {o : AO2} (ho : OpR X (compareOp op) r) (oa : OpA r o) (ha : AE X W a ta ra) (hb : AE X W b tb rb) (hm : behindInMarks op b = false) :
    AE X W (.Compare a [op] [b] pos) (tOp r ta tb) (fun Γ ms k x => ra Γ ms (fun u ms1 => rb Γ ms1 (fun v ms2 => o ms2 u v fun z => k z ms2) x) x) := by
  have p1 := ha.pe
  have h1 := ha.ok
  have p2 := hb.pe
  have h2 := hb.ok
  refine ⟨pe_cmpR ho p1 p2 hm, fun Γ ms k x h σ H G F Q ev g kk xw => ?_⟩
  refine h1 Γ ms _ x h σ H G F _ ev g (fun v H1 G1 sd ms1 e1 g1 s1 q1 => ?_) xw
  refine h2 Γ ms1 _ x q1 σ H1 G1 F _ (ev.mono e1) g1 (fun u H2 G2 sd2 ms2 e2 g2 s2 q2 => ?_) (xw.mono e1)
  exact oa ms2 _ _ _ q2 v u H2 G2 F Q g2 (s1.mono e2) s2 fun z H3 G3 sd3 e3 g3 s3 q3 => kk z H3 G3 sd3 ms2 ((e1.trans e2).trans e3) g3 s3 q3
/-- a value that is a truth -/
def asB (k : Bool → Prop) : SD → Prop
  | .d (.bl b) => k b
  | _ => False
theorem asB_ok {G : Hp} {v : V} {k : Bool → Prop} : ∀ {sd : SD}, SOk G v sd → asB k sd → ∃ b, v = .bl b ∧ k b
  | .d (.bl b), s, h => by cases s; exact ⟨b, rfl, h⟩
  | .d .non, _, h => h.elim
  | .d (.int _), _, h => h.elim
  | .d (.str _), _, h => h.elim
  | .d (.tup _), _, h => h.elim
  | .d (.lst _), _, h => h.elim
  | .d (.frl _), _, h => h.elim
  | .d (.ins _ _), _, h => h.elim
  | .v _, _, h => h.elim
  | .e _ _ _ _ _, _, h => h.elim
theorem at_cmp {op : CmpOp} {r : R2} {o : AO2} (ho : OpR X (compareOp op) r) (oa : OpA r o) (ha : AE X W a ta ra) (hb : AE X W b tb rb) (hm : behindInMarks op b = false) :
    AT X W (.Compare a [op] [b] pos) (tTest (tOp r ta tb)) (fun Γ ms k x => ra Γ ms (fun u ms1 => rb Γ ms1 (fun v ms2 => o ms2 u v (asB fun z => k z ms2)) x) x) := by
  have p1 := ha.pe
  have h1 := ha.ok
  have p2 := hb.pe
  have h2 := hb.ok
  refine ⟨pt_cmpR ho p1 p2 hm, fun Γ ms k x h σ H G F Q ev g kk xw => ?_⟩
  refine h1 Γ ms _ x h σ H G F _ ev g (fun v H1 G1 sd ms1 e1 g1 s1 q1 => ?_) xw
  refine h2 Γ ms1 _ x q1 σ H1 G1 F _ (ev.mono e1) g1 (fun u H2 G2 sd2 ms2 e2 g2 s2 q2 => ?_) (xw.mono e1)
  refine oa ms2 _ _ _ q2 v u H2 G2 F _ g2 (s1.mono e2) s2 fun z H3 G3 sd3 e3 g3 s3 q3 => ?_
  obtain ⟨b, eb, q⟩ := asB_ok s3 q3
  exact ⟨b, eb, kk b H3 G3 ms2 ((e1.trans e2).trans e3) g3 q⟩
/-- a op1 b op2 c -/
theorem at_chain {op op' : CmpOp} {r r' : R2} {o o' : AO2} (ho : OpR X (compareOp op) r) (oa : OpA r o) (ho' : OpR X (compareOp op') r') (oa' : OpA r' o') (ha : AE X W a ta ra) (hb : AE X W b tb rb) (hc : AE X W c tc rc)
    (hp : ∀ {ta tb tc : TE}, PE X a ta → PE X b tb → PE X c tc → PT X (.Compare a [op, op'] [b, c] pos) (tTest (tChain r r' ta tb tc))) :
    AT X W (.Compare a [op, op'] [b, c] pos) (tTest (tChain r r' ta tb tc)) (fun Γ ms k x => ra Γ ms (fun u ms1 => rb Γ ms1 (fun v ms2 => o ms2 u v (asB fun z => if z = true then rc Γ ms2 (fun w ms3 => o' ms3 v w (asB fun z => k z ms3)) x else k false ms2)) x) x) := by
  have p1 := ha.pe
  have h1 := ha.ok
  have p2 := hb.pe
  have h2 := hb.ok
  have p3 := hc.pe
  have h3 := hc.ok
  refine ⟨hp p1 p2 p3, fun Γ ms k x h σ H G F Q ev g kk xw => ?_⟩
  refine h1 Γ ms _ x h σ H G F _ ev g (fun v H1 G1 sd ms1 e1 g1 s1 q1 => ?_) xw
  refine h2 Γ ms1 _ x q1 σ H1 G1 F _ (ev.mono e1) g1 (fun u H2 G2 sd2 ms2 e2 g2 s2 q2 => ?_) (xw.mono e1)
  refine oa ms2 _ _ _ q2 v u H2 G2 F _ g2 (s1.mono e2) s2 fun z H3 G3 sd3 e3 g3 s3 q3 => ?_
  obtain ⟨b, eb, q⟩ := asB_ok s3 q3
  refine ⟨b, eb, ?_⟩
  cases b with
  | false =>
    rw [if_neg Bool.false_ne_true] at q ⊢
    exact ⟨false, rfl, kk false H3 G3 ms2 ((e1.trans e2).trans e3) g3 q⟩
  | true =>
    rw [if_pos rfl] at q ⊢
    have e4 := (e1.trans e2).trans e3
    refine h3 Γ ms2 _ x q σ H3 G3 F _ (ev.mono e4) g3 (fun y H5 G5 sd5 ms5 e5 g5 s5 q5 => ?_) (xw.mono e4)
    refine oa' ms5 _ _ _ q5 u y H5 G5 F _ g5 ((s2.mono e3).mono e5) s5 fun z H6 G6 sd6 e6 g6 s6 q6 => ?_
    obtain ⟨b, eb, q⟩ := asB_ok s6 q6
    exact ⟨b, eb, kk b H6 G6 ms5 ((e4.trans e5).trans e6) g6 q⟩
/-- an expression that gives a truth -/
theorem at_val {e : Expr} {r : AER} {t : TE} (h : AE X W e t r) (he : ∀ whole, isTrue e X.env whole = (do let v ← whole; standAt e.pos; holding [v] (truthy v)) := by intro _; rfl) : AT X W e (tB t) (fun Γ ms k x => r Γ ms (fun sd ms1 => asB (fun b => k b ms1) sd) x) := by
  have p1 := h.pe
  have h1 := h.ok
  refine ⟨pt_val p1 he, fun Γ ms k x h σ H G F Q ev g kk xw => ?_⟩
  refine h1 Γ ms _ x h σ H G F _ ev g (fun v H1 G1 sd ms1 e1 g1 s1 q1 => ?_) xw
  obtain ⟨b, eb, q⟩ := asB_ok s1 q1
  exact ⟨b, eb, kk b H1 G1 ms1 e1 g1 q⟩
variable {sa sb : ATR} {ua ub : TT} {rest : List Expr}
theorem AW.at (h : AW X W a ua sa) : AT X W a ua sa := ⟨h.pe.pt, h.ok⟩
theorem aw_and1 (h : AT X W a ua sa) : AW X W (.BoolOp .And [a] pos) ua sa := ⟨pw_and1 h.pe, h.ok⟩
theorem aw_or1 (h : AT X W a ua sa) : AW X W (.BoolOp .Or [a] pos) ua sa := ⟨pw_or1 h.pe, h.ok⟩
theorem aw_and (ha : AT X W a ua sa) (hb : AW X W (.BoolOp .And (b :: rest) pos) ub sb) : AW X W (.BoolOp .And (a :: b :: rest) pos) (tAnd ua ub) (fun Γ ms k x => sa Γ ms (fun z ms1 => if z = true then sb Γ ms1 k x else k false ms1) x) := by
  have p1 := ha.pe
  have h1 := ha.ok
  have p2 := hb.pe
  have h2 := hb.ok
  refine ⟨pw_and p1 p2, fun Γ ms k x h σ H G F Q ev g kk xw => ?_⟩
  refine h1 Γ ms _ x h σ H G F _ ev g (fun v H1 G1 ms1 e1 g1 q1 => ?_) xw
  cases v with
  | false => rw [if_neg Bool.false_ne_true] at q1 ⊢; exact kk _ _ _ _ e1 g1 q1
  | true => rw [if_pos rfl] at q1 ⊢; exact h2 Γ ms1 k x q1 σ H1 G1 F Q (ev.mono e1) g1 (kk.mono e1) (xw.mono e1)
theorem aw_or (ha : AT X W a ua sa) (hb : AW X W (.BoolOp .Or (b :: rest) pos) ub sb) : AW X W (.BoolOp .Or (a :: b :: rest) pos) (tOr ua ub) (fun Γ ms k x => sa Γ ms (fun z ms1 => if z = true then k true ms1 else sb Γ ms1 k x) x) := by
  have p1 := ha.pe
  have h1 := ha.ok
  have p2 := hb.pe
  have h2 := hb.ok
  refine ⟨pw_or p1 p2, fun Γ ms k x h σ H G F Q ev g kk xw => ?_⟩
  refine h1 Γ ms _ x h σ H G F _ ev g (fun v H1 G1 ms1 e1 g1 q1 => ?_) xw
  cases v with
  | true => rw [if_pos rfl] at q1 ⊢; exact kk _ _ _ _ e1 g1 q1
  | false => rw [if_neg Bool.false_ne_true] at q1 ⊢; exact h2 Γ ms1 k x q1 σ H1 G1 F Q (ev.mono e1) g1 (kk.mono e1) (xw.mono e1)
theorem at_not (ha : AT X W a ua sa) : AT X W (.UnaryOp .Not a pos) (tNot ua) (fun Γ ms k x => sa Γ ms (fun z ms1 => k (!z) ms1) x) := by
  have p1 := ha.pe
  have h1 := ha.ok
  refine ⟨pt_not p1, fun Γ ms k x h σ H G F Q ev g kk xw => ?_⟩
  exact h1 Γ ms _ x h σ H G F _ ev g (fun v H1 G1 ms1 e1 g1 q1 => kk _ _ _ _ e1 g1 q1) xw
/-- as values -/
theorem ae_one {op} (h : AE X W a ta ra) : AE X W (.BoolOp op [a] pos) ta ra := ⟨pe_one h.pe, h.ok⟩
theorem ae_and (ha : AE X W a ta ra) (hb : AE X W (.BoolOp .And (b :: rest) pos) tb rb) : AE X W (.BoolOp .And (a :: b :: rest) pos) (tAndV ta tb) (fun Γ ms k x => ra Γ ms (fun u ms1 => asB (fun z => if z = true then rb Γ ms1 k x else k (.d (.bl false)) ms1) u) x) := by
  have p1 := ha.pe
  have h1 := ha.ok
  have p2 := hb.pe
  have h2 := hb.ok
  refine ⟨pe_and p1 p2, fun Γ ms k x h σ H G F Q ev g kk xw => ?_⟩
  refine h1 Γ ms _ x h σ H G F _ ev g (fun v H1 G1 sd ms1 e1 g1 s1 q1 => ?_) xw
  obtain ⟨b, eb, q⟩ := asB_ok s1 q1
  refine ⟨b, eb, ?_⟩
  cases b with
  | false => rw [if_neg Bool.false_ne_true] at q ⊢; exact kk _ _ _ _ _ e1 g1 (okd (.bl false)) q
  | true => rw [if_pos rfl] at q ⊢; exact h2 Γ ms1 k x q σ H1 G1 F Q (ev.mono e1) g1 (kk.mono e1) (xw.mono e1)
theorem ae_or (ha : AE X W a ta ra) (hb : AE X W (.BoolOp .Or (b :: rest) pos) tb rb) : AE X W (.BoolOp .Or (a :: b :: rest) pos) (tOrV ta tb) (fun Γ ms k x => ra Γ ms (fun u ms1 => asB (fun z => if z = true then k (.d (.bl true)) ms1 else rb Γ ms1 k x) u) x) := by
  have p1 := ha.pe
  have h1 := ha.ok
  have p2 := hb.pe
  have h2 := hb.ok
  refine ⟨pe_or p1 p2, fun Γ ms k x h σ H G F Q ev g kk xw => ?_⟩
  refine h1 Γ ms _ x h σ H G F _ ev g (fun v H1 G1 sd ms1 e1 g1 s1 q1 => ?_) xw
  obtain ⟨b, eb, q⟩ := asB_ok s1 q1
  refine ⟨b, eb, ?_⟩
  cases b with
  | true => rw [if_pos rfl] at q ⊢; exact kk _ _ _ _ _ e1 g1 (okd (.bl true)) q
  | false => rw [if_neg Bool.false_ne_true] at q ⊢; exact h2 Γ ms1 k x q σ H1 G1 F Q (ev.mono e1) g1 (kk.mono e1) (xw.mono e1)
theorem ae_not (ha : AE X W a ta ra) : AE X W (.UnaryOp .Not a pos) (tNotV ta) (fun Γ ms k x => ra Γ ms (fun u ms1 => asB (fun z => k (.d (.bl (!z))) ms1) u) x) := by
  have p1 := ha.pe
  have h1 := ha.ok
  refine ⟨pe_not p1, fun Γ ms k x h σ H G F Q ev g kk xw => ?_⟩
  refine h1 Γ ms _ x h σ H G F _ ev g (fun v H1 G1 sd ms1 e1 g1 s1 q1 => ?_) xw
  obtain ⟨b, eb, q⟩ := asB_ok s1 q1
  exact ⟨b, eb, kk _ _ _ _ _ e1 g1 (okd (.bl _)) q⟩
theorem ae_ifE (hc : AT X W c ua sa) (ha : AE X W a ta ra) (hb : AE X W b tb rb) : AE X W (.IfExp c a b pos) (tIf ua ta tb) (fun Γ ms k x => sa Γ ms (fun z ms1 => if z = true then ra Γ ms1 k x else rb Γ ms1 k x) x) := by
  have p0 := hc.pe
  have h0 := hc.ok
  have p1 := ha.pe
  have h1 := ha.ok
  have p2 := hb.pe
  have h2 := hb.ok
  refine ⟨pe_ifExp p0 p1 p2, fun Γ ms k x h σ H G F Q ev g kk xw => ?_⟩
  refine h0 Γ ms _ x h σ H G F _ ev g (fun v H1 G1 ms1 e1 g1 q1 => ?_) xw
  cases v with
  | true => rw [if_pos rfl] at q1 ⊢; exact h1 Γ ms1 k x q1 σ H1 G1 F Q (ev.mono e1) g1 (kk.mono e1) (xw.mono e1)
  | false => rw [if_neg Bool.false_ne_true] at q1 ⊢; exact h2 Γ ms1 k x q1 σ H1 G1 F Q (ev.mono e1) g1 (kk.mono e1) (xw.mono e1)
end
end AL

/-! ## AbsC -/
set_option Elab.async false
set_option linter.all false
set_option maxRecDepth 100000
set_option maxHeartbeats 2000000
namespace AL
open PySem PySem.Spec PyProof.Rows L2
open Evl (Ex)

/-! ### data as the library has them -/
mutual
def D.py : D → PyData
  | .non => .none
  | .bl b => .bool b
  | .int i => .int i
  | .str x => .str x
  | .tup l => .tuple (pyL l)
  | .lst l => .list (pyL l)
  | .frl l => .list (pyL l)
  | .ins _ _ => .none
def pyL : List D → List PyData
  | [] => []
  | d :: r => d.py :: pyL r
end
theorem pyL_map : ∀ l : List D, pyL l = l.map D.py
  | [] => by simp [pyL]
  | d :: r => by simp [pyL, pyL_map r]
mutual
/-- no instance within, at most so deep, the texts' signs are signs -/
def D.fit : D → Nat → Bool
  | .non, _ => true
  | .bl _, _ => true
  | .int _, _ => true
  | .str x, _ => x.cps.all (· < 0x110000)
  | .tup l, n => match n with
    | 0 => false
    | m + 1 => fitL l m
  | .lst l, n => match n with
    | 0 => false
    | m + 1 => fitL l m
  | .frl l, n => match n with
    | 0 => false
    | m + 1 => fitL l m
  | .ins _ _, _ => false
def fitL : List D → Nat → Bool
  | [], _ => true
  | d :: r, n => d.fit n && fitL r n
end
theorem fitL_all : ∀ (l : List D) (n : Nat), fitL l n = l.all fun d => d.fit n
  | [], _ => by simp [fitL]
  | d :: r, n => by simp [fitL, fitL_all r n]
mutual
theorem D.fit_lay : ∀ (d : D) (n : Nat), d.fit n = true → d.py.canLay0 = true ∧ d.py.depth ≤ n
  | .non, n, _ => by simp [D.py, PyData.canLay0, PyData.depth]
  | .bl _, n, _ => by simp [D.py, PyData.canLay0, PyData.depth]
  | .int _, n, _ => by simp [D.py, PyData.canLay0, PyData.depth]
  | .str x, n, h => by
    simp only [D.fit] at h
    simp [D.py, PyData.canLay0, PyData.depth, PyData.strOk, h]
  | .tup l, 0, h => by simp [D.fit] at h
  | .lst l, 0, h => by simp [D.fit] at h
  | .frl l, 0, h => by simp [D.fit] at h
  | .tup l, m + 1, h => by
    simp only [D.fit] at h
    have := fitL_lay l m h
    simp only [D.py, PyData.canLay0, PyData.depth]
    exact ⟨this.1, by omega⟩
  | .lst l, m + 1, h => by
    simp only [D.fit] at h
    have := fitL_lay l m h
    simp only [D.py, PyData.canLay0, PyData.depth]
    exact ⟨this.1, by omega⟩
  | .frl l, m + 1, h => by
    simp only [D.fit] at h
    have := fitL_lay l m h
    simp only [D.py, PyData.canLay0, PyData.depth]
    exact ⟨this.1, by omega⟩
  | .ins _ _, n, h => by simp [D.fit] at h
theorem fitL_lay : ∀ (l : List D) (n : Nat), fitL l n = true → PyData.canLayAll0 (pyL l) = true ∧ PyData.depthAll (pyL l) ≤ n
  | [], n, _ => by simp [pyL, PyData.canLayAll0, PyData.depthAll]
  | d :: r, n, h => by
    simp only [fitL, Bool.and_eq_true] at h
    have h1 := D.fit_lay d n h.1
    have h2 := fitL_lay r n h.2
    simp only [pyL, PyData.canLayAll0, PyData.depthAll, h1.1, h2.1, Bool.and_self, true_and]
    omega
end
theorem D.fit_shaped {d : D} (h : d.fit 64 = true) : SeqAt.shaped d.py = true := by
  obtain ⟨h1, h2⟩ := D.fit_lay d 64 h
  unfold SeqAt.shaped
  rw [h1, decide_eq_true h2]; rfl
mutual
theorem Shw.dp {K : PySem.W.Frag} {G H : Hp} (e : Ex G H) : ∀ {d : D} {v : V} {n : Nat}, Shw G v d → d.fit n = true → Dp K H v d.py
  | .non, _, _, h, _ => by cases h; simp only [D.py]; exact .non
  | .bl _, _, _, h, _ => by cases h; simp only [D.py]; exact .bl _
  | .int _, _, _, h, _ => by cases h; simp only [D.py]; exact .int _
  | .str _, _, _, h, _ => by cases h; simp only [D.py]; exact .str _
  | .tup l, _, n, h, f => by
    cases h with
    | tup a b =>
      simp only [D.py]
      cases n with
      | zero => simp [D.fit] at f
      | succ n => exact .tup (Evl.st_of (e _ _ a)) (ShwL.dp e b (n := n) (by simpa only [D.fit] using f))
  | .lst l, _, n, h, f => by
    cases h with
    | lst a b =>
      simp only [D.py]
      cases n with
      | zero => simp [D.fit] at f
      | succ n => exact .lst (Evl.sq_of (e _ _ a)) (ShwL.dp e b (n := n) (by simpa only [D.fit] using f))
  | .frl l, _, n, h, f => by
    cases h with
    | frl a b =>
      simp only [D.py]
      cases n with
      | zero => simp [D.fit] at f
      | succ n => exact .lst (.inl (.inr ⟨_, e _ _ a⟩)) (ShwL.dp e b (n := n) (by simpa only [D.fit] using f))
  | .ins _ _, _, _, _, f => by simp [D.fit] at f
theorem ShwL.dp {K : PySem.W.Frag} {G H : Hp} (e : Ex G H) : ∀ {l : List D} {v : List V} {n : Nat}, ShwL G v l → fitL l n = true → DpAll K H v (pyL l)
  | [], _, _, h, _ => by cases h; simp only [pyL]; exact .nil
  | d :: r, _, n, h, f => by
    cases h with
    | cons a b =>
      simp only [pyL]
      simp only [fitL, Bool.and_eq_true] at f
      exact .cons (Shw.dp e a f.1) (ShwL.dp e b f.2)
end
def D.eqv (a b : D) : Bool := PyData.eqv a.py b.py
theorem eqv_int (i j : Int) : D.eqv (.int i) (.int j) = decide (i = j) := by
  simp only [D.eqv, D.py, PyData.eqv]
  exact Bool.beq_eq_decide_eq i j
theorem eqv_str (i j : Str) : D.eqv (.str i) (.str j) = decide (i = j) := by
  simp [D.eqv, D.py, PyData.eqv]
  by_cases h : i = j
  · subst h; simp
  · simp [h]

/-! ### arithmetic -/
def lstOf (ms : MS) : SD → Option (List D)
  | .d (.lst ds) => some ds
  | .v (.ref p) => match ms p with
    | some (.l ds) => some ds
    | _ => none
  | _ => none
theorem lstOf_ok {H G F : Hp} {ms : MS} (g : Good H G F ms) {u : V} {sd : SD} {ds : List D} (s : SOk G u sd) (e : lstOf ms sd = some ds) : ∃ a vs, u = .ref a ∧ H a = some (.lst vs) ∧ ShwL G vs ds := by
  unfold lstOf at e
  split at e
  · cases e
    cases s with
    | lst h t => exact ⟨_, _, rfl, g.ex _ _ h, t⟩
  · split at e
    · rename_i p _ _ q
      cases e
      obtain ⟨_, vs, h1, h2⟩ := g.ok p _ q
      exact ⟨p, vs, s, h1, h2⟩
    · cases e
  · cases e
def oAdd : AO2 := fun ms x y k => match x, y with
  | .d (.int i), .d (.int j) => k (.d (.int (i + j)))
  | .d (.str a), .d (.str b) => a.length + b.length ≤ sizeLine ∧ k (.d (.str (a ++ b)))
  | .d (.tup a), .d (.tup b) => a.length + b.length ≤ sizeLine ∧ k (.d (.tup (a ++ b)))
  | x, y => ∃ a b, lstOf ms x = some a ∧ lstOf ms y = some b ∧ a.length + b.length ≤ sizeLine ∧ k (.d (.lst (a ++ b)))
abbrev rAddA (K : PySem.W.Frag) : R2 := fun x y H Q => rI0 (fun i j => .int (i + j)) x y H Q ∨ (∃ i j, x = .str i ∧ y = .str j ∧ i.length + j.length ≤ sizeLine ∧ Q (.str (i ++ j)) H) ∨ rCatA K x y H Q ∨ rCat x y H Q
theorem op_addA {X : Cx} : OpR X (binaryOp .Add) (rAddA X.K) := op_add.or (op_add_str.or (op_catA.or op_cat))
theorem oa_add {K : PySem.W.Frag} : OpA (rAddA K) oAdd := by
  intro ms x y k h v u H G F Q g sx sy kz
  unfold oAdd at h
  split at h
  · cases sx; cases sy
    exact .inl ⟨_, _, rfl, rfl, kz.here g (okd (.int _)) h⟩
  · cases sx; cases sy
    exact .inr (.inl ⟨_, _, rfl, rfl, h.1, kz.here g (okd (.str _)) h.2⟩)
  · cases sx with
    | tup a1 a2 =>
    cases sy with
    | tup b1 b2 =>
    have l1 := a2.length
    have l2 := b2.length
    refine .inr (.inr (.inl ⟨_, _, _, _, rfl, rfl, Evl.st_of (g.ex _ _ a1), Evl.st_of (g.ex _ _ b1), by rw [l1, l2]; exact h.1, fun e => ?_, fun _ e => ?_, fun _ _ => kz.tup g (a2.append b2) h.2⟩))
    · subst e; cases a2; exact kz.here g (okd (.tup b1 b2)) h.2
    · subst e; cases b2; exact kz.here g (okd (.tup a1 a2)) (by have := h.2; rw [List.append_nil] at this; exact this)
  · obtain ⟨a, b, ea, eb, hz, q⟩ := h
    obtain ⟨p, vs, rfl, h1, h2⟩ := lstOf_ok g sx ea
    obtain ⟨p2, vs2, rfl, h3, h4⟩ := lstOf_ok g sy eb
    exact .inr (.inr (.inr ⟨_, _, _, _, rfl, rfl, h1, h3, by rw [h2.length, h4.length]; exact hz, kz.lst g (h2.append h4) q⟩))
/-- two ints -/
def oI (C : Int → Int → Prop) (f : Int → Int → D) : AO2 := fun _ x y k => match x, y with
  | .d (.int i), .d (.int j) => C i j ∧ k (.d (f i j))
  | _, _ => False
def oI0 (f : Int → Int → D) : AO2 := fun _ x y k => match x, y with
  | .d (.int i), .d (.int j) => k (.d (f i j))
  | _, _ => False
theorem oa_I {C : Int → Int → Prop} {f : Int → Int → V} {f' : Int → Int → D} (hf : ∀ G i j, Shw G (f i j) (f' i j)) : OpA (rI C f) (oI C f') := by
  intro ms x y k h v u H G F Q g sx sy kz
  unfold oI at h
  split at h
  · cases sx; cases sy
    exact ⟨_, _, rfl, rfl, h.1, kz.here g (okd (hf _ _ _)) h.2⟩
  · exact h.elim
theorem oa_I0 {f : Int → Int → V} {f' : Int → Int → D} (hf : ∀ G i j, Shw G (f i j) (f' i j)) : OpA (rI0 f) (oI0 f') := by
  intro ms x y k h v u H G F Q g sx sy kz
  unfold oI0 at h
  split at h
  · cases sx; cases sy
    exact ⟨_, _, rfl, rfl, kz.here g (okd (hf _ _ _)) h⟩
  · exact h.elim
abbrev oSub : AO2 := oI0 fun i j => .int (i - j)
abbrev oMul : AO2 := oI CMul fun i j => .int (i * j)
abbrev oDiv : AO2 := oI CDiv fun i j => .int (i / j)
abbrev oMod : AO2 := oI (fun _ j => 0 < j) fun i j => .int (i % j)
abbrev oPow : AO2 := oI CPow fun i j => .int (i ^ j.toNat)
abbrev oShl : AO2 := oI CPow fun i j => .int (i * 2 ^ j.toNat)
abbrev oShr : AO2 := oI (fun _ j => 0 ≤ j) fun i j => .int (i / 2 ^ j.toNat)
abbrev oAnd : AO2 := oI0 fun i j => .int (Builtin.bitAnd i j)
abbrev oGt : AO2 := oI0 fun i j => .bl (decide (j < i))
abbrev oLe : AO2 := oI0 fun i j => .bl (decide (i ≤ j))
abbrev oGe : AO2 := oI0 fun i j => .bl (decide (j ≤ i))
theorem oa_sub : OpA (rI0 fun i j => .int (i - j)) oSub := oa_I0 fun _ _ _ => .int _
theorem oa_mul : OpA (rI CMul fun i j => .int (i * j)) oMul := oa_I fun _ _ _ => .int _
theorem oa_div : OpA (rI CDiv fun i j => .int (i / j)) oDiv := oa_I fun _ _ _ => .int _
theorem oa_mod : OpA (rI (fun _ j => 0 < j) fun i j => .int (i % j)) oMod := oa_I fun _ _ _ => .int _
theorem oa_pow : OpA (rI CPow fun i j => .int (i ^ j.toNat)) oPow := oa_I fun _ _ _ => .int _
theorem oa_shl : OpA (rI CPow fun i j => .int (i * 2 ^ j.toNat)) oShl := oa_I fun _ _ _ => .int _
theorem oa_shr : OpA (rI (fun _ j => 0 ≤ j) fun i j => .int (i / 2 ^ j.toNat)) oShr := oa_I fun _ _ _ => .int _
theorem oa_and : OpA (rI0 fun i j => .int (Builtin.bitAnd i j)) oAnd := oa_I0 fun _ _ _ => .int _
theorem oa_gt : OpA (rI0 fun i j => .bl (decide (j < i))) oGt := oa_I0 fun _ _ _ => .bl _
theorem oa_le : OpA (rI0 fun i j => .bl (decide (i ≤ j))) oLe := oa_I0 fun _ _ _ => .bl _
theorem oa_ge : OpA (rI0 fun i j => .bl (decide (j ≤ i))) oGe := oa_I0 fun _ _ _ => .bl _
def oNeg : AO1 := fun _ x k => match x with
  | .d (.int i) => k (.d (.int (-i)))
  | _ => False
theorem oa_neg : UnA (rU fun i => .int (-i)) oNeg := by
  intro ms x k h v H G F Q g sx kz
  unfold oNeg at h
  split at h
  · cases sx; exact ⟨_, rfl, kz.here g (okd (.int _)) h⟩
  · exact h.elim

/-! ### comparisons -/
theorem scal_int (i j : Int) : scal (.int i) (.int j) = true := rfl
def oEq (neg : Bool) : AO2 := fun _ x y k => match x, y with
  | .d (.int i), .d (.int j) => k (.d (.bl (neg ^^ decide (i = j))))
  | .d (.str i), .d (.str j) => k (.d (.bl (neg ^^ decide (i = j))))
  | .d a, .d b => a.fit 64 = true ∧ b.fit 64 = true ∧ k (.d (.bl (neg ^^ a.eqv b)))
  | _, _ => False
theorem oEq_deep {neg : Bool} {ms : MS} {a b : D} {k : SD → Prop} (ha : a.fit 64 = true) (hb : b.fit 64 = true) (h : k (.d (.bl (neg ^^ a.eqv b)))) : oEq neg ms (.d a) (.d b) k := by
  unfold oEq
  split
  · rename_i e1 e2; cases e1; cases e2; rw [eqv_int] at h; exact h
  · rename_i e1 e2; cases e1; cases e2; rw [eqv_str] at h; exact h
  · rename_i e1 e2; cases e1; cases e2; exact ⟨ha, hb, h⟩
  · rename_i h1 h2 h3; exact h3 _ _ rfl rfl
abbrev rEqA (K : PySem.W.Frag) : R2 := fun x y H Q => rEq x y H Q ∨ rEqD K x y H Q
abbrev rNeA (K : PySem.W.Frag) : R2 := fun x y H Q => rNe x y H Q ∨ rNeD K x y H Q
theorem op_eqA {X : Cx} (hu : X.A.units + 64 < cLine) : OpR X (compareOp .Eq) (rEqA X.K) := op_eq.or (op_eqD hu)
theorem op_neA {X : Cx} (hu : X.A.units + 64 < cLine) : OpR X (compareOp .NotEq) (rNeA X.K) := op_ne.or (op_neD hu)
theorem dec_vint (i j : Int) : decide (V.int i = V.int j) = decide (i = j) := by simp
theorem dec_vstr (i j : Str) : decide (V.str i = V.str j) = decide (i = j) := by simp
theorem oa_eq {K : PySem.W.Frag} : OpA (rEqA K) (oEq false) := by
  intro ms x y k h v u H G F Q g sx sy kz
  unfold oEq at h
  split at h
  · cases sx; cases sy
    exact .inl ⟨rfl, by rw [dec_vint]; exact kz.here g (okd (.bl _)) (by rw [Bool.false_xor] at h; exact h)⟩
  · cases sx; cases sy
    exact .inl ⟨rfl, by rw [dec_vstr]; exact kz.here g (okd (.bl _)) (by rw [Bool.false_xor] at h; exact h)⟩
  · exact .inr ⟨_, _, Shw.dp g.ex sx h.1, Shw.dp g.ex sy h.2.1, D.fit_shaped h.1, D.fit_shaped h.2.1, kz.here g (okd (.bl _)) (by have := h.2.2; rw [Bool.false_xor] at this; exact this)⟩
  · exact h.elim
theorem oa_ne {K : PySem.W.Frag} : OpA (rNeA K) (oEq true) := by
  intro ms x y k h v u H G F Q g sx sy kz
  unfold oEq at h
  split at h
  · cases sx; cases sy
    exact .inl ⟨rfl, by rw [dec_vint]; exact kz.here g (okd (.bl _)) (by rw [Bool.true_xor] at h; exact h)⟩
  · cases sx; cases sy
    exact .inl ⟨rfl, by rw [dec_vstr]; exact kz.here g (okd (.bl _)) (by rw [Bool.true_xor] at h; exact h)⟩
  · exact .inr ⟨_, _, Shw.dp g.ex sx h.1, Shw.dp g.ex sy h.2.1, D.fit_shaped h.1, D.fit_shaped h.2.1, kz.here g (okd (.bl _)) (by have := h.2.2; rw [Bool.true_xor] at this; exact this)⟩
  · exact h.elim
/-- < of data of one shape -/
def D.lt (a b : D) : Bool := PySem.W.dataLt a.py b.py
def oLt : AO2 := fun _ x y k => match x, y with
  | .d (.int i), .d (.int j) => k (.d (.bl (decide (i < j))))
  | .d a, .d b => a.fit 64 = true ∧ b.fit 64 = true ∧ PySem.W.alike a.py b.py = true ∧ a.py ≠ .none ∧ k (.d (.bl (a.lt b)))
  | _, _ => False
def rLtD (K : PySem.W.Frag) : R2 := fun x y H Q => ∃ d e, Dp K H x d ∧ Dp K H y e ∧ SeqAt.shaped d = true ∧ SeqAt.shaped e = true ∧ PySem.W.alike d e = true ∧ d ≠ .none ∧ Q (.bl (PySem.W.dataLt d e)) H
theorem op_ltD {X : Cx} (hu : X.A.units + 64 < cLine) : OpR X (compareOp .Lt) (rLtD X.K) := by
  intro pins s σ H x y v u Q I rx ry h
  obtain ⟨d, e, hd, he, sd, se, al, hn, q⟩ := h
  obtain ⟨as, r1⟩ := Dp.reads I d x v hd rx
  obtain ⟨bs, r2⟩ := Dp.reads I e y u he ry
  exact PySem.W.rcLt_alike d e X.A s v u as bs r1 r2 al hn (SeqAt.room_of_shaped sd hu) X.prog X.w X.xe _ ⟨.bl _, H, I, rfl, q⟩
abbrev rLtA (K : PySem.W.Frag) : R2 := fun x y H Q => rI0 (fun i j => .bl (decide (i < j))) x y H Q ∨ rLtD K x y H Q
theorem op_ltA {X : Cx} (hu : X.A.units + 64 < cLine) : OpR X (compareOp .Lt) (rLtA X.K) := op_lt.or (op_ltD hu)
theorem oa_lt {K : PySem.W.Frag} : OpA (rLtA K) oLt := by
  intro ms x y k h v u H G F Q g sx sy kz
  unfold oLt at h
  split at h
  · cases sx; cases sy
    exact .inl ⟨_, _, rfl, rfl, kz.here g (okd (.bl _)) h⟩
  · exact .inr ⟨_, _, Shw.dp g.ex sx h.1, Shw.dp g.ex sy h.2.1, D.fit_shaped h.1, D.fit_shaped h.2.1, h.2.2.1, h.2.2.2.1, kz.here g (okd (.bl _)) h.2.2.2.2⟩
  · exact h.elim
/-- is None, is not None -/
def D.isNon : D → Bool
  | .non => true
  | _ => false
def SD.isNon : SD → Bool
  | .d q => q.isNon
  | .v q => decide (q = .non)
  | .e _ _ _ _ _ => false
theorem isNon_ok {G : Hp} {v : V} : ∀ {sd : SD}, SOk G v sd → decide (v = .non) = sd.isNon
  | .d _, s => by cases s <;> rfl
  | .v _, s => by cases s; rfl
  | .e _ _ _ _ _, s => by obtain ⟨e, _⟩ := s; subst e; rfl
def oIsN (neg : Bool) : AO2 := fun _ x y k => match y with
  | .d .non => k (.d (.bl (neg ^^ x.isNon)))
  | _ => False
theorem oa_isN : OpA (fun x y H Q => y = .non ∧ Q (.bl (decide (x = .non))) H) (oIsN false) := by
  intro ms x y k h v u H G F Q g sx sy kz
  unfold oIsN at h
  split at h
  · cases sy
    refine ⟨rfl, ?_⟩
    rw [isNon_ok sx]
    exact kz.here g (okd (.bl _)) (by rw [Bool.false_xor] at h; exact h)
  · exact h.elim
theorem oa_notN : OpA (fun x y H Q => y = .non ∧ Q (.bl (!decide (x = .non))) H) (oIsN true) := by
  intro ms x y k h v u H G F Q g sx sy kz
  unfold oIsN at h
  split at h
  · cases sy
    refine ⟨rfl, ?_⟩
    rw [isNon_ok sx]
    exact kz.here g (okd (.bl _)) (by rw [Bool.true_xor] at h; exact h)
  · exact h.elim

/-! ### keys of dicts -/
def D.key1 : D → Option Key
  | .int i => some (.inl i)
  | .str x => some (.inr x)
  | _ => none
def keysOf : List D → Option (List Key)
  | [] => some []
  | d :: r => match d.key1, keysOf r with
    | some k, some ks => some (k :: ks)
    | _, _ => none
theorem key1_ok {G : Hp} {v : V} : ∀ {d : D} {k : Key}, Shw G v d → d.key1 = some k → v = kV k
  | .int _, _, s, e => by cases s; cases e; rfl
  | .str _, _, s, e => by cases s; cases e; rfl
  | .non, _, _, e => by cases e
  | .bl _, _, _, e => by cases e
  | .tup _, _, _, e => by cases e
  | .lst _, _, _, e => by cases e
  | .frl _, _, _, e => by cases e
  | .ins _ _, _, _, e => by cases e
theorem keysOf_ok {G : Hp} : ∀ {ds : List D} {vs : List V} {ks : List Key}, ShwL G vs ds → keysOf ds = some ks → vs = ks.map kV
  | [], _, _, s, e => by cases s; cases e; rfl
  | d :: r, _, _, s, e => by
    cases s with
    | cons a b =>
      unfold keysOf at e
      split at e
      · rename_i k ks e1 e2
        cases e
        rw [key1_ok a e1, keysOf_ok b e2]; rfl
      · cases e
def valD {κ : Type} [DecidableEq κ] (kvs : List (κ × D)) (k : κ) : Option D := (kvs.find? fun kv => decide (kv.1 = k)).map (·.2)
def putKD {κ : Type} [DecidableEq κ] (kvs : List (κ × D)) (k : κ) (v : D) : List (κ × D) :=
  if (kvs.any fun kv => decide (kv.1 = k)) = true then kvs.map (fun kv => if kv.1 = k then (kv.1, v) else kv) else kvs ++ [(k, v)]
section
variable {κ : Type} [DecidableEq κ]
theorem KvS.val {G : Hp} {k : κ} : ∀ {us : List (κ × V)} {ks : List (κ × D)}, KvS κ G us ks → (valD ks k = none → valV us k = none) ∧ ∀ d, valD ks k = some d → ∃ v, valV us k = some v ∧ Shw G v d
  | [], _, .nil => ⟨fun _ => rfl, fun d e => by simp [valD] at e⟩
  | (q, v) :: us, (q', d') :: ks, .cons r t => by
    obtain ⟨e, s⟩ := r
    have e : q = q' := e
    subst e
    have ih := KvS.val (k := k) t
    unfold valD valV at *
    rw [List.find?_cons, List.find?_cons]
    by_cases h : q = k
    · simp only [h, decide_true, Option.map_some]
      exact ⟨fun z => (by cases z), fun d e => (by cases e; exact ⟨_, rfl, s⟩)⟩
    · simp only [h, decide_false]
      exact ih
theorem KvS.any {G : Hp} {k : κ} : ∀ {us : List (κ × V)} {ks : List (κ × D)}, KvS κ G us ks → (us.any fun kv => decide (kv.1 = k)) = ks.any fun kv => decide (kv.1 = k)
  | [], _, .nil => rfl
  | (q, v) :: us, (q', d') :: ks, .cons r t => by
    have e : q = q' := r.1
    subst e
    simp only [List.any_cons, KvS.any t]
theorem KvS.mapPut {G : Hp} {k : κ} {v : V} {d : D} (s : Shw G v d) : ∀ {us : List (κ × V)} {ks : List (κ × D)}, KvS κ G us ks → KvS κ G (us.map fun kv => if kv.1 = k then (kv.1, v) else kv) (ks.map fun kv => if kv.1 = k then (kv.1, d) else kv)
  | [], _, .nil => .nil
  | (q, v') :: us, (q', d') :: ks, .cons r t => by
    have e : q = q' := r.1
    subst e
    refine .cons ?_ (KvS.mapPut s t)
    show _ ∧ _
    dsimp only
    by_cases h : q = k
    · rw [if_pos h, if_pos h]; exact ⟨rfl, s⟩
    · rw [if_neg h, if_neg h]; exact r
theorem KvS.snoc {G : Hp} {k : κ} {v : V} {d : D} (s : Shw G v d) : ∀ {us : List (κ × V)} {ks : List (κ × D)}, KvS κ G us ks → KvS κ G (us ++ [(k, v)]) (ks ++ [(k, d)])
  | [], _, .nil => .cons ⟨rfl, s⟩ .nil
  | _ :: _, _ :: _, .cons r t => .cons r (KvS.snoc s t)
theorem KvS.put {G : Hp} {k : κ} {v : V} {d : D} (s : Shw G v d) {us : List (κ × V)} {ks : List (κ × D)} (h : KvS κ G us ks) : KvS κ G (putK us k v) (putKD ks k d) := by
  unfold putK putKD
  rw [h.any]
  split
  · exact h.mapPut s
  · exact h.snoc s
end
/-- what a dict of the store holds under a datum: none: no dict, or no key -/
def dLook (ms : MS) (x : SD) (y : SD) : Option (Option D) := match x, y with
  | .v (.ref p), .d (.tup ds) => match ms p, keysOf ds with
    | some (.t kvs), some ks => some (valD kvs ks)
    | _, _ => none
  | .v (.ref p), .d d => match ms p, d.key1 with
    | some (.k kvs), some k => some (valD kvs k)
    | _, _ => none
  | _, _ => none
theorem dLook_ok {H G F : Hp} {ms : MS} (g : Good H G F ms) {x y : SD} {v u : V} {o : Option D} (sx : SOk G v x) (sy : SOk G u y) (e : dLook ms x y = some o) : ∃ a ov, v = .ref a ∧ DGet H a u ov ∧ (o = none → ov = none) ∧ ∀ d, o = some d → ∃ w, ov = some w ∧ Shw G w d := by
  unfold dLook at e
  split at e
  · rename_i p ds
    split at e
    · rename_i kvs ks e1 e2
      cases e
      obtain ⟨_, us, h1, h2⟩ := g.ok p _ e1
      cases sy with
      | tup b1 b2 =>
        have ek := keysOf_ok b2 e2
        subst ek
        exact ⟨p, _, sx, DGet.t h1 (g.ex _ _ b1), (h2.val (k := ks)).1, (h2.val (k := ks)).2⟩
    · cases e
  · rename_i p d hn
    split at e
    · rename_i kvs k e1 e2
      cases e
      obtain ⟨_, us, h1, h2⟩ := g.ok p _ e1
      rw [key1_ok sy e2]
      exact ⟨p, _, sx, DGet.k h1, (h2.val (k := k)).1, (h2.val (k := k)).2⟩
    · cases e
  · cases e

/-! ### in -/
def oIn (neg : Bool) : AO2 := fun ms x y k =>
  (∃ ds a, seqOf ms y = some ds ∧ x = .d a ∧ a.fit 64 = true ∧ fitL ds 63 = true ∧ k (.d (.bl (neg ^^ ds.any fun z => z.eqv a)))) ∨
  (∃ c z, x = .d (.str ⟨#[c]⟩) ∧ y = .d (.str z) ∧ k (.d (.bl (neg ^^ decide (c ∈ z.cps.toList))))) ∨
  (∃ o, dLook ms y x = some o ∧ k (.d (.bl (neg ^^ o.isSome))))
def rInT (K : PySem.W.Frag) (neg : Bool) : R2 := fun x y H Q => ∃ d ds, Dp K H x d ∧ Dp K H y (.tuple ds) ∧ SeqAt.shaped d = true ∧ SeqAt.shaped (.tuple ds) = true ∧ Q (.bl (neg ^^ ds.any fun z => PyData.eqv z d)) H
theorem op_inT {X : Cx} (hu : X.A.units + 65 < cLine) : OpR X (compareOp .In) (rInT X.K false) := by
  intro pins s σ H x y v u Q I rx ry h
  obtain ⟨d, ds, hd, he, sd, se, q⟩ := h
  obtain ⟨as, r1⟩ := Dp.reads I d x v hd rx
  obtain ⟨bs, r2⟩ := Dp.reads I (.tuple ds) y u he ry
  exact SeqAt.in_tuple_reads r2 r1 (SeqAt.canLay_of_shaped se) (SeqAt.canLay_of_shaped sd) (room_in_shaped sd hu) ⟨.bl _, H, I, rfl, by rw [Bool.false_xor] at q; exact q⟩
theorem op_notInT {X : Cx} (hu : X.A.units + 65 < cLine) : OpR X (compareOp .NotIn) (rInT X.K true) := by
  intro pins s σ H x y v u Q I rx ry h
  obtain ⟨d, ds, hd, he, sd, se, q⟩ := h
  obtain ⟨as, r1⟩ := Dp.reads I d x v hd rx
  obtain ⟨bs, r2⟩ := Dp.reads I (.tuple ds) y u he ry
  exact SeqAt.notIn_tuple_reads r2 r1 (SeqAt.canLay_of_shaped se) (SeqAt.canLay_of_shaped sd) (room_in_shaped sd hu) ⟨.bl _, H, I, rfl, by rw [Bool.true_xor] at q; exact q⟩
def rInDict (neg : Bool) : R2 := fun x y H Q => ∃ a o, y = .ref a ∧ DGet H a x o ∧ Q (.bl (neg ^^ o.isSome)) H
theorem op_inDict {X : Cx} (hu : X.A.units + 1 < cLine) : OpR X (compareOp .In) (rInDict false) := by
  intro pins s σ H x y v u Q I rx ry h
  obtain ⟨a, o, rfl, g, q⟩ := h
  obtain rfl : u = Value.ref a := ry
  exact d_in hu I g rx fun s3 I3 => ⟨.bl o.isSome, H, I3, rfl, by rw [Bool.false_xor] at q; exact q⟩
theorem op_notInDict {X : Cx} (hu : X.A.units + 1 < cLine) : OpR X (compareOp .NotIn) (rInDict true) := by
  intro pins s σ H x y v u Q I rx ry h
  obtain ⟨a, o, rfl, g, q⟩ := h
  obtain rfl : u = Value.ref a := ry
  exact d_notIn hu I g rx fun s3 I3 => ⟨.bl (!o.isSome), H, I3, rfl, by rw [Bool.true_xor] at q; exact q⟩
abbrev rInA (K : PySem.W.Frag) : R2 := fun x y H Q => rInD K x y H Q ∨ rInT K false x y H Q ∨ (∃ (c : Nat) (z : Str), x = .str ⟨#[c]⟩ ∧ y = .str z ∧ Q (.bl (decide (c ∈ z.cps.toList))) H) ∨ rInDict false x y H Q
abbrev rNinA (K : PySem.W.Frag) : R2 := fun x y H Q => rNotInD K x y H Q ∨ rInT K true x y H Q ∨ (∃ (c : Nat) (z : Str), x = .str ⟨#[c]⟩ ∧ y = .str z ∧ Q (.bl (!decide (c ∈ z.cps.toList))) H) ∨ rInDict true x y H Q
theorem op_inA {X : Cx} (hu : X.A.units + 65 < cLine) : OpR X (compareOp .In) (rInA X.K) := (op_inD hu).or ((op_inT hu).or (op_in_sign.or (op_inDict (by omega))))
theorem op_ninA {X : Cx} (hu : X.A.units + 65 < cLine) : OpR X (compareOp .NotIn) (rNinA X.K) := (op_notInD hu).or ((op_notInT hu).or (op_notIn_sign.or (op_notInDict (by omega))))
theorem any_py (l : List D) (a : D) : ((pyL l).any fun z => PyData.eqv z a.py) = l.any fun z => z.eqv a := by
  rw [pyL_map, List.any_map]; rfl
theorem seq_dp {K : PySem.W.Frag} {H G F : Hp} {ms : MS} (g : Good H G F ms) {u : V} {sd : SD} {ds : List D} (s : SOk G u sd) (e : seqOf ms sd = some ds) (f : fitL ds 63 = true) : Dp K H u (.list (pyL ds)) ∨ Dp K H u (.tuple (pyL ds)) := by
  obtain ⟨a, vs, rfl, h1, h2⟩ := seqOf_ok (K := K) g s e
  rcases h1 with h1 | h1
  · exact .inl (.lst h1 (h2.dp g.ex f))
  · exact .inr (.tup h1 (h2.dp g.ex f))
theorem shaped_seq {ds : List D} (f : fitL ds 63 = true) : SeqAt.shaped (.list (pyL ds)) = true ∧ SeqAt.shaped (.tuple (pyL ds)) = true := by
  obtain ⟨h1, h2⟩ := fitL_lay ds 63 f
  unfold SeqAt.shaped
  simp only [PyData.canLay0, PyData.depth, h1, Bool.true_and]
  exact ⟨decide_eq_true (by omega), decide_eq_true (by omega)⟩
theorem oa_in {K : PySem.W.Frag} : OpA (rInA K) (oIn false) := by
  intro ms x y k h v u H G F Q g sx sy kz
  rcases h with ⟨ds, a, e, rfl, fa, fd, q⟩ | ⟨c, z, rfl, rfl, q⟩ | ⟨o, e, q⟩
  · have q' := kz.here g (okd (.bl _)) q
    rcases seq_dp (K := K) g sy e fd with h | h
    · exact .inl ⟨_, _, Shw.dp g.ex sx fa, h, D.fit_shaped fa, (shaped_seq fd).1, by rw [any_py, ← Bool.false_xor (ds.any _)]; exact q'⟩
    · exact .inr (.inl ⟨_, _, Shw.dp g.ex sx fa, h, D.fit_shaped fa, (shaped_seq fd).2, by rw [any_py]; exact q'⟩)
  · cases sx; cases sy
    exact .inr (.inr (.inl ⟨c, z, rfl, rfl, kz.here g (okd (.bl _)) (by rw [Bool.false_xor] at q; exact q)⟩))
  · obtain ⟨a, ov, rfl, dg, h0, h1⟩ := dLook_ok g sy sx e
    refine .inr (.inr (.inr ⟨a, ov, rfl, dg, ?_⟩))
    have eo : ov.isSome = o.isSome := by
      cases o with
      | none => rw [h0 rfl]; rfl
      | some d => obtain ⟨w, e, _⟩ := h1 d rfl; rw [e]; rfl
    rw [eo]
    exact kz.here g (okd (.bl _)) q
theorem oa_nin {K : PySem.W.Frag} : OpA (rNinA K) (oIn true) := by
  intro ms x y k h v u H G F Q g sx sy kz
  rcases h with ⟨ds, a, e, rfl, fa, fd, q⟩ | ⟨c, z, rfl, rfl, q⟩ | ⟨o, e, q⟩
  · have q' := kz.here g (okd (.bl _)) q
    rcases seq_dp (K := K) g sy e fd with h | h
    · exact .inl ⟨_, _, Shw.dp g.ex sx fa, h, D.fit_shaped fa, (shaped_seq fd).1, by rw [any_py, ← Bool.true_xor (ds.any _)]; exact q'⟩
    · exact .inr (.inl ⟨_, _, Shw.dp g.ex sx fa, h, D.fit_shaped fa, (shaped_seq fd).2, by rw [any_py]; exact q'⟩)
  · cases sx; cases sy
    exact .inr (.inr (.inl ⟨c, z, rfl, rfl, kz.here g (okd (.bl _)) (by rw [Bool.true_xor] at q; exact q)⟩))
  · obtain ⟨a, ov, rfl, dg, h0, h1⟩ := dLook_ok g sy sx e
    refine .inr (.inr (.inr ⟨a, ov, rfl, dg, ?_⟩))
    have eo : ov.isSome = o.isSome := by
      cases o with
      | none => rw [h0 rfl]; rfl
      | some d => obtain ⟨w, e, _⟩ := h1 d rfl; rw [e]; rfl
    rw [eo]
    exact kz.here g (okd (.bl _)) q

/-! ### subscripts, slices -/
def rIxD : R2 := fun x y H Q => ∃ a v, x = .ref a ∧ DGet H a y (some v) ∧ Q v H
theorem ix_dict {X : Cx} (hu : X.A.units + 1 < cLine) : IxR X rIxD := by
  intro value slice pins s σ H x y v u Q I rx ry h hs
  obtain ⟨a, w, rfl, g, q⟩ := h
  obtain rfl : v = Value.ref a := rx
  exact tail_any (dict_typeIs I g) PySem.F.slot_dict_getitem.lookup (d_getItem hu I g ry fun w' s3 I3 rw' => ⟨w, H, I3, rw', q⟩) hs
abbrev rIxA (K : PySem.W.Frag) : R2 := fun x y H Q => rIx K x y H Q ∨ rIxD x y H Q
theorem ix_any {X : Cx} (hu : X.A.units + 1 < cLine) : IxR X (rIxA X.K) := ix_seq.or (ix_dict hu)
def oIx : AO2 := fun ms x y k =>
  (∃ ds i d, seqOf ms x = some ds ∧ y = .d (.int i) ∧ atI ds i = some d ∧ k (.d d)) ∨
  (∃ z i c, x = .d (.str z) ∧ y = .d (.int i) ∧ z.length ≤ sizeLine ∧ atI z.cps.toList i = some c ∧ k (.d (.str ⟨#[c]⟩))) ∨
  (∃ d, dLook ms x y = some (some d) ∧ k (.d d))
theorem oIx_seq {ms : MS} {x : SD} {ds : List D} {i : Int} {d : D} {k : SD → Prop} (h1 : seqOf ms x = some ds) (h2 : atI ds i = some d) (h : k (.d d)) : oIx ms x (.d (.int i)) k := .inl ⟨ds, i, d, h1, rfl, h2, h⟩
theorem atI_show {G : Hp} {vs : List V} {ds : List D} {i : Int} {d : D} (s : ShwL G vs ds) (h : atI ds i = some d) : ∃ v, atI vs i = some v ∧ Shw G v d := by
  unfold atI at *
  rw [s.length]
  cases e : ixN ds.length i with
  | none => rw [e] at h; cases h
  | some j =>
    rw [e] at h
    exact s.get h
theorem oa_ix {K : PySem.W.Frag} : OpA (rIxA K) oIx := by
  intro ms x y k h v u H G F Q g sx sy kz
  rcases h with ⟨ds, i, d, e, rfl, ha, q⟩ | ⟨z, i, c, rfl, rfl, hz, ha, q⟩ | ⟨d, e, q⟩
  · obtain ⟨a, vs, rfl, h1, h2⟩ := seqOf_ok (K := K) g sx e
    obtain ⟨w, h3, h4⟩ := atI_show h2 ha
    cases sy
    rcases h1 with h1 | h1
    · exact .inl (.inl ⟨a, vs, i, w, rfl, rfl, h1, h3, kz.here g (okd h4) q⟩)
    · exact .inl (.inr (.inl ⟨a, vs, i, w, rfl, rfl, h1, h3, kz.here g (okd h4) q⟩))
  · cases sx; cases sy
    exact .inl (.inr (.inr ⟨z, i, c, rfl, rfl, hz, ha, kz.here g (okd (.str _)) q⟩))
  · obtain ⟨a, ov, rfl, dg, h0, h1⟩ := dLook_ok g sx sy e
    obtain ⟨w, rfl, s⟩ := h1 d rfl
    exact .inr ⟨a, w, rfl, dg, kz.here g (okd s) q⟩
section
variable {X : Cx} {W : WX} {pos : Pos} {a b : Expr} {ra rb : AER} {ta tb : TE}
theorem ae_ix (hu : X.A.units + 1 < cLine) (ha : AE X W a ta ra) (hb : AE X W b tb rb) (hs : PlainIx b := by exact fun _ _ => rfl) :
    AE X W (.Subscript a b pos) (tOp (rIxA X.K) ta tb) (fun Γ ms k x => ra Γ ms (fun u ms1 => rb Γ ms1 (fun v ms2 => oIx ms2 u v fun z => k z ms2) x) x) := by
  have p1 := ha.pe
  have h1 := ha.ok
  have p2 := hb.pe
  have h2 := hb.ok
  refine ⟨pe_ix (ix_any hu) p1 p2 hs, fun Γ ms k x h σ H G F Q ev g kk xw => ?_⟩
  refine h1 Γ ms _ x h σ H G F _ ev g (fun v H1 G1 sd ms1 e1 g1 s1 q1 => ?_) xw
  refine h2 Γ ms1 _ x q1 σ H1 G1 F _ (ev.mono e1) g1 (fun u H2 G2 sd2 ms2 e2 g2 s2 q2 => ?_) (xw.mono e1)
  exact oa_ix ms2 _ _ _ q2 v u H2 G2 F Q g2 (s1.mono e2) s2 fun z H3 G3 sd3 e3 g3 s3 q3 => kk z H3 G3 sd3 ms2 ((e1.trans e2).trans e3) g3 s3 q3
end
def cutD (xs : List D) (lo hi : Option Int) : List D := (xs.drop (HT.sIx xs.length 0 lo)).take (HT.sIx xs.length xs.length hi - HT.sIx xs.length 0 lo)
theorem cut_show {G : Hp} {vs : List V} {ds : List D} {lo hi : Option Int} (s : ShwL G vs ds) : ShwL G (cutV vs lo hi) (cutD ds lo hi) := by
  unfold cutV cutD
  rw [s.length]
  exact (s.drop _).take _
def oSl (lo hi : Option Int) : AO1 := fun ms x k => match x with
  | .d (.str z) => z.length ≤ sizeLine ∧ k (.d (.str (cutS z lo hi)))
  | .d (.tup ds) => k (.d (.tup (cutD ds lo hi)))
  | x => ∃ ds, lstOf ms x = some ds ∧ k (.d (.lst (cutD ds lo hi)))
abbrev rSlAny (K : PySem.W.Frag) : V → Option Int → Option Int → Hp → VK → Prop := fun x lo hi H Q => rSlS x lo hi H Q ∨ rSlA K x lo hi H Q ∨ rSlL K x lo hi H Q
theorem SlR.or {X : Cx} {r r' : V → Option Int → Option Int → Hp → VK → Prop} (h : SlR X r) (h' : SlR X r') : SlR X (fun x lo hi H Q => r x lo hi H Q ∨ r' x lo hi H Q) := by
  intro pins s σ H x v vl vu lo hi sl Q I rx hs pl pu q
  rcases q with q | q
  · exact h pins s σ H x v vl vu lo hi sl Q I rx hs pl pu q
  · exact h' pins s σ H x v vl vu lo hi sl Q I rx hs pl pu q
theorem sl_any {X : Cx} : SlR X (rSlAny X.K) := SlR.or sl_str (SlR.or sl_tupA sl_list)
theorem oa_sl {K : PySem.W.Frag} (lo hi : Option Int) : UnA (fun x H Q => rSlAny K x lo hi H Q) (oSl lo hi) := by
  intro ms x k h v H G F Q g sx kz
  unfold oSl at h
  split at h
  · cases sx
    exact .inl ⟨_, rfl, h.1, kz.here g (okd (.str _)) h.2⟩
  · cases sx with
    | tup a1 a2 =>
      refine .inr (.inl ⟨_, _, rfl, Evl.st_of (g.ex _ _ a1), fun e => ?_, fun _ => kz.tup g (cut_show a2) h⟩)
      refine kz.here g (okd (.tup a1 a2)) ?_
      rw [a2.length] at e
      have ec : ∀ ds : List D, HT.sIx ds.length 0 lo = 0 ∧ HT.sIx ds.length ds.length hi = ds.length → cutD ds lo hi = ds := fun ds e => by
        unfold cutD; rw [e.1, e.2, List.drop_zero, Nat.sub_zero, List.take_length]
      rw [ec _ e] at h
      exact h
  · obtain ⟨ds, e, q⟩ := h
    obtain ⟨p, vs, rfl, h1, h2⟩ := lstOf_ok g sx e
    exact .inr (.inr ⟨p, vs, rfl, Evl.sq_of h1, kz.lst g (cut_show h2) q⟩)
abbrev AOR := Gam → MS → (Option Int → MS → Prop) → AX → Prop
def KO (G F : Hp) (k : Option Int → MS → Prop) (Q : Option Int → Hp → Prop) : Prop := ∀ b H2 G2 ms2, Ex G G2 → Good H2 G2 F ms2 → k b ms2 → Q b H2
structure AO (X : Cx) (W : WX) (e : Option Expr) (t : TO) (r : AOR) : Prop where
  pe : PO X e t
  ok : ∀ Γ ms k x, r Γ ms k x → ∀ σ H G F Q, EOk G σ Γ → Good H G F ms → KO G F k Q → XW W G F σ x → t σ H Q
section
variable {X : Cx} {W : WX} {pos p2 : Pos} {a b : Expr} {ra rb : AER} {ta tb : TE} {tl th : TO} {lo hi : Option Expr} {rl rh : AOR}
theorem ao_none : AO X W none tNoPart (fun _ ms k _ => k none ms) := ⟨po_none, fun _ _ _ _ h _ H G _ _ _ g kk _ => kk none H G _ (Ex.refl G) g h⟩
def asI (k : Int → Prop) : SD → Prop
  | .d (.int i) => k i
  | _ => False
theorem asI_ok {G : Hp} {v : V} {k : Int → Prop} {sd : SD} (s : SOk G v sd) (h : asI k sd) : ∃ i, v = .int i ∧ k i := by
  unfold asI at h
  split at h
  · cases s; exact ⟨_, rfl, h⟩
  · exact h.elim
theorem ao_some (h : AE X W a ta ra) : AO X W (some a) (tPart ta) (fun Γ ms k x => ra Γ ms (fun u ms1 => asI (fun i => k (some i) ms1) u) x) := by
  have p1 := h.pe
  have h1 := h.ok
  refine ⟨po_some p1, fun Γ ms k x h σ H G F Q ev g kk xw => ?_⟩
  refine h1 Γ ms _ x h σ H G F _ ev g (fun v H1 G1 sd ms1 e1 g1 s1 q1 => ?_) xw
  obtain ⟨i, rfl, q⟩ := asI_ok s1 q1
  exact ⟨i, rfl, kk _ _ _ _ e1 g1 q⟩
theorem ae_sl (ha : AE X W a ta ra) (hl : AO X W lo tl rl) (hh : AO X W hi th rh) :
    AE X W (.Subscript a (.Slice lo hi none p2) pos) (tSl (rSlAny X.K) ta tl th) (fun Γ ms k x => ra Γ ms (fun u ms1 => rl Γ ms1 (fun l ms2 => rh Γ ms2 (fun h ms3 => oSl l h ms3 u fun z => k z ms3) x) x) x) := by
  have p1 := ha.pe
  have h1 := ha.ok
  have p2 := hl.pe
  have h2 := hl.ok
  have p3 := hh.pe
  have h3 := hh.ok
  refine ⟨pe_slice sl_any p1 p2 p3, fun Γ ms k x h σ H G F Q ev g kk xw => ?_⟩
  refine h1 Γ ms _ x h σ H G F _ ev g (fun v H1 G1 sd ms1 e1 g1 s1 q1 => ?_) xw
  refine h2 Γ ms1 _ x q1 σ H1 G1 F _ (ev.mono e1) g1 (fun l H2 G2 ms2 e2 g2 q2 => ?_) (xw.mono e1)
  refine h3 Γ ms2 _ x q2 σ H2 G2 F _ ((ev.mono e1).mono e2) g2 (fun r H3 G3 ms3 e3 g3 q3 => ?_) ((xw.mono e1).mono e2)
  exact oa_sl l r ms3 _ _ q3 v H3 G3 F Q g3 ((s1.mono e2).mono e3) fun z H4 G4 sd4 e4 g4 s4 q4 => kk z H4 G4 sd4 ms3 (((e1.trans e2).trans e3).trans e4) g4 s4 q4
end
end AL

/-! ## AbsD -/
set_option Elab.async false
set_option linter.all false
set_option maxRecDepth 100000
set_option maxHeartbeats 2000000
namespace AL
open PySem PySem.Spec PyProof.Rows L2
open Evl (Ex)

/-! ### calls of built-ins -/
section
variable {X : Cx} {W : WX} {pos p : Pos} {x : Str} {e : Expr} {es : List Expr} {ra : AAR} {ta : TA}
theorem ae_callB {id : String} {r : List V → Hp → VK → Prop} {o : AOL} (hc : CallR X (.builtin id) r) (oa : ClA r o) (hg : Gl X x) (hm : X.mg x = none) (hv : bootBuiltins x = some (.builtin id)) (ha : AA X W (e :: es) ta ra) (hn : x ≠ "__name__" := by decide) (hdb : (x == ("__debug__" : Str)) = false := by decide)
    (he : starEach (e :: es) X.env = (false, eval e X.env) :: starEach es X.env := by rfl) (hpl : (backTo pos (starEach es X.env)).any (·.1) = false := by rfl) :
    AE X W (.Call (.Name x p) (e :: es) [] pos) (tCB r ta) (fun Γ ms k x => ra Γ ms (fun sds ms1 => o ms1 sds fun z => k z ms1) x) := by
  refine ⟨pe_callB hc hg hm hv ha.pe hn hdb he hpl, fun Γ ms k x h σ H G F Q ev g kk xw => ?_⟩
  refine ha.ok Γ ms _ x h σ H G F _ ev g (fun vs H1 G1 sds ms1 e1 g1 s1 _ q1 => ?_) xw
  exact oa ms1 _ _ q1 vs H1 G1 F Q g1 s1 fun z H3 G3 sd3 e3 g3 s3 q3 => kk z H3 G3 sd3 ms1 (e1.trans e3) g3 s3 q3
theorem ae_callTy {T : String} {r : List V → Hp → VK → Prop} {o : AOL} (hc : CallR X (.type T) r) (oa : ClA r o) (hg : Gl X x) (hm : X.mg x = none) (hv : bootBuiltins x = some (.type T)) (ha : AA X W (e :: es) ta ra) (hn : x ≠ "__name__" := by decide) (hdb : (x == ("__debug__" : Str)) = false := by decide)
    (he : starEach (e :: es) X.env = (false, eval e X.env) :: starEach es X.env := by rfl) (hpl : (backTo pos (starEach es X.env)).any (·.1) = false := by rfl) :
    AE X W (.Call (.Name x p) (e :: es) [] pos) (tCB r ta) (fun Γ ms k x => ra Γ ms (fun sds ms1 => o ms1 sds fun z => k z ms1) x) := by
  refine ⟨pe_callTy hc hg hm hv ha.pe hn hdb he hpl, fun Γ ms k x h σ H G F Q ev g kk xw => ?_⟩
  refine ha.ok Γ ms _ x h σ H G F _ ev g (fun vs H1 G1 sds ms1 e1 g1 s1 _ q1 => ?_) xw
  exact oa ms1 _ _ q1 vs H1 G1 F Q g1 s1 fun z H3 G3 sd3 e3 g3 s3 q3 => kk z H3 G3 sd3 ms1 (e1.trans e3) g3 s3 q3
/-- a built-in class as a value -/
theorem ae_bty {T : String} (hg : Gl X x) (hm : X.mg x = none) (hv : bootBuiltins x = some (.type T)) (hn : x ≠ "__name__" := by decide) (hd : (x == ("__debug__" : Str)) = false := by decide) : AE X W (.Name x pos) (tC (.ty T)) (fun _ ms k _ => k (.v (.ty T)) ms) :=
  ⟨pe_bltn hg hm hv (v := .ty T) rfl hn hd, fun _ _ _ _ q _ H G _ _ _ g kk _ => kk _ H G _ _ (Ex.refl G) g okv q⟩
end
theorem one_of {G : Hp} {vs : List V} {sd : SD} (s : SOkL G vs [sd]) : ∃ v, vs = [v] ∧ SOk G v sd := by
  cases s with
  | cons a b => cases b; exact ⟨_, rfl, a⟩
theorem two_of {G : Hp} {vs : List V} {sd sd2 : SD} (s : SOkL G vs [sd, sd2]) : ∃ v w, vs = [v, w] ∧ SOk G v sd ∧ SOk G w sd2 := by
  cases s with
  | cons a b =>
    obtain ⟨w, rfl, h⟩ := one_of b
    exact ⟨_, _, rfl, a, h⟩
def oLen : AOL := fun ms xs k => match xs with
  | [.d (.str z)] => z.length ≤ sizeLine ∧ k (.d (.int z.length))
  | [x] => ∃ ds, seqOf ms x = some ds ∧ k (.d (.int ds.length))
  | _ => False
theorem oa_len {K : PySem.W.Frag} : ClA (fun xs H Q => ∃ x n, xs = [x] ∧ LenV K x H n ∧ Q (.int n) H) oLen := by
  intro ms xs k h vs H G F Q g s kz
  unfold oLen at h
  split at h
  · obtain ⟨v, ev, sv⟩ := one_of s
    subst ev
    cases sv
    exact ⟨_, _, rfl, show LenV _ (.str _) _ _ from ⟨h.1, rfl⟩, kz.here g (okd (.int _)) h.2⟩
  · obtain ⟨v, ev, sv⟩ := one_of s
    subst ev
    obtain ⟨ds, e, q⟩ := h
    obtain ⟨a, ws, rfl, h1, h2⟩ := seqOf_ok (K := K) g sv e
    refine ⟨_, ds.length, rfl, ?_, kz.here g (okd (.int _)) q⟩
    rcases h1 with h1 | h1
    · exact .inl ⟨ws, h1, h2.length.symm⟩
    · exact .inr ⟨ws, h1, h2.length.symm⟩
  · exact h.elim
def oInt : AOL := fun _ xs k => match xs with
  | [.d (.int i)] => k (.d (.int i))
  | _ => False
theorem oa_int : ClA (fun xs H Q => (∃ i, xs = [.int i] ∧ Q (.int i) H) ∨ ∃ k, xs = [.bl k] ∧ Q (.int (if k then 1 else 0)) H) oInt := by
  intro ms xs k h vs H G F Q g s kz
  unfold oInt at h
  split at h
  · obtain ⟨v, ev, sv⟩ := one_of s
    subst ev
    cases sv
    exact .inl ⟨_, rfl, kz.here g (okd (.int _)) h⟩
  · exact h.elim
def oAbs : AOL := fun _ xs k => match xs with
  | [.d (.int i)] => k (.d (.int i.natAbs))
  | _ => False
theorem oa_abs : ClA (fun xs H Q => ∃ i, xs = [.int i] ∧ Q (.int (if i < 0 then -i else i)) H) oAbs := by
  intro ms xs k h vs H G F Q g s kz
  unfold oAbs at h
  split at h
  · obtain ⟨v, ev, sv⟩ := one_of s
    subst ev
    cases sv
    rename_i i
    refine ⟨_, rfl, ?_⟩
    have e : (if i < 0 then -i else i) = (i.natAbs : Int) := by split <;> omega
    rw [e]
    exact kz.here g (okd (.int _)) h
  · exact h.elim
def oMax2 : AOL := fun _ xs k => match xs with
  | [.d (.int i), .d (.int j)] => k (.d (.int (if j > i then j else i)))
  | _ => False
theorem oa_max2 : ClA (fun xs H Q => ∃ i j, xs = [.int i, .int j] ∧ Q (.int (if j > i then j else i)) H) oMax2 := by
  intro ms xs k h vs H G F Q g s kz
  unfold oMax2 at h
  split at h
  · obtain ⟨v, w, ev, sv, sw⟩ := two_of s
    subst ev
    cases sv; cases sw
    exact ⟨_, _, rfl, kz.here g (okd (.int _)) h⟩
  · exact h.elim
def oMin2 : AOL := fun _ xs k => match xs with
  | [.d (.int i), .d (.int j)] => k (.d (.int (if j < i then j else i)))
  | _ => False
theorem oa_min2 : ClA (fun xs H Q => ∃ i j, xs = [.int i, .int j] ∧ Q (.int (if j < i then j else i)) H) oMin2 := by
  intro ms xs k h vs H G F Q g s kz
  unfold oMin2 at h
  split at h
  · obtain ⟨v, w, ev, sv, sw⟩ := two_of s
    subst ev
    cases sv; cases sw
    exact ⟨_, _, rfl, kz.here g (okd (.int _)) h⟩
  · exact h.elim
def oStr : AOL := fun _ xs k => match xs with
  | [.d (.int i)] => i.natAbs.log2 < 1920 ∧ k (.d (.str (toString i)))
  | _ => False
theorem oa_str : ClA (fun xs H Q => ∃ i, xs = [.int i] ∧ i.natAbs.log2 < 1920 ∧ Q (.str (toString i)) H) oStr := by
  intro ms xs k h vs H G F Q g s kz
  unfold oStr at h
  split at h
  · obtain ⟨v, ev, sv⟩ := one_of s
    subst ev
    cases sv
    exact ⟨_, rfl, h.1, kz.here g (okd (.str _)) h.2⟩
  · exact h.elim
/-- tuple(x), list(x) -/
def oTup : AOL := fun ms xs k => match xs with
  | [x] => ∃ ds, seqOf ms x = some ds ∧ k (.d (.tup ds))
  | _ => False
theorem oa_tup {K : PySem.W.Frag} : ClA (fun xs H Q => ∃ p ys, xs = [.ref p] ∧ ((SqL K H p ys ∧ ∀ l, H l = none → Q (.ref l) (upd H l (.tup ys))) ∨ (SqT K H p ys ∧ Q (.ref p) H))) oTup := by
  intro ms xs k h vs H G F Q g s kz
  unfold oTup at h
  split at h
  · rename_i x
    obtain ⟨v, ev, sv⟩ := one_of s
    subst ev
    obtain ⟨ds, e, q⟩ := h
    obtain ⟨a, ws, rfl, h1, h2⟩ := seqOf_ok2 (K := K) g sv e
    rcases h1 with ⟨ex, h1⟩ | h1
    · subst ex
      exact ⟨a, ws, rfl, .inr ⟨h1, kz.here g sv q⟩⟩
    · exact ⟨a, ws, rfl, .inl ⟨h1, kz.tup g h2 q⟩⟩
  · exact h.elim
def oList : AOL := fun ms xs k => match xs with
  | [x] => ∃ ds, seqOf ms x = some ds ∧ k (.d (.lst ds))
  | _ => False
theorem oa_list {K : PySem.W.Frag} : ClA (fun xs H Q => ∃ p ys, xs = [.ref p] ∧ (SqL K H p ys ∨ SqT K H p ys) ∧ ∀ l, H l = none → Q (.ref l) (upd H l (.lst ys))) oList := by
  intro ms xs k h vs H G F Q g s kz
  unfold oList at h
  split at h
  · rename_i x
    obtain ⟨v, ev, sv⟩ := one_of s
    subst ev
    obtain ⟨ds, e, q⟩ := h
    obtain ⟨a, ws, rfl, h1, h2⟩ := seqOf_ok (K := K) g sv e
    exact ⟨a, ws, rfl, h1, kz.lst g h2 q⟩
  · exact h.elim
/-- all(x), x a list of truths -/
def blsOf : List D → Option (List Bool)
  | [] => some []
  | .bl b :: r => (blsOf r).map (b :: ·)
  | _ :: _ => none
theorem blsOf_ok {G : Hp} : ∀ {ds : List D} {vs : List V} {bs : List Bool}, ShwL G vs ds → blsOf ds = some bs → vs = bs.map V.bl
  | [], _, _, s, e => by cases s; cases e; rfl
  | d :: r, _, bs, s, e => by
    cases s with
    | cons a b =>
      cases d with
      | bl c =>
        cases a
        simp only [blsOf] at e
        cases q : blsOf r with
        | none => rw [q] at e; cases e
        | some cs =>
          rw [q] at e
          cases e
          rw [blsOf_ok b q]; rfl
      | _ => cases e
def oAll : AOL := fun ms xs k => match xs with
  | [.d (.lst ds)] => ∃ bs, blsOf ds = some bs ∧ k (.d (.bl (bs.all id)))
  | _ => False
theorem oa_all {K : PySem.W.Frag} : ClA (rAll K) oAll := by
  intro ms xs k h vs H G F Q g s kz
  unfold oAll at h
  split at h
  · obtain ⟨v, ev, sv⟩ := one_of s
    subst ev
    obtain ⟨bs, e, q⟩ := h
    cases sv with
    | lst a b =>
      rw [blsOf_ok b e] at a
      exact ⟨_, bs, rfl, Evl.sq_of (g.ex _ _ a), kz.here g (okd (.bl _)) q⟩
  · exact h.elim

/-! ### isinstance -/
def D.ty : D → Option String
  | .non => some "NoneType"
  | .bl _ => some "bool"
  | .int _ => some "int"
  | .str _ => some "str"
  | .tup _ => some "tuple"
  | .lst _ => some "list"
  | .frl _ => some "list"
  | .ins _ _ => none
theorem ty_ok {K : PySem.W.Frag} {G H : Hp} (e : Ex G H) {v : V} : ∀ {d : D} {T : String}, Shw G v d → d.ty = some T → TyX K H v (.type T)
  | .non, _, s, h => by cases s; cases h; exact .base .non
  | .bl _, _, s, h => by cases s; cases h; exact .base (.bl _)
  | .int _, _, s, h => by cases s; cases h; exact .base (.int _)
  | .str _, _, s, h => by cases s; cases h; exact .base (.str _)
  | .tup _, _, s, h => by cases s with | tup a b => cases h; exact .base (.tup (e _ _ a))
  | .lst _, _, s, h => by cases s with | lst a b => cases h; exact .base (.lst (e _ _ a))
  | .frl _, _, s, h => by cases s with | frl a b => cases h; exact .base (.frz (e _ _ a))
/-- isinstance(x, T) -/
def oIsi : AOL := fun _ xs k => match xs with
  | [.d d, .v (.ty T)] => ∃ t b, d.ty = some t ∧ kitB t T = some b ∧ k (.d (.bl b))
  | _ => False
theorem oa_isi {K : PySem.W.Frag} : ClA (rIsi K) oIsi := by
  intro ms xs k h vs H G F Q g s kz
  unfold oIsi at h
  split at h
  · obtain ⟨v, w, ev, sv, sw⟩ := two_of s
    subst ev
    obtain ⟨t, b, h1, h2, q⟩ := h
    cases sw
    exact ⟨v, _, _, _, b, rfl, .ty _, ty_ok g.ex sv h1, kit_ty h2, kz.here g (okd (.bl _)) q⟩
  · exact h.elim
section
variable {X : Cx} {W : WX} {pos p p1 p2 p3 : Pos} {x1 : Nat} {e : Expr} {ra : AER} {ta : TE}
/-- isinstance(e, (T, U)) -/
theorem ae_isi2 {x y z T U : Str} {T' U' : String} (ha : AE X W e ta ra) (hg : Gl X x) (hm : X.mg x = none) (hv : bootBuiltins x = some (.builtin "isinstance")) (hg1 : Gl X y) (hm1 : X.mg y = none) (hv1 : bootBuiltins y = some (.type T')) (hg2 : Gl X z) (hm2 : X.mg z = none) (hv2 : bootBuiltins z = some (.type U'))
    (hn : x ≠ "__name__" := by decide) (hd : (x == ("__debug__" : Str)) = false := by decide) (hn1 : y ≠ "__name__" := by decide) (hd1 : (y == ("__debug__" : Str)) = false := by decide) (hn2 : z ≠ "__name__" := by decide) (hd2 : (z == ("__debug__" : Str)) = false := by decide)
    (he : starEach (e :: [.Tuple [.Name y p1, .Name z p2] x1 p3]) X.env = (false, eval e X.env) :: starEach [.Tuple [.Name y p1, .Name z p2] x1 p3] X.env := by rfl) (hpl : (backTo pos (starEach [.Tuple [.Name y p1, .Name z p2] x1 p3] X.env)).any (·.1) = false := by rfl)
    (hs1 : starEach [.Tuple [.Name y p1, .Name z p2] x1 p3] X.env = (false, eval (.Tuple [.Name y p1, .Name z p2] x1 p3) X.env) :: starEach [] X.env := by rfl)
    (hs2 : starEach [.Name y p1, .Name z p2] X.env = (false, eval (.Name y p1) X.env) :: starEach [.Name z p2] X.env := by rfl) (hs3 : starEach [.Name z p2] X.env = (false, eval (.Name z p2) X.env) :: starEach [] X.env := by rfl) :
    AE X W (.Call (.Name x p) [e, .Tuple [.Name y p1, .Name z p2] x1 p3] [] pos) (tCB (rIsiT X.K) (tCons ta (tCons (tTup (tCons (tC (.ty T')) (tCons (tC (.ty U')) tNil))) tNil)))
      (fun Γ ms k x => ra Γ ms (fun u ms1 => match u with
        | .d d => ∃ t b c, d.ty = some t ∧ kitB t T' = some b ∧ kitB t U' = some c ∧ k (.d (.bl (b || c))) ms1
        | _ => False) x) := by
  refine ⟨pe_callB call_isiT hg hm hv (pa_cons ha.pe (pa_cons (pe_tup (pa_cons (pe_bltn hg1 hm1 hv1 (v := .ty T') rfl hn1 hd1) (pa_cons (pe_bltn hg2 hm2 hv2 (v := .ty U') rfl hn2 hd2) pa_nil hs3) hs2)) pa_nil hs1) he) hn hd he hpl, fun Γ ms k x h σ H G F Q ev g kk xw => ?_⟩
  refine ha.ok Γ ms _ x h σ H G F _ ev g (fun v H1 G1 sd ms1 e1 g1 s1 q1 => ?_) xw
  refine ⟨by show 2 ≤ sizeLine; decide, fun p hp => ?_⟩
  dsimp only at q1
  split at q1
  · obtain ⟨t, b, c, h1, h2, h3, q⟩ := q1
    refine ⟨v, p, [.ty T', .ty U'], _, [.type T', .type U'], b || c, rfl, upd_same, .cons (.ty _) (.cons (.ty _) .nil), ty_ok (fun a o z => (g1.new hp).ex a o (g1.exn hp a o z)) s1 h1, ?_, ?_⟩
    · refine kitAny_cons (kit_ty h2) (fun eb => ?_) (fun eb => by rw [eb]; rfl)
      rw [eb, Bool.false_or]
      exact kitAny_cons (kit_ty h3) (fun ec => by rw [ec]; exact kitAny_nil) (fun ec => ec)
    · exact kk _ _ _ _ _ (e1.trans (g1.exn hp)) (g1.new hp) (okd (.bl _)) q
  · exact q1.elim
end

/-! ### sorted -/
def leD (a b : D) : Bool := PySem.W.dataLe false D.py a b
def sortD (ds : List D) : List D := ds.mergeSort leD
def oSorted : AOL := fun ms xs k => match xs with
  | [x] => ∃ ds, lstOf ms x = some ds ∧ fitL ds 63 = true ∧ PySem.W.AllAlike (ds.map D.py) ∧ PySem.W.Sortable (ds.map D.py) ∧ ds.length ≤ sizeLine ∧ k (.d (.lst (sortD ds)))
  | _ => False
def rSortedD (K : PySem.W.Frag) : List V → Hp → VK → Prop := fun vs H Q => ∃ (a : Addr) (xs : List V) (G : Hp) (ds : List D), vs = [.ref a] ∧ H a = some (.lst xs) ∧ Ex G H ∧ ShwL G xs ds ∧ fitL ds 63 = true ∧ PySem.W.AllAlike (ds.map D.py) ∧ PySem.W.Sortable (ds.map D.py) ∧ ds.length ≤ sizeLine ∧
  ∀ (ys : List V) (p : Addr), ShwL G ys (sortD ds) → H p = none → Q (.ref p) (upd H p (.lst ys))
theorem each_of {G H : Hp} {X : Cx} {pins : List (Addr × Obj)} {σ : L2.St} {s : Shared} (I : Inv X pins σ H s) (e : Ex G H) : ∀ {ds : List D} {xs : List V} {us : List Value}, ShwL G xs ds → Vals xs us → fitL ds 63 = true →
    PySem.W.EachIs (fun u d => ∃ x, RelV x u ∧ Shw G x d) us ds ∧ PySem.W.EachIs (fun u d => ∃ as, Reads s.heap u (D.py d) as) us ds
  | [], _, _, s, r, _ => by cases s; cases r; exact ⟨.nil, .nil⟩
  | d :: ds, _, _, s, r, f => by
    cases s with
    | cons a b =>
      cases r with
      | cons r1 r2 =>
        simp only [fitL, Bool.and_eq_true] at f
        obtain ⟨h1, h2⟩ := each_of I e b r2 f.2
        exact ⟨.cons ⟨_, r1, a⟩ h1, .cons (Dp.reads I _ _ _ (Shw.dp e a f.1) r1) h2⟩
theorem each_back {G : Hp} : ∀ {ds : List D} {us : List Value}, PySem.W.EachIs (fun u d => ∃ x, RelV x u ∧ Shw G x d) us ds → ∃ ys, Vals ys us ∧ ShwL G ys ds
  | _, _, .nil => ⟨[], .nil, .nil⟩
  | _, _, .cons ⟨x, r, s⟩ t => by
    obtain ⟨ys, a, b⟩ := each_back t
    exact ⟨x :: ys, .cons r a, .cons s b⟩
theorem cr_sortedD {X : Cx} (hu : X.A.units + 80 < cLine) : CallR X (.builtin "sorted") (rSortedD X.K) := by
  intro pins s σ H vs us Q I r h
  obtain ⟨a, xs, G, ds, rfl, hs, eG, sh, ft, al, so, hl, q⟩ := h
  obtain ⟨its, rv, hL, _⟩ := I.list (Evl.sq_of (K := X.K) hs)
  rw [Vals.ref1 r]
  obtain ⟨e1, e2⟩ := each_of I eG sh rv ft
  refine PySem.W.sorted_data (enc := D.py) hL.isList e1 e2 al so hl (fun d hd => ?_) fun out ho ho2 => ?_
  · rw [fitL_all] at ft
    have := (D.fit_lay d 63 (List.all_eq_true.mp ft d hd)).2
    omega
  · obtain ⟨ys, v1, v2⟩ := each_back ho2
    obtain ⟨ep, he'⟩ := PyProof.Rows.sortedAll_at s.heap its out.toArray
    have hlen : ys.length ≤ sizeLine := by rw [v2.length, List.length_mergeSort]; exact hl
    exact ⟨.ref _, upd H (s.heap.objs.size + 1) (.lst ys), I.laid (t' := s.toks) (fun _ _ => PyProof.Rows.sortedAll_old) (Nat.le_succ _) ⟨hlen, out, ep, v1, he'⟩, rfl, q ys _ v2 (I.hok.fresh (Nat.le_succ _))⟩
theorem oa_sorted {K : PySem.W.Frag} : ClA (rSortedD K) oSorted := by
  intro ms xs k h vs H G F Q g s kz
  unfold oSorted at h
  split at h
  · obtain ⟨v, ev, sv⟩ := one_of s
    subst ev
    obtain ⟨ds, e, f, a1, a2, hl, q⟩ := h
    obtain ⟨a, ws, rfl, h1, h2⟩ := lstOf_ok g sv e
    exact ⟨a, ws, G, ds, rfl, h1, g.ex, h2, f, a1, a2, hl, fun ys p sy hp => kz.lst g sy q p hp⟩
  · exact h.elim
end AL

/-! ## AbsE -/
set_option Elab.async false
set_option linter.all false
set_option maxRecDepth 100000
set_option maxHeartbeats 2000000
namespace AL
open PySem PySem.Spec PyProof.Rows L2
open Evl (Ex)
open StX (tMakeR pe_makeR)

/-! ### what a def promises, over data and the store -/
abbrev AFn := List SD → MS → (SD → MS → Prop) → AX → Prop
def XE' (G F : Hp) (x : AX) (E : XK) : Prop := ∀ C d f u dv H2 G2 ms2, Ex G G2 → Good H2 G2 F ms2 → G2 d = some (.xd [(f, u)]) → Shw G2 u dv → x C f dv ms2 → E (.ref C) (some d) H2
def spA (R : AFn) : Sp := fun vs H Q E => ∃ sds G F ms k x, SOkL G vs sds ∧ Good H G F ms ∧ R sds ms k x ∧ KE G F k Q ∧ XE' G F x E
section
variable {P : Program} {w : World} {K : PySem.W.Frag} {mg : Str → Option Value} {base : Heap} {CX : CXT} {k : Nat} {f : Addr} {fd : FuncData} {ps : List Str} {sp : Sp}
theorem FnOk.toR (F : FnOk P w K mg base CX k f fd ps sp) (hb : Binds K fd ps []) : FnR P w K mg base CX k f sp := fun A outer s H us vs Q E hr e0 r hs => by
  have hl : us.length = ps.length := by rw [← r.length]; exact F.len _ _ _ _ hs
  have b := hb s us (e0.mod.kin.keeps fun b o e => (e0.bs b o e).1) (by rw [List.append_nil]; exact hl)
  rw [List.append_nil] at b
  exact F.run A outer s H ⟨us, []⟩ us vs Q E hr e0 b r hs
/-- the def that the module's name x holds -/
structure FnA (P : Program) (w : World) (K : PySem.W.Frag) (mg : Str → Option Value) (base : Heap) (CX : CXT) (k : Nat) (x : Str) (R : AFn) : Prop where
  ex : ∃ f, mg x = some (.ref f) ∧ FnR P w K mg base CX k f (spA R) ∧ PySem.W.keepIn K (.ref f) = true
/-- the method m of the class at C -/
structure MtA (P : Program) (w : World) (K : PySem.W.Frag) (mg : Str → Option Value) (base : Heap) (CX : CXT) (k : Nat) (C : Addr) (m : Str) (R : AFn) : Prop where
  ex : ∃ f, Meth K C m f ∧ FnR P w K mg base CX k f (spA R)
  cls : Cls K C
/-- the class that the module's name x holds, by its __init__ -/
structure MkA (P : Program) (w : World) (K : PySem.W.Frag) (mg : Str → Option Value) (base : Heap) (CX : CXT) (k : Nat) (x : Str) (C : Addr) (R : AFn) : Prop where
  ex : ∃ f, mg x = some (.ref C) ∧ Mk K C f ∧ FnR P w K mg base CX k f (spA R)
end
theorem pass0At {X : Cx} {σ : L2.St} {E : XK} : PassesAt CX0 X σ E := fun _ _ _ _ _ _ h => h.elim
section
variable {X : Cx} {CX : CXT} {W : WX} {k : Nat} {f C : Addr} {sp : Sp} {E : L2.St → XK} {x m : Str} {p pos apos : Pos} {e o : Expr} {es : List Expr} {te : TE} {t : TA} {R : AFn} {re : AER} {ra : AAR}
theorem run_fnRS {pins : List (Addr × Obj)} {σ : L2.St} {H : Hp} {s : Shared} {Q : VK} {us : List Value} {vs : List V} (F : FnR X.prog X.w X.K X.mg X.base CX k f sp) (hr : Room k X.A) (hx : PassesAt CX X σ (E σ))
    (I : Inv X pins σ H s) (r : Vals vs us) (h : sp vs H Q (E σ)) : wpAny (model X.prog X.w) X.A (call (.ref f) us) (EP X pins σ Q) X.xe s := by
  refine wpAny_call (codeAny_mono (F X.A X.stack s H us vs Q (E σ) hr I.env0 r h) fun r s' hq => ?_)
  cases r with
  | error e => exact hx pins H s e s' I hq
  | ok fl =>
    cases fl with
    | ret u => exact I.after hq
    | next => exact False.elim hq
    | brk => exact False.elim hq
    | cont => exact False.elim hq
theorem pe_callRS (F : FnR X.prog X.w X.K X.mg X.base CX k f sp) (hr : Room k X.A) (hg : Gl X x) (hm : X.mg x = some (.ref f)) (hk : PySem.W.keepIn X.K (.ref f) = true) (hx : ∀ σ, PassesAt CX X σ (E σ))
    (ha : PA X (e :: es) t) (hdb : (x == ("__debug__" : Str)) = false := by decide) (he : starEach (e :: es) X.env = (false, eval e X.env) :: starEach es X.env := by rfl) (hpl : (backTo pos (starEach es X.env)).any (·.1) = false := by rfl) :
    PE X (.Call (.Name x p) (e :: es) [] pos) (tCallS sp E t) := by
  refine ⟨fun pins s σ H Q I h => ?_⟩
  refine wpAny_Call_Name_kw (ld_glob I hg hm ?_ hdb)
  refine PySem.W.callWith_K (h₀ := X.base) I.ok.mod.kin hk (thn (ha.run pos pins s σ H _ I h) fun us s1 ⟨vs, H1, I1, r, q⟩ => ⟨I1.kIn, ?_⟩) he hpl
  exact run_fnRS F hr (hx σ) I1 r q
def tMethRS (C : Addr) (m : Str) (sp : Sp) (E : L2.St → XK) (ta : TE) (t : TA) : TE := fun σ H Q => ta σ H fun x H1 => ∃ a dx fs, x = .ref a ∧ H1 a = some (.ins C dx fs) ∧ fs.lookup m = none ∧ t σ H1 fun vs H2 => sp (x :: vs) H2 Q (E σ)
theorem pe_methRS {pl : Sem Bool} (he : PE X o te) (c : Cls X.K C) (hm : Meth X.K C m f)
    (F : FnR X.prog X.w X.K X.mg X.base CX k f sp) (hr : Room k X.A) (hx : ∀ σ, PassesAt CX X σ (E σ)) (ha : PA X (e :: es) t)
    (hst : starEach (e :: es) X.env = (false, eval e X.env) :: starEach es X.env := by rfl) (hpl : (backTo pos (starEach es X.env)).any (·.1) = false := by rfl)
    (ht : eval (.Call (.Attribute o m apos) (e :: es) [] pos) X.env = (do
      let ov ← eval o X.env
      standAt apos.atName
      let (f, first) ← holding [ov] (getMethod ov m pl)
      callWith pos f first (backTo pos (starEach (e :: es) X.env)) (backToKw pos (keywordEach [] X.env))) := by rfl) :
    PE X (.Call (.Attribute o m apos) (e :: es) [] pos) (tMethRS C m sp E te t) := by
  refine ⟨fun pins s σ H Q I h => ?_⟩
  refine PySem.W.methodCall_KW (pl := pl) (thn (he.run pins s σ H _ I h) fun u s1 ⟨x, H1, I1, rx, a, dx, fs, ex, ea, l, q⟩ => ?_) ht
  subst ex
  obtain rfl : u = Value.ref a := rx
  refine getmeth_ok I1 ea c hm l ?_
  refine PySem.W.callWith_K (first := [.ref a]) (h₀ := X.base) I.ok.mod.kin hm.kp (thn (ha.run pos pins s1 σ H1 _ I1 q) fun us s2 ⟨vs, H2, I2, r, q2⟩ => ⟨I2.kIn, ?_⟩) hst hpl
  exact run_fnRS (us := .ref a :: us) (vs := .ref a :: vs) F hr (hx σ) I2 (.cons rfl r) q2
theorem pe_meth0RS {pl : Sem Bool} (he : PE X o te) (c : Cls X.K C) (hm : Meth X.K C m f) (F : FnR X.prog X.w X.K X.mg X.base CX k f sp) (hr : Room k X.A) (hx : ∀ σ, PassesAt CX X σ (E σ))
    (ht : eval (.Call (.Attribute o m apos) [] [] pos) X.env = (do
      let ov ← eval o X.env
      standAt apos.atName
      let (f, first) ← holding [ov] (getMethod ov m pl)
      callWith pos f first (backTo pos (starEach [] X.env)) (backToKw pos (keywordEach [] X.env))) := by rfl) :
    PE X (.Call (.Attribute o m apos) [] [] pos) (tMethRS C m sp E te tNil) := by
  refine ⟨fun pins s σ H Q I h => ?_⟩
  refine PySem.W.methodCall_KW (pl := pl) (thn (he.run pins s σ H _ I h) fun u s1 ⟨x, H1, I1, rx, a, dx, fs, ex, ea, l, q⟩ => ?_) ht
  subst ex
  obtain rfl : u = Value.ref a := rx
  refine getmeth_ok I1 ea c hm l ?_
  exact PySem.W.callWith_K0 (first := [.ref a]) I1.kIn hm.kp (run_fnRS (us := [.ref a]) (vs := [.ref a]) F hr (hx σ) I1 (.cons rfl .nil) q)

/-! ### calls -/
theorem sp_mk {vs : List V} {H G F : Hp} {sds : List SD} {ms : MS} {kk : SD → MS → Prop} {xx : AX} {Q : VK} {σ : L2.St} (s : SOkL G vs sds) (g : Good H G F ms) (h : R sds ms kk xx) (kq : KE G F kk Q) (xw : XW W G F σ xx) : spA R vs H Q (WE W σ) :=
  ⟨sds, G, F, ms, kk, xx, s, g, h, kq, fun C d f u dv H2 G2 ms2 e g h1 h2 h3 => xw C d f u dv H2 G2 ms2 e g h1 h2 h3⟩
theorem ae_call (F : FnA X.prog X.w X.K X.mg X.base CX k x R) (hr : Room k X.A) (hx : ∀ σ, PassesAt CX X σ (WE W σ)) (hg : Gl X x) (ha : AA X W (e :: es) t ra)
    (hdb : (x == ("__debug__" : Str)) = false := by decide) (he : starEach (e :: es) X.env = (false, eval e X.env) :: starEach es X.env := by rfl) (hpl : (backTo pos (starEach es X.env)).any (·.1) = false := by rfl) :
    AE X W (.Call (.Name x p) (e :: es) [] pos) (tCallS (spA R) (WE W) t) (fun Γ ms k x => ra Γ ms (fun sds ms1 => R sds ms1 k x) x) := by
  obtain ⟨f, hm, hF, hk⟩ := F.ex
  refine ⟨pe_callRS hF hr hg hm hk hx ha.pe hdb he hpl, fun Γ ms k x h σ H G F Q ev g kk xw => ?_⟩
  refine ha.ok Γ ms _ x h σ H G F _ ev g (fun vs H1 G1 sds ms1 e1 g1 s1 _ q1 => ?_) xw
  exact sp_mk s1 g1 q1 (kk.mono e1) (xw.mono e1)
/-- an instance of the class at C that has no field m -/
def insOf (C : Addr) (m : Str) (ms : MS) : SD → Prop
  | .d (.ins C' fs) => C' = C ∧ fs.lookup m = none
  | .v (.ref p) => ∃ fs, ms p = some (.i C fs) ∧ fs.lookup m = none
  | _ => False
theorem insOf_ok {H G F : Hp} {ms : MS} (g : Good H G F ms) {u : V} {sd : SD} (s : SOk G u sd) (h : insOf C m ms sd) : ∃ a dx fs, u = .ref a ∧ H a = some (.ins C dx fs) ∧ fs.lookup m = none := by
  unfold insOf at h
  split at h
  · obtain ⟨rfl, h⟩ := h
    cases s with
    | ins a b => exact ⟨_, _, _, rfl, g.ex _ _ a, b.none h⟩
  · obtain ⟨fs, h1, h2⟩ := h
    obtain ⟨_, dx, fv, h3, h4⟩ := g.ok _ _ h1
    exact ⟨_, dx, fv, s, h3, h4.none h2⟩
  · exact h.elim
theorem ae_meth {pl : Sem Bool} (ho : AE X W o te re) (M : MtA X.prog X.w X.K X.mg X.base CX k C m R) (hr : Room k X.A) (hx : ∀ σ, PassesAt CX X σ (WE W σ)) (ha : AA X W (e :: es) t ra)
    (hst : starEach (e :: es) X.env = (false, eval e X.env) :: starEach es X.env := by rfl) (hpl : (backTo pos (starEach es X.env)).any (·.1) = false := by rfl)
    (ht : eval (.Call (.Attribute o m apos) (e :: es) [] pos) X.env = (do
      let ov ← eval o X.env
      standAt apos.atName
      let (f, first) ← holding [ov] (getMethod ov m pl)
      callWith pos f first (backTo pos (starEach (e :: es) X.env)) (backToKw pos (keywordEach [] X.env))) := by rfl) :
    AE X W (.Call (.Attribute o m apos) (e :: es) [] pos) (tMethRS C m (spA R) (WE W) te t) (fun Γ ms k x => re Γ ms (fun u ms1 => insOf C m ms1 u ∧ ra Γ ms1 (fun sds ms2 => R (u :: sds) ms2 k x) x) x) := by
  obtain ⟨f, hm, hF⟩ := M.ex
  refine ⟨pe_methRS ho.pe M.cls hm hF hr hx ha.pe hst hpl ht, fun Γ ms k x h σ H G F Q ev g kk xw => ?_⟩
  refine ho.ok Γ ms _ x h σ H G F _ ev g (fun v H1 G1 sd ms1 e1 g1 s1 q1 => ?_) xw
  obtain ⟨qi, q1⟩ := q1
  obtain ⟨a, dx, fs, rfl, h1, h2⟩ := insOf_ok g1 s1 qi
  refine ⟨a, dx, fs, rfl, h1, h2, ?_⟩
  refine ha.ok Γ ms1 _ x q1 σ H1 G1 F _ (ev.mono e1) g1 (fun vs H2 G2 sds ms2 e2 g2 s2 _ q2 => ?_) (xw.mono e1)
  exact sp_mk (.cons (s1.mono e2) s2) g2 q2 ((kk.mono e1).mono e2) ((xw.mono e1).mono e2)
theorem ae_meth0 {pl : Sem Bool} (ho : AE X W o te re) (M : MtA X.prog X.w X.K X.mg X.base CX k C m R) (hr : Room k X.A) (hx : ∀ σ, PassesAt CX X σ (WE W σ))
    (ht : eval (.Call (.Attribute o m apos) [] [] pos) X.env = (do
      let ov ← eval o X.env
      standAt apos.atName
      let (f, first) ← holding [ov] (getMethod ov m pl)
      callWith pos f first (backTo pos (starEach [] X.env)) (backToKw pos (keywordEach [] X.env))) := by rfl) :
    AE X W (.Call (.Attribute o m apos) [] [] pos) (tMethRS C m (spA R) (WE W) te tNil) (fun Γ ms k x => re Γ ms (fun u ms1 => insOf C m ms1 u ∧ R [u] ms1 k x) x) := by
  obtain ⟨f, hm, hF⟩ := M.ex
  refine ⟨pe_meth0RS ho.pe M.cls hm hF hr hx ht, fun Γ ms k x h σ H G F Q ev g kk xw => ?_⟩
  refine ho.ok Γ ms _ x h σ H G F _ ev g (fun v H1 G1 sd ms1 e1 g1 s1 q1 => ?_) xw
  obtain ⟨qi, q1⟩ := q1
  obtain ⟨a, dx, fs, rfl, h1, h2⟩ := insOf_ok g1 s1 qi
  exact ⟨a, dx, fs, rfl, h1, h2, sp_mk (.cons s1 .nil) g1 q1 (kk.mono e1) (xw.mono e1)⟩
/-- a new instance -/
theorem ae_make (M : MkA X.prog X.w X.K X.mg X.base CX0 k x C R) (hr : Room (k + 1) X.A) (hg : Gl X x) (ha : AA X W (e :: es) t ra) (hdb : (x == ("__debug__" : Str)) = false := by decide)
    (he : starEach (e :: es) X.env = (false, eval e X.env) :: starEach es X.env := by rfl) (hpl : (backTo pos (starEach es X.env)).any (·.1) = false := by rfl) :
    AE X W (.Call (.Name x p) (e :: es) [] pos) (tMakeR C (spA R) E0 t) (fun Γ ms k x => ra Γ ms (fun sds ms1 => ∀ p, ms1 p = none → R (.v (.ref p) :: sds) (mu ms1 p (.i C [])) (fun sd ms2 => sd = .d .non ∧ ∃ fs, ms2 p = some (.i C fs) ∧ k (.d (.ins C fs)) (md ms2 p)) (fun _ _ _ _ => False)) x) := by
  obtain ⟨f, hm, hM, hF⟩ := M.ex
  refine ⟨pe_makeR hM hF hr hg hm pass0 ha.pe hdb he hpl, fun Γ ms k x h σ H G F Q ev g kk xw => ?_⟩
  refine ha.ok Γ ms _ x h σ H G F _ ev g (fun vs H1 G1 sds ms1 e1 g1 s1 _ q1 => ?_) xw
  intro a dx na ndx nex
  have g2 : Good (upd H1 dx (.own a)) (upd G1 dx (.own a)) F ms1 := g1.new ndx
  have na2 : upd H1 dx (.own a) a = none := by rw [upd_ne (Ne.symm nex)]; exact na
  have g3 : Good (upd (upd H1 dx (.own a)) a (.ins C dx [])) (upd G1 dx (.own a)) F (mu ms1 a (.i C [])) := g2.newM (m' := .i C []) na2 ⟨dx, [], upd_same, .nil⟩
  refine ⟨_, _, F, _, _, _, .cons okv (s1.mono (g1.exn ndx)), g3, q1 a (g1.fresh na).1, fun v H4 G4 sd ms4 e4 g4 s4 q4 => ?_, fun _ _ _ _ _ _ _ _ _ _ _ _ z => z.elim⟩
  obtain ⟨rfl, fs, hfs, q4⟩ := q4
  cases s4
  obtain ⟨G5, e5, g5, s5⟩ := g4.freezeI hfs
  exact ⟨rfl, kk _ _ _ _ _ ((e1.trans (g1.exn ndx)).trans (e4.trans e5)) g5 (okd s5) q4⟩
/-- a field of an instance of the class at C -/
def oFld (C : Addr) (f : Str) : AO1 := fun ms x k => match x with
  | .d (.ins C' fs) => C' = C ∧ ∃ d, fs.lookup f = some d ∧ k (.d d)
  | .v (.ref p) => ∃ fs d, ms p = some (.i C fs) ∧ fs.lookup f = some d ∧ k (.d d)
  | _ => False
theorem ae_fld {f : Str} (c : Cls X.K C) (n : NoAttr X.K C f) (ho : AE X W o te re) (hb : attributeBase o f X.env (eval o X.env) = eval o X.env := by rfl) :
    AE X W (.Attribute o f pos) (tFld X.K te f) (fun Γ ms k x => re Γ ms (fun u ms1 => oFld C f ms1 u fun z => k z ms1) x) := by
  refine ⟨pe_fld ho.pe hb, fun Γ ms k x h σ H G F Q ev g kk xw => ?_⟩
  refine ho.ok Γ ms _ x h σ H G F _ ev g (fun v H1 G1 sd ms1 e1 g1 s1 q1 => ?_) xw
  unfold oFld at q1
  dsimp only at q1
  split at q1
  · obtain ⟨rfl, d, hd, q⟩ := q1
    cases s1 with
    | ins a b =>
      obtain ⟨u, h1, h2⟩ := b.lookup hd
      exact ⟨_, _, _, _, _, rfl, g1.ex _ _ a, c, n, h1, kk _ _ _ _ _ e1 g1 (okd h2) q⟩
  · obtain ⟨fs, d, h1, hd, q⟩ := q1
    obtain ⟨_, dx, fv, h3, h4⟩ := g1.ok _ _ h1
    obtain ⟨u, h5, h6⟩ := h4.lookup hd
    exact ⟨_, _, _, _, _, s1, h3, c, n, h5, kk _ _ _ _ _ e1 g1 (okd h6) q⟩
  · exact q1.elim
end

/-! ### methods of lists and texts -/
def oL (ms : MS) (u : SD) (K : Addr → Prop) : Prop := ∃ p ds, u = .v (.ref p) ∧ ms p = some (.l ds) ∧ K p
def oApp (ms : MS) (p : Addr) (v : SD) (k : SD → MS → Prop) : Prop := ∃ d ds2, v = .d d ∧ ms p = some (.l ds2) ∧ ds2.length < sizeLine ∧ k (.d .non) (mu ms p (.l (ds2 ++ [d])))
def oExt (ms : MS) (p : Addr) (v : SD) (k : SD → MS → Prop) : Prop := ∃ es ds2, lstOf ms v = some es ∧ ms p = some (.l ds2) ∧ ds2.length + es.length ≤ sizeLine ∧ k (.d .non) (mu ms p (.l (ds2 ++ es)))
def oPop (ms : MS) (u : SD) (k : SD → MS → Prop) : Prop := ∃ p ds d, u = .v (.ref p) ∧ ms p = some (.l (ds ++ [d])) ∧ k (.d d) (mu ms p (.l ds))
def rApp (ro re : AER) : AER := fun Γ ms k x => ro Γ ms (fun u ms1 => oL ms1 u fun p => re Γ ms1 (fun v ms2 => oApp ms2 p v k) x) x
def rExt (ro re : AER) : AER := fun Γ ms k x => ro Γ ms (fun u ms1 => oL ms1 u fun p => re Γ ms1 (fun v ms2 => oExt ms2 p v k) x) x
section
variable {X : Cx} {W : WX} {pos apos : Pos} {e o : Expr} {te to : TE} {re ro : AER}
theorem ae_append (ho : AE X W o to ro) (he : AE X W e te re)
    (hbase : attributeBase o "append" X.env (eval o X.env) = eval o X.env := by rfl)
    (hfew : ((backTo pos (starEach [e] X.env)).all (fun x => !x.1) && (backToKw pos (keywordEach [] X.env)).all (fun x => x.1.isSome)
      && decide (([e] : List Expr).length + ([] : List Keyword).length + (if ([] : List Keyword).isEmpty then 0 else 1) < 30)) = true := by rfl)
    (hline : (apos.endLine == pos.line) = true := by rfl) (hs : starEach [e] X.env = (false, eval e X.env) :: starEach [] X.env := by rfl) :
    AE X W (.Call (.Attribute o "append" apos) [e] [] pos) (tBM X.K "list" rAppend to (tCons te tNil)) (rApp ro re) := by
  refine ⟨pe_bm PySem.F.plainAttrs_list PySem.F.slot_list_append PySem.F.type_list_append mt_append ho.pe (pa_cons he.pe pa_nil hs) hbase hfew hline hs rfl, fun Γ ms k x h σ H G F Q ev g kk xw => ?_⟩
  refine ho.ok Γ ms _ x h σ H G F _ ev g (fun v H1 G1 sd ms1 e1 g1 s1 q1 => ?_) xw
  obtain ⟨p, ds, rfl, hp, q1⟩ := q1
  obtain ⟨_, vs, hv, _⟩ := g1.ok _ _ hp
  have ev1 : v = .ref p := s1
  subst ev1
  refine ⟨.inl ⟨rfl, vs, Evl.sq_of hv⟩, ?_⟩
  refine he.ok Γ ms1 _ x q1 σ H1 G1 F _ (ev.mono e1) g1 (fun u H2 G2 sd2 ms2 e2 g2 s2 q2 => ?_) (xw.mono e1)
  obtain ⟨d, ds2, rfl, hp2, hl, q⟩ := q2
  obtain ⟨_, vs2, hv2, hs2⟩ := g2.ok _ _ hp2
  refine ⟨p, vs2, u, rfl, rfl, hv2, by rw [hs2.length]; exact hl, ?_⟩
  exact kk _ _ _ _ _ (e1.trans e2) (g2.mut (m' := .l (ds2 ++ [d])) hp2 ⟨_, upd_same, hs2.append (.cons s2 .nil)⟩) (okd .non) q
theorem ae_extend (ho : AE X W o to ro) (he : AE X W e te re)
    (hbase : attributeBase o "extend" X.env (eval o X.env) = eval o X.env := by rfl)
    (hfew : ((backTo pos (starEach [e] X.env)).all (fun x => !x.1) && (backToKw pos (keywordEach [] X.env)).all (fun x => x.1.isSome)
      && decide (([e] : List Expr).length + ([] : List Keyword).length + (if ([] : List Keyword).isEmpty then 0 else 1) < 30)) = true := by rfl)
    (hline : (apos.endLine == pos.line) = true := by rfl) (hs : starEach [e] X.env = (false, eval e X.env) :: starEach [] X.env := by rfl) :
    AE X W (.Call (.Attribute o "extend" apos) [e] [] pos) (tBM X.K "list" rExtend to (tCons te tNil)) (rExt ro re) := by
  refine ⟨pe_bm PySem.F.plainAttrs_list PySem.F.slot_list_extend PySem.F.type_list_extend mt_extend ho.pe (pa_cons he.pe pa_nil hs) hbase hfew hline hs rfl, fun Γ ms k x h σ H G F Q ev g kk xw => ?_⟩
  refine ho.ok Γ ms _ x h σ H G F _ ev g (fun v H1 G1 sd ms1 e1 g1 s1 q1 => ?_) xw
  obtain ⟨p, ds, rfl, hp, q1⟩ := q1
  obtain ⟨_, vs, hv, _⟩ := g1.ok _ _ hp
  have ev1 : v = .ref p := s1
  subst ev1
  refine ⟨.inl ⟨rfl, vs, Evl.sq_of hv⟩, ?_⟩
  refine he.ok Γ ms1 _ x q1 σ H1 G1 F _ (ev.mono e1) g1 (fun u H2 G2 sd2 ms2 e2 g2 s2 q2 => ?_) (xw.mono e1)
  obtain ⟨es, ds2, he2, hp2, hl, q⟩ := q2
  obtain ⟨_, vs2, hv2, hs2⟩ := g2.ok _ _ hp2
  obtain ⟨b, ws, rfl, hb, hws⟩ := lstOf_ok g2 s2 he2
  refine ⟨p, b, vs2, ws, rfl, rfl, hv2, hb, by rw [hs2.length, hws.length]; exact hl, ?_⟩
  exact kk _ _ _ _ _ (e1.trans e2) (g2.mut (m' := .l (ds2 ++ es)) hp2 ⟨_, upd_same, hs2.append hws⟩) (okd .non) q
theorem ae_pop (ho : AE X W o to ro)
    (hbase : attributeBase o "pop" X.env (eval o X.env) = eval o X.env := by rfl) (hline : (apos.endLine == pos.line) = true := by rfl) :
    AE X W (.Call (.Attribute o "pop" apos) [] [] pos) (tBM0 X.K "list" rPop to) (fun Γ ms k x => ro Γ ms (fun u ms1 => oPop ms1 u k) x) := by
  refine ⟨pe_bm0 PySem.F.plainAttrs_list PySem.F.slot_list_pop PySem.F.type_list_pop mt_pop ho.pe hbase hline, fun Γ ms k x h σ H G F Q ev g kk xw => ?_⟩
  refine ho.ok Γ ms _ x h σ H G F _ ev g (fun v H1 G1 sd ms1 e1 g1 s1 q1 => ?_) xw
  obtain ⟨p, ds, d, rfl, hp, q1⟩ := q1
  obtain ⟨_, vs, hv, hs⟩ := g1.ok _ _ hp
  have ev1 : v = .ref p := s1
  subst ev1
  refine ⟨.inl ⟨rfl, vs, Evl.sq_of hv⟩, ?_⟩
  have hl : vs.length = ds.length + 1 := by rw [hs.length, List.length_append]; rfl
  obtain ⟨y, hy, sy⟩ := hs.get (i := vs.length - 1) (d := d) (by rw [hl, Nat.add_sub_cancel]; simp)
  refine ⟨p, vs, y, rfl, rfl, hv, hy, ?_⟩
  have hd := hs.dropLast
  rw [List.dropLast_concat] at hd
  exact kk _ _ _ _ _ e1 (g1.mut (m' := .l ds) hp ⟨_, upd_same, hd⟩) (okd sy) q1
/-- texts of a list -/
def strsOf : List D → Option (List Str)
  | [] => some []
  | .str b :: r => (strsOf r).map (b :: ·)
  | _ :: _ => none
theorem strsOf_ok {G : Hp} : ∀ {ds : List D} {vs : List V} {bs : List Str}, ShwL G vs ds → strsOf ds = some bs → vs = bs.map V.str
  | [], _, _, s, e => by cases s; cases e; rfl
  | d :: r, _, bs, s, e => by
    cases s with
    | cons a b =>
      cases d with
      | str c =>
        cases a
        simp only [strsOf] at e
        cases q : strsOf r with
        | none => rw [q] at e; cases e
        | some cs =>
          rw [q] at e
          cases e
          rw [strsOf_ok b q]; rfl
      | _ => cases e
theorem strsOf_map (l : List Str) : strsOf (l.map D.str) = some l := by
  induction l with
  | nil => rfl
  | cons a r ih => show (strsOf (r.map D.str)).map (a :: ·) = _; rw [ih]; rfl
theorem ae_join (ho : AE X W o to ro) (he : AE X W e te re) (hs : starEach [e] X.env = [(false, eval e X.env)] := by rfl) (hbase : attributeBase o "join" X.env (eval o X.env) = eval o X.env := by rfl) (hline : (apos.endLine == pos.line) = true := by rfl) :
    AE X W (.Call (.Attribute o "join" apos) [e] [] pos) (tM1 (fun x xs H Q => ∃ a p, ∃ ys : List Str, x = .str a ∧ xs = [.ref p] ∧ (SqL X.K H p (ys.map V.str) ∨ SqT X.K H p (ys.map V.str)) ∧
      (ys.map (·.length)).sum + ys.length * a.length ≤ 16777216 ∧ Q (.str (Txt.join a ys)) H) to te)
      (fun Γ ms k x => ro Γ ms (fun u ms1 => ∃ a, u = .d (.str a) ∧ re Γ ms1 (fun v ms2 => ∃ ds ys, seqOf ms2 v = some ds ∧ strsOf ds = some ys ∧ (ys.map (·.length)).sum + ys.length * a.length ≤ 16777216 ∧ k (.d (.str (Txt.join a ys))) ms2) x) x) := by
  refine ⟨pe_join ho.pe he.pe hs hbase hline, fun Γ ms k x h σ H G F Q ev g kk xw => ?_⟩
  refine ho.ok Γ ms _ x h σ H G F _ ev g (fun v H1 G1 sd ms1 e1 g1 s1 q1 => ?_) xw
  obtain ⟨a, rfl, q1⟩ := q1
  cases s1
  refine ⟨⟨a, rfl⟩, ?_⟩
  refine he.ok Γ ms1 _ x q1 σ H1 G1 F _ (ev.mono e1) g1 (fun u H2 G2 sd2 ms2 e2 g2 s2 q2 => ?_) (xw.mono e1)
  obtain ⟨ds, ys, e3, e4, hz, q⟩ := q2
  obtain ⟨p, vs, rfl, h1, h2⟩ := seqOf_ok (K := X.K) g2 s2 e3
  rw [strsOf_ok h2 e4] at h1
  exact ⟨a, p, ys, rfl, rfl, h1, hz, kk _ _ _ _ _ (e1.trans e2) g2 (okd (.str _)) q⟩
end

/-! ### targets -/
def KS (sl : List Nat) (σ : L2.St) (G F : Hp) (k : Gam → MS → Prop) (Q : L2.St → Hp → Prop) : Prop := ∀ σ' H' G' Γ' ms', Ex G G' → EOk G' σ' Γ' → Good H' G' F ms' → (σ'.length = σ.length ∧ ∀ j, j ∉ sl → σ'[j]? = σ[j]?) → k Γ' ms' → Q σ' H'
abbrev AGR := SD → Gam → MS → (Gam → MS → Prop) → Prop
abbrev AGRs := List D → Gam → MS → (Gam → MS → Prop) → Prop
structure AG (X : Cx) (tg : Expr) (sl : List Nat) (g : TG) (r : AGR) : Prop where
  pe : PG X tg g
  ok : ∀ sd Γ ms k, r sd Γ ms k → ∀ v σ H G F Q, SOk G v sd → EOk G σ Γ → Good H G F ms → KS sl σ G F k Q → g v σ H Q
structure AGs (X : Cx) (ts : List Expr) (sl : List Nat) (g : TGs) (r : AGRs) : Prop where
  pe : PGs X ts g
  ok : ∀ ds Γ ms k, r ds Γ ms k → ∀ vs σ H G F Q, ShwL G vs ds → EOk G σ Γ → Good H G F ms → KS sl σ G F k Q → g vs σ H Q
section
variable {X : Cx} {pos : Pos} {x : Str}
def gN (i : Nat) : AGR := fun sd Γ ms k => k (Γ.set i (some sd)) ms
theorem ag_name (i : Nat) (hN : X.N.Nodup) (hi : X.N[i]? = some x := by rfl) (hx : Loc X.env.scope x := by first | exact Or.inl rfl | exact Or.inr rfl) (hf : X.fn x = true ∨ X.env.scope.names.lookup x = some .local := by first | exact .inl rfl | exact .inr rfl) : AG X (.Name x pos) [i] (gName i) (gN i) := by
  refine ⟨pg_name hN hi hx hf, fun sd Γ ms k h v σ H G F Q s ev g kk => ?_⟩
  exact kk _ _ G _ _ (Ex.refl G) (ev.set s i) g ⟨List.length_set, fun j hj => List.getElem?_set_ne (fun e => hj (by simp [e]))⟩ h
theorem ags_nil : AGs X [] [] gNil (fun ds Γ ms k => ds = [] ∧ k Γ ms) :=
  ⟨pgs_nil, fun ds Γ ms k h vs σ H G F Q s ev g kk => by
    obtain ⟨rfl, h⟩ := h
    cases s
    exact ⟨rfl, kk _ _ G _ _ (Ex.refl G) ev g ⟨rfl, fun _ _ => rfl⟩ h⟩⟩
def gC (r : AGR) (rs : AGRs) : AGRs := fun ds Γ ms k => match ds with
  | d :: ds' => r (.d d) Γ ms fun Γ' ms' => rs ds' Γ' ms' k
  | [] => False
theorem ags_cons {e : Expr} {es : List Expr} {sl sl2 : List Nat} {g : TG} {gs : TGs} {r : AGR} {rs : AGRs} (h : AG X e sl g r) (hs : AGs X es sl2 gs rs) (hst : (assignEach (e :: es) X.env).map (·.2) = assign e X.env :: (assignEach es X.env).map (·.2) := by rfl) :
    AGs X (e :: es) (sl ++ sl2) (gCons g gs) (gC r rs) := by
  refine ⟨pgs_cons h.pe hs.pe hst, fun ds Γ ms k hh vs σ H G F Q s ev gd kk => ?_⟩
  cases s with
  | nil => exact hh.elim
  | cons a b =>
    refine ⟨_, _, rfl, ?_⟩
    refine h.ok _ Γ ms _ hh _ σ H G F _ (okd a) ev gd fun σ' H' G' Γ' ms' e' ev' g' n' q' => ?_
    refine hs.ok _ Γ' ms' k q' _ σ' H' G' F Q (b.mono e') ev' g' fun σ2 H2 G2 Γ2 ms2 e2 ev2 g2 n2 q2 => ?_
    refine kk σ2 H2 G2 Γ2 ms2 (e'.trans e2) ev2 g2 ⟨n2.1.trans n'.1, fun j hj => ?_⟩ q2
    rw [List.mem_append] at hj
    rw [n2.2 j (fun z => hj (.inr z)), n'.2 j (fun z => hj (.inl z))]
def gT (n : Nat) (rs : AGRs) : AGR := fun sd Γ ms k => match sd with
  | .d (.tup ds) => ds.length = n ∧ rs ds Γ ms k
  | _ => False
theorem ag_tup {es : List Expr} {kk0 : Nat} {sl : List Nat} {gs : TGs} {rs : AGRs} (hc : X.calm = true) (h : AGs X es sl gs rs) (hn : (assignEach es X.env).length = es.length := by rfl) (hst : (assignEach es X.env).findIdx? (·.1) = none := by rfl) :
    AG X (.Tuple es kk0 pos) sl (gTup X.K es.length gs) (gT es.length rs) := by
  refine ⟨pg_tup hc h.pe hn hst, fun sd Γ ms k hh v σ H G F Q s ev gd kk => ?_⟩
  unfold gT at hh
  split at hh
  · cases s with
    | tup a b => exact ⟨_, _, rfl, Evl.st_of (gd.ex _ _ a), by rw [b.length]; exact hh.1, h.ok _ Γ ms k hh.2 _ σ H G F Q b ev gd kk⟩
  · exact hh.elim
end

/-! ### what is walked -/
def Walks (J : It) (ds : List D) (G1 : Hp) : Prop := ∀ i H' G' F' ms', Ex G1 G' → Good H' G' F' ms' → (ds.length ≤ i → J.stop i H') ∧ ∀ d, ds[i]? = some d → J.go i H' ∧ ∀ x H'', J.yld i H' x H'' → ∃ G'', Ex G' G'' ∧ Good H'' G'' F' ms' ∧ Shw G'' x d
def KI (G F : Hp) (k : List D → MS → Prop) (R : It → Hp → Prop) : Prop := ∀ J H1 G1 ds ms1, Ex G G1 → Good H1 G1 F ms1 → k ds ms1 → Walks J ds G1 → R J H1
abbrev AIR := Gam → MS → (List D → MS → Prop) → AX → Prop
structure AI (X : Cx) (W : WX) (tg iter : Expr) (wi : TI) (r : AIR) : Prop where
  pe : PI X tg iter wi
  ok : ∀ Γ ms k x, r Γ ms k x → ∀ σ H G F R, EOk G σ Γ → Good H G F ms → KI G F k R → XW W G F σ x → wi σ H R
section
variable {X : Cx} {W : WX} {tg e e2 : Expr} {te : TE} {re : AER} {pos p tpos : Pos}
/-- a list or a tuple, walked -/
def iSeq (K : PySem.W.Frag) (tl : TE) : TI := fun σ H R => tl σ H fun x H1 => ∃ a, x = .ref a ∧ (((∃ xs, SqL K H1 a xs) ∧ R (Itl K a) H1) ∨ ((∃ xs, SqT K H1 a xs) ∧ R (Itt K a) H1))
def iSeq3 (K : PySem.W.Frag) (tl : TE) : TI := fun σ H R => tl σ H fun x H1 => (∃ a, x = .ref a ∧ (((∃ xs, SqL K H1 a xs) ∧ R (Itl K a) H1) ∨ ((∃ xs, SqT K H1 a xs) ∧ R (Itt K a) H1))) ∨ ∃ z, x = .str z ∧ R (Its z) H1
theorem pi_seq {l : Expr} {tl : TE} (hl : PE X l tl) : PI X tg l (iSeq3 X.K tl) := by
  refine ⟨fun pins s σ H R I h => ?_⟩
  refine thn (hl.run pins s σ H _ I h) fun v s1 ⟨x, H1, I1, r1, q1⟩ => ?_
  rcases q1 with ⟨a, ea, ⟨⟨xs, hq⟩, q⟩ | ⟨⟨xs, hq⟩, q⟩⟩ | ⟨z, ez, q⟩
  · subst ea
    cases r1
    obtain ⟨its, rv, pl, hz⟩ := I1.list hq
    refine wpAny_pyIter_list pl.isList ?_
    refine ⟨s1.heap.objs.size, [s1.heap.objs.size], _, _, H1, rfl, I1.kept (t' := s1.toks) fun b o e => Heap.get?_push_of_some _ e, turn_list a _, ⟨_, Heap.get?_push_size _ rfl, rfl, rfl⟩, fun b hb => ?_, q⟩
    obtain rfl : b = s1.heap.objs.size := by simpa using hb
    exact I1.fpOk (Nat.le_refl _) (I1.hok.fresh (Nat.le_refl _))
  · subst ea
    cases r1
    obtain ⟨its, rv, pt, hz⟩ := I1.tuple hq
    refine wpAny_pyIter_tuple (items := its.toArray) pt ?_
    refine ⟨s1.heap.objs.size, [s1.heap.objs.size], _, _, H1, rfl, I1.kept (t' := s1.toks) fun b o e => Heap.get?_push_of_some _ e, turn_tuple a _, ⟨_, Heap.get?_push_size _ rfl, rfl, rfl⟩, fun b hb => ?_, q⟩
    obtain rfl : b = s1.heap.objs.size := by simpa using hb
    exact I1.fpOk (Nat.le_refl _) (I1.hok.fresh (Nat.le_refl _))
  · subst ez
    obtain ⟨t, rfl⟩ := r1
    cases ha : z.cps.all (· < 128) with
    | false => exact wpAny_pyIter_wide ha (pi_one (tk := s1.toks) I1 _ (turn_str _ z t "str_iterator" (.inr rfl)) ⟨_, Heap.get?_push_size _ rfl, rfl, rfl⟩ q)
    | true => exact wpAny_pyIter_ascii ha (pi_one (tk := s1.toks) I1 _ (turn_str _ z t "str_ascii_iterator" (.inl rfl)) ⟨_, Heap.get?_push_size _ rfl, rfl, rfl⟩ q)
def signsD (z : Str) : List D := z.cps.toList.map fun c => D.str ⟨#[c]⟩
theorem walks_str (z : Str) (G1 : Hp) : Walks (Its z) (signsD z) G1 := fun i H' G' F' ms' e' g' => by
  have hl : (signsD z).length = z.cps.size := by unfold signsD; rw [List.length_map, Array.length_toList]
  refine ⟨fun hi => by rw [hl] at hi; exact hi, fun d hd => ?_⟩
  have hi : i < z.cps.size := by rw [← hl]; exact (List.getElem?_eq_some_iff.mp hd).1
  refine ⟨hi, fun x H'' hy => ?_⟩
  obtain ⟨rfl, c, hc, rfl⟩ := hy
  refine ⟨G', Ex.refl G', g', ?_⟩
  unfold signsD at hd
  rw [List.getElem?_map, Array.getElem?_toList, hc] at hd
  cases hd
  exact .str _
/-- a list or tuple that stands -/
def datOf : SD → Option (List D)
  | .d (.lst ds) => some ds
  | .d (.tup ds) => some ds
  | .d (.frl ds) => some ds
  | .d (.str z) => some (signsD z)
  | _ => none
def oDat (u : SD) (k : List D → Prop) : Prop := ∃ ds, datOf u = some ds ∧ k ds
theorem ai_seq (he : AE X W e te re) : AI X W tg e (iSeq3 X.K te) (fun Γ ms k x => re Γ ms (fun u ms1 => oDat u fun ds => k ds ms1) x) := by
  refine ⟨pi_seq he.pe, fun Γ ms k x h σ H G F R ev g kk xw => ?_⟩
  refine he.ok Γ ms _ x h σ H G F _ ev g (fun v H1 G1 sd ms1 e1 g1 s1 q1 => ?_) xw
  obtain ⟨ds, ed, q⟩ := q1
  have wl : ∀ (a : Addr) (vs : List V), ShwL G1 vs ds → (∀ G' H', Ex G1 G' → Ex G' H' → SqL X.K H' a vs) → Walks (Itl X.K a) ds G1 := fun a vs sh hs i H' G' F' ms' e' g' => by
    have h1 := hs G' H' e' g'.ex
    refine ⟨fun hi => ⟨vs, h1, by rw [sh.length]; exact hi⟩, fun d hd => ?_⟩
    obtain ⟨w, hw, sw⟩ := sh.get hd
    refine ⟨⟨vs, w, h1, hw⟩, fun x H'' hy => ?_⟩
    obtain ⟨rfl, hy⟩ := hy
    have ex : x = w := Option.some.inj ((hy vs h1).symm.trans hw)
    subst ex
    exact ⟨G', Ex.refl G', g', sw.mono e'⟩
  have wt : ∀ (a : Addr) (vs : List V), ShwL G1 vs ds → (∀ G' H', Ex G1 G' → Ex G' H' → SqT X.K H' a vs) → Walks (Itt X.K a) ds G1 := fun a vs sh hs i H' G' F' ms' e' g' => by
    have h1 := hs G' H' e' g'.ex
    refine ⟨fun hi => ⟨vs, h1, by rw [sh.length]; exact hi⟩, fun d hd => ?_⟩
    obtain ⟨w, hw, sw⟩ := sh.get hd
    refine ⟨⟨vs, w, h1, hw⟩, fun x H'' hy => ?_⟩
    obtain ⟨rfl, hy⟩ := hy
    have ex : x = w := Option.some.inj ((hy vs h1).symm.trans hw)
    subst ex
    exact ⟨G', Ex.refl G', g', sw.mono e'⟩
  unfold datOf at ed
  split at ed
  · cases ed
    cases s1 with
    | lst a b => exact .inl ⟨_, rfl, .inl ⟨⟨_, Evl.sq_of (g1.ex _ _ a)⟩, kk _ _ _ _ _ e1 g1 q (wl _ _ b fun G' H' e1 e2 => Evl.sq_of (e2 _ _ (e1 _ _ a)))⟩⟩
  · cases ed
    cases s1 with
    | tup a b => exact .inl ⟨_, rfl, .inr ⟨⟨_, Evl.st_of (g1.ex _ _ a)⟩, kk _ _ _ _ _ e1 g1 q (wt _ _ b fun G' H' e1 e2 => Evl.st_of (e2 _ _ (e1 _ _ a)))⟩⟩
  · cases ed
    cases s1 with
    | frl a b => exact .inl ⟨_, rfl, .inl ⟨⟨_, .inl (.inr ⟨_, g1.ex _ _ a⟩)⟩, kk _ _ _ _ _ e1 g1 q (wl _ _ b fun G' H' e1 e2 => .inl (.inr ⟨_, e2 _ _ (e1 _ _ a)⟩))⟩⟩
  · cases ed
    cases s1
    exact .inr ⟨_, rfl, kk _ _ _ _ _ e1 g1 q (walks_str _ _)⟩
  · cases ed
/-- lo, lo + 1, .. -/
def rngD (lo : Int) (n : Nat) : List D := (List.range n).map fun (i : Nat) => D.int (lo + (i : Int))
theorem walks_rng (lo : Int) (n : Nat) (G1 : Hp) : Walks (Itr lo n) (rngD lo n) G1 := fun i H' G' F' ms' e' g' => by
  have hl : (rngD lo n).length = n := by unfold rngD; rw [List.length_map, List.length_range]
  refine ⟨fun hi => by rw [hl] at hi; exact hi, fun d hd => ?_⟩
  have hi : i < n := by rw [← hl]; exact (List.getElem?_eq_some_iff.mp hd).1
  refine ⟨hi, fun x H'' hy => ?_⟩
  obtain ⟨rfl, rfl⟩ := hy
  refine ⟨G', Ex.refl G', g', ?_⟩
  unfold rngD at hd
  rw [List.getElem?_map, List.getElem?_range hi] at hd
  cases hd
  exact .int _
def oRng1 (j : Int) (k : List D → Prop) : Prop := -(2 ^ 62) ≤ j ∧ j < 2 ^ 62 ∧ k (rngD 0 j.toNat)
theorem ai_range1 (hg : Gl X "range") (hm : X.mg "range" = none) (he : AE X W e te re) (hs : starEach [e] X.env = [(false, eval e X.env)] := by rfl) (hs1 : starEach [e] X.env = (false, eval e X.env) :: starEach [] X.env := by rfl) :
    AI X W tg (.Call (.Name "range" p) [e] [] pos) (iRng1 (tCons te tNil)) (fun Γ ms k x => re Γ ms (fun u ms1 => asI (fun j => oRng1 j fun ds => k ds ms1) u) x) := by
  refine ⟨pi_range1 hg hm (pa_cons he.pe pa_nil hs1) hs, fun Γ ms k x h σ H G F R ev g kk xw => ?_⟩
  refine he.ok Γ ms _ x h σ H G F _ ev g (fun v H1 G1 sd ms1 e1 g1 s1 q1 => ?_) xw
  obtain ⟨j, rfl, h1, h2, q⟩ := asI_ok s1 q1
  exact ⟨j, rfl, h1, h2, kk _ _ _ _ _ e1 g1 q (walks_rng 0 _ _)⟩
theorem ai_range2 {te2 : TE} {re2 : AER} (hg : Gl X "range") (hm : X.mg "range" = none) (he : AE X W e te re) (he2 : AE X W e2 te2 re2) (hs : starEach [e, e2] X.env = [(false, eval e X.env), (false, eval e2 X.env)] := by rfl) (hs2 : starEach [e2] X.env = [(false, eval e2 X.env)] := by rfl)
    (hs3 : starEach [e, e2] X.env = (false, eval e X.env) :: starEach [e2] X.env := by rfl) (hs1 : starEach [e2] X.env = (false, eval e2 X.env) :: starEach [] X.env := by rfl) :
    AI X W tg (.Call (.Name "range" p) [e, e2] [] pos) (iRng2 (tCons te (tCons te2 tNil))) (fun Γ ms k x => re Γ ms (fun u ms1 => re2 Γ ms1 (fun v ms2 => asI (fun i => asI (fun j => (-(2 ^ 62) ≤ i ∧ i < 2 ^ 62 ∧ -(2 ^ 62) ≤ j ∧ j < 2 ^ 62) ∧ k (rngD i (j - i).toNat) ms2) v) u) x) x) := by
  refine ⟨pi_range2 hg hm (pa_cons he.pe (pa_cons he2.pe pa_nil hs1) hs3) hs hs2, fun Γ ms k x h σ H G F R ev g kk xw => ?_⟩
  refine he.ok Γ ms _ x h σ H G F _ ev g (fun v H1 G1 sd ms1 e1 g1 s1 q1 => ?_) xw
  refine he2.ok Γ ms1 _ x q1 σ H1 G1 F _ (ev.mono e1) g1 (fun u H2 G2 sd2 ms2 e2 g2 s2 q2 => ?_) (xw.mono e1)
  obtain ⟨i, rfl, q3⟩ := asI_ok s1 q2
  obtain ⟨j, rfl, h1, q⟩ := asI_ok s2 q3
  exact ⟨i, j, rfl, h1, kk _ _ _ _ _ (e1.trans e2) g2 q (walks_rng i _ _)⟩
/-- zip of two tuples -/
theorem ai_zip {te2 : TE} {re2 : AER} {elts : List Expr} {kk0 : Nat} (hg : Gl X "zip") (hm : X.mg "zip" = none) (he : AE X W e te re) (he2 : AE X W e2 te2 re2) (hs : starEach [e, e2] X.env = (false, eval e X.env) :: starEach [e2] X.env := by rfl) (hpl : (backTo pos (starEach [e2] X.env)).any (·.1) = false := by rfl)
    (hs1 : starEach [e2] X.env = (false, eval e2 X.env) :: starEach [] X.env := by rfl) :
    AI X W (.Tuple elts kk0 tpos) (.Call (.Name "zip" p) [e, e2] [] pos) (RZ.iZipA X.K (tCons te (tCons te2 tNil))) (fun Γ ms k x => re Γ ms (fun u ms1 => re2 Γ ms1 (fun v ms2 => ∃ as bs, u = .d (.tup as) ∧ v = .d (.tup bs) ∧ k (List.zipWith (fun a b => D.tup [a, b]) as bs) ms2) x) x) := by
  refine ⟨RZ.pi_zipA hg hm (pa_cons he.pe (pa_cons he2.pe pa_nil hs1) hs) hs hpl, fun Γ ms k x h σ H G F R ev g kk xw => ?_⟩
  refine he.ok Γ ms _ x h σ H G F _ ev g (fun v H1 G1 sd ms1 e1 g1 s1 q1 => ?_) xw
  refine he2.ok Γ ms1 _ x q1 σ H1 G1 F _ (ev.mono e1) g1 (fun u H2 G2 sd2 ms2 e2 g2 s2 q2 => ?_) (xw.mono e1)
  obtain ⟨as, bs, rfl, rfl, q⟩ := q2
  have s1' := s1.mono e2
  cases s1' with
  | tup a1 b1 =>
  cases s2 with
  | tup a2 b2 =>
  refine ⟨_, _, _, _, rfl, .inr ⟨Evl.st_of (g2.ex _ _ a1), Evl.st_of (g2.ex _ _ a2), kk _ _ _ _ _ (e1.trans e2) g2 q fun i H' G' F' ms' e' g' => ?_⟩⟩
  have t1 := Evl.st_of (K := X.K) (g'.ex _ _ (e' _ _ a1))
  have t2 := Evl.st_of (K := X.K) (g'.ex _ _ (e' _ _ a2))
  refine ⟨fun hi => ⟨_, _, t1, t2, ?_⟩, fun d hd => ?_⟩
  · rw [List.length_zipWith] at hi
    rw [b1.length, b2.length]
    omega
  · rw [List.getElem?_zipWith] at hd
    cases h1 : as[i]? with
    | none => rw [h1] at hd; simp at hd
    | some x1 =>
      cases h2 : bs[i]? with
      | none => rw [h1, h2] at hd; simp at hd
      | some x2 =>
        rw [h1, h2] at hd
        simp only [Option.some.injEq] at hd
        subst hd
        obtain ⟨w1, hw1, sw1⟩ := b1.get h1
        obtain ⟨w2, hw2, sw2⟩ := b2.get h2
        refine ⟨⟨_, _, w1, w2, t1, t2, hw1, hw2⟩, fun y H'' hy => ?_⟩
        obtain ⟨T, y1, y2, rfl, nT, rfl, f1, f2⟩ := hy
        have ey1 : y1 = w1 := Option.some.inj ((f1 _ t1).symm.trans hw1)
        have ey2 : y2 = w2 := Option.some.inj ((f2 _ t2).symm.trans hw2)
        subst ey1 ey2
        exact ⟨_, g'.exn nT, g'.new nT, .tup upd_same (.cons ((sw1.mono e').mono (g'.exn nT)) (.cons ((sw2.mono e').mono (g'.exn nT)) .nil))⟩
end
end AL

/-! ## AbsF -/
set_option Elab.async false
set_option linter.all false
set_option maxRecDepth 100000
set_option maxHeartbeats 2000000
namespace AL
open PySem PySem.Spec PyProof.Rows L2
open Evl (Ex)

/-! ### comprehensions -/
theorem wipe_get (σ : L2.St) (j : Nat) : ∀ vs : List Nat, (L2.wipe σ vs)[j]? = if j ∈ vs ∧ j < σ.length then some none else σ[j]?
  | [] => by simp [L2.wipe]
  | v :: vs => by
    unfold L2.wipe
    rw [List.getElem?_set, wipe_length, wipe_get σ j vs]
    by_cases h : v = j
    · subst h
      by_cases h2 : v < σ.length
      · simp [h2]
      · simp only [h2, and_false, if_false, if_true]
        rw [List.getElem?_eq_none (by omega)]
    · have e : (j ∈ v :: vs) ↔ j ∈ vs := by
        simp only [List.mem_cons]
        exact ⟨fun z => z.elim (fun z => absurd z.symm h) id, .inr⟩
      simp only [h, if_false, e]
theorem wipe_eq {σ σ2 : L2.St} {vs sl : List Nat} (hl : σ2.length = (L2.wipe σ vs).length) (h : ∀ j, j ∉ sl → σ2[j]? = (L2.wipe σ vs)[j]?) (hs : ∀ j ∈ sl, j ∈ vs) : L2.wipe σ2 vs = L2.wipe σ vs := by
  rw [wipe_length] at hl
  apply List.ext_getElem?
  intro j
  rw [wipe_get, wipe_get, hl]
  by_cases hj : j ∈ vs ∧ j < σ.length
  · rw [if_pos hj, if_pos hj]
  · rw [if_neg hj, if_neg hj]
    by_cases hv : j ∈ vs
    · have : σ.length ≤ j := by
        rcases Nat.lt_or_ge j σ.length with z | z
        · exact absurd ⟨hv, z⟩ hj
        · exact z
      rw [List.getElem?_eq_none this, List.getElem?_eq_none (by omega)]
    · rw [h j (fun z => hv (hs j z)), wipe_get, if_neg hj]
def asD (k : D → Prop) : SD → Prop
  | .d d => k d
  | _ => False
theorem asD_ok {G : Hp} {v : V} {k : D → Prop} {sd : SD} (s : SOk G v sd) (h : asD k sd) : ∃ d, Shw G v d ∧ k d := by
  unfold asD at h
  split at h
  · exact ⟨_, s, h⟩
  · exact h.elim
abbrev noX : AX := fun _ _ _ _ => False
theorem xw_no {W : WX} {G F : Hp} {σ : L2.St} : XW W G F σ noX := fun _ _ _ _ _ _ _ _ _ _ _ _ h => h.elim
abbrev W0 : WX := fun _ _ _ _ => True
structure ATs (X : Cx) (W : WX) (ifs : List Expr) (t : TT) (r : ATR) : Prop where
  pe : PTs X ifs t
  ok : ∀ Γ ms k x, r Γ ms k x → ∀ σ H G F Q, EOk G σ Γ → Good H G F ms → KT G F k Q → XW W G F σ x → t σ H Q
theorem ats_nil {X : Cx} {W : WX} : ATs X W [] tYes (fun _ ms k _ => k true ms) := ⟨pts_nil, fun _ _ _ _ h _ H G _ _ _ g kk _ => kk true H G _ (Ex.refl G) g h⟩
theorem ats_one {X : Cx} {W : WX} {c : Expr} {t : TT} {r : ATR} (h : AT X W c t r) : ATs X W [c] t r := ⟨pts_one h.pe, h.ok⟩
/-- the turns of a comprehension: acc what is made so far -/
def lcI (rg : AGR) (rt : ATR) (re : AER) (Γ0 : Gam) : List D → List D → MS → (List D → MS → Prop) → Prop
  | [], acc, ms, kk => kk acc ms
  | d :: ds, acc, ms, kk => rg (.d d) Γ0 ms fun Γ1 ms1 => rt Γ1 ms1 (fun b ms2 => if b = true then re Γ1 ms2 (fun sd ms3 => asD (fun dv => acc.length < sizeLine ∧ lcI rg rt re Γ0 ds (acc ++ [dv]) ms3 kk) sd) noX else lcI rg rt re Γ0 ds acc ms2 kk) noX
section
variable {X : Cx} {W : WX} {elt tg iter : Expr} {ifs : List Expr} {scope : Scope} {own : List (Str × Nat)} {pos : Pos} {wi : TI} {g : TG} {tt : TT} {te : TE} {ri : AIR} {rg : AGR} {rt : ATR} {re : AER} {sl : List Nat}
theorem lc_sound (hs : ∀ j ∈ sl, j ∈ own.map (·.2)) (hi : ∀ Γ ms k x, ri Γ ms k x → ∀ σ H G F R, EOk G σ Γ → Good H G F ms → KI G F k R → XW W G F σ x → wi σ H R)
    (hg : ∀ sd Γ ms k, rg sd Γ ms k → ∀ v σ H G F Q, SOk G v sd → EOk G σ Γ → Good H G F ms → KS sl σ G F k Q → g v σ H Q)
    (ht : ∀ Γ ms k x, rt Γ ms k x → ∀ σ H G F Q, EOk G σ Γ → Good H G F ms → KT G F k Q → XW W0 G F σ x → tt σ H Q)
    (he : ∀ Γ ms k x, re Γ ms k x → ∀ σ H G F Q, EOk G σ Γ → Good H G F ms → KE G F k Q → XW W0 G F σ x → te σ H Q)
    {Γ : Gam} {ms : MS} {k : SD → MS → Prop} {x : AX} (h : ri Γ ms (fun ds ms1 => lcI rg rt re (wipeG Γ (own.map (·.2))) ds [] ms1 fun acc ms2 => k (.d (.lst acc)) ms2) x)
    {σ : L2.St} {H G F : Hp} {Q : VK} (ev : EOk G σ Γ) (gd : Good H G F ms) (kk : KE G F k Q) (xw : XW W G F σ x) : tLc wi g tt te (own.map (·.2)) σ H Q := by
  refine hi Γ ms _ x h σ H G F _ ev gd (fun J H1 G1 ds ms1 e1 g1 q1 wk => ?_) xw
  intro D hD
  have fD := (g1.fresh hD).2.2
  refine ⟨fun i m H' => ∃ G' acc accV ms', Ex G1 G' ∧ Good H' G' (upd F D (.lst accV)) ms' ∧ ShwL G' accV acc ∧ i ≤ ds.length ∧ m = ds.length - i ∧ lcI rg rt re (wipeG Γ (own.map (·.2))) (ds.drop i) acc ms' fun acc ms2 => k (.d (.lst acc)) ms2,
    ⟨ds.length, G1, [], [], ms1, Ex.refl G1, g1.asideN hD, .nil, Nat.zero_le _, rfl, q1⟩, ?_⟩
  rintro i m H' ⟨G', acc, accV, ms', e', g', sA, hi', rfl, q'⟩
  obtain ⟨w1, w2⟩ := wk i H' G' _ ms' e' g'
  by_cases hlt : i < ds.length
  · right
    obtain ⟨go, yl⟩ := w2 ds[i] (List.getElem?_eq_getElem hlt)
    rw [List.drop_eq_getElem_cons hlt] at q'
    refine ⟨go, fun H2 => ∃ G' acc accV ms', Ex G1 G' ∧ Good H2 G' (upd F D (.lst accV)) ms' ∧ ShwL G' accV acc ∧ i + 1 ≤ ds.length ∧ lcI rg rt re (wipeG Γ (own.map (·.2))) (ds.drop (i + 1)) acc ms' fun acc ms2 => k (.d (.lst acc)) ms2, fun H2 hN => ?_, fun v H2 hy => ?_⟩
    · obtain ⟨G2, acc2, accV2, ms2, a1, a2, a3, a4, a5⟩ := hN
      exact ⟨ds.length - (i + 1), by omega, G2, acc2, accV2, ms2, a1, a2, a3, a4, rfl, a5⟩
    · obtain ⟨G2, e2, g2, sv⟩ := yl v H2 hy
      refine hg _ _ _ _ q' v _ H2 G2 _ _ (okd sv) ((ev.mono ((e1.trans e').trans e2)).wipe _) g2 fun σ3 H3 G3 Γ3 ms3 e3 ev3 g3 n3 q3 => ?_
      refine ⟨wipe_eq n3.1 n3.2 hs, ?_⟩
      refine ht _ _ _ _ q3 σ3 H3 G3 _ _ ev3 g3 (fun b H4 G4 ms4 e4 g4 q4 => ?_) xw_no
      have e14 := (e'.trans e2).trans (e3.trans e4)
      cases b with
      | false =>
        rw [if_neg Bool.false_ne_true] at q4 ⊢
        exact ⟨G4, acc, accV, ms4, e14, g4, sA.mono (e2.trans (e3.trans e4)), hlt, q4⟩
      | true =>
        rw [if_pos rfl] at q4 ⊢
        refine he _ _ _ _ q4 σ3 H4 G4 _ _ (ev3.mono e4) g4 (fun y H5 G5 sd ms5 e5 g5 s5 q5 => ?_) xw_no
        obtain ⟨dv, sdv, hz, q5⟩ := asD_ok s5 q5
        have sA5 := sA.mono (e2.trans (e3.trans (e4.trans e5)))
        exact ⟨accV, (g5.fr D _ upd_same).1, by rw [sA.length]; exact hz, G5, acc ++ [dv], accV ++ [y], ms5, e14.trans e5, g5.asideW, sA5.append (.cons sdv .nil), hlt, q5⟩
  · left
    have ei : i = ds.length := by omega
    refine ⟨w1 (by omega), ?_⟩
    rw [List.drop_eq_nil_of_le (by omega)] at q'
    obtain ⟨g6, e6⟩ := g'.back fD
    exact kk _ _ _ _ _ ((e1.trans e').trans e6) g6 (okd (.lst upd_same (sA.mono e6))) q'
theorem ae_lc (hc : X.calm = true) (hN : X.N.Nodup) (hi : AI X W tg iter wi ri) (ok : BlkOk X.N X.env.scope scope own) (hs : ∀ j ∈ sl, j ∈ own.map (·.2))
    (hg : ∀ (s : Shared) (H : Hp) (C : Addr) (cl : List (Str × Addr)) (fp : List Addr), AG (X.blk s H scope (compEnvC scope cl C X.env) fp) tg sl g rg) (ht : ∀ (s : Shared) (H : Hp) (C : Addr) (cl : List (Str × Addr)) (fp : List Addr), ATs (X.blk s H scope (compEnvC scope cl C X.env) fp) W0 ifs tt rt)
    (he : ∀ (s : Shared) (H : Hp) (C : Addr) (cl : List (Str × Addr)) (fp : List Addr), AE (X.blk s H scope (compEnvC scope cl C X.env) fp) W0 elt te re) (hf : ∀ x, foldedSetIterable iter X.env x = pure x := by intro _; rfl) :
    AE X W (.ListComp elt [⟨tg, iter, ifs, 0⟩] scope pos) (tLc wi g tt te (own.map (·.2))) (fun Γ ms k x => ri Γ ms (fun ds ms1 => lcI rg rt re (wipeG Γ (own.map (·.2))) ds [] ms1 fun acc ms2 => k (.d (.lst acc)) ms2) x) :=
  ⟨pe_lc hc hN hi.pe ok (fun a b c d e => (hg a b c d e).pe) (fun a b c d e => (ht a b c d e).pe) (fun a b c d e => (he a b c d e).pe) hf,
    fun _ _ _ _ h σ H G F Q ev gd kk xw => lc_sound hs hi.ok (hg X.s_0 X.H_0 0 [] []).ok (ht X.s_0 X.H_0 0 [] []).ok (he X.s_0 X.H_0 0 [] []).ok h ev gd kk xw⟩
end

/-! ### statements -/
structure AEnd where
  nx : Gam → MS → Prop
  rt : SD → MS → Prop
  bk : Gam → MS → Prop
  ct : Gam → MS → Prop
  x : Gam → AX
abbrev ASR := AEnd → Gam → MS → Prop
structure Fin' (W : WX) (G F : Hp) (A : AEnd) (D : Ends) : Prop where
  nx : ∀ σ' H' G' Γ' ms', Ex G G' → EOk G' σ' Γ' → Good H' G' F ms' → A.nx Γ' ms' → D.nx σ' H'
  rt : KE G F A.rt D.rt
  bk : ∀ σ' H' G' Γ' ms', Ex G G' → EOk G' σ' Γ' → Good H' G' F ms' → A.bk Γ' ms' → D.bk σ' H'
  ct : ∀ σ' H' G' Γ' ms', Ex G G' → EOk G' σ' Γ' → Good H' G' F ms' → A.ct Γ' ms' → D.ct σ' H'
  x : ∀ σ' Γ' G', Ex G G' → EOk G' σ' Γ' → XW W G' F σ' (A.x Γ')
theorem Fin'.mono {W : WX} {G G1 F : Hp} {A : AEnd} {D : Ends} (e : Ex G G1) (f : Fin' W G F A D) : Fin' W G1 F A D :=
  ⟨fun a b c d e2 h => f.nx a b c d e2 (e.trans h), f.rt.mono e, fun a b c d e2 h => f.bk a b c d e2 (e.trans h), fun a b c d e2 h => f.ct a b c d e2 (e.trans h), fun a b c h => f.x a b c (e.trans h)⟩
structure AS (X : Cx) (W : WX) (st : Stmt) (t : TS) (r : ASR) : Prop where
  pe : PS X st t
  ok : ∀ A Γ ms, r A Γ ms → ∀ σ H G F D, EOk G σ Γ → Good H G F ms → Fin' W G F A D → t D σ H
structure ASs (X : Cx) (W : WX) (st : List Stmt) (t : TS) (r : ASR) : Prop where
  pe : PSs X st t
  ok : ∀ A Γ ms, r A Γ ms → ∀ σ H G F D, EOk G σ Γ → Good H G F ms → Fin' W G F A D → t D σ H
section
variable {X : Cx} {W : WX} {pos pos' apos : Pos} {st : Stmt} {rest body orelse : List Stmt} {t u : TS} {r s : ASR} {e o i : Expr} {te to ti : TE} {re ro ri : AER} {x : Str} {tg : Expr} {g : TG} {rg : AGR} {sl : List Nat}
def rNx : ASR := fun A Γ ms => A.nx Γ ms
def rSeq (r s : ASR) : ASR := fun A Γ ms => r { A with nx := s A } Γ ms
theorem ass_nil : ASs X W [] tNext rNx := ⟨pss_nil, fun _ _ _ h σ H G _ _ ev g f => f.nx σ H G _ _ (Ex.refl G) ev g h⟩
theorem ass_cons (h1 : AS X W st t r) (h2 : ASs X W rest u s) : ASs X W (st :: rest) (tSeq t u) (rSeq r s) :=
  ⟨pss_cons h1.pe h2.pe, fun A Γ ms h σ H G F D ev g f => h1.ok { A with nx := s A } Γ ms h σ H G F _ ev g
    ⟨fun σ' H' G' Γ' ms' e' ev' g' q => h2.ok A Γ' ms' q σ' H' G' F D ev' g' (f.mono e'), f.rt, f.bk, f.ct, f.x⟩⟩
theorem ass_one (h : AS X W st t r) : ASs X W [st] t r := ⟨pss_one h.pe, h.ok⟩
theorem as_pass : AS X W (.Pass pos) tNext rNx := ⟨ps_pass, fun _ _ _ h σ H G _ _ ev g f => f.nx σ H G _ _ (Ex.refl G) ev g h⟩
def rBk : ASR := fun A Γ ms => A.bk Γ ms
def rCt : ASR := fun A Γ ms => A.ct Γ ms
theorem as_break : AS X W (.Break pos) tBreak rBk := ⟨ps_break, fun _ _ _ h σ H G _ _ ev g f => f.bk σ H G _ _ (Ex.refl G) ev g h⟩
theorem as_cont : AS X W (.Continue pos) tCont rCt := ⟨ps_continue, fun _ _ _ h σ H G _ _ ev g f => f.ct σ H G _ _ (Ex.refl G) ev g h⟩
def rRet (re : AER) : ASR := fun A Γ ms => re Γ ms A.rt (A.x Γ)
theorem as_ret (he : AE X W e te re) : AS X W (.Return (some e) pos) (tRet te) (rRet re) :=
  ⟨ps_ret he.pe, fun A Γ ms h σ H G F D ev g f => he.ok Γ ms _ _ h σ H G F _ ev g f.rt (f.x σ Γ G (Ex.refl G) ev)⟩
def rRetN : ASR := fun A _ ms => A.rt (.d .non) ms
theorem as_retN : AS X W (.Return none pos) tRetN rRetN := ⟨ps_retN, fun _ _ _ h _ H G _ _ _ g f => f.rt _ H G _ _ (Ex.refl G) g (okd .non) h⟩
def rDrop (re : AER) : ASR := fun A Γ ms => re Γ ms (fun _ ms1 => A.nx Γ ms1) (A.x Γ)
theorem as_expr (he : AE X W e te re) (hs : swapsWith e none pos.line X.env = pure false := by rfl) : AS X W (.Expr e pos) (tDrop te) (rDrop re) :=
  ⟨ps_expr he.pe hs, fun A Γ ms h σ H G F D ev g f => he.ok Γ ms _ _ h σ H G F _ ev g (fun _ H2 G2 _ ms2 e2 g2 _ q => f.nx σ H2 G2 Γ ms2 e2 (ev.mono e2) g2 q) (f.x σ Γ G (Ex.refl G) ev)⟩
theorem as_never : AS X W st tNever (fun _ _ _ => False) := ⟨ps_never, fun _ _ _ h => h.elim⟩
def rIf (rc : ATR) (r s : ASR) : ASR := fun A Γ ms => rc Γ ms (fun b ms1 => if b = true then r A Γ ms1 else s A Γ ms1) (A.x Γ)
theorem as_if {c : Expr} {tc : TT} {rc : ATR} (hc : AT X W c tc rc) (ha : ASs X W body t r) (hb : ASs X W orelse u s) : AS X W (.If c body orelse pos) (tIfS tc t u) (rIf rc r s) :=
  ⟨ps_if hc.pe ha.pe hb.pe, fun A Γ ms h σ H G F D ev g f => hc.ok Γ ms _ _ h σ H G F _ ev g (fun b H2 G2 ms2 e2 g2 q => by
    cases b with
    | true => rw [if_pos rfl] at q ⊢; exact ha.ok A Γ ms2 q σ H2 G2 F D (ev.mono e2) g2 (f.mono e2)
    | false => rw [if_neg Bool.false_ne_true] at q ⊢; exact hb.ok A Γ ms2 q σ H2 G2 F D (ev.mono e2) g2 (f.mono e2)) (f.x σ Γ G (Ex.refl G) ev)⟩
/-- target = value -/
def rAsg (re : AER) (rg : AGR) : ASR := fun A Γ ms => re Γ ms (fun sd ms1 => rg sd Γ ms1 A.nx) (A.x Γ)
theorem as_asg (he : AE X W e te re) (hg : AG X tg sl g rg) (hs : swapsWithSole [tg] e pos.line X.env = pure false := by rfl) (hw : swappedStores [tg] e X.env = pure none := by rfl)
    (h1 : (assignEach [tg] X.env).map (·.2) = [assign tg X.env] := by rfl) : AS X W (.Assign [tg] e pos) (tAsg te g) (rAsg re rg) :=
  ⟨ps_asg he.pe hg.pe hs hw h1, fun A Γ ms h σ H G F D ev g' f => he.ok Γ ms _ _ h σ H G F _ ev g' (fun v H2 G2 sd ms2 e2 g2 s2 q => hg.ok sd Γ ms2 _ q v σ H2 G2 F _ s2 (ev.mono e2) g2 fun σ3 H3 G3 Γ3 ms3 e3 ev3 g3 _ q3 => f.nx σ3 H3 G3 Γ3 ms3 (e2.trans e3) ev3 g3 q3) (f.x σ Γ G (Ex.refl G) ev)⟩
/-- name = value -/
def rSet (i : Nat) (re : AER) : ASR := fun A Γ ms => re Γ ms (fun sd ms1 => A.nx (Γ.set i (some sd)) ms1) (A.x Γ)
theorem as_set (i : Nat) (hN : X.N.Nodup) (he : AE X W e te re) (hi : X.N[i]? = some x := by rfl) (hx : Loc X.env.scope x := by first | exact Or.inl rfl | exact Or.inr rfl) (hs : swapsWith e (some (.Name x pos')) pos.line X.env = pure false := by rfl) (hf : X.fn x = true ∨ X.env.scope.names.lookup x = some .local := by first | exact .inl rfl | exact .inr rfl) :
    AS X W (.Assign [.Name x pos'] e pos) (tAsg te (gName i)) (rSet i re) :=
  ⟨ps_set hN hi hx he.pe hs hf, fun A Γ ms h σ H G F D ev g f => he.ok Γ ms _ _ h σ H G F _ ev g (fun v H2 G2 sd ms2 e2 g2 s2 q => f.nx _ H2 G2 _ ms2 e2 ((ev.mono e2).set s2 i) g2 q) (f.x σ Γ G (Ex.refl G) ev)⟩
/-- name = [.. for ..] -/
theorem as_setLc {elt iter : Expr} {ifs : List Expr} {scope : Scope} {own : List (Str × Nat)} {spos py : Pos} {wi : TI} {tt : TT} {ri : AIR} {rt : ATR} (i : Nat) (hc : X.calm = true) (hN : X.N.Nodup) (hi : AI X W tg iter wi ri) (ok : BlkOk X.N X.env.scope scope own) (hs : ∀ j ∈ sl, j ∈ own.map (·.2))
    (hg : ∀ (s : Shared) (H : Hp) (C : Addr) (cl : List (Str × Addr)) (fp : List Addr), AG (X.blk s H scope (compEnvC scope cl C X.env) fp) tg sl g rg) (ht : ∀ (s : Shared) (H : Hp) (C : Addr) (cl : List (Str × Addr)) (fp : List Addr), ATs (X.blk s H scope (compEnvC scope cl C X.env) fp) W0 ifs tt rt)
    (he : ∀ (s : Shared) (H : Hp) (C : Addr) (cl : List (Str × Addr)) (fp : List Addr), AE (X.blk s H scope (compEnvC scope cl C X.env) fp) W0 elt te re)
    (hsw : swapsWith (.ListComp elt [⟨tg, iter, ifs, 0⟩] scope pos) (some (.Name x py)) spos.line X.env = pure true) (hy : X.N[i]? = some x := by rfl) (hyl : X.env.scope.names.lookup x = some .local := by rfl) (hf : ∀ x, foldedSetIterable iter X.env x = pure x := by intro _; rfl) :
    AS X W (.Assign [.Name x py] (.ListComp elt [⟨tg, iter, ifs, 0⟩] scope pos) spos) (tAsg (tLc wi g tt te (own.map (·.2))) (gName i)) (rSet i (fun Γ ms k x => ri Γ ms (fun ds ms1 => lcI rg rt re (wipeG Γ (own.map (·.2))) ds [] ms1 fun acc ms2 => k (.d (.lst acc)) ms2) x)) :=
  ⟨ps_setLc hc hN hy hyl hsw hi.pe ok (fun a b c d e => (hg a b c d e).pe) (fun a b c d e => (ht a b c d e).pe) (fun a b c d e => (he a b c d e).pe) hf,
    fun A Γ ms h σ H G F D ev g f => lc_sound (W := W) hs hi.ok (hg X.s_0 X.H_0 0 [] []).ok (ht X.s_0 X.H_0 0 [] []).ok (he X.s_0 X.H_0 0 [] []).ok (Γ := Γ) (ms := ms) (k := fun sd ms1 => A.nx (Γ.set i (some sd)) ms1) (x := A.x Γ) h ev g (fun v H2 G2 sd ms2 e2 g2 s2 q => f.nx _ H2 G2 _ ms2 e2 ((ev.mono e2).set s2 i) g2 q) (f.x σ Γ G (Ex.refl G) ev)⟩
/-- o[i] = value: a list of the store, a dict of the store -/
def oPut (ms3 : MS) (u w : SD) (dv : D) (K : MS → Prop) : Prop := ∃ p, u = .v (.ref p) ∧
  ((∃ ds k j, ms3 p = some (.l ds) ∧ w = .d (.int k) ∧ ixN ds.length k = some j ∧ K (mu ms3 p (.l (ds.set j dv)))) ∨
    (∃ kvs ds ks, ms3 p = some (.t kvs) ∧ w = .d (.tup ds) ∧ keysOf ds = some ks ∧ kvs.length < sizeLine ∧ K (mu ms3 p (.t (putKD kvs ks dv)))) ∨
    (∃ kvs d k, ms3 p = some (.k kvs) ∧ w = .d d ∧ d.key1 = some k ∧ kvs.length < sizeLine ∧ K (mu ms3 p (.k (putKD kvs k dv)))))
def rPut (ro ri re : AER) : ASR := fun A Γ ms => re Γ ms (fun v ms1 => ro Γ ms1 (fun u ms2 => ri Γ ms2 (fun w ms3 => asD (fun dv => oPut ms3 u w dv (A.nx Γ)) v) (A.x Γ)) (A.x Γ)) (A.x Γ)
def rSetA : V → V → V → Hp → (Hp → Prop) → Prop := fun o i v H Q => rSetL o i v H Q ∨ ∃ a H', o = .ref a ∧ DPut H a i v H' ∧ Q H'
theorem set_any (hu : X.A.units + 1 < cLine) : PSet X rSetA := by
  intro pins s σ H o i v ov iv u Q I ro ri rv h
  rcases h with h | ⟨a, H', rfl, dp, q⟩
  · exact set_list pins s σ H o i v ov iv u Q I ro ri rv h
  · obtain rfl : ov = Value.ref a := ro
    exact d_setItem hu I dp ri rv fun s4 I4 => ⟨H', I4, q⟩
theorem as_put (hu : X.A.units + 1 < cLine) (ho : AE X W o to ro) (hi : AE X W i ti ri) (he : AE X W e te re) (hs : swapsWithSole [.Subscript o i pos'] e pos.line X.env = pure false := by rfl) (hw : swappedStores [.Subscript o i pos'] e X.env = pure none := by rfl)
    (h1 : (assignEach [.Subscript o i pos'] X.env).map (·.2) = [assign (.Subscript o i pos') X.env] := by rfl)
    (hA : ∀ v, assign (.Subscript o i pos') X.env v = (do
      let ov ← holding [v] (eval o X.env)
      let iv ← holding [v, ov] (eval i X.env)
      standAt pos'
      holding [v, ov, iv] (setItem ov iv v)
      release [v, ov, iv] []) := by intro _; rfl) : AS X W (.Assign [.Subscript o i pos'] e pos) (tAsg te (gSub to ti rSetA)) (rPut ro ri re) := by
  refine ⟨ps_asg he.pe (pg_sub ho.pe hi.pe (set_any hu) hA) hs hw h1, fun A Γ ms h σ H G F D ev g f => ?_⟩
  have xw := f.x σ Γ G (Ex.refl G) ev
  refine he.ok Γ ms _ _ h σ H G F _ ev g (fun v H1 G1 sd ms1 e1 g1 s1 q1 => ?_) xw
  refine ho.ok Γ ms1 _ _ q1 σ H1 G1 F _ (ev.mono e1) g1 (fun u H2 G2 sd2 ms2 e2 g2 s2 q2 => ?_) (xw.mono e1)
  refine hi.ok Γ ms2 _ _ q2 σ H2 G2 F _ ((ev.mono e1).mono e2) g2 (fun w H3 G3 sd3 ms3 e3 g3 s3 q3 => ?_) ((xw.mono e1).mono e2)
  obtain ⟨dv, sv, p, rfl, q⟩ := asD_ok ((s1.mono e2).mono e3) q3
  have e13 := (e1.trans e2).trans e3
  have eu : u = .ref p := s2
  subst eu
  rcases q with ⟨ds, k, j, hp, rfl, hj, q⟩ | ⟨kvs, ds, ks, hp, rfl, hk, hl, q⟩ | ⟨kvs, d, k, hp, rfl, hk, hl, q⟩
  · obtain ⟨_, vs, hv, hs⟩ := g3.ok _ _ hp
    cases s3
    exact .inl ⟨p, vs, k, j, rfl, rfl, hv, by rw [hs.length]; exact hj, f.nx _ _ _ _ _ e13 (ev.mono e13) (g3.mut (m' := .l (ds.set j dv)) hp ⟨_, upd_same, hs.set sv j⟩) q⟩
  · obtain ⟨_, us, hv, hs⟩ := g3.ok _ _ hp
    cases s3 with
    | tup a b =>
      have ek := keysOf_ok b hk
      subst ek
      exact .inr ⟨p, _, rfl, DPut.t hv (g3.ex _ _ a) (by rw [hs.length]; exact hl), f.nx _ _ _ _ _ e13 (ev.mono e13) (g3.mut (m' := .t (putKD kvs ks dv)) hp ⟨_, upd_same, hs.put sv⟩) q⟩
  · obtain ⟨_, us, hv, hs⟩ := g3.ok _ _ hp
    have ek := key1_ok s3 hk
    subst ek
    exact .inr ⟨p, _, rfl, DPut.k hv (by rw [hs.length]; exact hl), f.nx _ _ _ _ _ e13 (ev.mono e13) (g3.mut (m' := .k (putKD kvs k dv)) hp ⟨_, upd_same, hs.put sv⟩) q⟩
/-- o.f = value, o an instance of the store, of the class at C -/
def rSetF (C : Addr) (f : Str) (ro re : AER) : ASR := fun A Γ ms => re Γ ms (fun v ms1 => ro Γ ms1 (fun u ms2 => asD (fun dv => ∃ p fs, u = .v (.ref p) ∧ ms2 p = some (.i C fs) ∧ fs.length < 1000 ∧ A.nx Γ (mu ms2 p (.i C (putD f dv fs)))) v) (A.x Γ)) (A.x Γ)
theorem as_setF {C : Addr} {f : Str} (c : Cls X.K C) (n : NoAttr X.K C f) (ho : AE X W o to ro) (he : AE X W e te re) (hs : swapsWith e (some (.Attribute o f pos')) pos.line X.env = pure false := by rfl) :
    AS X W (.Assign [.Attribute o f pos'] e pos) (sFld X.K to te f) (rSetF C f ro re) := by
  refine ⟨ps_fld ho.pe he.pe hs, fun A Γ ms h σ H G F D ev g fi => ?_⟩
  have xw := fi.x σ Γ G (Ex.refl G) ev
  refine he.ok Γ ms _ _ h σ H G F _ ev g (fun v H1 G1 sd ms1 e1 g1 s1 q1 => ?_) xw
  refine ho.ok Γ ms1 _ _ q1 σ H1 G1 F _ (ev.mono e1) g1 (fun u H2 G2 sd2 ms2 e2 g2 s2 q2 => ?_) (xw.mono e1)
  obtain ⟨dv, sv, p, fs, rfl, hp, hl, q⟩ := asD_ok (s1.mono e2) q2
  have eu : u = .ref p := s2
  subst eu
  obtain ⟨_, dx, fv, hv, hs⟩ := g2.ok _ _ hp
  exact ⟨p, C, dx, fv, rfl, hv, c, n, by rw [hs.length]; exact hl, fi.nx _ _ _ _ _ (e1.trans e2) (ev.mono (e1.trans e2)) (g2.mut (m' := .i C (putD f dv fs)) hp ⟨_, _, upd_same, hs.put sv⟩) q⟩
/-- name += value (ints) -/
def rAug (i : Nat) (re : AER) (f : Int → Int → Int) : ASR := fun A Γ ms => match Γ[i]? with
  | some (some (.d (.int a))) => re Γ ms (fun v ms1 => asI (fun b => A.nx (Γ.set i (some (.d (.int (f a b))))) ms1) v) (A.x Γ)
  | _ => False
theorem as_aug {op : Operator} {fi : Int → Int → Int} (i : Nat) (hN : X.N.Nodup) (he : AE X W e te re) (ho : PIp X op (ipI fi)) (hi : X.N[i]? = some x := by rfl) (hx : Loc X.env.scope x := by first | exact Or.inl rfl | exact Or.inr rfl) (hf : X.fn x = true ∨ X.env.scope.names.lookup x = some .local := by first | exact .inl rfl | exact .inr rfl) :
    AS X W (.AugAssign (.Name x pos') op e pos) (tAug i te (ipI fi)) (rAug i re fi) := by
  refine ⟨ps_aug hN hi hx he.pe ho hf, fun A Γ ms h σ H G F D ev g f => ?_⟩
  unfold rAug at h
  split at h
  · rename_i a ea
    obtain ⟨v, h1, h2⟩ := ev.2 _ _ ea
    cases h2
    refine ⟨_, h1, he.ok Γ ms _ _ h σ H G F _ ev g (fun v H2 G2 sd ms2 e2 g2 s2 q => ?_) (f.x σ Γ G (Ex.refl G) ev)⟩
    obtain ⟨b, rfl, q⟩ := asI_ok s2 q
    exact ⟨a, b, rfl, rfl, f.nx _ H2 G2 _ ms2 e2 ((ev.mono e2).set (okd (.int _)) i) g2 q⟩
  · exact h.elim

/-! ### loops -/
def forR (rg : AGR) (rb : ASR) : List D → ASR
  | [], A, Γ, ms => A.nx Γ ms
  | d :: ds, A, Γ, ms => rg (.d d) Γ ms fun Γ1 ms1 => rb { A with nx := forR rg rb ds A, ct := forR rg rb ds A, bk := A.nx } Γ1 ms1
def rFor (ri : AIR) (rg : AGR) (rb : ASR) : ASR := fun A Γ ms => ri Γ ms (fun ds ms1 => forR rg rb ds A Γ ms1) (A.x Γ)
theorem as_for {iter : Expr} {wi : TI} {ri : AIR} (hp : PassesOwn (model X.prog X.w) X.A X.env X.xe) (hc : X.calm = true) (hi : AI X W tg iter wi ri) (hg : AG X tg sl g rg) (hb : ASs X W body t r)
    (hs : ∀ x, foldedSetIterable iter X.env x = pure x := by intro _; rfl) : AS X W (.For tg iter body [] pos) (tFor wi g t) (rFor ri rg r) := by
  refine ⟨ps_for hp hc hi.pe hg.pe hb.pe hs, fun A Γ ms h σ H G F D ev gd f => ?_⟩
  refine hi.ok Γ ms _ _ h σ H G F _ ev gd (fun J H1 G1 ds ms1 e1 g1 q1 wk => ?_) (f.x σ Γ G (Ex.refl G) ev)
  refine ⟨fun i m σ' H' => ∃ G' Γ' ms', Ex G1 G' ∧ EOk G' σ' Γ' ∧ Good H' G' F ms' ∧ i ≤ ds.length ∧ m = ds.length - i ∧ forR rg r (ds.drop i) A Γ' ms', ⟨ds.length, G1, Γ, ms1, Ex.refl G1, ev.mono e1, g1, Nat.zero_le _, rfl, q1⟩, ?_⟩
  rintro i m σ' H' ⟨G', Γ', ms', e', ev', g', hi', rfl, q'⟩
  obtain ⟨w1, w2⟩ := wk i H' G' _ ms' e' g'
  by_cases hlt : i < ds.length
  · right
    obtain ⟨go, yl⟩ := w2 ds[i] (List.getElem?_eq_getElem hlt)
    rw [List.drop_eq_getElem_cons hlt] at q'
    refine ⟨go, fun σ2 H2 => ∃ G' Γ' ms', Ex G1 G' ∧ EOk G' σ2 Γ' ∧ Good H2 G' F ms' ∧ forR rg r (ds.drop (i + 1)) A Γ' ms', fun σ2 H2 hN => ?_, fun v H2 hy => ?_⟩
    · obtain ⟨G2, Γ2, ms2, a1, a2, a3, a4⟩ := hN
      exact ⟨ds.length - (i + 1), by omega, G2, Γ2, ms2, a1, a2, a3, hlt, rfl, a4⟩
    · obtain ⟨G2, e2, g2, sv⟩ := yl v H2 hy
      refine hg.ok _ _ _ _ q' v _ H2 G2 _ _ (okd sv) (ev'.mono e2) g2 fun σ3 H3 G3 Γ3 ms3 e3 ev3 g3 _ q3 => ?_
      have e13 := e'.trans (e2.trans e3)
      exact hb.ok _ Γ3 ms3 q3 σ3 H3 G3 F _ ev3 g3 ⟨fun σ4 H4 G4 Γ4 ms4 e4 ev4 g4 q4 => ⟨G4, Γ4, ms4, e13.trans e4, ev4, g4, q4⟩, f.rt.mono (e1.trans e13),
        fun σ4 H4 G4 Γ4 ms4 e4 ev4 g4 q4 => f.nx σ4 H4 G4 Γ4 ms4 ((e1.trans e13).trans e4) ev4 g4 q4, fun σ4 H4 G4 Γ4 ms4 e4 ev4 g4 q4 => ⟨G4, Γ4, ms4, e13.trans e4, ev4, g4, q4⟩, fun a b c h => f.x a b c ((e1.trans e13).trans h)⟩
  · left
    rw [List.drop_eq_nil_of_le (by omega)] at q'
    exact ⟨w1 (by omega), f.nx _ _ _ _ _ (e1.trans e') ev' g' q'⟩
/-- by an invariant over the number of turns -/
theorem forR_inv {rg : AGR} {rb : ASR} {ds : List D} {A : AEnd} {Γ : Gam} {ms : MS} (P : Nat → Gam → MS → Prop) (h0 : P 0 Γ ms)
    (hs : ∀ i d Γ ms, ds[i]? = some d → P i Γ ms → ∀ N : Gam → MS → Prop, (∀ Γ' ms', P (i + 1) Γ' ms' → N Γ' ms') → rg (.d d) Γ ms fun Γ1 ms1 => rb { A with nx := N, ct := N, bk := A.nx } Γ1 ms1) (hd : ∀ Γ ms, P ds.length Γ ms → A.nx Γ ms) : forR rg rb ds A Γ ms := by
  have main : ∀ n i Γ ms, i + n = ds.length → P i Γ ms → forR rg rb (ds.drop i) A Γ ms := by
    intro n
    induction n with
    | zero =>
      intro i Γ ms hi hp
      have e : i = ds.length := by omega
      subst e
      rw [List.drop_length]
      exact hd Γ ms hp
    | succ n ih =>
      intro i Γ ms hi hp
      have hlt : i < ds.length := by omega
      rw [List.drop_eq_getElem_cons hlt]
      exact hs i _ Γ ms (List.getElem?_eq_getElem hlt) hp _ fun Γ2 ms2 h2 => ih (i + 1) Γ2 ms2 (by omega) h2
  exact main ds.length 0 Γ ms (by omega) h0
/-- while -/
def rWhile (rc : ATR) (rb : ASR) : ASR := fun A Γ ms => ∃ P : Nat → Gam → MS → Prop, (∃ m, P m Γ ms) ∧ ∀ m Γ ms, P m Γ ms → rc Γ ms (fun b ms1 => if b = true then rb { A with nx := fun Γ' ms' => ∃ m', m' < m ∧ P m' Γ' ms', ct := fun Γ' ms' => ∃ m', m' < m ∧ P m' Γ' ms', bk := A.nx } Γ ms1 else A.nx Γ ms1) (A.x Γ)
theorem as_while {c : Expr} {tc : TT} {rc : ATR} (hp : PassesOwn (model X.prog X.w) X.A X.env X.xe) (hc : AT X W c tc rc) (hb : ASs X W body t r) : AS X W (.While c body [] pos) (tWhile tc t) (rWhile rc r) := by
  refine ⟨ps_while hp hc.pe hb.pe, fun A Γ ms h σ H G F D ev g f => ?_⟩
  obtain ⟨P, ⟨m0, h0⟩, turn⟩ := h
  refine ⟨fun m σ' H' => ∃ G' Γ' ms', Ex G G' ∧ EOk G' σ' Γ' ∧ Good H' G' F ms' ∧ P m Γ' ms', ⟨m0, G, Γ, ms, Ex.refl G, ev, g, h0⟩, ?_⟩
  rintro m σ' H' ⟨G', Γ', ms', e', ev', g', p'⟩
  refine hc.ok _ _ _ _ (turn m Γ' ms' p') σ' H' G' F _ ev' g' (fun b H2 G2 ms2 e2 g2 q => ?_) (f.x σ' Γ' G' e' ev')
  have e3 := e'.trans e2
  cases b with
  | false => rw [if_neg Bool.false_ne_true] at q ⊢; exact f.nx _ _ _ _ _ e3 (ev'.mono e2) g2 q
  | true =>
    rw [if_pos rfl] at q ⊢
    refine ⟨fun σ4 H4 => ∃ m', m' < m ∧ ∃ G' Γ' ms', Ex G G' ∧ EOk G' σ4 Γ' ∧ Good H4 G' F ms' ∧ P m' Γ' ms', fun σ4 H4 h4 => h4, ?_⟩
    exact hb.ok _ Γ' ms2 q σ' H2 G2 F _ (ev'.mono e2) g2 ⟨fun σ4 H4 G4 Γ4 ms4 e4 ev4 g4 ⟨m', hm, q4⟩ => ⟨m', hm, G4, Γ4, ms4, e3.trans e4, ev4, g4, q4⟩, f.rt.mono e3,
      fun σ4 H4 G4 Γ4 ms4 e4 ev4 g4 q4 => f.nx σ4 H4 G4 Γ4 ms4 (e3.trans e4) ev4 g4 q4, fun σ4 H4 G4 Γ4 ms4 e4 ev4 g4 ⟨m', hm, q4⟩ => ⟨m', hm, G4, Γ4, ms4, e3.trans e4, ev4, g4, q4⟩, fun a b c h => f.x a b c (e3.trans h)⟩
end

/-! ### a def -/
/-- what a def's end hands on: objects of the store forgotten; a list of the store that stands from now on -/
def Out (sd : SD) (ms : MS) (k : SD → MS → Prop) : Prop :=
  (∃ ms', Sub ms' ms ∧ k sd ms') ∨ (∃ p ds ms', sd = .v (.ref p) ∧ ms p = some (.l ds) ∧ Sub ms' (md ms p) ∧ k (.d (.lst ds)) ms')
theorem Out.here {sd : SD} {ms : MS} {k : SD → MS → Prop} (h : k sd ms) : Out sd ms k := .inl ⟨ms, Sub.refl ms, h⟩
theorem out_ok {G F : Hp} {k : SD → MS → Prop} {Q : VK} (kk : KE G F k Q) : KE G F (fun sd ms => Out sd ms k) Q := fun v H2 G2 sd ms2 e2 g2 s2 q => by
  rcases q with ⟨ms', hs, q⟩ | ⟨p, ds, ms', rfl, hp, hs, q⟩
  · exact kk v H2 G2 sd ms' e2 (g2.drop hs) s2 q
  · obtain ⟨G3, e3, g3, s3⟩ := g2.freezeL hp
    have ev : v = .ref p := s2
    subst ev
    exact kk _ H2 G3 _ ms' (e2.trans e3) (g3.drop hs) (okd s3) q
/-- the slots at a def's entry -/
def gam : List Str → List SD → Gam
  | [], _ => []
  | _ :: N, [] => none :: gam N []
  | _ :: N, s :: r => some s :: gam N r
theorem gam_nil : ∀ N : List Str, gam N [] = List.replicate N.length none
  | [] => rfl
  | _ :: N => by rw [gam, gam_nil N]; rfl
theorem gam_eq : ∀ (N : List Str) (sds : List SD), sds.length ≤ N.length → gam N sds = sds.map some ++ List.replicate (N.length - sds.length) none
  | N, [], _ => by rw [gam_nil]; simp
  | [], _ :: _, h => by simp at h
  | _ :: N, s :: r, h => by
    rw [gam, gam_eq N r (by simpa using h)]
    simp
def aEnd (k : SD → MS → Prop) (x : AX) : AEnd := ⟨fun _ ms => Out (.d .non) ms k, fun sd ms => Out sd ms k, fun _ _ => False, fun _ _ => False, fun _ => x⟩
theorem eok_start {G : Hp} {N : List Str} : ∀ {vs : List V} {sds : List SD}, SOkL G vs sds → sds.length ≤ N.length → EOk G (L2.start N vs) (sds.map some ++ List.replicate (N.length - sds.length) none) := fun {vs sds} s hl => by
  have hlen := s.length
  refine ⟨by unfold L2.start; simp [hlen], fun i sd h => ?_⟩
  by_cases hi : i < sds.length
  · rw [List.getElem?_append_left (by simpa using hi), List.getElem?_map, List.getElem?_eq_getElem hi] at h
    cases h
    have get : ∀ {vs : List V} {sds : List SD} (i : Nat), SOkL G vs sds → ∀ h : i < sds.length, ∃ v, vs[i]? = some v ∧ SOk G v sds[i] := by
      intro vs sds i s
      induction s generalizing i with
      | nil => intro h; simp at h
      | cons a b ih =>
        intro h
        cases i with
        | zero => exact ⟨_, rfl, a⟩
        | succ i => exact ih i (by simpa using h)
    obtain ⟨v, h1, h2⟩ := get i s hi
    refine ⟨v, ?_, h2⟩
    unfold L2.start
    rw [List.getElem?_append_left (by rw [List.length_map, hlen]; exact hi), List.getElem?_map, h1]; rfl
  · rw [List.getElem?_append_right (by simpa using hi)] at h
    rw [List.getElem?_replicate] at h
    split at h <;> cases h
section
variable {P : Program} {w : World} {K : PySem.W.Frag} {mg : Str → Option Value} {base : Heap} {x qual : Str} {st : Stmt} {f : Addr} {fd : FuncData} {N ps : List Str} {k : Nat} {R : AFn}
theorem fn_end {W : WX} {X : Cx} {body : List Stmt} {t : TS} {r : ASR} (hb : ASs X W body t r) (hR : ∀ sds ms k x, R sds ms k x → r (aEnd k x) (gam N sds) ms) (hl : ∀ sds ms k x, R sds ms k x → sds.length ≤ N.length)
    {vs : List V} {H : Hp} {Q : VK} {E : XK} (hE : ∀ cls d σ H, E cls d H → W cls d σ H) (h : spA R vs H Q E) : t { nx := fun _ H' => Q .non H', rt := Q } (L2.start N vs) H := by
  obtain ⟨sds, G, F, ms, kk, xx, s, g, q, kq, xe⟩ := h
  refine hb.ok _ _ _ (hR sds ms kk xx q) _ H G F _ (by rw [gam_eq N sds (hl _ _ _ _ q)]; exact eok_start s (hl _ _ _ _ q)) g ⟨fun σ' H' G' Γ' ms' e' ev' g' q' => out_ok kq _ H' G' _ ms' e' g' (okd .non) q', out_ok kq, fun _ _ _ _ _ _ _ _ z => z.elim, fun _ _ _ _ _ _ _ _ z => z.elim, fun σ' Γ' G' e' ev' => ?_⟩
  intro C d f u dv H2 G2 ms2 e2 g2 h1 h2 h3
  exact hE _ _ _ _ (xe C d f u dv H2 G2 ms2 (e'.trans e2) g2 h1 h2 h3)
/-- a def that lets no exception out -/
theorem fnA (F : Fun K x qual st f fd) (S : FnScope N ps (defScope st)) (len : ∀ sds ms k x, R sds ms k x → sds.length = ps.length) (hN : ps.length ≤ N.length)
    (hbody : ∀ (cdv : Value) (A : Around) (outer : List Env) (s : Shared) (H : Hp) (E : XK), Room k (A.deeper (envOfC qual (defScope st) s.heap.objs.size f cdv)) →
      ∃ t r, ASs (cxOf CX0 P w K mg base N qual (defScope st) f cdv A outer s H E).nox W0 (defBody st) t r ∧ ∀ sds ms k x, R sds ms k x → r (aEnd k x) (gam N sds) ms) :
    FnOk P w K mg base CX0 (k + 1) f fd ps (spA R) := by
  refine F.ok S (fun vs H Q E h => ?_) (fun cdv A outer s H vs Q E hr h => ?_)
  · obtain ⟨sds, G, F, ms, kk, xx, s, g, q, _⟩ := h
    rw [s.length, len _ _ _ _ q]
  · obtain ⟨t, r, hb, hR⟩ := hbody cdv A outer s H E hr
    exact ⟨t, hb.pe, fn_end hb hR (fun sds ms k x h => by rw [len _ _ _ _ h]; exact hN) (fun _ _ _ _ _ => trivial) h⟩
/-- a def that may raise -/
theorem fnAX (F : Fun K x qual st f fd) (S : FnScope N ps (defScope st)) (len : ∀ sds ms k x, R sds ms k x → sds.length = ps.length) (hN : ps.length ≤ N.length)
    (hbody : ∀ (cdv : Value) (A : Around) (outer : List Env) (s : Shared) (H : Hp) (E : XK), Room k (A.deeper (envOfC qual (defScope st) s.heap.objs.size f cdv)) →
      ∃ t r, ASs (cxOf (L2.CX P w) P w K mg base N qual (defScope st) f cdv A outer s H E) (fun cls d _ H => E cls d H) (defBody st) t r ∧ ∀ sds ms k x, R sds ms k x → r (aEnd k x) (gam N sds) ms) :
    FnOk P w K mg base (L2.CX P w) (k + 1) f fd ps (spA R) := by
  refine F.okX S (fun vs H Q E h => ?_) (fun cdv A outer s H vs Q E hr h => ?_)
  · obtain ⟨sds, G, F, ms, kk, xx, s, g, q, _⟩ := h
    rw [s.length, len _ _ _ _ q]
  · obtain ⟨t, r, hb, hR⟩ := hbody cdv A outer s H E hr
    exact ⟨t, hb.pe, fn_end hb hR (fun sds ms k x h => by rw [len _ _ _ _ h]; exact hN) (fun _ _ _ _ h => h) h⟩
end
end AL

/-! ## AbsZ -/
set_option Elab.async false
set_option linter.all false
set_option maxRecDepth 100000
set_option maxHeartbeats 2000000
namespace AL
open PySem PySem.Spec PyProof.Rows L2
open Evl (Ex)
/-! ### zip of three tuples -/
def Itz3 (K : PySem.W.Frag) (a b c : Addr) (xs ys zs : List V) : It :=
  ⟨fun i H => SqT K H a xs ∧ SqT K H b ys ∧ SqT K H c zs ∧ i < min (min xs.length ys.length) zs.length,
    fun i H v H' => ∃ T x y u, v = .ref T ∧ H T = none ∧ H' = upd H T (.tup [x, y, u]) ∧ xs[i]? = some x ∧ ys[i]? = some y ∧ zs[i]? = some u,
    fun i H => SqT K H a xs ∧ SqT K H b ys ∧ SqT K H c zs ∧ min (min xs.length ys.length) zs.length ≤ i⟩
def tn3 (z TI TO i1 i2 i3 a b c : Addr) (n : Nat) (i : Nat) (h : Heap) : Prop := i ≤ n ∧ IsZip h z TI TO .none ∧ IsTupOf3 h TI (.ref i1) (.ref i2) (.ref i3) ∧ (∃ a1 a2 a3, IsTupOf3 h TO a1 a2 a3) ∧ h.IsTupleIter i1 a i ∧ h.IsTupleIter i2 b i ∧ h.IsTupleIter i3 c i
theorem turn_zip3 {P : Program} {w : World} {K : PySem.W.Frag} {elts : List Expr} {kk : Nat} {tpos : Pos} {a b c z TI TO i1 i2 i3 : Addr} {xs ys zs : List V} (S : ZipSep3 z TI TO i1 i2 i3 [i1, a] [i2, b] [i3, c]) (na : a ≠ i1) (nb : b ≠ i2) (nc : c ≠ i3) :
    Turn P w K (.Tuple elts kk tpos) (Itz3 K a b c xs ys zs) [z, TI, TO, i1, i2, i3] z (tn3 z TI TO i1 i2 i3 a b c (min (min xs.length ys.length) zs.length)) where
  mem := by simp
  obj := fun i h st e he => by
    obtain ⟨_, hz, hTI, ⟨x, y, u, hTO⟩, ⟨o1, e1, _, d1⟩, ⟨o2, e2, _, d2⟩, ⟨o3, e3, _, d3⟩⟩ := st
    have e' : e = z ∨ e = TI ∨ e = TO ∨ e = i1 ∨ e = i2 ∨ e = i3 := by simpa using he
    rcases e' with q | q | q | q | q | q
    · rw [q]; exact ⟨_, hz, fun v q => nomatch q⟩
    · rw [q]; exact ⟨_, hTI, fun v q => nomatch q⟩
    · rw [q]; exact ⟨_, hTO, fun v q => nomatch q⟩
    · rw [q]; exact ⟨o1, e1, fun v q => by rw [d1] at q; cases q⟩
    · rw [q]; exact ⟨o2, e2, fun v q => by rw [d2] at q; cases q⟩
    · rw [q]; exact ⟨o3, e3, fun v q => by rw [d3] at q; cases q⟩
  keep := fun i h h' st k => by
    obtain ⟨hi, hz, hTI, ⟨x, y, u, hTO⟩, h1, h2, h3⟩ := st
    exact ⟨hi, k z (by simp) _ hz, k TI (by simp) _ hTI, ⟨x, y, u, k TO (by simp) _ hTO⟩, h1.at fun o q => k i1 (by simp) o q, h2.at fun o q => k i2 (by simp) o q, h3.at fun o q => k i3 (by simp) o q⟩
  item := by
    intro X hP hw hK hc i pins s σ H E I hf st hg
    subst hP hw hK
    obtain ⟨hi, hz, hTI, hTO, h1, h2, h3⟩ := st
    obtain ⟨hqx, hqy, hqz, hlt⟩ := hg
    obtain ⟨its, rv, p, _⟩ := I.tuple hqx
    obtain ⟨its2, rv2, p2, _⟩ := I.tuple hqy
    obtain ⟨its3, rv3, p3, _⟩ := I.tuple hqz
    have hh : X.A.in1.handled = none := I.ok.hd hc
    have GG := GoesN.zip3 (prog := X.prog) (w := X.w) (A := X.A) (elts := elts) (x1 := kk) (pos := tpos) S (Draws.tuple hh i1 a na its.toArray) (Draws.tuple hh i2 b nb its2.toArray) (Draws.tuple hh i3 c nc its3.toArray)
    have en : min (min its.toArray.size its2.toArray.size) its3.toArray.size = min (min xs.length ys.length) zs.length := by
      simp only [List.size_toArray, ← rv.length, ← rv2.length, ← rv3.length]
    refine GG.goes i s _ E (by rw [en]; exact hlt) ⟨hz, hTI, hTO, ⟨h1, p⟩, ⟨h2, p2⟩, ⟨h3, p3⟩⟩ fun v h' tk hy st' hk htk => ?_
    obtain ⟨T, x, y, u, rfl, hT, hx, hy, hu, hTt⟩ := hy
    obtain ⟨hz', hTI', hTO', ⟨h1', _⟩, ⟨h2', _⟩, ⟨h3', _⟩⟩ := st'
    have gx : ∀ {l : List V} {us : List Value} {q : Value}, Vals l us → us.toArray[i]? = some q → ∃ w, l[i]? = some w ∧ RelV w q := fun {l us q} r e => by
      have hl : i < l.length := by rw [r.length]; have := (Array.getElem?_eq_some_iff.mp e).1; simpa using this
      obtain ⟨q', e1, e2⟩ := r.get (List.getElem?_eq_getElem hl)
      have e3 : us[i]? = some q := by simpa using e
      rw [e3] at e1; cases e1
      exact ⟨_, List.getElem?_eq_getElem hl, e2⟩
    obtain ⟨w1, hw1, r1⟩ := gx rv hx
    obtain ⟨w2, hw2, r2⟩ := gx rv2 hy
    obtain ⟨w3, hw3, r3⟩ := gx rv3 hu
    have new : ObjOk X.prog X.w (upd H T (.tup [w1, w2, w3])) h' T (.tup [w1, w2, w3]) := ⟨by show 3 ≤ sizeLine; decide, [x, y, u], .cons r1 (.cons r2 (.cons r3 .nil)), hTt⟩
    have I1 : Inv X pins σ (upd H T (.tup [w1, w2, w3])) { s with heap := h', toks := tk } := I.turnedNew (ch := [z, TO, i1, i2, i3]) hk (fun e he => hf e (by
      have e' : e = z ∨ e = TO ∨ e = i1 ∨ e = i2 ∨ e = i3 := by simpa using he
      rcases e' with q | q | q | q | q <;> simp [q])) hT new
    refine ⟨.ref T, _, I1, rfl, ⟨T, w1, w2, w3, rfl, I.hok.fresh hT, rfl, hw1, hw2, hw3⟩, ⟨hlt, hz', hTI', hTO', h1', h2', h3'⟩, fun e he => ?_⟩
    have hl : e < s.heap.objs.size := by
      have e' : e = z ∨ e = TI ∨ e = TO ∨ e = i1 ∨ e = i2 ∨ e = i3 := by simpa using he
      obtain ⟨a1, a2, a3, hTO⟩ := hTO
      rcases e' with q | q | q | q | q | q
      · rw [q]; exact Heap.lt_size hz
      · rw [q]; exact Heap.lt_size hTI
      · rw [q]; exact Heap.lt_size hTO
      · rw [q]; obtain ⟨_, e1, _⟩ := h1; exact Heap.lt_size e1
      · rw [q]; obtain ⟨_, e1, _⟩ := h2; exact Heap.lt_size e1
      · rw [q]; obtain ⟨_, e1, _⟩ := h3; exact Heap.lt_size e1
    rw [upd_ne (Nat.ne_of_lt (Nat.lt_of_lt_of_le hl hT))]
    exact (hf e he).1
  done := by
    intro X hP hw hK hc i pins s σ H E I hf st hg
    subst hP hw hK
    obtain ⟨hi, hz, hTI, hTO, h1, h2, h3⟩ := st
    obtain ⟨hqx, hqy, hqz, hle⟩ := hg
    obtain ⟨its, rv, p, _⟩ := I.tuple hqx
    obtain ⟨its2, rv2, p2, _⟩ := I.tuple hqy
    obtain ⟨its3, rv3, p3, _⟩ := I.tuple hqz
    have hh : X.A.in1.handled = none := I.ok.hd hc
    have GG := GoesN.zip3 (prog := X.prog) (w := X.w) (A := X.A) (elts := elts) (x1 := kk) (pos := tpos) S (Draws.tuple hh i1 a na its.toArray) (Draws.tuple hh i2 b nb its2.toArray) (Draws.tuple hh i3 c nc its3.toArray)
    have en : min (min its.toArray.size its2.toArray.size) its3.toArray.size = min (min xs.length ys.length) zs.length := by
      simp only [List.size_toArray, ← rv.length, ← rv2.length, ← rv3.length]
    have ei : i = min (min its.toArray.size its2.toArray.size) its3.toArray.size := by rw [en]; omega
    subst ei
    exact GG.stops s (fun s1 => Inv X pins σ H s1) E ⟨hz, hTI, hTO, ⟨h1, p⟩, ⟨h2, p2⟩, ⟨h3, p3⟩⟩ fun h' tk hk htk => I.turnedL (ch := [z, TO, i1, i2, i3]) hk (fun e he => hf e (by
      have e' : e = z ∨ e = TO ∨ e = i1 ∨ e = i2 ∨ e = i3 := by simpa using he
      rcases e' with q | q | q | q | q <;> simp [q]))
  self := fun A i s Q E st h => wpAny_pyIter_zip st.2.1 h
section
variable {X : Cx} {W : WX} {e e2 e3 : Expr} {te te2 te3 : TE} {re re2 re3 : AER} {pos p tpos : Pos} {elts : List Expr} {kk0 : Nat}
def iZip3 (K : PySem.W.Frag) (ta : TA) : TI := fun σ H R => ta σ H fun vs H1 => ∃ a b c xs ys zs, vs = [.ref a, .ref b, .ref c] ∧ SqT K H1 a xs ∧ SqT K H1 b ys ∧ SqT K H1 c zs ∧ R (Itz3 K a b c xs ys zs) H1
theorem pi_zip3 {ta : TA} (hg : Gl X "zip") (hm : X.mg "zip" = none) (ha : PA X [e, e2, e3] ta)
    (hs : starEach [e, e2, e3] X.env = (false, eval e X.env) :: starEach [e2, e3] X.env := by rfl) (hpl : (backTo pos (starEach [e2, e3] X.env)).any (·.1) = false := by rfl) :
    PI X (.Tuple elts kk0 tpos) (.Call (.Name "zip" p) [e, e2, e3] [] pos) (iZip3 X.K ta) := by
  refine ⟨fun pins s σ H R I h => ?_⟩
  refine Call_ (ld_blt I hg hm PyProof.Rows.boot_zip (PyProof.Rows.callWith_type1 (thn (ha.run pos pins s σ H _ I h) fun us s1 ⟨vs, H1, I1, r1, q1⟩ => ?_) hs hpl))
  obtain ⟨a, b, c, xs, ys, zs, ex, hqx, hqy, hqz, q⟩ := q1
  subst ex
  cases r1 with
  | cons r rr =>
    cases rr with
    | cons r' rr =>
      cases rr with
      | cons r'' rr =>
      cases rr
      cases r
      cases r'
      cases r''
      obtain ⟨its, rv, p1, _⟩ := I1.tuple hqx
      obtain ⟨its2, rv2, p2, _⟩ := I1.tuple hqy
      obtain ⟨its3, rv3, p3, _⟩ := I1.tuple hqz
      have la : a < s1.heap.objs.size := by obtain ⟨o1, ho1, _⟩ := id p1; exact Heap.lt_size ho1
      have lb : b < s1.heap.objs.size := by obtain ⟨o1, ho1, _⟩ := id p2; exact Heap.lt_size ho1
      have lc : c < s1.heap.objs.size := by obtain ⟨o1, ho1, _⟩ := id p3; exact Heap.lt_size ho1
      refine zip_begins3 (begins_tuple a its.toArray) (begins_tuple b its2.toArray) (begins_tuple c its3.toArray) p1 p2 p3 fun h' hz hTI hTO h1 h2 h3 hsz hk => wpAny_pyIter_zip hz ?_
      have I2 : Inv X pins σ H1 { s1 with heap := h' } := I1.kept (t' := s1.toks) hk
      have S : ZipSep3 (s1.heap.objs.size + 5) (s1.heap.objs.size + 3) (s1.heap.objs.size + 4) s1.heap.objs.size (s1.heap.objs.size + 1) (s1.heap.objs.size + 2) [s1.heap.objs.size, a] [s1.heap.objs.size + 1, b] [s1.heap.objs.size + 2, c] :=
        zip_sep3 (fun x hx => by have : x = a := by simpa using hx
                                 rw [this]; exact la) (fun x hx => by have : x = b := by simpa using hx
                                                                      rw [this]; exact lb) (fun x hx => by have : x = c := by simpa using hx
                                                                                                           rw [this]; exact lc)
      refine ⟨s1.heap.objs.size + 5, [s1.heap.objs.size + 5, s1.heap.objs.size + 3, s1.heap.objs.size + 4, s1.heap.objs.size, s1.heap.objs.size + 1, s1.heap.objs.size + 2], _, _, H1, rfl, I2, turn_zip3 S (Nat.ne_of_lt la) (Nat.ne_of_lt (Nat.lt_succ_of_lt lb)) (Nat.ne_of_lt (Nat.lt_succ_of_lt (Nat.lt_succ_of_lt lc))), ⟨Nat.zero_le _, hz, hTI, ⟨_, _, _, hTO⟩, ⟨_, h1, rfl, rfl⟩, ⟨_, h2, rfl, rfl⟩, ⟨_, h3, rfl, rfl⟩⟩, fun d hd => ?_, q⟩
      have e' : d = s1.heap.objs.size + 5 ∨ d = s1.heap.objs.size + 3 ∨ d = s1.heap.objs.size + 4 ∨ d = s1.heap.objs.size ∨ d = s1.heap.objs.size + 1 ∨ d = s1.heap.objs.size + 2 := by simpa using hd
      have hle : s1.heap.objs.size ≤ d := by
        rcases e' with z | z | z | z | z | z
        · rw [z]; exact Nat.le_add_right _ _
        · rw [z]; exact Nat.le_add_right _ _
        · rw [z]; exact Nat.le_add_right _ _
        · rw [z]; exact Nat.le_refl _
        · rw [z]; exact Nat.le_add_right _ _
        · rw [z]; exact Nat.le_add_right _ _
      exact I1.fpOk hle (I1.hok.fresh hle)
def zip3D : List D → List D → List D → List D
  | a :: as, b :: bs, c :: cs => D.tup [a, b, c] :: zip3D as bs cs
  | _, _, _ => []
theorem zip3D_get : ∀ (as bs cs : List D) (i : Nat), (zip3D as bs cs)[i]? = (match as[i]?, bs[i]?, cs[i]? with
    | some a, some b, some c => some (D.tup [a, b, c])
    | _, _, _ => none)
  | [], bs, cs, i => by simp [zip3D]
  | a :: as, [], cs, i => by
    simp only [zip3D]
    cases (a :: as)[i]? <;> simp
  | a :: as, b :: bs, [], i => by
    simp only [zip3D]
    cases (a :: as)[i]? <;> cases (b :: bs)[i]? <;> simp
  | a :: as, b :: bs, c :: cs, 0 => by simp [zip3D]
  | a :: as, b :: bs, c :: cs, i + 1 => by
    simp only [zip3D, List.getElem?_cons_succ]
    exact zip3D_get as bs cs i
theorem zip3D_length : ∀ (as bs cs : List D), (zip3D as bs cs).length = min (min as.length bs.length) cs.length
  | [], bs, cs => by simp [zip3D]
  | a :: as, [], cs => by simp [zip3D]
  | a :: as, b :: bs, [] => by simp [zip3D]
  | a :: as, b :: bs, c :: cs => by
    simp only [zip3D, List.length_cons, zip3D_length as bs cs]
    omega
theorem ai_zip3 (hg : Gl X "zip") (hm : X.mg "zip" = none) (he : AE X W e te re) (he2 : AE X W e2 te2 re2) (he3 : AE X W e3 te3 re3) (hs : starEach [e, e2, e3] X.env = (false, eval e X.env) :: starEach [e2, e3] X.env := by rfl) (hpl : (backTo pos (starEach [e2, e3] X.env)).any (·.1) = false := by rfl)
    (hs1 : starEach [e2, e3] X.env = (false, eval e2 X.env) :: starEach [e3] X.env := by rfl) (hs2 : starEach [e3] X.env = (false, eval e3 X.env) :: starEach [] X.env := by rfl) :
    AI X W (.Tuple elts kk0 tpos) (.Call (.Name "zip" p) [e, e2, e3] [] pos) (iZip3 X.K (tCons te (tCons te2 (tCons te3 tNil)))) (fun Γ ms k x => re Γ ms (fun u ms1 => re2 Γ ms1 (fun v ms2 => re3 Γ ms2 (fun w ms3 => ∃ as bs cs, u = .d (.tup as) ∧ v = .d (.tup bs) ∧ w = .d (.tup cs) ∧ k (zip3D as bs cs) ms3) x) x) x) := by
  refine ⟨pi_zip3 hg hm (pa_cons he.pe (pa_cons he2.pe (pa_cons he3.pe pa_nil hs2) hs1) hs) hs hpl, fun Γ ms k x h σ H G F R ev g kk xw => ?_⟩
  refine he.ok Γ ms _ x h σ H G F _ ev g (fun v H1 G1 sd ms1 e1 g1 s1 q1 => ?_) xw
  refine he2.ok Γ ms1 _ x q1 σ H1 G1 F _ (ev.mono e1) g1 (fun u H2 G2 sd2 ms2 e2 g2 s2 q2 => ?_) (xw.mono e1)
  refine he3.ok Γ ms2 _ x q2 σ H2 G2 F _ ((ev.mono e1).mono e2) g2 (fun w H3 G3 sd3 ms3 e3 g3 s3 q3 => ?_) ((xw.mono e1).mono e2)
  obtain ⟨as, bs, cs, rfl, rfl, rfl, q⟩ := q3
  have s1' := (s1.mono e2).mono e3
  have s2' := s2.mono e3
  cases s1' with
  | tup a1 b1 =>
  cases s2' with
  | tup a2 b2 =>
  cases s3 with
  | tup a3 b3 =>
  refine ⟨_, _, _, _, _, _, rfl, Evl.st_of (g3.ex _ _ a1), Evl.st_of (g3.ex _ _ a2), Evl.st_of (g3.ex _ _ a3), kk _ _ _ _ _ ((e1.trans e2).trans e3) g3 q fun i H' G' F' ms' e' g' => ?_⟩
  have t1 := Evl.st_of (K := X.K) (g'.ex _ _ (e' _ _ a1))
  have t2 := Evl.st_of (K := X.K) (g'.ex _ _ (e' _ _ a2))
  have t3 := Evl.st_of (K := X.K) (g'.ex _ _ (e' _ _ a3))
  have l1 := b1.length
  have l2 := b2.length
  have l3 := b3.length
  refine ⟨fun hi => ⟨t1, t2, t3, ?_⟩, fun d hd => ?_⟩
  · rw [zip3D_length] at hi
    rw [l1, l2, l3]
    exact hi
  · have hlt : i < (zip3D as bs cs).length := (List.getElem?_eq_some_iff.mp hd).1
    rw [zip3D_length] at hlt
    rw [zip3D_get] at hd
    split at hd
    · rename_i x1 x2 x3 h1 h2 h3
      cases hd
      obtain ⟨w1, hw1, sw1⟩ := b1.get h1
      obtain ⟨w2, hw2, sw2⟩ := b2.get h2
      obtain ⟨w3, hw3, sw3⟩ := b3.get h3
      refine ⟨⟨t1, t2, t3, by rw [l1, l2, l3]; exact hlt⟩, fun y H'' hy => ?_⟩
      obtain ⟨T, y1, y2, y3, rfl, nT, rfl, f1, f2, f3⟩ := hy
      have ey1 : y1 = w1 := Option.some.inj (f1.symm.trans hw1)
      have ey2 : y2 = w2 := Option.some.inj (f2.symm.trans hw2)
      have ey3 : y3 = w3 := Option.some.inj (f3.symm.trans hw3)
      subst ey1 ey2 ey3
      exact ⟨_, g'.exn nT, g'.new nT, .tup upd_same (.cons ((sw1.mono e').mono (g'.exn nT)) (.cons ((sw2.mono e').mono (g'.exn nT)) (.cons ((sw3.mono e').mono (g'.exn nT)) .nil)))⟩
    · cases hd
end
end AL

/-! ## AbsX -/
set_option Elab.async false
set_option linter.all false
set_option maxRecDepth 100000
set_option maxHeartbeats 2000000
namespace AL
open PySem PySem.Spec PyProof.Rows L2
open Evl (Ex)
/-! ### raise, try -/
/-- C(e), an own exception of one field -/
def tMkF (C : Addr) (f : Str) (ta : TA) : L2.St → Hp → XK → Prop := fun σ H Q => ta σ H fun vs H1 => ∃ v, vs = [v] ∧ ∀ d, H1 d = none → Q (.ref C) (some d) (upd H1 d (.xd [(f, v)]))
def rRaise (C : Addr) (f : Str) (re : AER) : ASR := fun A Γ ms => re Γ ms (fun sd ms1 => asD (fun dv => A.x Γ C f dv ms1) sd) (A.x Γ)
theorem as_raise {X : Cx} {W : WX} {a : Expr} {te : TE} {re : AER} {C : Addr} {f nm : Str} {p pos pos2 : Pos} (hc : X.calm = true) (tk : Takes X W) (ha : AE X W a te re) (hp : PMk X (.Call (.Name nm p) [a] [] pos) (tMkF C f (tCons te tNil))) :
    AS X W (.Raise (some (.Call (.Name nm p) [a] [] pos)) none pos2) (fun _ σ H => tMkF C f (tCons te tNil) σ H fun cls d H' => W cls d σ H') (rRaise C f re) := by
  refine ⟨ps_raise hc tk hp, fun A Γ ms h σ H G F D ev g fi => ?_⟩
  have xw := fi.x σ Γ G (Ex.refl G) ev
  refine ha.ok Γ ms _ _ h σ H G F _ ev g (fun v H1 G1 sd ms1 e1 g1 s1 q1 => ?_) xw
  obtain ⟨dv, sv, q⟩ := asD_ok s1 q1
  exact ⟨v, rfl, fun d hd => xw C d f v dv _ _ ms1 (e1.trans (g1.exn hd)) (g1.new hd) upd_same (sv.mono (g1.exn hd)) q⟩

abbrev HEnt := Value × Option Nat × (Addr → Value → Option Addr → TS)
def endH (i : Option Nat) (D : Ends) : Ends := match i with
  | none => D
  | some i => { nx := fun σ' H' => D.nx (σ'.set i none) H', rt := D.rt, bk := fun σ' H' => D.bk (σ'.set i none) H', ct := fun σ' H' => D.ct (σ'.set i none) H' }
def setH (i : Option Nat) (a : Addr) (σ : L2.St) : L2.St := match i with
  | none => σ
  | some i => σ.set i (some (.ref a))
def wHs (K : PySem.W.Frag) (Wout : WX) (D : Ends) : List HEnt → WX
  | [] => Wout
  | (c, i, ts) :: r => fun cls d σ H => ∃ b, PySem.W.exmOne K cls c = some b ∧ (b = true → ∀ a, H a = none → ts a cls d (endH i D) (setH i a σ) H) ∧ (b = false → wHs K Wout D r cls d σ H)
inductive HdA (X : Cx) : List ExceptHandler → List HEnt → Prop
  | nil : HdA X [] []
  | plain {x : Str} {c : Value} {ts : Addr → Value → Option Addr → TS} {b₀ : Stmt} {suite : List Stmt} {np pos' : Pos} {hds : List ExceptHandler} {l : List HEnt} (hc : Names X x c)
      (hsu : ∀ (a : Addr) (oe : Obj) (cls : Value) (d : Option Addr) (pn : List (Addr × Obj)), Zc cls d oe → (∃ vs, oe.data = .fields vs) → PSs (X.suite a ((a, oe) :: pn)) (b₀ :: suite) (ts a cls d)) (r : HdA X hds l) :
      HdA X (.ExceptHandler (some (.Name x np)) none (b₀ :: suite) pos' :: hds) ((c, none, ts) :: l)
  | named {x n : Str} {i : Nat} {c : Value} {ts : Addr → Value → Option Addr → TS} {b₀ : Stmt} {suite : List Stmt} {np pos' : Pos} {hds : List ExceptHandler} {l : List HEnt} (hc : Names X x c) (hN : X.N.Nodup) (hi : X.N[i]? = some n) (hln : X.env.kindOf n = some .local)
      (hsu : ∀ (a : Addr) (oe : Obj) (cls : Value) (d : Option Addr) (pn : List (Addr × Obj)), Zc cls d oe → (∃ vs, oe.data = .fields vs) → PSs (X.suite a ((a, oe) :: pn)) (b₀ :: suite) (ts a cls d)) (r : HdA X hds l) :
      HdA X (.ExceptHandler (some (.Name x np)) (some n) (b₀ :: suite) pos' :: hds) ((c, some i, ts) :: l)
section
variable {X : Cx} {body : List Stmt} {h₀ : ExceptHandler} {hds : List ExceptHandler} {l : List HEnt} {pos : Pos} {tb : WX → TS} {Wout : WX}
theorem ps_try_hs (hs : X.stack = X.env :: X.outer) (hf : X.env.frame = some X.env.locals) (tk : Takes X Wout)
    (hb : ∀ (W : WX) (pn : List (Addr × Obj)) (xe : Value → Shared → Prop), Takes (X.tr pn xe) W → PassesOwn (model X.prog X.w) X.A X.env xe → PSs (X.tr pn xe) body (tb W))
    (hh : HdA X (h₀ :: hds) l) : PS X (.Try body (h₀ :: hds) [] [] pos) (fun D σ H => tb (wHs X.K Wout D l) D σ H) := by
  refine ⟨fun pins s σ H D I hw => ?_⟩
  have okX := I.ok
  have frX : X.A.frames = some (X.env :: X.outer) := by rw [okX.frames, hs]
  refine wpAny_Try_except (wpAny_mono ((hb (wHs X.K Wout D l) (X.pn ++ pins) (fun ex u₁ => wpAny (model X.prog X.w) X.A (noteFrame ex X.env) (fun _ u₂ => wpAny (model X.prog X.w) X.A (setFlight ex none) (fun _ u₃ =>
    wpAny (model X.prog X.w) X.A (handleBy ex X.env (h₀ :: hds)) (SP X pins D) X.xe u₃) X.xe u₂) X.xe u₁) (fun u s' xx => ?_) PassesOwn.looking).run [] s σ H D (I.toTry _) hw) (fun fl s1 hsp => ?_) (fun ex s1 he => he))
  · obtain ⟨a, B, sI, pins', σ', H', cls, d, eu, J', nb, up, sky, na, os, ag, wx⟩ := xx
    subst eu
    have J : Inv X pins σ' H' sI := J'.ofTry okX
    have skyX : Sky B (X.env :: X.outer) a (Zc cls d) X.env.locals s'.heap := hs ▸ sky
    refine Sky.land Zc.steady frX hf skyX fun h3 fl3 up3 => ?_
    have J3 : Inv X pins σ' H' { s' with heap := h3 } := J.landed nb fl3.1 (up.trans up3) os ag
    obtain ⟨oe3, vs3, he3, hz3, hd3⟩ := fl3.there
    have nfr : a ∉ frs (X.env :: X.outer) := fun hm => by
      obtain ⟨_, o', e', hnf⟩ := fl3.2.2.1.mem hm
      rw [he3] at e'
      cases e'
      exact hnf _ hd3
    have aL : a ≠ X.env.locals := fun z => nfr (List.mem_filterMap.mpr ⟨X.env, by simp, by rw [hf, z]⟩)
    have aF : a ∉ X.fs := fun hm => by
      obtain ⟨en, hen, q⟩ := List.mem_filterMap.mp hm
      exact nfr (List.mem_filterMap.mpr ⟨en, by simp [hen], q⟩)
    have S3 := J3.suite he3 hd3 na aL aF
    have LT : PySem.W.Looks (model X.prog X.w) h3 (typeOf (.ref a)) cls := fun A Q E s k q => wpAny_typeOf_ref (k _ _ he3) (hz3.1 ▸ q)
    have tst : ∀ {x : Str} {c : Value} {np : Pos} {Q : Value → Shared → Prop} {E : Value → Shared → Prop}, Names X x c → Q c { s' with heap := h3 } → wpAny (model X.prog X.w) (X.A.mark (some (.ref a))) (eval (.Name x np) X.env) Q E { s' with heap := h3 } := fun {x c np Q E} hc q => by
      obtain ⟨hg, hdbg, hm | ⟨hm, hv, hnn⟩⟩ := hc
      · exact ld_glob (X := X.suite a ((a, oe3) :: (X.pn ++ pins))) S3 hg hm q hdbg
      · exact ld_blt (X := X.suite a ((a, oe3) :: (X.pn ++ pins))) S3 hg hm hv q hnn hdbg
    have go : ∀ {hds' : List ExceptHandler} {l' : List HEnt}, HdA X hds' l' → wHs X.K Wout D l' cls d σ' H' → wpAny (model X.prog X.w) X.A (handleBy (.ref a) X.env hds') (SP X pins D) X.xe { s' with heap := h3 } := by
      intro hds' l' hk
      induction hk with
      | nil =>
        intro wv
        refine wpAny_handleBy_nil ?_
        obtain ⟨_, _, _, oe, vs, T, oT, tz, hoe, _, hod, h1, _⟩ := id fl3
        unfold PySem.passOn
        refine wpAny_bind (wpAny_field hoe hod h1 ?_)
        rw [if_neg (by simp : ¬ ((Value.ref T == Value.none) = true))]
        have last : wpAny (model X.prog X.w) X.A (setFlight (.ref a) X.env.frame) (fun _ s4 => wpAny (model X.prog X.w) X.A (throw (.ref a) : Sem Flow) (SP X pins D) X.xe s4) X.xe { s' with heap := h3 } := by
          rw [hf]
          exact HandSPX.setFlight_upZ fl3 fun h4 hh4 up4 => wpAny_throw (tk _ _ ⟨a, B, sI, pins, σ', H', cls, d, rfl, J, nb, (up.trans up3).trans up4, .inr (.inr (hs ▸ hh4)), na, os, ag, wv⟩)
        first
          | exact wpAny_bind (wpAny_pure (wpAny_bind last))
          | exact wpAny_bind last
      | @plain x c ts b₀ suite np pos' hds2 l2 hc hsu r ih =>
        intro wv
        obtain ⟨b, hb1, yes, no⟩ := wv
        refine wpAny_handleBy_cons (codeAny_handlers_test ?_) (by intro q; cases q)
        refine tst hc ((PySem.W.exm_one (M := model X.prog X.w) (J3.kIn) LT hb1).here ?_)
        cases b with
        | true =>
          refine codeAny_handlers_suite (HandSPX.lands_againZ fl3 fun h4 fl4 up4 => ?_)
          have J4 : Inv X pins σ' H' { s' with heap := h4 } := J.landed nb fl4.1 ((up.trans up3).trans up4) os ag
          obtain ⟨oe4, vs4, he4, hz4, hd4⟩ := fl4.there
          refine wpAny_mono ((hsu a oe4 cls d (X.pn ++ pins) hz4 ⟨_, hd4⟩).run [] _ _ H' _ (J4.suite he4 hd4 na aL aF) (yes rfl a na)) (fun fl s6 hsp => ?_) (fun _ _ z => z.elim)
          cases fl with
          | next => obtain ⟨_, _, S6, q6⟩ := hsp; exact ⟨_, _, S6.unsuite okX, q6⟩
          | brk => obtain ⟨_, _, S6, q6⟩ := hsp; exact ⟨_, _, S6.unsuite okX, q6⟩
          | cont => obtain ⟨_, _, S6, q6⟩ := hsp; exact ⟨_, _, S6.unsuite okX, q6⟩
          | ret u => obtain ⟨_, _, _, S6, r6, q6⟩ := hsp; exact ⟨_, _, _, S6.unsuite okX, r6, q6⟩
        | false => exact ih (no rfl)
      | @named x n i c ts b₀ suite np pos' hds2 l2 hc hN hi hln hsu r ih =>
        intro wv
        obtain ⟨b, hb1, yes, no⟩ := wv
        refine wpAny_handleBy_cons (codeAny_handlers_test ?_) (by intro q; cases q)
        refine tst hc ((PySem.W.exm_one (M := model X.prog X.w) (J3.kIn) LT hb1).here ?_)
        cases b with
        | true =>
          refine codeAny_handlers_suite_as (HandSPX.lands_againZ fl3 fun h4 fl4 up4 => ?_)
          have J4 : Inv X pins σ' H' { s' with heap := h4 } := J.landed nb fl4.1 ((up.trans up3).trans up4) os ag
          obtain ⟨oe4, vs4, he4, hz4, hd4⟩ := fl4.there
          refine store_ok (X := X.suite a ((a, oe4) :: (X.pn ++ pins))) (v := .ref a) (J4.suite he4 hd4 na aL aF) hN hi (.inl hln) rfl (fun s5 S5 => ?_) (.inr hln)
          refine wpAny_mono ((hsu a oe4 cls d (X.pn ++ pins) hz4 ⟨_, hd4⟩).run [] s5 _ H' _ S5 (yes rfl a na)) (fun fl s6 hsp => ?_) (fun _ _ z => z.elim)
          have fin6 : ∀ {σ6 : L2.St} {H6 : Hp} {Q : Shared → Prop}, Inv (X.suite a ((a, oe4) :: (X.pn ++ pins))) [] σ6 H6 s6 → (∀ s7, Inv X pins (σ6.set i none) H6 s7 → Q s7) →
              wpAny (model X.prog X.w) X.A (do bindName X.env n .none; unbindBehindTheSuite X.env n pos') (fun _ s7 => Q s7) X.xe s6 := fun S6 hq => gone_ok (S6.unsuite okX) hN hi hln hq
          cases fl with
          | next => obtain ⟨_, _, S6, q6⟩ := hsp; exact fin6 S6 fun s7 J7 => ⟨_, _, J7, q6⟩
          | brk => obtain ⟨_, _, S6, q6⟩ := hsp; exact fin6 S6 fun s7 J7 => ⟨_, _, J7, q6⟩
          | cont => obtain ⟨_, _, S6, q6⟩ := hsp; exact fin6 S6 fun s7 J7 => ⟨_, _, J7, q6⟩
          | ret u => obtain ⟨_, _, _, S6, r6, q6⟩ := hsp; exact fin6 S6 fun s7 J7 => ⟨_, _, _, J7, r6, q6⟩
        | false => exact ih (no rfl)
    exact go hh wx
  · cases fl with
    | next => obtain ⟨_, _, J', q⟩ := hsp; exact wpAny_execs_nil ⟨_, _, J'.ofTry okX, q⟩
    | brk => obtain ⟨_, _, J', q⟩ := hsp; exact ⟨_, _, J'.ofTry okX, q⟩
    | cont => obtain ⟨_, _, J', q⟩ := hsp; exact ⟨_, _, J'.ofTry okX, q⟩
    | ret u => obtain ⟨_, _, _, J', r, q⟩ := hsp; exact ⟨_, _, _, J'.ofTry okX, r, q⟩
end
abbrev AEnt := Value × Option Nat × (Addr → Value → Option Addr → ASR)
def endA (i : Option Nat) (A : AEnd) : AEnd := match i with
  | none => { A with x := fun _ => noX }
  | some i => { nx := fun Γ ms => A.nx (Γ.set i none) ms, rt := A.rt, bk := fun Γ ms => A.bk (Γ.set i none) ms, ct := fun Γ ms => A.ct (Γ.set i none) ms, x := fun _ => noX }
def setA (i : Option Nat) (Γ : Gam) (sd : SD) : Gam := match i with
  | none => Γ
  | some i => Γ.set i (some sd)
/-- the clauses, from the first one -/
def hR (K : PySem.W.Frag) (A : AEnd) (Γ : Gam) (C : Addr) (f : Str) (dv : D) (ms : MS) : List AEnt → Prop
  | [] => A.x Γ C f dv ms
  | (c, i, rs) :: r => ∃ b, PySem.W.exmOne K (.ref C) c = some b ∧ (b = true → ∀ a dd, rs a (.ref C) (some dd) (endA i A) (setA i Γ (.e a C dd f dv)) ms) ∧ (b = false → hR K A Γ C f dv ms r)
inductive HdL (X : Cx) : List ExceptHandler → List HEnt → List AEnt → Prop
  | nil : HdL X [] [] []
  | plain {x : Str} {c : Value} {ts : Addr → Value → Option Addr → TS} {rs : Addr → Value → Option Addr → ASR} {b₀ : Stmt} {suite : List Stmt} {np pos' : Pos} {hds : List ExceptHandler} {l : List HEnt} {la : List AEnt} (hc : Names X x c)
      (hsu : ∀ (a : Addr) (oe : Obj) (cls : Value) (d : Option Addr) (pn : List (Addr × Obj)), Zc cls d oe → (∃ vs, oe.data = .fields vs) → ASs (X.suite a ((a, oe) :: pn)) W0 (b₀ :: suite) (ts a cls d) (rs a cls d)) (r : HdL X hds l la) :
      HdL X (.ExceptHandler (some (.Name x np)) none (b₀ :: suite) pos' :: hds) ((c, none, ts) :: l) ((c, none, rs) :: la)
  | named {x n : Str} {i : Nat} {c : Value} {ts : Addr → Value → Option Addr → TS} {rs : Addr → Value → Option Addr → ASR} {b₀ : Stmt} {suite : List Stmt} {np pos' : Pos} {hds : List ExceptHandler} {l : List HEnt} {la : List AEnt} (hc : Names X x c) (hN : X.N.Nodup) (hi : X.N[i]? = some n) (hln : X.env.kindOf n = some .local)
      (hsu : ∀ (a : Addr) (oe : Obj) (cls : Value) (d : Option Addr) (pn : List (Addr × Obj)), Zc cls d oe → (∃ vs, oe.data = .fields vs) → ASs (X.suite a ((a, oe) :: pn)) W0 (b₀ :: suite) (ts a cls d) (rs a cls d)) (r : HdL X hds l la) :
      HdL X (.ExceptHandler (some (.Name x np)) (some n) (b₀ :: suite) pos' :: hds) ((c, some i, ts) :: l) ((c, some i, rs) :: la)
theorem HdL.toA {X : Cx} {hds : List ExceptHandler} {l : List HEnt} {la : List AEnt} (h : HdL X hds l la) : HdA X hds l := by
  induction h with
  | nil => exact .nil
  | plain hc hsu _ ih => exact .plain hc (fun a oe cls d pn z y => (hsu a oe cls d pn z y).pe) ih
  | named hc hN hi hln hsu _ ih => exact .named hc hN hi hln (fun a oe cls d pn z y => (hsu a oe cls d pn z y).pe) ih
theorem EOk.forget1 {G : Hp} {σ : L2.St} {Γ : Gam} (h : EOk G σ Γ) (i : Nat) : EOk G (σ.set i none) (Γ.set i none) := h.forget i
theorem hds_ok {X : Cx} {W : WX} {G0 G F : Hp} {A : AEnd} {E₀ : Ends} {σ : L2.St} {Γ : Gam} {C d : Addr} {f : Str} {u : V} {dv : D} {H : Hp} {ms : MS} (fin : Fin' W G F A E₀) (ev : EOk G σ Γ) (g : Good H G F ms) (h1 : G d = some (.xd [(f, u)])) (h2 : Shw G u dv)
    {hds : List ExceptHandler} {l : List HEnt} {la : List AEnt} (hl : HdL X hds l la) (h : hR X.K A Γ C f dv ms la) : wHs X.K W E₀ l (.ref C) (some d) σ H := by
  induction hl with
  | nil => exact fin.x σ Γ G (Ex.refl G) ev C d f u dv H G ms (Ex.refl G) g h1 h2 h
  | plain hc hsu _ ih =>
    obtain ⟨b, hb, yes, no⟩ := h
    refine ⟨b, hb, fun eb a ha => ?_, fun eb => ih (no eb)⟩
    exact (hsu a ⟨.ref C, some d, .fields #[], #[]⟩ (.ref C) (some d) [] ⟨rfl, rfl⟩ ⟨_, rfl⟩).ok _ Γ ms (yes eb a d) σ H G F E₀ ev g ⟨fin.nx, fin.rt, fin.bk, fin.ct, fun _ _ _ _ _ => xw_no⟩
  | @named x n i c ts rs b₀ suite np pos' hds2 l2 la2 hc hN hi hln hsu _ ih =>
    obtain ⟨b, hb, yes, no⟩ := h
    refine ⟨b, hb, fun eb a ha => ?_, fun eb => ih (no eb)⟩
    refine (hsu a ⟨.ref C, some d, .fields #[], #[]⟩ (.ref C) (some d) [] ⟨rfl, rfl⟩ ⟨_, rfl⟩).ok _ _ ms (yes eb a d) _ H G F _ (ev.set (sd := .e a C d f dv) (v := .ref a) ⟨rfl, u, h1, h2⟩ i) g ⟨fun σ' H' G' Γ' ms' e' ev' g' q => fin.nx _ H' G' _ ms' e' (ev'.forget i) g' q, fin.rt,
      fun σ' H' G' Γ' ms' e' ev' g' q => fin.bk _ H' G' _ ms' e' (ev'.forget i) g' q, fun σ' H' G' Γ' ms' e' ev' g' q => fin.ct _ H' G' _ ms' e' (ev'.forget i) g' q, fun _ _ _ _ _ => xw_no⟩
def rTry (K : PySem.W.Frag) (rb : ASR) (la : List AEnt) : ASR := fun A Γ ms => rb { A with x := fun Γ' C f dv ms' => hR K A Γ' C f dv ms' la } Γ ms
theorem as_try {X : Cx} {body : List Stmt} {h₀ : ExceptHandler} {hds : List ExceptHandler} {l : List HEnt} {la : List AEnt} {pos : Pos} {tb : WX → TS} {rb : ASR} {Wout : WX} (hs : X.stack = X.env :: X.outer) (hf : X.env.frame = some X.env.locals) (tk : Takes X Wout)
    (hb : ∀ (W : WX) (pn : List (Addr × Obj)) (xe : Value → Shared → Prop), Takes (X.tr pn xe) W → ASs (X.tr pn xe) W body (tb W) rb)
    (hh : HdL X (h₀ :: hds) l la) : AS X Wout (.Try body (h₀ :: hds) [] [] pos) (fun D σ H => tb (wHs X.K Wout D l) D σ H) (rTry X.K rb la) := by
  refine ⟨ps_try_hs hs hf tk (fun W pn xe a _ => (hb W pn xe a).pe) hh.toA, fun A Γ ms h σ H G F D ev g fin => ?_⟩
  have hX := hb (wHs X.K Wout D l) [] (fun _ _ => True) (fun _ _ _ => trivial)
  refine hX.ok _ Γ ms h σ H G F D ev g ⟨fin.nx, fin.rt, fin.bk, fin.ct, fun σ' Γ' G' e' ev' => ?_⟩
  intro C d f u dv H2 G2 ms2 e2 g2 h1 h2 h3
  exact hds_ok (G0 := G) (fin.mono (e'.trans e2)) (ev'.mono e2) g2 h1 h2 hh h3
end AL

/-! ## AbsY -/
set_option Elab.async false
set_option linter.all false
set_option maxRecDepth 100000
set_option maxHeartbeats 2000000
namespace AL
open PySem PySem.Spec PyProof.Rows L2
open Evl (Ex)
/-! ### the field of a caught exception -/
def tByF (C : Addr) (f : Str) (a : Addr) (cls : Value) (d : Option Addr) (te : TE) : TE := fun σ H Q => te σ H fun x H1 => x = .ref a ∧ cls = .ref C ∧ ∃ (dd : Addr) (v : V), d = some dd ∧ H1 dd = some (.xd [(f, v)]) ∧ Q v H1
def rByF (C : Addr) (f : Str) (a : Addr) (cls : Value) (d : Option Addr) (re : AER) : AER := fun Γ ms k x => re Γ ms (fun u ms1 => cls = .ref C ∧ ∃ dd dv, u = .e a C dd f dv ∧ d = some dd ∧ k (.d dv) ms1) x
theorem ae_byF {X : Cx} {W : WX} {C a : Addr} {f : Str} {cls : Value} {d : Option Addr} {e : Expr} {pos : Pos} {te : TE} {re : AER} (he : AE X W e te re) (hp : PE X (.Attribute e f pos) (tByF C f a cls d te)) : AE X W (.Attribute e f pos) (tByF C f a cls d te) (rByF C f a cls d re) := by
  refine ⟨hp, fun Γ ms k x h σ H G F Q ev g kk xw => ?_⟩
  refine he.ok Γ ms _ x h σ H G F _ ev g (fun v H1 G1 sd ms1 e1 g1 s1 q1 => ?_) xw
  obtain ⟨ec, dd, dv, rfl, ed, q⟩ := q1
  obtain ⟨rfl, w, h1, h2⟩ := s1
  exact ⟨rfl, ec, dd, w, ed, g1.ex _ _ h1, kk _ _ _ _ _ e1 g1 (okd h2) q⟩

/-! ### comprehensions of two clauses -/
section
variable {X : Cx} {W : WX} {elt tg iter tg1 iter1 : Expr} {ifs ifs1 : List Expr} {scope : Scope} {own : List (Str × Nat)} {vs1 : List Nat} {pos spos py : Pos} {wi wi1 : TI} {g g1 : TG} {tt tt1 : TT} {te : TE} {ri ri1 : AIR} {rg rg1 : AGR} {rt rt1 : ATR} {re : AER} {sl sl1 : List Nat} {x : Str}
def lc2I (rg : AGR) (rt : ATR) (ri1 : AIR) (rg1 : AGR) (rt1 : ATR) (re : AER) (vs1 : List Nat) (Γ0 : Gam) : List D → List D → MS → (List D → MS → Prop) → Prop
  | [], acc, ms, kk => kk acc ms
  | d :: ds, acc, ms, kk => rg (.d d) Γ0 ms fun Γ1 ms1 => rt Γ1 ms1 (fun b ms2 => if b = true then ri1 Γ1 ms2 (fun es ms3 => lcI rg1 rt1 re (wipeG Γ1 vs1) es acc ms3 fun acc' ms4 => lc2I rg rt ri1 rg1 rt1 re vs1 Γ0 ds acc' ms4 kk) noX else lc2I rg rt ri1 rg1 rt1 re vs1 Γ0 ds acc ms2 kk) noX
theorem lc2_sound (hs : ∀ j ∈ sl, j ∈ own.map (·.2)) (hs1 : ∀ j ∈ sl1, j ∈ vs1) (hi : ∀ Γ ms k x, ri Γ ms k x → ∀ σ H G F R, EOk G σ Γ → Good H G F ms → KI G F k R → XW W G F σ x → wi σ H R)
    (hg : ∀ sd Γ ms k, rg sd Γ ms k → ∀ v σ H G F Q, SOk G v sd → EOk G σ Γ → Good H G F ms → KS sl σ G F k Q → g v σ H Q)
    (ht : ∀ Γ ms k x, rt Γ ms k x → ∀ σ H G F Q, EOk G σ Γ → Good H G F ms → KT G F k Q → XW W0 G F σ x → tt σ H Q)
    (hi1 : ∀ Γ ms k x, ri1 Γ ms k x → ∀ σ H G F R, EOk G σ Γ → Good H G F ms → KI G F k R → XW W0 G F σ x → wi1 σ H R)
    (hg1 : ∀ sd Γ ms k, rg1 sd Γ ms k → ∀ v σ H G F Q, SOk G v sd → EOk G σ Γ → Good H G F ms → KS sl1 σ G F k Q → g1 v σ H Q)
    (ht1 : ∀ Γ ms k x, rt1 Γ ms k x → ∀ σ H G F Q, EOk G σ Γ → Good H G F ms → KT G F k Q → XW W0 G F σ x → tt1 σ H Q)
    (he : ∀ Γ ms k x, re Γ ms k x → ∀ σ H G F Q, EOk G σ Γ → Good H G F ms → KE G F k Q → XW W0 G F σ x → te σ H Q)
    {Γ : Gam} {ms : MS} {k : SD → MS → Prop} {x : AX} (h : ri Γ ms (fun ds ms1 => lc2I rg rt ri1 rg1 rt1 re vs1 (wipeG Γ (own.map (·.2))) ds [] ms1 fun acc ms2 => k (.d (.lst acc)) ms2) x)
    {σ : L2.St} {H G F : Hp} {Q : VK} (ev : EOk G σ Γ) (gd : Good H G F ms) (kk : KE G F k Q) (xw : XW W G F σ x) : tLc2 wi g tt wi1 g1 tt1 te (own.map (·.2)) vs1 σ H Q := by
  refine hi Γ ms _ x h σ H G F _ ev gd (fun J H1 G1 ds ms1 e1 g1' q1 wk => ?_) xw
  intro Ad hD
  have fD := (g1'.fresh hD).2.2
  refine ⟨fun i m H' => ∃ G' acc accV ms', Ex G1 G' ∧ Good H' G' (upd F Ad (.lst accV)) ms' ∧ ShwL G' accV acc ∧ i ≤ ds.length ∧ m = ds.length - i ∧ lc2I rg rt ri1 rg1 rt1 re vs1 (wipeG Γ (own.map (·.2))) (ds.drop i) acc ms' fun acc ms2 => k (.d (.lst acc)) ms2,
    ⟨ds.length, G1, [], [], ms1, Ex.refl G1, g1'.asideN hD, .nil, Nat.zero_le _, rfl, q1⟩, ?_⟩
  rintro i m H' ⟨G', acc, accV, ms', e', g', sA, hi', rfl, q'⟩
  obtain ⟨w1, w2⟩ := wk i H' G' _ ms' e' g'
  by_cases hlt : i < ds.length
  · right
    obtain ⟨go, yl⟩ := w2 ds[i] (List.getElem?_eq_getElem hlt)
    rw [List.drop_eq_getElem_cons hlt] at q'
    refine ⟨go, fun H2 => ∃ G' acc accV ms', Ex G1 G' ∧ Good H2 G' (upd F Ad (.lst accV)) ms' ∧ ShwL G' accV acc ∧ i + 1 ≤ ds.length ∧ lc2I rg rt ri1 rg1 rt1 re vs1 (wipeG Γ (own.map (·.2))) (ds.drop (i + 1)) acc ms' fun acc ms2 => k (.d (.lst acc)) ms2, fun H2 hN => ?_, fun v H2 hy => ?_⟩
    · obtain ⟨G2, acc2, accV2, ms2, a1, a2, a3, a4, a5⟩ := hN
      exact ⟨ds.length - (i + 1), by omega, G2, acc2, accV2, ms2, a1, a2, a3, a4, rfl, a5⟩
    · obtain ⟨G2, e2, g2, sv⟩ := yl v H2 hy
      refine hg _ _ _ _ q' v _ H2 G2 _ _ (okd sv) ((ev.mono ((e1.trans e').trans e2)).wipe _) g2 fun σ3 H3 G3 Γ3 ms3 e3 ev3 g3 n3 q3 => ?_
      refine ⟨wipe_eq n3.1 n3.2 hs, ?_⟩
      refine ht _ _ _ _ q3 σ3 H3 G3 _ _ ev3 g3 (fun b H4 G4 ms4 e4 g4 q4 => ?_) xw_no
      have e14 := (e'.trans e2).trans (e3.trans e4)
      cases b with
      | false =>
        rw [if_neg Bool.false_ne_true] at q4 ⊢
        exact ⟨G4, acc, accV, ms4, e14, g4, sA.mono (e2.trans (e3.trans e4)), hlt, q4⟩
      | true =>
        rw [if_pos rfl] at q4 ⊢
        refine hi1 _ _ _ _ q4 σ3 H4 G4 _ _ (ev3.mono e4) g4 (fun J1 H5 G5 es ms5 e5 g5 q5 wk1 => ?_) xw_no
        have sA5 := sA.mono (e2.trans (e3.trans (e4.trans e5)))
        have ev5 := ((ev3.mono e4).mono e5).wipe vs1
        refine ⟨fun j m H' => ∃ G' acc accV ms', Ex G5 G' ∧ Good H' G' (upd F Ad (.lst accV)) ms' ∧ ShwL G' accV acc ∧ j ≤ es.length ∧ m = es.length - j ∧ lcI rg1 rt1 re (wipeG Γ3 vs1) (es.drop j) acc ms' fun acc' ms4 => lc2I rg rt ri1 rg1 rt1 re vs1 (wipeG Γ (own.map (·.2))) (ds.drop (i + 1)) acc' ms4 fun acc ms2 => k (.d (.lst acc)) ms2,
          ⟨es.length, G5, acc, accV, ms5, Ex.refl G5, g5, sA5, Nat.zero_le _, rfl, q5⟩, ?_⟩
        rintro j m H6 ⟨G6, acc6, accV6, ms6, e6, g6, sA6, hj, rfl, q6⟩
        obtain ⟨v1, v2⟩ := wk1 j H6 G6 _ ms6 e6 g6
        by_cases hlt1 : j < es.length
        · right
          obtain ⟨go1, yl1⟩ := v2 es[j] (List.getElem?_eq_getElem hlt1)
          rw [List.drop_eq_getElem_cons hlt1] at q6
          refine ⟨go1, fun H2 => ∃ G' acc accV ms', Ex G5 G' ∧ Good H2 G' (upd F Ad (.lst accV)) ms' ∧ ShwL G' accV acc ∧ j + 1 ≤ es.length ∧ lcI rg1 rt1 re (wipeG Γ3 vs1) (es.drop (j + 1)) acc ms' fun acc' ms4 => lc2I rg rt ri1 rg1 rt1 re vs1 (wipeG Γ (own.map (·.2))) (ds.drop (i + 1)) acc' ms4 fun acc ms2 => k (.d (.lst acc)) ms2, fun H2 hN => ?_, fun v H7 hy => ?_⟩
          · obtain ⟨G2, acc2, accV2, ms2, a1, a2, a3, a4, a5⟩ := hN
            exact ⟨es.length - (j + 1), by omega, G2, acc2, accV2, ms2, a1, a2, a3, a4, rfl, a5⟩
          · obtain ⟨G7, e7, g7, sv7⟩ := yl1 v H7 hy
            refine hg1 _ _ _ _ q6 v _ H7 G7 _ _ (okd sv7) (ev5.mono (e6.trans e7)) g7 fun σ8 H8 G8 Γ8 ms8 e8 ev8 g8 n8 q8 => ?_
            refine ⟨wipe_eq n8.1 n8.2 hs1, ?_⟩
            refine ht1 _ _ _ _ q8 σ8 H8 G8 _ _ ev8 g8 (fun b H9 G9 ms9 e9 g9 q9 => ?_) xw_no
            have e59 := (e6.trans e7).trans (e8.trans e9)
            cases b with
            | false =>
              rw [if_neg Bool.false_ne_true] at q9 ⊢
              exact ⟨G9, acc6, accV6, ms9, e59, g9, sA6.mono (e7.trans (e8.trans e9)), hlt1, q9⟩
            | true =>
              rw [if_pos rfl] at q9 ⊢
              refine he _ _ _ _ q9 σ8 H9 G9 _ _ (ev8.mono e9) g9 (fun y Ha Ga sd msa ea ga sa qa => ?_) xw_no
              obtain ⟨dv, sdv, hz, qa⟩ := asD_ok sa qa
              exact ⟨accV6, (ga.fr Ad _ upd_same).1, by rw [sA6.length]; exact hz, Ga, acc6 ++ [dv], accV6 ++ [y], msa, e59.trans ea, ga.asideW, (sA6.mono (e7.trans (e8.trans (e9.trans ea)))).append (.cons sdv .nil), hlt1, qa⟩
        · left
          rw [List.drop_eq_nil_of_le (by omega)] at q6
          exact ⟨v1 (by omega), G6, acc6, accV6, ms6, (e14.trans e5).trans e6, g6, sA6, hlt, q6⟩
  · left
    refine ⟨w1 (by omega), ?_⟩
    rw [List.drop_eq_nil_of_le (by omega)] at q'
    obtain ⟨g6, e6⟩ := g'.back fD
    exact kk _ _ _ _ _ ((e1.trans e').trans e6) g6 (okd (.lst upd_same (sA.mono e6))) q'
theorem as_setLc2 (i : Nat) (hc : X.calm = true) (hN : X.N.Nodup) (hi : AI X W tg iter wi ri) (ok : BlkOk X.N X.env.scope scope own) (hv : ∀ i ∈ vs1, i ∈ own.map (·.2)) (hs : ∀ j ∈ sl, j ∈ own.map (·.2)) (hs1 : ∀ j ∈ sl1, j ∈ vs1)
    (hg : ∀ (s : Shared) (H : Hp) (C : Addr) (cl : List (Str × Addr)) (fp : List Addr), AG (X.blk s H scope (compEnvC scope cl C X.env) fp) tg sl g rg) (ht : ∀ (s : Shared) (H : Hp) (C : Addr) (cl : List (Str × Addr)) (fp : List Addr), ATs (X.blk s H scope (compEnvC scope cl C X.env) fp) W0 ifs tt rt)
    (hi1 : ∀ (s : Shared) (H : Hp) (C : Addr) (cl : List (Str × Addr)) (fp : List Addr), AI (X.blk s H scope (compEnvC scope cl C X.env) fp) W0 tg1 iter1 wi1 ri1)
    (hg1 : ∀ (s : Shared) (H : Hp) (C : Addr) (cl : List (Str × Addr)) (fp : List Addr), AG (X.blk s H scope (compEnvC scope cl C X.env) fp) tg1 sl1 g1 rg1) (ht1 : ∀ (s : Shared) (H : Hp) (C : Addr) (cl : List (Str × Addr)) (fp : List Addr), ATs (X.blk s H scope (compEnvC scope cl C X.env) fp) W0 ifs1 tt1 rt1)
    (he : ∀ (s : Shared) (H : Hp) (C : Addr) (cl : List (Str × Addr)) (fp : List Addr), AE (X.blk s H scope (compEnvC scope cl C X.env) fp) W0 elt te re)
    (hsw : swapsWith (.ListComp elt [⟨tg, iter, ifs, 0⟩, ⟨tg1, iter1, ifs1, 0⟩] scope pos) (some (.Name x py)) spos.line X.env = pure true) (hy : X.N[i]? = some x := by rfl) (hyl : X.env.scope.names.lookup x = some .local := by rfl) (hf : ∀ x, foldedSetIterable iter X.env x = pure x := by intro _; rfl) (hf1 : ∀ env x, foldedSetIterable iter1 env x = pure x := by intro _ _; rfl) :
    AS X W (.Assign [.Name x py] (.ListComp elt [⟨tg, iter, ifs, 0⟩, ⟨tg1, iter1, ifs1, 0⟩] scope pos) spos) (tAsg (tLc2 wi g tt wi1 g1 tt1 te (own.map (·.2)) vs1) (gName i)) (rSet i (fun Γ ms k x => ri Γ ms (fun ds ms1 => lc2I rg rt ri1 rg1 rt1 re vs1 (wipeG Γ (own.map (·.2))) ds [] ms1 fun acc ms2 => k (.d (.lst acc)) ms2) x)) :=
  ⟨ps_setLc2 hc hN hy hyl hsw hi.pe ok hv (fun a b c d e => (hg a b c d e).pe) (fun a b c d e => (ht a b c d e).pe) (fun a b c d e => (hi1 a b c d e).pe) (fun a b c d e => (hg1 a b c d e).pe) (fun a b c d e => (ht1 a b c d e).pe) (fun a b c d e => (he a b c d e).pe) hf hf1,
    fun A Γ ms h σ H G F D ev g' f => lc2_sound (W := W) hs hs1 hi.ok (hg X.s_0 X.H_0 0 [] []).ok (ht X.s_0 X.H_0 0 [] []).ok (hi1 X.s_0 X.H_0 0 [] []).ok (hg1 X.s_0 X.H_0 0 [] []).ok (ht1 X.s_0 X.H_0 0 [] []).ok (he X.s_0 X.H_0 0 [] []).ok (Γ := Γ) (ms := ms) (k := fun sd ms1 => A.nx (Γ.set i (some sd)) ms1) (x := A.x Γ) h ev g' (fun v H2 G2 sd ms2 e2 g2 s2 q => f.nx _ H2 G2 _ ms2 e2 ((ev.mono e2).set s2 i) g2 q) (f.x σ Γ G (Ex.refl G) ev)⟩
theorem ae_lc2 (hc : X.calm = true) (hN : X.N.Nodup) (hi : AI X W tg iter wi ri) (ok : BlkOk X.N X.env.scope scope own) (hv : ∀ i ∈ vs1, i ∈ own.map (·.2)) (hs : ∀ j ∈ sl, j ∈ own.map (·.2)) (hs1 : ∀ j ∈ sl1, j ∈ vs1)
    (hg : ∀ (s : Shared) (H : Hp) (C : Addr) (cl : List (Str × Addr)) (fp : List Addr), AG (X.blk s H scope (compEnvC scope cl C X.env) fp) tg sl g rg) (ht : ∀ (s : Shared) (H : Hp) (C : Addr) (cl : List (Str × Addr)) (fp : List Addr), ATs (X.blk s H scope (compEnvC scope cl C X.env) fp) W0 ifs tt rt)
    (hi1 : ∀ (s : Shared) (H : Hp) (C : Addr) (cl : List (Str × Addr)) (fp : List Addr), AI (X.blk s H scope (compEnvC scope cl C X.env) fp) W0 tg1 iter1 wi1 ri1)
    (hg1 : ∀ (s : Shared) (H : Hp) (C : Addr) (cl : List (Str × Addr)) (fp : List Addr), AG (X.blk s H scope (compEnvC scope cl C X.env) fp) tg1 sl1 g1 rg1) (ht1 : ∀ (s : Shared) (H : Hp) (C : Addr) (cl : List (Str × Addr)) (fp : List Addr), ATs (X.blk s H scope (compEnvC scope cl C X.env) fp) W0 ifs1 tt1 rt1)
    (he : ∀ (s : Shared) (H : Hp) (C : Addr) (cl : List (Str × Addr)) (fp : List Addr), AE (X.blk s H scope (compEnvC scope cl C X.env) fp) W0 elt te re) (hf : ∀ x, foldedSetIterable iter X.env x = pure x := by intro _; rfl) (hf1 : ∀ env x, foldedSetIterable iter1 env x = pure x := by intro _ _; rfl) :
    AE X W (.ListComp elt [⟨tg, iter, ifs, 0⟩, ⟨tg1, iter1, ifs1, 0⟩] scope pos) (tLc2 wi g tt wi1 g1 tt1 te (own.map (·.2)) vs1) (fun Γ ms k x => ri Γ ms (fun ds ms1 => lc2I rg rt ri1 rg1 rt1 re vs1 (wipeG Γ (own.map (·.2))) ds [] ms1 fun acc ms2 => k (.d (.lst acc)) ms2) x) :=
  ⟨pe_lc2 hc hN hi.pe ok hv (fun a b c d e => (hg a b c d e).pe) (fun a b c d e => (ht a b c d e).pe) (fun a b c d e => (hi1 a b c d e).pe) (fun a b c d e => (hg1 a b c d e).pe) (fun a b c d e => (ht1 a b c d e).pe) (fun a b c d e => (he a b c d e).pe) hf hf1,
    fun _ _ _ _ h σ H G F Q ev gd kk xw => lc2_sound hs hs1 hi.ok (hg X.s_0 X.H_0 0 [] []).ok (ht X.s_0 X.H_0 0 [] []).ok (hi1 X.s_0 X.H_0 0 [] []).ok (hg1 X.s_0 X.H_0 0 [] []).ok (ht1 X.s_0 X.H_0 0 [] []).ok (he X.s_0 X.H_0 0 [] []).ok h ev gd kk xw⟩
end
/-! ### a def with a star parameter behind one parameter -/
theorem star_A {P : Program} {w : World} {K : PySem.W.Frag} {mg : Str → Option Value} {base : Heap} {CX : CXT} {k : Nat} {f : Addr} {R : AFn} {n : Nat}
    (h : FnR P w K mg base CX k f (fun vs H Q E => ∃ ws rest, vs = ws ++ rest ∧ ws.length = n ∧ rest.length ≤ sizeLine ∧ ∀ p, H p = none → spA R (ws ++ [V.ref p]) (upd H p (.tup rest)) Q E)) :
    FnR P w K mg base CX k f (spA fun sds ms kk x => ∃ as ds, sds = as ++ ds.map SD.d ∧ as.length = n ∧ ds.length ≤ sizeLine ∧ R (as ++ [.d (.tup ds)]) ms kk x) := h.imp fun vs H Q E hs => by
  obtain ⟨sds, G, F, ms, kk, x, s, g, ⟨as, ds, rfl, hn, hl, r⟩, kq, xe⟩ := hs
  have split : ∀ {as bs : List SD} {vs : List V}, SOkL G vs (as ++ bs) → ∃ v1 v2, vs = v1 ++ v2 ∧ SOkL G v1 as ∧ SOkL G v2 bs := by
    intro as
    induction as with
    | nil => intro bs vs s; exact ⟨[], vs, rfl, .nil, s⟩
    | cons a r ih =>
      intro bs vs s
      cases s with
      | cons h t =>
        obtain ⟨v1, v2, e, h1, h2⟩ := ih t
        exact ⟨_ :: v1, v2, by rw [e]; rfl, .cons h h1, h2⟩
  have datL : ∀ {ds : List D} {vs : List V}, SOkL G vs (ds.map SD.d) → ShwL G vs ds := by
    intro ds
    induction ds with
    | nil => intro vs s; cases s; exact .nil
    | cons d r ih =>
      intro vs s
      cases s with
      | cons h t => exact .cons h (ih t)
  obtain ⟨v1, v2, rfl, s1, s2⟩ := split s
  have sd := datL s2
  refine ⟨v1, v2, rfl, by rw [s1.length, hn], by rw [sd.length]; exact hl, fun p hp => ?_⟩
  refine ⟨_, upd G p (.tup v2), F, ms, kk, x, ?_, g.new hp, r, fun v H2 G2 sd2 ms2 e2 => kq v H2 G2 sd2 ms2 ((g.exn hp).trans e2), fun C d f u dv H2 G2 ms2 e2 => xe C d f u dv H2 G2 ms2 ((g.exn hp).trans e2)⟩
  have app : ∀ {as bs : List SD} {v1 v2 : List V} {G : Hp}, SOkL G v1 as → SOkL G v2 bs → SOkL G (v1 ++ v2) (as ++ bs) := by
    intro as bs v1 v2 G h1 h2
    induction h1 with
    | nil => exact h2
    | cons a _ ih => exact .cons a ih
  exact app (s1.mono (g.exn hp)) (.cons (okd (.tup upd_same (sd.mono (g.exn hp)))) .nil)
end AL

/-! ## AbsS -/
set_option Elab.async false
set_option linter.all false
set_option maxRecDepth 100000
set_option maxHeartbeats 2000000
namespace AL
open PySem PySem.Spec PyProof.Rows L2
/-! ### steps through a reading -/
section
variable {A : AEnd} {Γ : Gam} {ms : MS} {k : SD → MS → Prop} {x : AX} {r s : ASR} {re ro ri : AER} {i : Nat} {kz : SD → Prop} {rg : AGR} {rc : ATR} {kb : Bool → Prop}
theorem s_seq (h : r { A with nx := s A } Γ ms) : rSeq r s A Γ ms := h
theorem s_set (h : re Γ ms (fun sd ms1 => A.nx (Γ.set i (some sd)) ms1) (A.x Γ)) : rSet i re A Γ ms := h
theorem s_nx (h : A.nx Γ ms) : rNx A Γ ms := h
theorem s_if (h : rc Γ ms (fun b ms1 => if b = true then r A Γ ms1 else s A Γ ms1) (A.x Γ)) : rIf rc r s A Γ ms := h
theorem s_ret (h : re Γ ms A.rt (A.x Γ)) : rRet re A Γ ms := h
theorem s_drop (h : re Γ ms (fun _ ms1 => A.nx Γ ms1) (A.x Γ)) : rDrop re A Γ ms := h
theorem s_asg (h : re Γ ms (fun sd ms1 => rg sd Γ ms1 A.nx) (A.x Γ)) : rAsg re rg A Γ ms := h
theorem s_gN {sd : SD} {kk : Gam → MS → Prop} (h : kk (Γ.set i (some sd)) ms) : gN i sd Γ ms kk := h
theorem s_v {sd : SD} (e : Γ[i]? = some (some sd)) (h : k sd ms) : rV i Γ ms k x := by unfold rV; rw [e]; exact h
theorem s_asB {b : Bool} (h : kb b) : asB kb (.d (.bl b)) := h
theorem s_asI {j : Int} {ki : Int → Prop} (h : ki j) : asI ki (.d (.int j)) := h
theorem s_asD {d : D} {kd : D → Prop} (h : kd d) : asD kd (.d d) := h
theorem s_nil {kd : List D → Prop} (h : kd []) : asDs [] kd := h
theorem s_cons {d : D} {l : List SD} {kd : List D → Prop} (h : asDs l fun ds => kd (d :: ds)) : asDs (.d d :: l) kd := h
theorem s_addI {a b : Int} (h : kz (.d (.int (a + b)))) : oAdd ms (.d (.int a)) (.d (.int b)) kz := h
theorem s_addS {a b : Str} (z : a.length + b.length ≤ sizeLine) (h : kz (.d (.str (a ++ b)))) : oAdd ms (.d (.str a)) (.d (.str b)) kz := ⟨z, h⟩
theorem s_addT {a b : List D} (z : a.length + b.length ≤ sizeLine) (h : kz (.d (.tup (a ++ b)))) : oAdd ms (.d (.tup a)) (.d (.tup b)) kz := ⟨z, h⟩
theorem s_addL {a b : List D} (z : a.length + b.length ≤ sizeLine) (h : kz (.d (.lst (a ++ b)))) : oAdd ms (.d (.lst a)) (.d (.lst b)) kz := ⟨a, b, rfl, rfl, z, h⟩
theorem s_I0 {f : Int → Int → D} {a b : Int} (h : kz (.d (f a b))) : oI0 f ms (.d (.int a)) (.d (.int b)) kz := h
theorem s_I {C : Int → Int → Prop} {f : Int → Int → D} {a b : Int} (c : C a b) (h : kz (.d (f a b))) : oI C f ms (.d (.int a)) (.d (.int b)) kz := ⟨c, h⟩
theorem s_neg {a : Int} (h : kz (.d (.int (-a)))) : oNeg ms (.d (.int a)) kz := h
theorem s_eqI {neg : Bool} {a b : Int} (h : kz (.d (.bl (neg ^^ decide (a = b))))) : oEq neg ms (.d (.int a)) (.d (.int b)) kz := h
theorem s_eqS {neg : Bool} {a b : Str} (h : kz (.d (.bl (neg ^^ decide (a = b))))) : oEq neg ms (.d (.str a)) (.d (.str b)) kz := h
theorem s_ltI {a b : Int} (h : kz (.d (.bl (decide (a < b))))) : oLt ms (.d (.int a)) (.d (.int b)) kz := h
theorem s_isN {neg : Bool} {x : SD} (h : kz (.d (.bl (neg ^^ x.isNon)))) : oIsN neg ms x (.d .non) kz := h
theorem s_int {a : Int} (h : kz (.d (.int a))) : oInt ms [.d (.int a)] kz := h
theorem s_abs {a : Int} (h : kz (.d (.int a.natAbs))) : oAbs ms [.d (.int a)] kz := h
theorem seqOf_m {p : Addr} {ds : List D} (h : ms p = some (.l ds)) : seqOf ms (.v (.ref p)) = some ds := by
  show (match ms p with | some (.l ds) => some ds | _ => none) = some ds
  rw [h]
theorem lstOf_m {p : Addr} {ds : List D} (h : ms p = some (.l ds)) : lstOf ms (.v (.ref p)) = some ds := by
  show (match ms p with | some (.l ds) => some ds | _ => none) = some ds
  rw [h]
theorem s_len {sd : SD} {ds : List D} (e : seqOf ms sd = some ds) (h : kz (.d (.int ds.length))) : oLen ms [sd] kz := by
  unfold oLen
  split
  · rename_i q; cases q; cases e
  · rename_i q; cases q; exact ⟨ds, e, h⟩
  · rename_i a _ h2; exact (h2 sd rfl).elim
theorem s_lenS {z : Str} (hz : z.length ≤ sizeLine) (h : kz (.d (.int z.length))) : oLen ms [.d (.str z)] kz := ⟨hz, h⟩
theorem s_tup {sd : SD} {ds : List D} (e : seqOf ms sd = some ds) (h : kz (.d (.tup ds))) : oTup ms [sd] kz := ⟨ds, e, h⟩
theorem s_list {sd : SD} {ds : List D} (e : seqOf ms sd = some ds) (h : kz (.d (.lst ds))) : oList ms [sd] kz := ⟨ds, e, h⟩
theorem s_ix {sd : SD} {ds : List D} {j : Int} {d : D} (e : seqOf ms sd = some ds) (e2 : atI ds j = some d) (h : kz (.d d)) : oIx ms sd (.d (.int j)) kz := .inl ⟨ds, j, d, e, rfl, e2, h⟩
theorem s_ixS {z : Str} {j : Int} {c : Nat} (hz : z.length ≤ sizeLine) (e2 : atI z.cps.toList j = some c) (h : kz (.d (.str ⟨#[c]⟩))) : oIx ms (.d (.str z)) (.d (.int j)) kz := .inr (.inl ⟨z, j, c, rfl, rfl, hz, e2, h⟩)
theorem s_ite {b : Bool} {P Q : Prop} (h1 : b = true → P) (h2 : b = false → Q) : if b = true then P else Q := by
  cases b with
  | true => exact h1 rfl
  | false => exact h2 rfl
theorem s_iteT {b : Bool} {P Q : Prop} (e : b = true) (h1 : P) : if b = true then P else Q := by rw [if_pos e]; exact h1
theorem s_iteF {b : Bool} {P Q : Prop} (e : b = false) (h1 : Q) : if b = true then P else Q := by rw [e]; exact h1
theorem s_put (h : re Γ ms (fun v ms1 => ro Γ ms1 (fun u ms2 => ri Γ ms2 (fun w ms3 => asD (fun dv => oPut ms3 u w dv (A.nx Γ)) v) (A.x Γ)) (A.x Γ)) (A.x Γ)) : rPut ro ri re A Γ ms := h
theorem s_putL {p : Addr} {ds : List D} {j : Int} {n : Nat} {dv : D} {K1 : MS → Prop} (hp : ms p = some (.l ds)) (hj : ixN ds.length j = some n) (h : K1 (mu ms p (.l (ds.set n dv)))) : oPut ms (.v (.ref p)) (.d (.int j)) dv K1 :=
  ⟨p, rfl, .inl ⟨ds, j, n, hp, rfl, hj, h⟩⟩
theorem s_putT {p : Addr} {kvs : List (List Key × D)} {ks : List D} {kk : List Key} {dv : D} {K1 : MS → Prop} (hp : ms p = some (.t kvs)) (hk : keysOf ks = some kk) (hl : kvs.length < sizeLine) (h : K1 (mu ms p (.t (putKD kvs kk dv)))) : oPut ms (.v (.ref p)) (.d (.tup ks)) dv K1 :=
  ⟨p, rfl, .inr (.inl ⟨kvs, ks, kk, hp, rfl, hk, hl, h⟩)⟩
theorem s_app (h : ro Γ ms (fun u ms1 => oL ms1 u fun p => re Γ ms1 (fun v ms2 => oApp ms2 p v k) x) x) : rApp ro re Γ ms k x := h
theorem s_ext (h : ro Γ ms (fun u ms1 => oL ms1 u fun p => re Γ ms1 (fun v ms2 => oExt ms2 p v k) x) x) : rExt ro re Γ ms k x := h
theorem s_oL {p : Addr} {ds : List D} {K1 : Addr → Prop} (hp : ms p = some (.l ds)) (h : K1 p) : oL ms (.v (.ref p)) K1 := ⟨p, ds, rfl, hp, h⟩
theorem s_oApp {p : Addr} {ds : List D} {d : D} (hp : ms p = some (.l ds)) (hl : ds.length < sizeLine) (h : k (.d .non) (mu ms p (.l (ds ++ [d])))) : oApp ms p (.d d) k := ⟨d, ds, rfl, hp, hl, h⟩
theorem s_oExt {p : Addr} {ds es : List D} {sd : SD} (e : lstOf ms sd = some es) (hp : ms p = some (.l ds)) (hl : ds.length + es.length ≤ sizeLine) (h : k (.d .non) (mu ms p (.l (ds ++ es)))) : oExt ms p sd k := ⟨es, ds, e, hp, hl, h⟩
theorem s_fld {C : Addr} {fs : List (Str × D)} {f : Str} {d : D} (e : fs.lookup f = some d) (h : kz (.d d)) : oFld C f ms (.d (.ins C fs)) kz := ⟨rfl, d, e, h⟩
theorem s_tt {P Q : Prop} (h : P) : if true = true then P else Q := by rw [if_pos rfl]; exact h
theorem s_ff {P Q : Prop} (h : Q) : if false = true then P else Q := by rw [if_neg Bool.false_ne_true]; exact h
theorem s_dat {sd : SD} {ds : List D} {kd : List D → Prop} (e : datOf sd = some ds) (h : kd ds) : oDat sd kd := ⟨ds, e, h⟩
theorem s_rng {j : Int} {kd : List D → Prop} (h1 : -(2 ^ 62) ≤ j ∧ j < 2 ^ 62) (h : kd (rngD 0 j.toNat)) : oRng1 j kd := ⟨h1.1, h1.2, h⟩
theorem s_for {ri : AIR} (h : ri Γ ms (fun ds ms1 => forR rg r ds A Γ ms1) (A.x Γ)) : rFor ri rg r A Γ ms := h
end
section
variable {rg : AGR} {rt : ATR} {re : AER} {Γ0 : Gam} {ms : MS} {kk : List D → MS → Prop}
/-- a comprehension by an invariant -/
theorem lcI_inv {ds acc : List D} (P : Nat → List D → MS → Prop) (h0 : P 0 acc ms)
    (hs : ∀ i d acc ms, ds[i]? = some d → P i acc ms → ∀ N : List D → MS → Prop, (∀ acc' ms', P (i + 1) acc' ms' → N acc' ms') → rg (.d d) Γ0 ms fun Γ1 ms1 => rt Γ1 ms1 (fun b ms2 => if b = true then re Γ1 ms2 (fun sd ms3 => asD (fun dv => acc.length < sizeLine ∧ N (acc ++ [dv]) ms3) sd) noX else N acc ms2) noX)
    (hd : ∀ acc ms, P ds.length acc ms → kk acc ms) : lcI rg rt re Γ0 ds acc ms kk := by
  have main : ∀ n i acc ms, i + n = ds.length → P i acc ms → lcI rg rt re Γ0 (ds.drop i) acc ms kk := by
    intro n
    induction n with
    | zero =>
      intro i acc ms hi hp
      have e : i = ds.length := by omega
      subst e
      rw [List.drop_length]
      exact hd acc ms hp
    | succ n ih =>
      intro i acc ms hi hp
      have hlt : i < ds.length := by omega
      rw [List.drop_eq_getElem_cons hlt]
      exact hs i _ acc ms (List.getElem?_eq_getElem hlt) hp _ fun acc2 ms2 h2 => ih (i + 1) acc2 ms2 (by omega) h2
  exact main ds.length 0 acc ms (by omega) h0
/-- one turn -/
def lcS (rg : AGR) (rt : ATR) (re : AER) (Γ0 : Gam) (d : D) (acc : List D) (ms : MS) (N : List D → MS → Prop) : Prop := rg (.d d) Γ0 ms fun Γ1 ms1 => rt Γ1 ms1 (fun b ms2 => if b = true then re Γ1 ms2 (fun sd ms3 => asD (fun dv => acc.length < sizeLine ∧ N (acc ++ [dv]) ms3) sd) noX else N acc ms2) noX
/-- one that maps and picks, the store as it is -/
theorem lcI_fm {α : Type} {enc f : α → D} {p : α → Bool} {xs : List α} (hz : xs.length ≤ sizeLine)
    (hs : ∀ x ∈ xs, ∀ (acc : List D) (N : List D → MS → Prop), acc.length < sizeLine → N (acc ++ if p x = true then [f x] else []) ms → lcS rg rt re Γ0 (enc x) acc ms N) (h : kk ((xs.filter p).map f) ms) : lcI rg rt re Γ0 (xs.map enc) [] ms kk := by
  refine lcI_inv (fun i acc ms' => ms' = ms ∧ acc = ((xs.take i).filter p).map f) ⟨rfl, by simp⟩ (fun i d acc ms' hd hP N hN => ?_) fun acc ms' hP => ?_
  · obtain ⟨rfl, rfl⟩ := hP
    rw [List.getElem?_map] at hd
    cases hx : xs[i]? with
    | none => rw [hx] at hd; cases hd
    | some x =>
      rw [hx] at hd
      cases hd
      have hi : i < xs.length := (List.getElem?_eq_some_iff.mp hx).1
      have hl : (((xs.take i).filter p).map f).length < sizeLine := by
        rw [List.length_map]
        have h1 := List.length_filter_le p (xs.take i)
        rw [List.length_take] at h1
        omega
      refine hs x (List.mem_of_getElem? hx) _ N hl (hN _ _ ⟨rfl, ?_⟩)
      rw [List.take_add_one, hx]
      simp only [Option.toList_some, List.filter_append, List.map_append, List.filter_cons, List.filter_nil]
      split <;> simp
  · obtain ⟨rfl, rfl⟩ := hP
    rw [List.length_map, List.take_length]
    exact h
theorem lcI_map {α : Type} {enc f : α → D} {xs : List α} (hz : xs.length ≤ sizeLine)
    (hs : ∀ x ∈ xs, ∀ (acc : List D) (N : List D → MS → Prop), acc.length < sizeLine → N (acc ++ [f x]) ms → lcS rg rt re Γ0 (enc x) acc ms N) (h : kk (xs.map f) ms) : lcI rg rt re Γ0 (xs.map enc) [] ms kk :=
  lcI_fm (p := fun _ => true) hz (fun x hx acc N h1 h2 => hs x hx acc N h1 h2) (by rw [List.filter_eq_self.mpr (fun _ _ => rfl)]; exact h)
theorem s_lcS {d : D} {acc : List D} {N : List D → MS → Prop} (h : rg (.d d) Γ0 ms fun Γ1 ms1 => rt Γ1 ms1 (fun b ms2 => if b = true then re Γ1 ms2 (fun sd ms3 => asD (fun dv => acc.length < sizeLine ∧ N (acc ++ [dv]) ms3) sd) noX else N acc ms2) noX) : lcS rg rt re Γ0 d acc ms N := h
end
end AL

/-! ## AbsT -/
set_option Elab.async false
set_option linter.all false
set_option maxRecDepth 100000
set_option maxHeartbeats 2000000
namespace AL
open PySem PySem.Spec PyProof.Rows L2
theorem md_same {ms : MS} {a : Addr} : md ms a a = none := if_pos rfl
theorem md_ne {ms : MS} {a b : Addr} (h : b ≠ a) : md ms a b = ms b := if_neg h
section
variable {Γ : Gam} {ms : MS} {k : SD → MS → Prop} {x : AX} {kz : SD → Prop}
theorem s_slT {lo hi : Option Int} {ds : List D} (h : kz (.d (.tup (cutD ds lo hi)))) : oSl lo hi ms (.d (.tup ds)) kz := h
theorem s_slL {lo hi : Option Int} {ds : List D} (h : kz (.d (.lst (cutD ds lo hi)))) : oSl lo hi ms (.d (.lst ds)) kz := ⟨ds, rfl, h⟩
theorem s_slS {lo hi : Option Int} {z : Str} (hz : z.length ≤ sizeLine) (h : kz (.d (.str (cutS z lo hi)))) : oSl lo hi ms (.d (.str z)) kz := ⟨hz, h⟩
theorem s_isi {d : D} {T t : String} {b : Bool} (e : d.ty = some t) (e2 : kitB t T = some b) (h : kz (.d (.bl b))) : oIsi ms [.d d, .v (.ty T)] kz := ⟨t, b, e, e2, h⟩
theorem s_str {i : Int} (hi : i.natAbs.log2 < 1920) (h : kz (.d (.str (toString i)))) : oStr ms [.d (.int i)] kz := ⟨hi, h⟩
theorem s_max {i j : Int} (h : kz (.d (.int (max i j)))) : oMax2 ms [.d (.int i), .d (.int j)] kz := by
  show kz _
  rw [show max i j = if j > i then j else i by rw [Int.max_def]; split <;> split <;> omega] at h
  exact h
theorem s_eqD {neg : Bool} {a b : D} (ha : a.fit 64 = true) (hb : b.fit 64 = true) (h : kz (.d (.bl (neg ^^ a.eqv b)))) : oEq neg ms (.d a) (.d b) kz := oEq_deep ha hb h
theorem s_inS {neg : Bool} {y : SD} {ds : List D} {a : D} (e : seqOf ms y = some ds) (h1 : a.fit 64 = true) (h2 : fitL ds 63 = true) (h : kz (.d (.bl (neg ^^ ds.any fun z => z.eqv a)))) : oIn neg ms (.d a) y kz := .inl ⟨ds, a, e, rfl, h1, h2, h⟩
theorem s_inC {neg : Bool} {c : Nat} {z : Str} (h : kz (.d (.bl (neg ^^ decide (c ∈ z.cps.toList))))) : oIn neg ms (.d (.str ⟨#[c]⟩)) (.d (.str z)) kz := .inr (.inl ⟨c, z, rfl, rfl, h⟩)
theorem s_inT {neg : Bool} {p : Addr} {kvs : List (List Key × D)} {ds : List D} {ks : List Key} (hp : ms p = some (.t kvs)) (hk : keysOf ds = some ks) (h : kz (.d (.bl (neg ^^ (valD kvs ks).isSome)))) : oIn neg ms (.d (.tup ds)) (.v (.ref p)) kz := by
  refine .inr (.inr ⟨valD kvs ks, ?_, h⟩)
  show (match ms p, keysOf ds with | some (.t kvs), some ks => some (valD kvs ks) | _, _ => none) = _
  rw [hp, hk]
end
theorem cutD_take (ds : List D) (n : Nat) : cutD ds none (some (n : Int)) = ds.take n := by
  unfold cutD
  rw [HT.sIx_none, HT.sIx_nat, List.drop_zero, Nat.sub_zero]
  by_cases h : n ≤ ds.length
  · rw [Nat.min_eq_left h]
  · rw [Nat.min_eq_right (by omega), List.take_length, List.take_of_length_le (by omega)]
theorem cutD_drop (ds : List D) (n : Nat) : cutD ds (some (n : Int)) none = ds.drop n := by
  unfold cutD
  rw [HT.sIx_none, HT.sIx_nat]
  by_cases h : n ≤ ds.length
  · rw [Nat.min_eq_left h, List.take_of_length_le (by rw [List.length_drop]; omega)]
  · rw [Nat.min_eq_right (by omega), List.drop_of_length_le (Nat.le_refl _), List.drop_of_length_le (by omega)]; simp
theorem cutD_last (ds : List D) : cutD ds none (some (-1)) = ds.dropLast := by
  unfold cutD
  rw [HT.sIx_none, List.drop_zero, Nat.sub_zero, List.dropLast_eq_take]
  congr 1
  show ((-1 : Int) + (ds.length : Int)).toNat = _
  omega
theorem cutS_take (z : Str) (n : Nat) : (cutS z none (some (n : Int))).cps.toList = z.cps.toList.take n := by
  unfold cutS
  rw [HT.sIx_none, HT.sIx_nat, List.drop_zero, Nat.sub_zero]
  have hz : z.length = z.cps.toList.length := by rw [Array.length_toList]; rfl
  rw [hz]
  show (z.cps.toList.take _) = _
  by_cases h : n ≤ z.cps.toList.length
  · rw [Nat.min_eq_left h]
  · rw [Nat.min_eq_right (by omega), List.take_length, List.take_of_length_le (by omega)]
theorem cutS_drop (z : Str) (n : Nat) : (cutS z (some (n : Int)) none).cps.toList = z.cps.toList.drop n := by
  unfold cutS
  rw [HT.sIx_none, HT.sIx_nat]
  have hz : z.length = z.cps.toList.length := by rw [Array.length_toList]; rfl
  rw [hz]
  show ((z.cps.toList.drop _).take _) = _
  by_cases h : n ≤ z.cps.toList.length
  · rw [Nat.min_eq_left h, List.take_of_length_le (by rw [List.length_drop]; omega)]
  · rw [Nat.min_eq_right (by omega), List.drop_of_length_le (Nat.le_refl _), List.drop_of_length_le (by omega)]; simp
theorem str_len (z : Str) : z.length = z.cps.toList.length := by rw [Array.length_toList]; rfl
theorem str_app (a b : Str) : (a ++ b).cps.toList = a.cps.toList ++ b.cps.toList := by
  show (a.cps ++ b.cps).toList = _
  rw [Array.toList_append]
theorem str_ext {a b : Str} (h : a.cps.toList = b.cps.toList) : a = b := PySem.W.str_of_cps h
end AL

/-! ## AbsU -/
set_option Elab.async false
set_option linter.all false
set_option maxRecDepth 100000
set_option maxHeartbeats 2000000
namespace AL
open PySem PySem.Spec PyProof.Rows L2
open Evl (Ex)
/-! ### the same inside a comprehension's block: the module's name is told, not found -/
section
variable {X : Cx} {W : WX} {pos p p1 p2 p3 : Pos} {a b e : Expr} {ra rb re : AER} {ta tb te : TE} {tl th : TO} {lo hi : Option Expr} {rl rh : AOR} {K : PySem.W.Frag}
theorem opK_add (hK : X.K = K) : OpR X (binaryOp .Add) (rAddA K) := hK ▸ op_addA
theorem opK_eq (hK : X.K = K) (hu : X.A.units + 64 < cLine) : OpR X (compareOp .Eq) (rEqA K) := hK ▸ op_eqA hu
theorem opK_ne (hK : X.K = K) (hu : X.A.units + 64 < cLine) : OpR X (compareOp .NotEq) (rNeA K) := hK ▸ op_neA hu
theorem opK_lt (hK : X.K = K) (hu : X.A.units + 64 < cLine) : OpR X (compareOp .Lt) (rLtA K) := hK ▸ op_ltA hu
theorem opK_in (hK : X.K = K) (hu : X.A.units + 65 < cLine) : OpR X (compareOp .In) (rInA K) := hK ▸ op_inA hu
theorem opK_nin (hK : X.K = K) (hu : X.A.units + 65 < cLine) : OpR X (compareOp .NotIn) (rNinA K) := hK ▸ op_ninA hu
theorem ae_ixK (hK : X.K = K) (hu : X.A.units + 1 < cLine) (ha : AE X W a ta ra) (hb : AE X W b tb rb) (hs : PlainIx b := by exact fun _ _ => rfl) :
    AE X W (.Subscript a b pos) (tOp (rIxA K) ta tb) (fun Γ ms k x => ra Γ ms (fun u ms1 => rb Γ ms1 (fun v ms2 => oIx ms2 u v fun z => k z ms2) x) x) := hK ▸ ae_ix hu ha hb hs
theorem ae_slK (hK : X.K = K) (ha : AE X W a ta ra) (hl : AO X W lo tl rl) (hh : AO X W hi th rh) :
    AE X W (.Subscript a (.Slice lo hi none p2) pos) (tSl (rSlAny K) ta tl th) (fun Γ ms k x => ra Γ ms (fun u ms1 => rl Γ ms1 (fun l ms2 => rh Γ ms2 (fun h ms3 => oSl l h ms3 u fun z => k z ms3) x) x) x) := hK ▸ ae_sl ha hl hh
theorem ae_fldK {C : Addr} {f : Str} (hK : X.K = K) (c : Cls X.K C) (n : NoAttr X.K C f) (ho : AE X W e te re) (hb : attributeBase e f X.env (eval e X.env) = eval e X.env := by rfl) :
    AE X W (.Attribute e f pos) (tFld K te f) (fun Γ ms k x => re Γ ms (fun u ms1 => oFld C f ms1 u fun z => k z ms1) x) := hK ▸ ae_fld c n ho hb
theorem callK_len (hK : X.K = K) : CallR X (.builtin "len") (fun xs H Q => ∃ x n, xs = [x] ∧ LenV K x H n ∧ Q (.int n) H) := hK ▸ call_len
theorem callK_list (hK : X.K = K) : CallR X (.type "list") (fun xs H Q => ∃ p ys, xs = [.ref p] ∧ (SqL K H p ys ∨ SqT K H p ys) ∧ ∀ l, H l = none → Q (.ref l) (upd H l (.lst ys))) := hK ▸ call_list_of
theorem callK_tuple (hK : X.K = K) : CallR X (.type "tuple") (fun xs H Q => ∃ p ys, xs = [.ref p] ∧ ((SqL K H p ys ∧ ∀ l, H l = none → Q (.ref l) (upd H l (.tup ys))) ∨ (SqT K H p ys ∧ Q (.ref p) H))) := hK ▸ call_tuple_of
theorem callK_all (hK : X.K = K) (hc : X.calm = true) : CallR X (.builtin "all") (rAll K) := hK ▸ cr_all hc
theorem callK_isi (hK : X.K = K) : CallR X (.builtin "isinstance") (rIsi K) := hK ▸ call_isi
theorem callK_sorted (hK : X.K = K) (hu : X.A.units + 80 < cLine) : CallR X (.builtin "sorted") (rSortedD K) := hK ▸ cr_sortedD hu
theorem ai_seqK {tg : Expr} (hK : X.K = K) (he : AE X W e te re) : AI X W tg e (iSeq3 K te) (fun Γ ms k x => re Γ ms (fun u ms1 => oDat u fun ds => k ds ms1) x) := hK ▸ ai_seq he
theorem ag_tupK {es : List Expr} {kk0 : Nat} {sl : List Nat} {gs : TGs} {rs : AGRs} (hK : X.K = K) (hc : X.calm = true) (h : AGs X es sl gs rs) (hn : (assignEach es X.env).length = es.length := by rfl) (hst : (assignEach es X.env).findIdx? (·.1) = none := by rfl) :
    AG X (.Tuple es kk0 pos) sl (gTup K es.length gs) (gT es.length rs) := hK ▸ ag_tup hc h hn hst
end
end AL

/-! ## AbsV -/
set_option Elab.async false
set_option linter.all false
set_option maxRecDepth 100000
set_option maxHeartbeats 2000000
namespace AL
open PySem PySem.Spec PyProof.Rows L2
section
variable {A : AEnd} {Γ : Gam} {ms : MS} {k : SD → MS → Prop} {x : AX} {r s : ASR} {re : AER} {rc : ATR} {rg : AGR} {rs : AGRs} {kg : Gam → MS → Prop}
/-- cuts -/
theorem s_cut (P : Gam → MS → Prop) (h : ∀ N : Gam → MS → Prop, (∀ Γ' ms', P Γ' ms' → N Γ' ms') → r { A with nx := N } Γ ms) (hs : ∀ Γ' ms', P Γ' ms' → s A Γ' ms') : rSeq r s A Γ ms := h _ hs
theorem s_cutIf (P : Gam → MS → Prop) (h : ∀ N : Gam → MS → Prop, (∀ Γ' ms', P Γ' ms' → N Γ' ms') → rIf rc r s { A with nx := N } Γ ms) (hs : ∀ Γ' ms', P Γ' ms' → A.nx Γ' ms') : rIf rc r s A Γ ms := h A.nx hs
theorem s_ifN (P : Bool → MS → Prop) (h : ∀ K : Bool → MS → Prop, (∀ b ms1, P b ms1 → K b ms1) → rc Γ ms K (A.x Γ)) (ht : ∀ ms1, P true ms1 → r A Γ ms1) (hf : ∀ ms1, P false ms1 → s A Γ ms1) : rIf rc r s A Γ ms :=
  h _ fun b ms1 hp => by
    cases b with
    | true => rw [if_pos rfl]; exact ht ms1 hp
    | false => rw [if_neg Bool.false_ne_true]; exact hf ms1 hp
theorem s_setN {i : Nat} (P : SD → MS → Prop) (h : ∀ K : SD → MS → Prop, (∀ sd ms1, P sd ms1 → K sd ms1) → re Γ ms K (A.x Γ)) (ht : ∀ sd ms1, P sd ms1 → A.nx (Γ.set i (some sd)) ms1) : rSet i re A Γ ms := h _ ht
theorem s_gT {n : Nat} {ds : List D} (e : ds.length = n) (h : rs ds Γ ms kg) : gT n rs (.d (.tup ds)) Γ ms kg := ⟨e, h⟩
theorem s_gC {d : D} {ds : List D} (h : rg (.d d) Γ ms fun Γ' ms' => rs ds Γ' ms' kg) : gC rg rs (d :: ds) Γ ms kg := h
end
theorem lcI_mapD {rg : AGR} {rt : ATR} {re : AER} {Γ0 : Gam} {ms : MS} {kk : List D → MS → Prop} {f : D → D} {xs : List D} (hz : xs.length ≤ sizeLine)
    (hs : ∀ x ∈ xs, ∀ (acc : List D) (N : List D → MS → Prop), acc.length < sizeLine → N (acc ++ [f x]) ms → lcS rg rt re Γ0 x acc ms N) (h : kk (xs.map f) ms) : lcI rg rt re Γ0 xs [] ms kk := by
  have := lcI_map (enc := id) (f := f) (xs := xs) (rg := rg) (rt := rt) (re := re) (Γ0 := Γ0) (kk := kk) hz hs h
  rw [List.map_id] at this
  exact this
theorem sub_md {ms : MS} {p : Addr} : Sub (md ms p) ms := fun a o h => by
  by_cases e : a = p
  · subst e; rw [md_same] at h; cases h
  · rw [md_ne e] at h; exact h
theorem out_md {sd : SD} {ms : MS} {k : SD → MS → Prop} (p : Addr) (h : k sd (md ms p)) : Out sd ms k := .inl ⟨_, sub_md, h⟩
theorem atI_at {α : Type} {l : List α} {i : Nat} (h : i < l.length) : atI l (i : Int) = some l[i] := atI_nat (List.getElem?_eq_getElem h)
theorem atI_map {α β : Type} {f : α → β} {l : List α} {i : Int} (h0 : 0 ≤ i) (h1 : i < l.length) : ∃ v, v ∈ l ∧ l[i.toNat]? = some v ∧ atI (l.map f) i = some (f v) := by
  obtain ⟨n, rfl⟩ := Int.eq_ofNat_of_zero_le h0
  have hn : n < l.length := by omega
  refine ⟨l[n], List.getElem_mem hn, ?_, atI_nat ?_⟩
  · show l[n]? = _
    rw [List.getElem?_eq_getElem hn]
  · rw [List.getElem?_map, List.getElem?_eq_getElem hn]; rfl
theorem atI_last {l : List D} {d : D} (h : l.getLast? = some d) : atI l (-1) = some d := by
  have hne : l ≠ [] := fun e => by subst e; cases h
  have hl : 0 < l.length := List.length_pos_iff.mpr hne
  unfold atI ixN
  rw [if_neg (by decide), if_pos (by omega)]
  show l[((-1 : Int) + l.length).toNat]? = some d
  rw [List.getLast?_eq_getElem?] at h
  rw [← h]
  congr 1
  omega
end AL

/-! ## AbsW -/
set_option Elab.async false
set_option linter.all false
set_option maxRecDepth 100000
set_option maxHeartbeats 2000000
namespace AL
open PySem PySem.Spec PyProof.Rows L2
section
variable {P : Program} {w : World} {K : PySem.W.Frag} {mg : Str → Option Value} {base : Heap} {x qual pv : Str} {st : Stmt} {f : Addr} {fd : FuncData} {N ps : List Str} {k : Nat} {R : AFn}
/-- what a call gives, the star's things one by one -/
def rStar (n : Nat) (R : AFn) : AFn := fun sds ms kk x => ∃ as ds, sds = as ++ ds.map SD.d ∧ as.length = n ∧ ds.length ≤ sizeLine ∧ R (as ++ [.d (.tup ds)]) ms kk x
def StarB (x qual : Str) (st : Stmt) (ps : List Str) (pv : Str) : Prop := ∀ (kV doc pm : Value) (an : Option Addr) (cdv ct : Value) (us rest : List Value), us.length = ps.length →
  bindArgs (PySem.W.fnOf x qual (defArgs st) (defBody st) (defScope st) .none kV doc pm an cdv ct) ⟨us ++ rest, []⟩ = (newTuple rest >>= fun t => pure (ps.zip us ++ [(pv, t)]))
/-- def f(a, .., *v): lets no exception out -/
theorem fnS (F : Fun K x qual st f fd) (S : FnScope N (ps ++ [pv]) (defScope st)) (hb : StarB x qual st ps pv) (len : ∀ sds ms k x, R sds ms k x → sds.length ≤ N.length)
    (hbody : ∀ (cdv : Value) (A : Around) (outer : List Env) (s : Shared) (H : Hp) (E : XK), Room k (A.deeper (envOfC qual (defScope st) s.heap.objs.size f cdv)) →
      ∃ t r, ASs (cxOf CX0 P w K mg base N qual (defScope st) f cdv A outer s H E).nox W0 (defBody st) t r ∧ ∀ sds ms k x, R sds ms k x → r (aEnd k x) (gam N sds) ms) :
    FnR P w K mg base CX0 (k + 1) f (spA (rStar ps.length R)) := by
  obtain ⟨oc, od, kV, doc, pm, an, cdv, ct, osl, rfl, lk, hcd⟩ := F.ex
  refine star_A (StX.fn_star lk hcd S StX.cxUp_none (fun us rest hl => hb kV doc pm an cdv ct us rest hl) fun A outer s H vs Q E hr h => ?_)
  obtain ⟨t, r, hb, hR⟩ := hbody cdv A outer s H E hr
  exact ⟨t, hb.pe.nox, fn_end hb hR len (fun _ _ _ _ _ => trivial) h⟩
/-- .. may raise -/
theorem fnSX (F : Fun K x qual st f fd) (S : FnScope N (ps ++ [pv]) (defScope st)) (hb : StarB x qual st ps pv) (len : ∀ sds ms k x, R sds ms k x → sds.length ≤ N.length)
    (hbody : ∀ (cdv : Value) (A : Around) (outer : List Env) (s : Shared) (H : Hp) (E : XK), Room k (A.deeper (envOfC qual (defScope st) s.heap.objs.size f cdv)) →
      ∃ t r, ASs (cxOf (L2.CX P w) P w K mg base N qual (defScope st) f cdv A outer s H E) (fun cls d _ H => E cls d H) (defBody st) t r ∧ ∀ sds ms k x, R sds ms k x → r (aEnd k x) (gam N sds) ms) :
    FnR P w K mg base (L2.CX P w) (k + 1) f (spA (rStar ps.length R)) := by
  obtain ⟨oc, od, kV, doc, pm, an, cdv, ct, osl, rfl, lk, hcd⟩ := F.ex
  refine star_A (StX.fn_star lk hcd S StX.cxUp (fun us rest hl => hb kV doc pm an cdv ct us rest hl) fun A outer s H vs Q E hr h => ?_)
  obtain ⟨t, r, hb, hR⟩ := hbody cdv A outer s H E hr
  exact ⟨t, hb.pe, fn_end hb hR len (fun _ _ _ _ h => h) h⟩
end
end AL

/-! ## AbsK -/
set_option Elab.async false
set_option linter.all false
set_option maxRecDepth 100000
set_option maxHeartbeats 2000000
/-! More rules of the own layer: enumerate, sum, min, own comparisons, classes as values, a dict display of one key, a comprehension whose list is changed later, x or y, freezing, defaults. -/
namespace AL
open PySem PySem.Spec PyProof.Rows L2
open Evl (Ex)
/-! ### enumerate -/
def enumD (ds : List D) : List D := ds.mapIdx fun i d => D.tup [.int (i : Nat), d]
theorem walks_enum {K : PySem.W.Frag} {a : Addr} {vs : List V} {ds : List D} {G1 : Hp} (sh : ShwL G1 vs ds) (hs : ∀ G' H', Ex G1 G' → Ex G' H' → SqL K H' a vs) : Walks (Ite K a) (enumD ds) G1 := fun i H' G' F' ms' e' g' => by
  have h1 := hs G' H' e' g'.ex
  refine ⟨fun hi => ⟨vs, h1, by unfold enumD at hi; rw [List.length_mapIdx] at hi; rw [sh.length]; exact hi⟩, fun d hd => ?_⟩
  unfold enumD at hd
  rw [List.getElem?_mapIdx] at hd
  cases e : ds[i]? with
  | none => rw [e] at hd; cases hd
  | some d0 =>
    rw [e] at hd
    cases hd
    obtain ⟨w, hw, sw⟩ := sh.get e
    refine ⟨⟨vs, w, h1, hw⟩, fun x H'' hy => ?_⟩
    obtain ⟨T, y, rfl, nT, rfl, f1⟩ := hy
    have ey : y = w := Option.some.inj ((f1 _ h1).symm.trans hw)
    subst ey
    exact ⟨_, g'.exn nT, g'.new nT, .tup upd_same (.cons (.int _) (.cons ((sw.mono e').mono (g'.exn nT)) .nil))⟩
section
variable {X : Cx} {W : WX} {pos p tpos : Pos} {e : Expr} {te : TE} {re : AER} {elts : List Expr} {kk0 : Nat}
theorem ai_enum (hg : Gl X "enumerate") (hm : X.mg "enumerate" = none) (he : AE X W e te re) (hs : starEach [e] X.env = [(false, eval e X.env)] := by rfl) (hs1 : starEach [e] X.env = (false, eval e X.env) :: starEach [] X.env := by rfl) :
    AI X W (.Tuple elts kk0 tpos) (.Call (.Name "enumerate" p) [e] [] pos) (iEnum X.K (tCons te tNil)) (fun Γ ms k x => re Γ ms (fun u ms1 => ∃ ds, u = .d (.lst ds) ∧ k (enumD ds) ms1) x) := by
  refine ⟨pi_enum hg hm (pa_cons he.pe pa_nil hs1) hs, fun Γ ms k x h σ H G F R ev g kk xw => ?_⟩
  refine he.ok Γ ms _ x h σ H G F _ ev g (fun v H1 G1 sd ms1 e1 g1 s1 q1 => ?_) xw
  obtain ⟨ds, rfl, q⟩ := q1
  cases s1 with
  | lst a b => exact ⟨_, _, rfl, Evl.sq_of (g1.ex _ _ a), kk _ _ _ _ _ e1 g1 q (walks_enum b fun G' H' e1 e2 => Evl.sq_of (e2 _ _ (e1 _ _ a)))⟩
end
/-! ### sum, min of a list of ints -/
theorem shw_intsK (G : Hp) : ∀ ns : List Int, ShwL G (ns.map V.int) (ns.map D.int)
  | [] => .nil
  | n :: r => .cons (.int n) (shw_intsK G r)
theorem ints_shwK {G : Hp} : ∀ {ns : List Int} {vs : List V}, ShwL G vs (ns.map D.int) → vs = ns.map V.int
  | [], _, s => by cases s; rfl
  | n :: r, _, s => by
    cases s with
    | cons a b =>
      cases a
      rw [ints_shwK b]; rfl
def oSum : AOL := fun ms xs k => match xs with
  | [x] => ∃ ns : List Int, lstOf ms x = some (ns.map .int) ∧ k (.d (.int ns.sum))
  | _ => False
theorem oa_sum {K : PySem.W.Frag} : ClA (rSum K) oSum := by
  intro ms xs k h vs H G F Q g s kz
  unfold oSum at h
  split at h
  · obtain ⟨v, ev, sv⟩ := one_of s
    subst ev
    obtain ⟨ns, e, q⟩ := h
    obtain ⟨p, ws, rfl, h1, h2⟩ := lstOf_ok g sv e
    rw [ints_shwK h2] at h1
    exact ⟨p, ns, rfl, Evl.sq_of h1, kz.here g (okd (.int _)) q⟩
  · exact h.elim
def oMinL : AOL := fun ms xs k => match xs with
  | [x] => ∃ ns : List Int, lstOf ms x = some (ns.map .int) ∧ 0 < ns.length ∧ ∀ m, m ∈ ns → (∀ y, y ∈ ns → m ≤ y) → k (.d (.int m))
  | _ => False
theorem oa_minL {K : PySem.W.Frag} : ClA (rMin K) oMinL := by
  intro ms xs k h vs H G F Q g s kz
  unfold oMinL at h
  split at h
  · obtain ⟨v, ev, sv⟩ := one_of s
    subst ev
    obtain ⟨ns, e, hl, q⟩ := h
    obtain ⟨p, ws, rfl, h1, h2⟩ := lstOf_ok g sv e
    rw [ints_shwK h2] at h1
    exact ⟨p, ns, rfl, Evl.sq_of h1, hl, fun m h3 h4 => kz.here g (okd (.int _)) (q m h3 h4)⟩
  · exact h.elim
theorem callK_sum {X : Cx} {K : PySem.W.Frag} (hK : X.K = K) (hc : X.calm = true) : CallR X (.builtin "sum") (rSum K) := hK ▸ cr_sum hc
theorem callK_min {X : Cx} {K : PySem.W.Frag} (hK : X.K = K) (hc : X.calm = true) : CallR X (.builtin "min") (rMin K) := hK ▸ cr_min hc
/-! ### own comparisons -/
def rOwnI (C : Addr) (sp : Sp) (E : XK) : R2 := fun x y H Q => ∃ a dx vs b dy ws, x = .ref a ∧ y = .ref b ∧ H a = some (.ins C dx vs) ∧ H b = some (.ins C dy ws) ∧ sp [x, y] H Q E
section
variable {X : Cx} {CX : CXT} {n : Nat} {C g : Addr} {sp : Sp} {E : XK}
theorem op_ownI {op : CmpOp} (hop : ∀ a b, compareOp op a b = richCompare op a b) (hs : PySem.W.findIn X.K (.ref C) (cmpInfo op).2.1 = some (some (.ref g))) (hf : PySem.W.isFn X.K (.ref g) = true) (F : FnR X.prog X.w X.K X.mg X.base CX n g sp)
    (hr : Room n X.A) (hx : Passes CX X E) : OpR X (compareOp op) (rOwnI C sp E) := by
  intro pins s σ H x y v u Q I rx ry h
  obtain ⟨a, dx, vs, b, dy, ws, rfl, rfl, ha, hb, q⟩ := h
  cases (show v = Value.ref a from rx)
  cases (show u = Value.ref b from ry)
  obtain ⟨mA, J, _⟩ := ins_get I.hok ha
  obtain ⟨mB, J', _⟩ := ins_get I.hok hb
  obtain ⟨od, J, _⟩ := J.look
  obtain ⟨od', J', _⟩ := J'.look
  obtain ⟨m, hF⟩ := I.fr
  rw [hop]
  refine PySem.W.cmp_K (op := op) (tb := .ref C) hr.units0 hF I.ok.mod.kin J J'.type (by simp [PySem.W.notFirst]) hs hf ?_
  refine wpAny_mono (wpAny_call (run_fnR (us := [.ref a, .ref b]) (vs := [.ref a, .ref b]) F hr hx I (.cons rfl (.cons rfl .nil)) q)) (fun w s' z => ?_) fun _ _ x => x
  obtain ⟨z', H', I', rz, qz⟩ := z
  exact SlX.cmpback rz ⟨z', H', I', rz, qz⟩
end
section
variable {prog : Program} {w : World} {A : Around} {E : Value → Shared → Prop} {s : Shared} {K : PySem.W.Frag} {x y C f : Addr} {ox : Obj} {od : Option Obj}
theorem ne_entry (X : K.In s.heap) (I : PySem.W.InstAt s.heap x ox C od) (hs : PySem.W.findIn K (.ref C) "__eq__" = some (some (.ref f))) (hf : PySem.W.isFn K (.ref f) = true) (hu : A.units < cLine) {Q : Fin → Shared → Prop}
    (hcall : wpAny (model prog w) A (call (.ref f) [.ref x, .ref y]) (fun v s' => ∃ b, v = .bool b ∧ Q (.done (.ret (.bool (!b)))) s') E s) :
    wpAny (model prog w) A (Builtin.«object.__ne__» ⟨[.ref x, .ref y], []⟩) Q E s := by
  have hcall' : wpAny (model prog w) A (callSpecialIfBound? (.ref x) "__eq__" [.ref y]) (fun r s' => ∃ b, r = some (.bool b) ∧ Q (.done (.ret (.bool (!b)))) s') E s :=
    PySem.W.ifBound_K X I hs hf (wpAny_mono hcall (fun v s' hv => by
      obtain ⟨b, rfl, hq⟩ := hv
      exact ⟨b, rfl, hq⟩) fun _ _ e => e)
  obtain ⟨hp, g, d, tk, os⟩ := s
  unfold Builtin.«object.__ne__»
  repeat (first
    | with_reducible refine wpAny_cRoomFor hu ?_
    | (refine wpAny_bind (m := callSpecialIfBound? (.ref x) (Str.ofString "__eq__") [.ref y]) (wpAny_mono hcall' (fun r s' hr => by
          obtain ⟨b, rfl, hq⟩ := hr
          repeat (first | exact hq | exact wpAny_pure hq | exact wpAny_truthy_bool hq | (refine wpAny_bind (m := truthy (.bool _)) (wpAny_truthy_bool ?_)) | wp_step)) fun _ _ e => e))
    | wp_step)
theorem ne_own {Q : Value → Shared → Prop} {oy : Obj} {ody : Option Obj} (X : K.In s.heap) (I : PySem.W.InstAt s.heap x ox C od) (J : PySem.W.InstAt s.heap y oy C ody) (hn : PySem.W.findIn K (.ref C) "__ne__" = some (some (.builtin "object.__ne__")))
    (ho : PySem.W.mroIn K C (.type "object") = some true)
    (hs : PySem.W.findIn K (.ref C) "__eq__" = some (some (.ref f))) (hf : PySem.W.isFn K (.ref f) = true) (hu : A.units + 1 < cLine)
    (hcall : wpAny (model prog w) A.in1 (call (.ref f) [.ref x, .ref y]) (fun v s' => ∃ b, v = .bool b ∧ Q (.bool (!b)) s') E s) : wpAny (model prog w) A (richCompare .NotEq (.ref x) (.ref y)) Q E s := by
  have one : wpAny (model prog w) A (tryCompare (.ref x) "__ne__" (.ref y)) (fun r s' => ∃ v, r = some v ∧ Q v s') E s := by
    unfold tryCompare
    have hc : wpAny (model prog w) A (call (.builtin "object.__ne__") [.ref x, .ref y]) (fun v s' => ∃ b, v = .bool b ∧ Q (.bool b) s') E s := by
      refine wpAny_call (codeAny_call_builtin F.cmp_object.ne.plain F.cmpEntry_ne (PySem.W.check_slot F.cmpKind_ne F.cmpSplit_ne ?_ (F.cmpArgs_ne _ _) (ne_entry (A := A.in1) X I hs hf hu (wpAny_mono hcall (fun v s' hv => ?_) fun _ _ e => e))))
      · exact I.type.andThen (PySem.W.looks_mroIn X ho)
      · obtain ⟨b, rfl, hq⟩ := hv
        exact ⟨b, rfl, ⟨!b, rfl, hq⟩⟩
    refine wpAny_bind ?_
    simp only [callSpecialIfBound?, bindSpecialIfBound?]
    refine wpAny_holding (wpAny_bind (wpAny_bind (wpAny_bind (I.type.here ((PySem.W.looks_findIn X hn).here ?_)))))
    simp only [F.cmp_object.ne.bind]
    refine wpAny_bind (wpAny_askSetting (wpAny_ite ?_))
    split
    · exact wpAny_bind (wpAny_pure (wpAny_pure (wpAny_bind (wpAny_mono hc (fun v s' h' => by obtain ⟨b, rfl, hq⟩ := h'; exact wpAny_pure (wpAny_pure ⟨_, rfl, hq⟩)) fun _ _ h' => h'))))
    · exact wpAny_tryCatch (wpAny_bind (wpAny_pure (wpAny_pure (wpAny_bind (wpAny_mono hc (fun v s' h' => by obtain ⟨b, rfl, hq⟩ := h'; exact wpAny_pure (wpAny_pure ⟨_, rfl, hq⟩)) fun _ _ h' => h')))))
  unfold richCompare
  simp only [oneThing_ref]
  refine wpAny_holding (wpAny_bind (wpAny_cRoomFor (Nat.lt_of_succ_lt hu) ?_))
  refine wpAny_bind (I.type.here (wpAny_bind (J.type.here ?_)))
  rw [if_neg (by simp)]
  refine wpAny_bind (wpAny_pure ?_)
  simp only [Bool.false_eq_true, if_false]
  refine wpAny_bind (wpAny_mono one (fun r s' z => ?_) fun _ _ e => e)
  obtain ⟨v, rfl, hq⟩ := z
  exact wpAny_pure hq
end
/-- what x != y asks of the class at C -/
structure NeC (K : PySem.W.Frag) (C : Addr) : Prop where
  ne : PySem.W.findIn K (.ref C) "__ne__" = some (some (.builtin "object.__ne__"))
  ob : PySem.W.mroIn K C (.type "object") = some true
section
variable {X : Cx} {CX : CXT} {n : Nat} {C g : Addr} {sp : Sp} {E : XK}
def rOwnN (C : Addr) (sp : Sp) (E : XK) : R2 := fun x y H Q => ∃ a dx vs b dy ws, x = .ref a ∧ y = .ref b ∧ H a = some (.ins C dx vs) ∧ H b = some (.ins C dy ws) ∧ sp [x, y] H (fun z H' => ∃ c, z = .bl c ∧ Q (.bl (!c)) H') E
theorem op_ownN (N : NeC X.K C) (hs : PySem.W.findIn X.K (.ref C) "__eq__" = some (some (.ref g))) (hf : PySem.W.isFn X.K (.ref g) = true) (F : FnR X.prog X.w X.K X.mg X.base CX n g sp)
    (hr : Room (n + 1) X.A) (hx : Passes CX X E) : OpR X (compareOp .NotEq) (rOwnN C sp E) := by
  intro pins s σ H x y v u Q I rx ry h
  obtain ⟨a, dx, vs, b, dy, ws, rfl, rfl, ha, hb, q⟩ := h
  cases (show v = Value.ref a from rx)
  cases (show u = Value.ref b from ry)
  obtain ⟨mA, J, _⟩ := ins_get I.hok ha
  obtain ⟨mB, J', _⟩ := ins_get I.hok hb
  obtain ⟨od, J, _⟩ := J.look
  obtain ⟨od', J', _⟩ := J'.look
  refine PySem.W.cmp_ofNotEq (ne_own I.kIn J J' N.ne N.ob hs hf (hu_of hr) ?_)
  refine wpAny_mono (wpAny_call (SlX.run_at (us := [.ref a, .ref b]) (ws := [.ref a, .ref b]) F hr.in1 I.env0.in1 hx I (.cons rfl (.cons rfl .nil)) q)) (fun w s' z => ?_) fun _ _ x => x
  obtain ⟨z', H', I', rz, c, rfl, qz⟩ := z
  cases rz
  exact ⟨c, rfl, .bl (!c), H', I', rfl, qz⟩
end
def oOwn (C : Addr) (R : AFn) : AO2 := fun ms x y k => ∃ fs gs, x = .d (.ins C fs) ∧ y = .d (.ins C gs) ∧ R [x, y] ms (fun sd ms' => ms' = ms ∧ k sd) (fun _ _ _ _ => False)
theorem oa_own {C : Addr} {R : AFn} : OpA (rOwnI C (spA R) E0) (oOwn C R) := by
  intro ms x y k h v u H G F Q g sx sy kz
  obtain ⟨fs, gs, rfl, rfl, h⟩ := h
  cases sx with
  | ins a b =>
  cases sy with
  | ins c d =>
  refine ⟨_, _, _, _, _, _, rfl, rfl, g.ex _ _ a, g.ex _ _ c, _, G, F, ms, _, _, .cons (okd (.ins a b)) (.cons (okd (.ins c d)) .nil), g, h, fun v H2 G2 sd ms2 e2 g2 s2 q => ?_, fun _ _ _ _ _ _ _ _ _ _ _ _ z => z.elim⟩
  obtain ⟨rfl, q⟩ := q
  exact kz v H2 G2 sd e2 g2 s2 q
def oOwnN (C : Addr) (R : AFn) : AO2 := fun ms x y k => ∃ fs gs, x = .d (.ins C fs) ∧ y = .d (.ins C gs) ∧ R [x, y] ms (fun sd ms' => ms' = ms ∧ asB (fun c => k (.d (.bl (!c)))) sd) (fun _ _ _ _ => False)
theorem oa_ownN {C : Addr} {R : AFn} : OpA (rOwnN C (spA R) E0) (oOwnN C R) := by
  intro ms x y k h v u H G F Q g sx sy kz
  obtain ⟨fs, gs, rfl, rfl, h⟩ := h
  cases sx with
  | ins a b =>
  cases sy with
  | ins c d =>
  refine ⟨_, _, _, _, _, _, rfl, rfl, g.ex _ _ a, g.ex _ _ c, _, G, F, ms, _, _, .cons (okd (.ins a b)) (.cons (okd (.ins c d)) .nil), g, h, fun v H2 G2 sd ms2 e2 g2 s2 q => ?_, fun _ _ _ _ _ _ _ _ _ _ _ _ z => z.elim⟩
  obtain ⟨rfl, q⟩ := q
  obtain ⟨c, rfl, q⟩ := asB_ok s2 q
  exact ⟨c, rfl, kz _ H2 G2 _ e2 g2 (okd (.bl _)) q⟩
/-! ### an own class as a value, isinstance -/
structure IsiC (K : PySem.W.Frag) (C : Addr) : Prop where
  cl : Cls K C
  ha : PySem.W.findIn K (.ref C) "__class__" = some (some (.builtin "object.__class__"))
  hn : PySem.W.specialIn K (.builtin "object.__class__") "__get__" = some (some (.builtin "getset_descriptor.__get__"))
  htk : PySem.W.takesIn K (.builtin "object.__class__") = some true
  hm : PySem.W.mroIn K C (.type "object") = some true
  hk : PySem.W.kitOne K (.ref C) (.ref C) = some true
section
variable {X : Cx} {W : WX} {pos : Pos}
theorem ae_gcls {x : Str} {C : Addr} (hg : Gl X x) (hm : X.mg x = some (.ref C)) (hd : (x == ("__debug__" : Str)) = false := by decide) : AE X W (.Name x pos) (tC (.ref C)) (fun _ ms k _ => k (.v (.ref C)) ms) :=
  ⟨pe_glob hg hm (v := .ref C) rfl hd, fun _ _ _ _ q _ H G _ _ _ g kk _ => kk _ H G _ _ (Ex.refl G) g okv q⟩
end
def oIsiC (C : Addr) : AOL := fun _ xs k => match xs with
  | [.d (.ins C' _), .v (.ref C'')] => C' = C ∧ C'' = C ∧ k (.d (.bl true))
  | _ => False
theorem oa_isiC {K : PySem.W.Frag} {C : Addr} (c : IsiC K C) : ClA (rIsi K) (oIsiC C) := by
  intro ms xs k h vs H G F Q g s kz
  unfold oIsiC at h
  split at h
  · obtain ⟨v, w, ev, sv, sw⟩ := two_of s
    subst ev
    obtain ⟨rfl, rfl, q⟩ := h
    cases sw
    cases sv with
    | ins a b => exact ⟨_, _, _, _, true, rfl, .own _, .base (.ins (g.ex _ _ a) c.cl c.ha c.hn c.htk c.hm), c.hk, kz.here g (okd (.bl _)) q⟩
  · exact h.elim
/-! ### {k: v} -/
section
variable {X : Cx} {W : WX} {pos : Pos} {a b : Expr} {ta tb : TE} {ra rb : AER}
theorem ae_dict1 (ha : AE X W a ta ra) (hb : AE X W b tb rb) : AE X W (.Dict [some a] [b] pos) (tDisp [(ta, tb)]) (fun Γ ms k x => ra Γ ms (fun u ms1 => rb Γ ms1 (fun v ms2 => asD (fun dk => asD (fun dv => ∃ kk, dk.key1 = some kk ∧ ∀ p, ms2 p = none → k (.v (.ref p)) (mu ms2 p (.k [(kk, dv)]))) v) u) x) x) := by
  refine ⟨pe_disp (pps_cons ha.pe hb.pe pps_nil) rfl rfl (by simp) (by simp), fun Γ ms k x h σ H G F Q ev g kk xw => ?_⟩
  intro p hp
  refine ha.ok Γ ms _ x h σ _ G (upd F p (.dK [])) _ ev (g.asideN hp) (fun v H1 G1 sd ms1 e1 g1 s1 q1 => ?_) (fun C d f u dv H2 G2 ms2 e2 g2 => xw C d f u dv H2 G2 ms2 e2 (g2.forget (g.fresh hp).2.2))
  refine hb.ok Γ ms1 _ x q1 σ H1 G1 (upd F p (.dK [])) _ (ev.mono e1) g1 (fun u H2 G2 sd2 ms2 e2 g2 s2 q2 => ?_) (fun C d f u dv H2 G2 ms2 e2 g2 => xw C d f u dv H2 G2 ms2 (e1.trans e2) (g2.forget (g.fresh hp).2.2))
  obtain ⟨dk, sk, q2⟩ := asD_ok (s1.mono e2) q2
  obtain ⟨dv, sv, key, hk, q⟩ := asD_ok s2 q2
  have hH := g2.fr p _ upd_same
  refine ⟨hH.1, [(key, u)], by rw [key1_ok sk hk]; rfl, by simp, ?_⟩
  have fF := (g.fresh hp).2.2
  have g3 : Good (upd H2 p (.dK [(key, u)])) G2 F (mu ms2 p (.k [(key, dv)])) := by
    refine ⟨fun c o e => ?_, fun c o e => ?_, fun c o e => ?_⟩
    · rw [upd_ne (ne_of_none e hH.2.1)]; exact g2.ex c o e
    · have z : c ≠ p := fun z => by rw [z, fF] at e; cases e
      obtain ⟨h1, h2, h3⟩ := g2.fr c o (by rw [upd_ne z]; exact e)
      exact ⟨by rw [upd_ne z]; exact h1, h2, by rw [mu_ne z]; exact h3⟩
    · by_cases z : c = p
      · subst z
        rw [mu_same] at e
        cases e
        exact ⟨hH.2.1, _, upd_same, .cons ⟨rfl, sv⟩ .nil⟩
      · rw [mu_ne z] at e
        exact ⟨(g2.ok c o e).1, (g2.ok c o e).2.mono (Ex.refl G2) (upd_ne z)⟩
  exact kk _ _ _ _ _ (e1.trans e2) g3 okv (q p hH.2.2)
end
/-! ### x or y, x a thing by its truth -/
def truD : D → Option Bool
  | .non => some false
  | .tup l => some (!l.isEmpty)
  | .lst l => some (!l.isEmpty)
  | .bl b => some b
  | .int i => some (decide (i ≠ 0))
  | _ => none
end AL

/-! ## AbsL -/
set_option Elab.async false
set_option linter.all false
set_option maxRecDepth 100000
set_option maxHeartbeats 2000000
/-! More rules of the own layer: t[::-1] of a tuple, x or y, freezing a list, a comprehension whose list is changed later, defaults, a K-tuple. -/
namespace HT
open PySem PySem.Spec PyProof.Rows
section
variable {prog : Program} {w : World} {A : Around} {E : Value → Shared → Prop} {s : Shared}
theorem sliceApplied_rev {sl : Addr} {vl vu vs : Value} {n : Nat} {Q : Int × Int × Nat → Shared → Prop} (hs : s.heap.IsSliceOf sl vl vu vs) (pl : IsPart vl none) (pu : IsPart vu none) (ps : IsPart vs (some (-1)))
    (h : Q ((n : Int) - 1, -1, n) s) : wpAny (model prog w) A (Builtin.Slice.sliceApplied (.ref sl) (pure (n : Int))) Q E s := by
  obtain ⟨os, hos, hcs, hds⟩ := id hs
  unfold Builtin.Slice.sliceApplied Builtin.Slice.sliceFields
  refine wpAny_bind (wpAny_bind (wpAny_field hos hds (x := vl) rfl (wpAny_bind (wpAny_field hos hds (x := vu) rfl (wpAny_bind (wpAny_field hos hds (x := vs) rfl (wpAny_pure ?_)))))))
  refine wpAny_bind (slicePart_ ps ?_)
  show wpAny _ _ (if ((-1 : Int) == 0) = true then _ else _) _ _ s
  rw [if_neg (by decide)]
  refine wpAny_bind (slicePart_ pl (wpAny_bind (slicePart_ pu (wpAny_bind (wpAny_pure ?_)))))
  have e : Builtin.Slice.sliceAdjust none none (-1) (n : Int) = ((n : Int) - 1, -1) := by
    unfold Builtin.Slice.sliceAdjust
    first | rfl | simp
  have e2 : Builtin.Slice.slicePlaces ((n : Int) - 1) (-1) (-1) = n := by
    unfold Builtin.Slice.slicePlaces
    simp
    try omega
  show wpAny _ _ (match Builtin.Slice.sliceAdjust none none (-1) (n : Int) with | (lo, hi) => pure (lo, (-1 : Int), Builtin.Slice.slicePlaces lo hi (-1))) _ _ s
  rw [e]
  show wpAny _ _ (pure ((n : Int) - 1, (-1 : Int), Builtin.Slice.slicePlaces ((n : Int) - 1) (-1) (-1))) _ _ s
  rw [e2]
  exact wpAny_pure h
theorem pick_rev (xs : Array Value) : ((List.range xs.size).filterMap fun (m : Nat) => xs[(((xs.size : Nat) : Int) - 1 + (m : Int) * (-1)).toNat]?).toArray = xs.toList.reverse.toArray := by
  have e : ((List.range xs.size).filterMap fun (m : Nat) => xs[(((xs.size : Nat) : Int) - 1 + (m : Int) * (-1)).toNat]?) = ((List.range xs.size).map fun k => xs.size - 1 - k).filterMap (xs[·]?) := by
    rw [List.filterMap_map]
    congr 1
    funext m
    show xs[_]? = xs[xs.size - 1 - m]?
    congr 1
    omega
  rw [e, PySem.W.krv_range, List.filterMap_reverse, PySem.W.krv_all]
theorem getItem_tuple_rev {t sl : Addr} {items : Array Value} {vl vu vs : Value} {Q : Value → Shared → Prop} (ht : IsTup s.heap t items) (hs : s.heap.IsSliceOf sl vl vu vs) (pl : IsPart vl none) (pu : IsPart vu none) (ps : IsPart vs (some (-1)))
    (h : Q (.ref s.heap.objs.size) { s with heap := s.heap.push { cls := .type "tuple", data := .seq items.toList.reverse.toArray } })
    (hsz : items.size ≤ sizeLine) : wpAny (model prog w) A (getItem (.ref t) (.ref sl)) Q E s := by
  have htake : sizeOk (.seq items.toList.reverse.toArray) := by
    show items.toList.reverse.toArray.size ≤ sizeLine
    rw [List.size_toArray, List.length_reverse, Array.length_toList]
    exact hsz
  obtain ⟨os, hos, hcs, hds⟩ := id hs
  have hTs : s.TypeIs (.ref sl) "slice" := ⟨os, hos, hcs⟩
  unfold getItem
  try with_reducible refine wpAny_holding ?_
  first | refine wpAny_bind (wpAny_pure ?_) | skip
  refine wpAny_bind (wpAny_sequenceKey ht.typeIs (by decide) ?_)
  refine wpAny_bind (wpAny_callSpecial?_slot (name := Str.ofString "__getitem__") ht.typeIs PyProof.Rows.slot_tuple_getitem
    (wpAny_call_entry PyProof.Rows.slot_tuple_getitem ht.typeIs entry_tuple_getitem ?_ (args_tuple_getitem _ _)))
  show wpAny _ _ (Builtin.Tuple.tupleItemsOf (.ref t) >>= _) _ _ s
  refine wpAny_bind (tupleItemsOf_ ht ?_)
  refine wpAny_bind (wpAny_typeOf hTs ?_)
  rw [if_pos (by decide)]
  refine wpAny_bind (sliceApplied_rev hs pl pu ps ?_)
  have hno : ¬ (((items.size : Int) - 1 == 0 && (-1 : Int) == 1 && items.size == items.size) = true) := by
    intro q
    rw [Bool.and_eq_true, Bool.and_eq_true] at q
    exact absurd (eq_of_beq q.1.2) (by decide)
  show wpAny _ _ (if ((items.size : Int) - 1 == 0 && (-1 : Int) == 1 && items.size == items.size) = true then _ else _) _ _ s
  rw [if_neg hno, pick_rev]
  first
    | exact wpAny_bind (m := Builtin.Tuple.tupleExact _) (wpAny_newObj_type (wpAny_pure ⟨_, rfl, wpAny_pure h⟩) htake)
    | exact wpAny_bind (m := Builtin.Tuple.tupleExact _) (wpAny_newObj_type (wpAny_bind (wpAny_pure (wpAny_pure ⟨_, rfl, wpAny_pure h⟩))) htake)
    | exact wpAny_bind (wpAny_bind (m := Builtin.Tuple.tupleExact _) (wpAny_newObj_type (wpAny_pure (wpAny_pure ⟨_, rfl, wpAny_pure h⟩)) htake))
    | exact wpAny_bind (wpAny_bind (m := Builtin.Tuple.tupleExact _) (wpAny_newObj_type (wpAny_pure ⟨_, rfl, wpAny_pure h⟩) htake))
end
end HT
namespace AL
open PySem PySem.Spec PyProof.Rows L2
open Evl (Ex)
def tRevT (K : PySem.W.Frag) (te : TE) : TE := fun σ H Q => te σ H fun x H1 => ∃ a xs, x = .ref a ∧ SqT K H1 a xs ∧ ∀ p, H1 p = none → Q (.ref p) (upd H1 p (.tup xs.reverse))
theorem pe_revT {X : Cx} {e : Expr} {te : TE} {k : Nat} {p1 p2 p3 pos : Pos} (he : PE X e te) : PE X (.Subscript e (.Slice none none (some (.UnaryOp .USub (.Constant (.int 1) k p1) p2)) p3) pos) (tRevT X.K te) := by
  refine ⟨fun pins s σ H Q I h => ?_⟩
  refine Subscript_ (thn (he.run pins s σ H _ I h) fun v s1 ⟨x, H1, I1, r1, q1⟩ => ?_)
  obtain ⟨a, xs, ex, hx, q⟩ := q1
  subst ex
  cases r1
  have hst : PO X (some (.UnaryOp .USub (.Constant (.int 1) k p1) p2)) (tPart (tUn (rU fun i => .int (-i)) (tC (.int 1)))) := po_some (pe_un un_neg pe_int)
  refine wpAny_Slice (thn (po_none.run pins s1 σ H1 (fun o H2 => o = none ∧ H2 = H1) I1 ⟨rfl, rfl⟩) fun vl s2 ⟨l, H2, I2, pl, el, e2⟩ => ?_)
  subst el e2
  refine thn (po_none.run pins s2 σ H2 (fun o H3 => o = none ∧ H3 = H2) I2 ⟨rfl, rfl⟩) fun vu s3 ⟨u, H3, I3, pu, eu, e3⟩ => ?_
  subst eu e3
  refine thn (hst.run pins s3 σ H3 (fun o H4 => o = some (-1) ∧ H4 = H3) I3 ⟨1, rfl, -1, rfl, rfl, rfl⟩) fun vs s4 ⟨o, H4, I4, ps, eo, e4⟩ => ?_
  subst eo e4
  have I5 : Inv X pins σ H4 { s4 with heap := s4.heap.push { cls := .type "slice", data := .fields #[vl, vu, vs] } } := I4.kept (t' := s4.toks) fun b ob q => Heap.get?_push_of_some _ q
  obtain ⟨its, r, ht, hz⟩ := I5.tuple hx
  have hlen := r.length
  show wpAny (model X.prog X.w) X.A (subscriptTail e (.Slice none none (some (.UnaryOp .USub (.Constant (.int 1) k p1) p2)) p3) (.ref a) (.ref s4.heap.objs.size)) (EP X pins σ Q) X.xe { s4 with heap := s4.heap.push { cls := .type "slice", data := .fields #[vl, vu, vs] } }
  refine tail_any (ops := [.ref a, .ref s4.heap.objs.size]) ht.typeIs (PyProof.Rows.slot_tuple_getitem.lookup) ?_ (by with_unfolding_all rfl)
  refine HT.getItem_tuple_rev ht (Heap.IsSliceOf.new _ vl vu vs) pl pu ps ?_ (by rw [List.size_toArray]; omega)
  refine ⟨.ref _, _, I5.laid (t' := s4.toks) (o := .tup xs.reverse) (fun b ob q => Heap.get?_push_of_some _ q) (Nat.le_refl _) ?_, rfl, q _ (I5.hok.fresh (Nat.le_refl _))⟩
  exact ⟨by rw [List.length_reverse]; exact hz, _, r.reverse, _, Heap.get?_push_size _ rfl, rfl, 0, rfl⟩
theorem ShwL.reverse {G : Hp} : ∀ {vs : List V} {ds : List D}, ShwL G vs ds → ShwL G vs.reverse ds.reverse
  | _, _, .nil => .nil
  | _, _, .cons h t => by rw [List.reverse_cons, List.reverse_cons]; exact (ShwL.reverse t).append (.cons h .nil)
section
variable {X : Cx} {W : WX} {pos p1 p2 p3 : Pos} {e a b : Expr} {te ta tb : TE} {re ra rb : AER} {kk0 : Nat} {rest : List Expr}
theorem ae_revT (he : AE X W e te re) : AE X W (.Subscript e (.Slice none none (some (.UnaryOp .USub (.Constant (.int 1) kk0 p1) p2)) p3) pos) (tRevT X.K te) (fun Γ ms k x => re Γ ms (fun u ms1 => ∃ ds, u = .d (.tup ds) ∧ k (.d (.tup ds.reverse)) ms1) x) := by
  refine ⟨pe_revT he.pe, fun Γ ms k x h σ H G F Q ev g kk xw => ?_⟩
  refine he.ok Γ ms _ x h σ H G F _ ev g (fun v H1 G1 sd ms1 e1 g1 s1 q1 => ?_) xw
  obtain ⟨ds, rfl, q⟩ := q1
  cases s1 with
  | tup h1 h2 =>
    exact ⟨_, _, rfl, Evl.st_of (g1.ex _ _ h1), fun p hp => kk _ _ _ _ _ (e1.trans (g1.exn hp)) (g1.new hp) (okd (.tup upd_same (h2.reverse.mono (g1.exn hp)))) q⟩
/-! ### x or y by truth -/
theorem tru_ok' {K : PySem.W.Frag} {G H : Hp} (e : Ex G H) : ∀ {d : D} {v : V} {b : Bool}, Shw G v d → truD d = some b → TruV K v H b
  | .non, _, _, s, h => by cases s; cases h; rfl
  | .bl _, _, _, s, h => by cases s; cases h; rfl
  | .int i, _, _, s, h => by cases s; cases h; show _ = (i != 0); simp [bne, Bool.beq_eq_decide_eq]
  | .str _, _, _, _, h => by cases h
  | .tup l, _, _, s, h => by
    cases s with
    | tup a b =>
      cases h
      refine .inr (.inl ⟨_, Evl.st_of (e _ _ a), ?_⟩)
      cases b <;> rfl
  | .lst l, _, _, s, h => by
    cases s with
    | lst a b =>
      cases h
      refine .inl ⟨_, Evl.sq_of (e _ _ a), ?_⟩
      cases b <;> rfl
  | .frl _, _, _, _, h => by cases h
  | .ins _ _, _, _, _, h => by cases h
theorem ae_orD (ha : AE X W a ta ra) (hb : AE X W (.BoolOp .Or (b :: rest) pos) tb rb) : AE X W (.BoolOp .Or (a :: b :: rest) pos) (tOrT X.K ta tb) (fun Γ ms k x => ra Γ ms (fun u ms1 => asD (fun d => ∃ c, truD d = some c ∧ if c = true then k (.d d) ms1 else rb Γ ms1 k x) u) x) := by
  refine ⟨pe_orT ha.pe hb.pe, fun Γ ms k x h σ H G F Q ev g kk xw => ?_⟩
  refine ha.ok Γ ms _ x h σ H G F _ ev g (fun v H1 G1 sd ms1 e1 g1 s1 q1 => ?_) xw
  obtain ⟨d, sd', c, hc, q⟩ := asD_ok s1 q1
  refine ⟨c, tru_ok' g1.ex sd' hc, ?_⟩
  cases c with
  | true => rw [if_pos rfl] at q ⊢; exact kk _ _ _ _ _ e1 g1 (okd sd') q
  | false => rw [if_neg Bool.false_ne_true] at q ⊢; exact hb.ok Γ ms1 k x q σ H1 G1 F Q (ev.mono e1) g1 (kk.mono e1) (xw.mono e1)
theorem ae_andD (ha : AE X W a ta ra) (hb : AE X W (.BoolOp .And (b :: rest) pos) tb rb) : AE X W (.BoolOp .And (a :: b :: rest) pos) (tAndT X.K ta tb) (fun Γ ms k x => ra Γ ms (fun u ms1 => asD (fun d => ∃ c, truD d = some c ∧ if c = true then rb Γ ms1 k x else k (.d d) ms1) u) x) := by
  refine ⟨pe_andT ha.pe hb.pe, fun Γ ms k x h σ H G F Q ev g kk xw => ?_⟩
  refine ha.ok Γ ms _ x h σ H G F _ ev g (fun v H1 G1 sd ms1 e1 g1 s1 q1 => ?_) xw
  obtain ⟨d, sd', c, hc, q⟩ := asD_ok s1 q1
  refine ⟨c, tru_ok' g1.ex sd' hc, ?_⟩
  cases c with
  | false => rw [if_neg Bool.false_ne_true] at q ⊢; exact kk _ _ _ _ _ e1 g1 (okd sd') q
  | true => rw [if_pos rfl] at q ⊢; exact hb.ok Γ ms1 k x q σ H1 G1 F Q (ev.mono e1) g1 (kk.mono e1) (xw.mono e1)
/-- a list of the store that is not changed any more: from here on data -/
theorem ae_frz (he : AE X W e te re) : AE X W e te (fun Γ ms k x => re Γ ms (fun u ms1 => ∃ p ds, u = .v (.ref p) ∧ ms1 p = some (.l ds) ∧ k (.d (.lst ds)) (md ms1 p)) x) := by
  refine ⟨he.pe, fun Γ ms k x h σ H G F Q ev g kk xw => ?_⟩
  refine he.ok Γ ms _ x h σ H G F _ ev g (fun v H1 G1 sd ms1 e1 g1 s1 q1 => ?_) xw
  obtain ⟨p, ds, rfl, hp, q⟩ := q1
  obtain ⟨G2, e2, g2, s2⟩ := g1.freezeL hp
  have ev1 : v = .ref p := s1
  subst ev1
  exact kk _ _ _ _ _ (e1.trans e2) g2 (okd s2) q
theorem s_frz {Γ : Gam} {ms : MS} {k : SD → MS → Prop} {p : Addr} {ds : List D} (hp : ms p = some (.l ds)) (h : k (.d (.lst ds)) (md ms p)) : ∃ p' ds', SD.v (.ref p) = .v (.ref p') ∧ ms p' = some (.l ds') ∧ k (.d (.lst ds')) (md ms p') := ⟨p, ds, rfl, hp, h⟩
end
/-! ### what was put aside is an object of the store -/
theorem Good.toM {H G F : Hp} {ms : MS} {p : Addr} {o : HO} {m : MO} (g : Good H G (upd F p o) ms) (hF : F p = none) (h : MOk G H p m) : Good H G F (mu ms p m) := by
  have hH := g.fr p o upd_same
  refine ⟨g.ex, fun c o' e => ?_, fun c o' e => ?_⟩
  · have z : c ≠ p := fun z => by rw [z, hF] at e; cases e
    obtain ⟨h1, h2, h3⟩ := g.fr c o' (by rw [upd_ne z]; exact e)
    exact ⟨h1, h2, by rw [mu_ne z]; exact h3⟩
  · by_cases z : c = p
    · subst z
      rw [mu_same] at e
      cases e
      exact ⟨hH.2.1, h⟩
    · rw [mu_ne z] at e
      exact g.ok c o' e
section
variable {X : Cx} {W : WX} {elt tg iter : Expr} {ifs : List Expr} {scope : Scope} {own : List (Str × Nat)} {pos : Pos} {wi : TI} {g : TG} {tt : TT} {te : TE} {ri : AIR} {rg : AGR} {rt : ATR} {re : AER} {sl : List Nat}
theorem lcM_sound (hs : ∀ j ∈ sl, j ∈ own.map (·.2)) (hi : ∀ Γ ms k x, ri Γ ms k x → ∀ σ H G F R, EOk G σ Γ → Good H G F ms → KI G F k R → XW W G F σ x → wi σ H R)
    (hg : ∀ sd Γ ms k, rg sd Γ ms k → ∀ v σ H G F Q, SOk G v sd → EOk G σ Γ → Good H G F ms → KS sl σ G F k Q → g v σ H Q)
    (ht : ∀ Γ ms k x, rt Γ ms k x → ∀ σ H G F Q, EOk G σ Γ → Good H G F ms → KT G F k Q → XW W0 G F σ x → tt σ H Q)
    (he : ∀ Γ ms k x, re Γ ms k x → ∀ σ H G F Q, EOk G σ Γ → Good H G F ms → KE G F k Q → XW W0 G F σ x → te σ H Q)
    {Γ : Gam} {ms : MS} {k : SD → MS → Prop} {x : AX} (h : ri Γ ms (fun ds ms1 => lcI rg rt re (wipeG Γ (own.map (·.2))) ds [] ms1 fun acc ms2 => ∀ p, ms2 p = none → k (.v (.ref p)) (mu ms2 p (.l acc))) x)
    {σ : L2.St} {H G F : Hp} {Q : VK} (ev : EOk G σ Γ) (gd : Good H G F ms) (kk : KE G F k Q) (xw : XW W G F σ x) : tLc wi g tt te (own.map (·.2)) σ H Q := by
  refine hi Γ ms _ x h σ H G F _ ev gd (fun J H1 G1 ds ms1 e1 g1 q1 wk => ?_) xw
  intro D hD
  have fD := (g1.fresh hD).2.2
  refine ⟨fun i m H' => ∃ G' acc accV ms', Ex G1 G' ∧ Good H' G' (upd F D (.lst accV)) ms' ∧ ShwL G' accV acc ∧ i ≤ ds.length ∧ m = ds.length - i ∧ lcI rg rt re (wipeG Γ (own.map (·.2))) (ds.drop i) acc ms' fun acc ms2 => ∀ p, ms2 p = none → k (.v (.ref p)) (mu ms2 p (.l acc)),
    ⟨ds.length, G1, [], [], ms1, Ex.refl G1, g1.asideN hD, .nil, Nat.zero_le _, rfl, q1⟩, ?_⟩
  rintro i m H' ⟨G', acc, accV, ms', e', g', sA, hi', rfl, q'⟩
  obtain ⟨w1, w2⟩ := wk i H' G' _ ms' e' g'
  by_cases hlt : i < ds.length
  · right
    obtain ⟨go, yl⟩ := w2 ds[i] (List.getElem?_eq_getElem hlt)
    rw [List.drop_eq_getElem_cons hlt] at q'
    refine ⟨go, fun H2 => ∃ G' acc accV ms', Ex G1 G' ∧ Good H2 G' (upd F D (.lst accV)) ms' ∧ ShwL G' accV acc ∧ i + 1 ≤ ds.length ∧ lcI rg rt re (wipeG Γ (own.map (·.2))) (ds.drop (i + 1)) acc ms' fun acc ms2 => ∀ p, ms2 p = none → k (.v (.ref p)) (mu ms2 p (.l acc)), fun H2 hN => ?_, fun v H2 hy => ?_⟩
    · obtain ⟨G2, acc2, accV2, ms2, a1, a2, a3, a4, a5⟩ := hN
      exact ⟨ds.length - (i + 1), by omega, G2, acc2, accV2, ms2, a1, a2, a3, a4, rfl, a5⟩
    · obtain ⟨G2, e2, g2, sv⟩ := yl v H2 hy
      refine hg _ _ _ _ q' v _ H2 G2 _ _ (okd sv) ((ev.mono ((e1.trans e').trans e2)).wipe _) g2 fun σ3 H3 G3 Γ3 ms3 e3 ev3 g3 n3 q3 => ?_
      refine ⟨wipe_eq n3.1 n3.2 hs, ?_⟩
      refine ht _ _ _ _ q3 σ3 H3 G3 _ _ ev3 g3 (fun b H4 G4 ms4 e4 g4 q4 => ?_) xw_no
      have e14 := (e'.trans e2).trans (e3.trans e4)
      cases b with
      | false =>
        rw [if_neg Bool.false_ne_true] at q4 ⊢
        exact ⟨G4, acc, accV, ms4, e14, g4, sA.mono (e2.trans (e3.trans e4)), hlt, q4⟩
      | true =>
        rw [if_pos rfl] at q4 ⊢
        refine he _ _ _ _ q4 σ3 H4 G4 _ _ (ev3.mono e4) g4 (fun y H5 G5 sd ms5 e5 g5 s5 q5 => ?_) xw_no
        obtain ⟨dv, sdv, hz, q5⟩ := asD_ok s5 q5
        have sA5 := sA.mono (e2.trans (e3.trans (e4.trans e5)))
        exact ⟨accV, (g5.fr D _ upd_same).1, by rw [sA.length]; exact hz, G5, acc ++ [dv], accV ++ [y], ms5, e14.trans e5, g5.asideW, sA5.append (.cons sdv .nil), hlt, q5⟩
  · left
    have ei : i = ds.length := by omega
    refine ⟨w1 (by omega), ?_⟩
    rw [List.drop_eq_nil_of_le (by omega)] at q'
    have fr := g'.fr D _ upd_same
    exact kk _ _ _ _ _ (e1.trans e') (g'.toM (m := .l acc) fD ⟨accV, fr.1, sA⟩) okv (q' D fr.2.2)
/-- name = [.. for ..], changed later -/
theorem as_setLcM {x : Str} {spos py : Pos} (i : Nat) (hc : X.calm = true) (hN : X.N.Nodup) (hi : AI X W tg iter wi ri) (ok : BlkOk X.N X.env.scope scope own) (hs : ∀ j ∈ sl, j ∈ own.map (·.2))
    (hg : ∀ (s : Shared) (H : Hp) (C : Addr) (cl : List (Str × Addr)) (fp : List Addr), AG (X.blk s H scope (compEnvC scope cl C X.env) fp) tg sl g rg) (ht : ∀ (s : Shared) (H : Hp) (C : Addr) (cl : List (Str × Addr)) (fp : List Addr), ATs (X.blk s H scope (compEnvC scope cl C X.env) fp) W0 ifs tt rt)
    (he : ∀ (s : Shared) (H : Hp) (C : Addr) (cl : List (Str × Addr)) (fp : List Addr), AE (X.blk s H scope (compEnvC scope cl C X.env) fp) W0 elt te re)
    (hsw : swapsWith (.ListComp elt [⟨tg, iter, ifs, 0⟩] scope pos) (some (.Name x py)) spos.line X.env = pure true) (hy : X.N[i]? = some x := by rfl) (hyl : X.env.scope.names.lookup x = some .local := by rfl) (hf : ∀ x, foldedSetIterable iter X.env x = pure x := by intro _; rfl) :
    AS X W (.Assign [.Name x py] (.ListComp elt [⟨tg, iter, ifs, 0⟩] scope pos) spos) (tAsg (tLc wi g tt te (own.map (·.2))) (gName i)) (rSet i (fun Γ ms k x => ri Γ ms (fun ds ms1 => lcI rg rt re (wipeG Γ (own.map (·.2))) ds [] ms1 fun acc ms2 => ∀ p, ms2 p = none → k (.v (.ref p)) (mu ms2 p (.l acc))) x)) :=
  ⟨ps_setLc hc hN hy hyl hsw hi.pe ok (fun a b c d e => (hg a b c d e).pe) (fun a b c d e => (ht a b c d e).pe) (fun a b c d e => (he a b c d e).pe) hf,
    fun A Γ ms h σ H G F D ev g f => lcM_sound (W := W) hs hi.ok (hg X.s_0 X.H_0 0 [] []).ok (ht X.s_0 X.H_0 0 [] []).ok (he X.s_0 X.H_0 0 [] []).ok (Γ := Γ) (ms := ms) (k := fun sd ms1 => A.nx (Γ.set i (some sd)) ms1) (x := A.x Γ) h ev g (fun v H2 G2 sd ms2 e2 g2 s2 q => f.nx _ H2 G2 _ ms2 e2 ((ev.mono e2).set s2 i) g2 q) (f.x σ Γ G (Ex.refl G) ev)⟩
end
/-! ### a def with defaults -/
section
variable {P : Program} {w : World} {K : PySem.W.Frag} {mg : Str → Option Value} {base : Heap} {x qual : Str} {st : Stmt} {f : Addr} {fd : FuncData} {N ps : List Str} {k : Nat} {R : AFn} {CX : CXT} {dvs : List V} {kws : List (Str × V)}
theorem fnAXD (F : FunD K x qual (defArgs st) (defBody st) (defScope st) dvs kws f fd) (S : FnScope N ps (defScope st)) (len : ∀ sds ms k x, R sds ms k x → sds.length = ps.length) (hN : ps.length ≤ N.length)
    (hbody : ∀ (cdv : Value) (A : Around) (outer : List Env) (s : Shared) (H : Hp) (E : XK), Room k (A.deeper (envOfC qual (defScope st) s.heap.objs.size f cdv)) →
      ∃ t r, ASs (cxOf (L2.CX P w) P w K mg base N qual (defScope st) f cdv A outer s H E) (fun cls d _ H => E cls d H) (defBody st) t r ∧ ∀ sds ms k x, R sds ms k x → r (aEnd k x) (gam N sds) ms) :
    FnOk P w K mg base (L2.CX P w) (k + 1) f fd ps (spA R) := by
  refine F.ok S (fun vs H Q E h => ?_) (fun cdv A outer s H vs Q E hr h => ?_)
  · obtain ⟨sds, G, F, ms, kk, xx, s, g, q, _⟩ := h
    rw [s.length, len _ _ _ _ q]
  · obtain ⟨t, r, hb, hR⟩ := hbody cdv A outer s H E hr
    exact ⟨t, hb.pe, fn_end hb hR (fun sds ms k x h => by rw [len _ _ _ _ h]; exact hN) (fun _ _ _ _ h => h) h⟩
theorem FnOk.toRD {sp : Sp} {ds : List Value} {dv : List V} (F : FnOk P w K mg base CX k f fd ps sp) (hb : Binds K fd ps ds) (hd : Vals dv ds) : FnR P w K mg base CX k f (fun vs H Q E => sp (vs ++ dv) H Q E) := fun A outer s H us vs Q E hr e0 r hs => by
  have rr : Vals (vs ++ dv) (us ++ ds) := r.append hd
  have hl : (us ++ ds).length = ps.length := by rw [← rr.length]; exact F.len _ _ _ _ hs
  have b := hb s us (e0.mod.kin.keeps fun b o e => (e0.bs b o e).1) hl
  exact F.run A outer s H ⟨us, []⟩ (us ++ ds) (vs ++ dv) Q E hr e0 b rr hs
/-- one default that lacks: it is the thing at T -/
theorem FnR.lack {T : Addr} (F : FnR P w K mg base CX k f (fun vs H Q E => spA R (vs ++ [.ref T]) H Q E)) : FnR P w K mg base CX k f (spA fun sds ms kk x => R (sds ++ [.v (.ref T)]) ms kk x) := F.imp fun vs H Q E hs => by
  obtain ⟨sds, G, F, ms, kk, x, s, g, r, kq, xe⟩ := hs
  have app : ∀ {as : List SD} {v1 : List V}, SOkL G v1 as → SOkL G (v1 ++ [V.ref T]) (as ++ [.v (.ref T)]) := by
    intro as v1 h1
    induction h1 with
    | nil => exact .cons okv .nil
    | cons a _ ih => exact .cons a ih
  exact ⟨_, G, F, ms, kk, x, app s, g, r, kq, xe⟩
end
/-! ### the empty tuple of the module -/
def KT0 (K : PySem.W.Frag) (a : Addr) : Prop := ∃ (o : Obj) (n : Nat), K.lookup a = some o ∧ o.cls = .type "tuple" ∧ o.data = .seq #[] n
theorem KT0.sq {K : PySem.W.Frag} {H : Hp} {a : Addr} (h : KT0 K a) : SqT K H a [] := let ⟨o, n, h1, h2, h3⟩ := h; .inr ⟨o, #[], n, h1, h2, h3, by show 0 ≤ sizeLine; exact Nat.zero_le _, .nil⟩
/-- a tuple, or the module's own empty one -/
def FrT (K : PySem.W.Frag) (sd : SD) (ds : List D) : Prop := sd = .d (.tup ds) ∨ (ds = [] ∧ ∃ a, sd = .v (.ref a) ∧ KT0 K a)
/-- in, of such a tuple -/
def oInT0 (K : PySem.W.Frag) (neg : Bool) : AO2 := fun _ x y k => ∃ ds a, FrT K y ds ∧ x = .d a ∧ a.fit 64 = true ∧ fitL ds 63 = true ∧ k (.d (.bl (neg ^^ ds.any fun z => z.eqv a)))
theorem oa_inT0 {K : PySem.W.Frag} : OpA (rInA K) (oInT0 K false) := by
  intro ms x y k h v u H G F Q g sx sy kz
  obtain ⟨ds, a, hf, rfl, fa, fd, q⟩ := h
  have q' := kz.here g (okd (.bl _)) q
  rcases hf with rfl | ⟨rfl, b, rfl, hk⟩
  · have h : Dp K H u (.tuple (pyL ds)) := by
      cases sy with
      | tup a b => exact .tup (Evl.st_of (g.ex _ _ a)) (b.dp g.ex fd)
    exact .inr (.inl ⟨_, _, Shw.dp g.ex sx fa, h, D.fit_shaped fa, (shaped_seq fd).2, by rw [any_py]; exact q'⟩)
  · have eu : u = .ref b := sy
    subst eu
    exact .inr (.inl ⟨_, _, Shw.dp g.ex sx fa, .tup hk.sq .nil, D.fit_shaped fa, (shaped_seq (ds := []) rfl).2, q'⟩)
end AL

/-! ## AbsM -/
set_option Elab.async false
set_option linter.all false
set_option maxRecDepth 100000
set_option maxHeartbeats 2000000
/-! sorted of a list of tuples, empty ones among them -/
namespace PySem.W
open PySem PySem.Calls PyProof.Rows PySem.SeqAt
section
variable {prog : Program} {w : World} {A : Around} {E : Value → Shared → Prop} {s : Shared}
theorem call_tuple_lt {Q : Value → Shared → Prop} {l b : Addr} {items items2 : Array Value} {e r : Nat → Bool} (hl : s.heap.IsTuple l items) (hb : s.heap.IsTuple b items2)
    (he : ∀ j (h1 : j < items.size) (h2 : j < items2.size), EqAt A.in1 s items[j] items2[j] (e j)) (hr : ∀ j (h1 : j < items.size) (h2 : j < items2.size), e j = false → RcLt A.in1 s items[j] items2[j] (r j))
    (h : Q (.bool (firstLt e r (decide (items.size < items2.size)) (List.range (min items.size items2.size)))) s) : wpAny (model prog w) A (call (.builtin "tuple.__lt__") [.ref l, .ref b]) Q E s := by
  obtain ⟨⟨cls, dd, data, sl⟩, ho, hc, n, hd⟩ := id hl
  obtain ⟨⟨cls2, dd2, data2, sl2⟩, ho2, hc2, n2, hd2⟩ := id hb
  simp only at hc hd hc2 hd2
  subst hc hd hc2 hd2
  exact call_meets F.slot_tuple_lt ⟨_, ho, rfl⟩ F.entry_tuple_lt (F.args_tuple_lt_2 _ _) (tuple_ltAt l b items items2 n n2 dd dd2 sl sl2 e r) ⟨ho, ho2, he, hr, h⟩
theorem oneLt_tup {f : Bool} {xs ys : List PyData} {a b : Value} {as bs : List Addr} {Q : Bool → Shared → Prop} (ra : Reads s.heap a (.tuple xs) as) (rb : Reads s.heap b (.tuple ys) bs) (h : alike (.tuple xs) (.tuple ys) = true)
    (hu : A.units + min (PyData.tuple xs).depth (PyData.tuple ys).depth < cLine) (hq : Q (dataLt (.tuple xs) (.tuple ys)) s) : wpAny (model prog w) A (oneLt' f a b) Q E s := by
  cases f with
  | false => exact oneLt_alike (fun h => by cases h) ra rb h (by simp) hu hq
  | true =>
    have hal : alikeAll xs ys = true := by simpa [alike] using h
    cases ra with
    | @tuple l o vs n _ as₁ h1 h2 h3 h4 =>
      cases rb with
      | @tuple l' o' vs' n' _ bs₁ k1 k2 k3 k4 =>
        have n1 : vs.size = xs.length := by simpa using ReadsAll.length _ _ _ h4
        have n2 : vs'.size = ys.length := by simpa using ReadsAll.length _ _ _ k4
        rw [dataLt_tuple, ← firstLt_toks xs ys hal, ← n1, ← n2] at hq
        rw [oneLt'_eq]
        simp only [if_true]
        refine wpAny_bind (wpAny_cRoomFor (room_here hu) ?_)
        refine wpAny_bind (wpAny_callSpecialIfBound?_slot (T := "tuple") ⟨_, h1, h2⟩ F.slot_tuple_lt (call_tuple_lt (e := pairEq xs ys) (r := fun j => dataLt (xs.getD j .none) (ys.getD j .none)) ⟨_, h1, h2, _, h3⟩ ⟨_, k1, k2, _, k3⟩ (fun j j1 j2 => ?_) (fun j j1 j2 hj => ?_) ?_))
        · have := eqAt_alikeAll xs ys A.in1 s vs.toList vs'.toList _ _ h4 k4 hal (room_in hu) j (by simpa using j1) (by simpa using j2)
          simpa using this
        · have := rcLt_alikeAll xs ys A.in1 s vs.toList vs'.toList _ _ h4 k4 hal (room_in hu) j (by simpa using j1) (by simpa using j2) hj
          simpa using this
        · exact wpAny_truthy_bool hq
/-- what firstOfTuple tells of each -/
theorem mapM_looks {M : Model} {h : Heap} {α β : Type} {f : α → Sem β} : ∀ {l : List α} {bs : List β}, EachIs (fun a b => Looks M h (f a) b) l bs → Looks M h (l.mapM f) bs
  | _, _, .nil => by rw [List.mapM_nil]; exact Looks.of_pure rfl
  | _, _, .cons (b := b) (bs := bs) e t => by
    rw [List.mapM_cons]
    exact e.andThen ((mapM_looks t).andThen (Looks.of_pure rfl))
theorem first_tup {M : Model} {h : Heap} {v : Value} {xs : List PyData} {as : List Addr} (r : Reads h v (.tuple xs) as) : ∃ o : Option Value, Looks M h (firstOfTuple' v) o ∧ (o.isSome = !xs.isEmpty) := by
  cases r with
  | @tuple l o vs n _ as₁ h1 h2 h3 h4 =>
    have n1 : vs.size = xs.length := by simpa using SeqAt.ReadsAll.length _ _ _ h4
    refine ⟨vs[0]?, ?_, ?_⟩
    · intro A Q E s k hq
      rw [kas_first_eq]
      refine wpAny_bind (Looks.here (show Looks M s.heap (typeOf (.ref l)) o.cls from (Looks.ld (k _ _ h1)).andThen .now) ?_)
      rw [h2, if_neg (by first | decide | simp)]
      exact wpAny_bind (listItems_at (k _ _ h1) h3 (wpAny_pure hq))
    · cases xs with
      | nil => rw [Array.getElem?_eq_none (by rw [List.length_nil] at n1; omega)]; rfl
      | cons x r => rw [Array.getElem?_eq_getElem (by rw [List.length_cons] at n1; omega)]; rfl
theorem firsts_tup {M : Model} {h : Heap} : ∀ {vs : List Value} {ds : List PyData}, EachIs (fun v d => ∃ as, Reads h v d as) vs ds → (∀ d, d ∈ ds → ∃ xs, d = .tuple xs) →
    ∃ os : List (Option Value), EachIs (fun v o => Looks M h (firstOfTuple' v) o) vs os ∧ os.map (·.isSome) = ds.map fun d => match d with | .tuple (_ :: _) => true | _ => false
  | _, _, .nil, _ => ⟨[], .nil, rfl⟩
  | _, _, .cons (b := d) ⟨as, r⟩ t, ht => by
    obtain ⟨os, e1, e2⟩ := firsts_tup (M := M) t fun d hd => ht d (List.mem_cons_of_mem _ hd)
    obtain ⟨xs, rfl⟩ := ht d (List.mem_cons_self ..)
    obtain ⟨o, h1, h2⟩ := first_tup (M := M) r
    refine ⟨o :: os, .cons h1 e1, ?_⟩
    rw [List.map_cons, List.map_cons, e2, h2]
    cases xs <;> rfl
/-- lists of tuples, empty ones among them -/
theorem SortsAt.tups {vs : List Value} {ds : List PyData} (e : EachIs (fun v d => ∃ as, Reads s.heap v d as) vs ds) (hal : AllAlike ds) (ht : ∀ d, d ∈ ds → ∃ xs, d = .tuple xs) (hu : ∀ d, d ∈ ds → A.units + d.depth < cLine) : SortsAt prog w A s (dataKind s.heap ds) vs := by
  by_cases hk : ∀ d, d ∈ ds → ∃ x r, d = .tuple (x :: r)
  · exact SortsAt.data e hal (.inl hk) hu
  · have room : ∀ {d d' : PyData}, d ∈ ds → A.units + min d.depth d'.depth < cLine := fun {d d'} hd => Nat.lt_of_le_of_lt (Nat.add_le_add_left (Nat.min_le_left _ _) _) (hu d hd)
    have cmp : ∀ (f : Bool) (E : Value → Shared → Prop) (x y : Value) (a b : (dataKind s.heap ds).α) {Q : Bool → Shared → Prop}, (dataKind s.heap ds).keyOf x = some a → (dataKind s.heap ds).keyOf y = some b → Q ((dataKind s.heap ds).blt a b) s → wpAny (model prog w) A (oneLt' f x y) Q E s := by
      intro f E x y a b Q ha hb hq
      obtain ⟨d, as, hd, ra, rfl⟩ := dataKind_inv ha
      obtain ⟨d', as', hd', rb, rfl⟩ := dataKind_inv hb
      have hdd := hal d hd d' hd'
      have hroom := room (d' := d') hd
      obtain ⟨xs, rfl⟩ := ht d hd
      obtain ⟨ys, rfl⟩ := ht d' hd'
      exact oneLt_tup ra rb hdd hroom hq
    refine ⟨fun v hv => ?_, ?_⟩
    · obtain ⟨d, hd, as, r⟩ := e.left v hv
      exact ⟨_, dataKind_some hal hd r⟩
    · have go : ∃ kd : SortKind, (kd = general' ∨ kd = oneType') ∧ (2 ≤ vs.length → ∀ (E : Value → Shared → Prop) {Q : SortKind → Shared → Prop}, Q kd s → wpAny (model prog w) A (keyKind' vs.toArray) Q E s) := by
        obtain ⟨os, e1, e2⟩ := firsts_tup (M := model prog w) e ht
        have hno : ¬ ((os.toArray.all (·.isSome)) = true) := by
          intro q
          apply hk
          intro d hd
          rw [List.all_toArray] at q
          have q2 : (os.map (·.isSome)).all id = true := by rw [List.all_map]; exact q
          rw [e2, List.all_map] at q2
          have := List.all_eq_true.mp q2 d hd
          obtain ⟨xs, rfl⟩ := ht d hd
          cases xs with
          | nil => cases this
          | cons x r => exact ⟨x, r, rfl⟩
        have hfirst : ∀ (E : Value → Shared → Prop) {Q : SortKind → Shared → Prop}, wpAny (model prog w) A (do
            if (os.toArray[0]?.bind id).isSome then return general'
            return if (← oneTypeOnly' vs.toArray).isSome then oneType' else general') Q E s → wpAny (model prog w) A (keyKind' vs.toArray) Q E s := by
          intro E Q q
          rw [keyKind'_eq, List.mapM_toArray, map_eq_pure_bind]
          refine wpAny_bind (wpAny_bind ((mapM_looks e1).here (wpAny_pure ?_)))
          rw [if_neg hno]
          exact q
        by_cases hf : (os.toArray[0]?.bind id).isSome = true
        · refine ⟨general', .inl rfl, fun _ E Q hq => hfirst E ?_⟩
          rw [if_pos hf]
          exact wpAny_pure hq
        · refine ⟨oneType', .inr rfl, fun h2 E Q hq => hfirst E ?_⟩
          rw [if_neg hf]
          have hT : ∀ v ∈ vs, Looks (model prog w) s.heap (typeOf v) (.type "tuple") := fun v hv => by
            obtain ⟨d, hd, as, r⟩ := e.left v hv
            obtain ⟨xs, rfl⟩ := ht d hd
            exact looks_reads r
          obtain ⟨v₁, rest, rfl⟩ : ∃ v₁ rest, vs = v₁ :: rest := by
            match vs, h2 with
            | [], h2 => simp at h2
            | v₁ :: rest, _ => exact ⟨v₁, rest, rfl⟩
          rw [oneTypeOnly'_eq, List.mapM_toArray, map_eq_pure_bind]
          refine wpAny_bind (wpAny_bind (wpAny_bind (kas_mapM (r := .type "tuple") _ (fun v hv Q' hq => (hT v hv).here hq) (wpAny_pure ?_))))
          have hall : ((List.map (fun _ => Value.type "tuple") (v₁ :: rest)).toArray.all fun x => x == Value.type "tuple") = true := by
            simp only [List.all_toArray, List.all_map, List.all_eq_true]
            intro _ _
            rfl
          have h0 : (List.map (fun _ => Value.type "tuple") (v₁ :: rest)).toArray[0]? = some (Value.type "tuple") := by simp
          rw [h0]
          simp only [hall, if_true]
          exact wpAny_pure (wpAny_pure hq)
      obtain ⟨kd, hkd, hkk⟩ := go
      refine ⟨kd, ?_, hkk⟩
      rcases hkd with rfl | rfl
      · exact fun E x y a b Q ha hb hq => cmp false E x y a b ha hb hq
      · exact fun E x y a b Q ha hb hq => cmp true E x y a b ha hb hq
theorem sorted_tups {β : Type} {vs : List Value} {bs : List β} {enc : β → PyData} {R : Value → β → Prop} {l : Addr} {Q : Value → Shared → Prop} (hl : s.heap.IsList l vs.toArray) (e : EachIs R vs bs) (er : EachIs (fun v b => ∃ as, Reads s.heap v (enc b) as) vs bs) (hal : AllAlike (bs.map enc)) (hk : ∀ d, d ∈ bs.map enc → ∃ xs, d = .tuple xs) (hL : bs.length ≤ sizeLine)
    (hu : ∀ b, b ∈ bs → A.units + 2 + (enc b).depth < cLine) (h : ∀ out, out.length = bs.length → EachIs R out (bs.mergeSort (dataLe false enc)) → Q (.ref (s.heap.objs.size + 1)) { s with heap := sortedAll s.heap vs (List.toArray out) }) :
    wpAny (model prog w) A (call (.builtin "sorted") [.ref l]) Q E s := by
  have er' : EachIs (fun v b => ∃ as, Reads (sortingHeap (copyHeap s.heap vs) (s.heap.objs.size + 1) vs) v (enc b) as) vs bs := er.mono fun _ _ ⟨as, r⟩ => ⟨as, PyProof.Rows.Reads.keeps (fun _ _ => sorting_copy_old) r⟩
  exact sorted_vals hl (SortsAt.tups (s := { s with heap := sortingHeap (copyHeap s.heap vs) (s.heap.objs.size + 1) vs }) (each_map (R := fun v d => ∃ as, Reads (sortingHeap (copyHeap s.heap vs) (s.heap.objs.size + 1) vs) v d as) enc er') hal hk (bound_map hu)) (by rw [e.length]; exact hL)
    (h _ (by rw [sortVals_length false rfl]; exact e.length) (sortVals_data false e er' hal))
end
end PySem.W
namespace AL
open PySem PySem.Spec PyProof.Rows L2
open Evl (Ex)
def TupsD (ds : List D) : Prop := ∀ d ∈ ds, ∃ l, d = .tup l
def oSortedT : AOL := fun ms xs k => match xs with
  | [x] => ∃ ds, lstOf ms x = some ds ∧ fitL ds 63 = true ∧ PySem.W.AllAlike (ds.map D.py) ∧ TupsD ds ∧ ds.length ≤ sizeLine ∧ k (.d (.lst (sortD ds)))
  | _ => False
def rSortedT (K : PySem.W.Frag) : List V → Hp → VK → Prop := fun vs H Q => ∃ (a : Addr) (xs : List V) (G : Hp) (ds : List D), vs = [.ref a] ∧ H a = some (.lst xs) ∧ Ex G H ∧ ShwL G xs ds ∧ fitL ds 63 = true ∧ PySem.W.AllAlike (ds.map D.py) ∧ TupsD ds ∧ ds.length ≤ sizeLine ∧
  ∀ (ys : List V) (p : Addr), ShwL G ys (sortD ds) → H p = none → Q (.ref p) (upd H p (.lst ys))
theorem cr_sortedT {X : Cx} (hu : X.A.units + 80 < cLine) : CallR X (.builtin "sorted") (rSortedT X.K) := by
  intro pins s σ H vs us Q I r h
  obtain ⟨a, xs, G, ds, rfl, hs, eG, sh, ft, al, so, hl, q⟩ := h
  obtain ⟨its, rv, hL, _⟩ := I.list (Evl.sq_of (K := X.K) hs)
  rw [Vals.ref1 r]
  obtain ⟨e1, e2⟩ := each_of I eG sh rv ft
  refine PySem.W.sorted_tups (enc := D.py) hL.isList e1 e2 al (fun d hd => ?_) hl (fun d hd => ?_) fun out ho ho2 => ?_
  · obtain ⟨d', hd', rfl⟩ := List.mem_map.mp hd
    obtain ⟨l, rfl⟩ := so d' hd'
    exact ⟨pyL l, by rw [D.py]⟩
  · rw [fitL_all] at ft
    have := (D.fit_lay d 63 (List.all_eq_true.mp ft d hd)).2
    omega
  · obtain ⟨ys, v1, v2⟩ := each_back ho2
    obtain ⟨ep, he'⟩ := PyProof.Rows.sortedAll_at s.heap its out.toArray
    have hlen : ys.length ≤ sizeLine := by rw [v2.length, List.length_mergeSort]; exact hl
    exact ⟨.ref _, upd H (s.heap.objs.size + 1) (.lst ys), I.laid (t' := s.toks) (fun _ _ => PyProof.Rows.sortedAll_old) (Nat.le_succ _) ⟨hlen, out, ep, v1, he'⟩, rfl, q ys _ v2 (I.hok.fresh (Nat.le_succ _))⟩
theorem oa_sortedT {K : PySem.W.Frag} : ClA (rSortedT K) oSortedT := by
  intro ms xs k h vs H G F Q g s kz
  unfold oSortedT at h
  split at h
  · obtain ⟨v, ev, sv⟩ := one_of s
    subst ev
    obtain ⟨ds, e, f, a1, a2, hl, q⟩ := h
    obtain ⟨a, ws, rfl, h1, h2⟩ := lstOf_ok g sv e
    exact ⟨a, ws, G, ds, rfl, h1, g.ex, h2, f, a1, a2, hl, fun ys p sy hp => kz.lst g sy q p hp⟩
  · exact h.elim
end AL

/-! ## K76m -/
set_option Elab.async false
set_option linter.all false
set_option maxRecDepth 100000
set_option maxHeartbeats 4000000
namespace R76
open PySem PySem.Spec PyProof.Rows L2 AL
open PySem.W (keyToks keyToksAll alike alikeAll dataLt dataLe)

/-! ### the things the law draws -/
abbrev Off := Str × Int × Int
abbrev Wnt := Str × Off
abbrev Rel := List Off × List Wnt
def eO (o : Off) : D := .tup [.str o.1, .int o.2.1, .int o.2.2]
def eW (w : Wnt) : D := .tup [.str w.1, .str w.2.1, .int w.2.2.1, .int w.2.2.2]
def eR (r : Rel) : D := .tup [.tup (r.1.map eO), .tup (r.2.map eW)]
def eLn (l : List Rel) : D := .tup (l.map eR)
def eLs (ls : List (List Rel)) : D := .tup (ls.map eLn)
def eN (ns : List Str) : D := .tup (ns.map D.str)
def eM (m : List Nat) : D := .tup (m.map fun i : Nat => D.int i)
def sok (z : Str) : Prop := z.cps.all (· < 0x110000) = true
def ook (o : Off) : Prop := sok o.1
def wok (w : Wnt) : Prop := sok w.1 ∧ sok w.2.1
structure RelOk (r : Rel) : Prop where
  n1 : r.1.length ≤ 4
  n2 : r.2.length ≤ 6
  o : ∀ x ∈ r.1, ook x
  w : ∀ x ∈ r.2, wok x
structure RelsOk (ls : List (List Rel)) : Prop where
  n : 1 ≤ ls.length ∧ ls.length ≤ 4
  l : ∀ l ∈ ls, 1 ≤ l.length ∧ l.length ≤ 4
  r : ∀ l ∈ ls, ∀ r ∈ l, RelOk r
def SGN : Str := " abcdefghijklmnopqrstuvwxyz0123456789"
def SG1 : List Nat := SGN.cps.toList.drop 1
def SG26 : List Nat := (SGN.cps.toList.drop 1).take 26
structure NameOk (z : Str) : Prop where
  n : 1 ≤ z.length ∧ z.length ≤ 9
  h : ∃ c r, z.cps.toList = c :: r ∧ c ∈ SG26
  a : ∀ c ∈ z.cps.toList, c ∈ SG1
theorem sg1_ok : ∀ c ∈ SG1, c < 0x110000 := by decide +kernel
theorem NameOk.sok {z : Str} (h : NameOk z) : sok z := by
  show z.cps.all (· < 0x110000) = true
  rw [← Array.all_toList]
  exact List.all_eq_true.mpr fun c hc => decide_eq_true (sg1_ok c (h.a c hc))
structure NamesOk (ns : List Str) : Prop where
  a : ∀ z ∈ ns, NameOk z
  d : ns.Nodup

/-! ### data: fit, eqv, alike -/
theorem fit_str {z : Str} (h : sok z) (n : Nat) : (D.str z).fit n = true := by rw [D.fit]; exact h
theorem fit_tup {l : List D} {n : Nat} (h : ∀ d ∈ l, d.fit n = true) : (D.tup l).fit (n + 1) = true := by
  simp only [D.fit]
  rw [fitL_all]
  exact List.all_eq_true.mpr h
theorem fit_lst {l : List D} {n : Nat} (h : ∀ d ∈ l, d.fit n = true) : (D.lst l).fit (n + 1) = true := by
  simp only [D.fit]
  rw [fitL_all]
  exact List.all_eq_true.mpr h
theorem fitL_of {l : List D} {n : Nat} (h : ∀ d ∈ l, d.fit n = true) : fitL l n = true := by
  rw [fitL_all]
  exact List.all_eq_true.mpr h
theorem fit_eO {o : Off} (h : ook o) (n : Nat) : (eO o).fit (n + 1) = true := fit_tup fun d hd => by
  simp only [List.mem_cons, List.not_mem_nil, or_false] at hd
  rcases hd with rfl | rfl | rfl
  · exact fit_str h n
  · rfl
  · rfl
theorem fit_eW {o : Wnt} (h : wok o) (n : Nat) : (eW o).fit (n + 1) = true := fit_tup fun d hd => by
  simp only [List.mem_cons, List.not_mem_nil, or_false] at hd
  rcases hd with rfl | rfl | rfl | rfl
  · exact fit_str h.1 n
  · exact fit_str h.2 n
  · rfl
  · rfl
theorem fit_eM (m : List Nat) (n : Nat) : (eM m).fit (n + 1) = true := fit_tup fun d hd => by
  obtain ⟨i, _, rfl⟩ := List.mem_map.mp hd
  rfl
theorem fit_eR {r : Rel} (h : RelOk r) (n : Nat) : (eR r).fit (n + 3) = true := fit_tup fun d hd => by
  simp only [List.mem_cons, List.not_mem_nil, or_false] at hd
  rcases hd with rfl | rfl
  · exact fit_tup fun d hd => by
      obtain ⟨i, hi, rfl⟩ := List.mem_map.mp hd
      exact fit_eO (h.o i hi) n
  · exact fit_tup fun d hd => by
      obtain ⟨i, hi, rfl⟩ := List.mem_map.mp hd
      exact fit_eW (h.w i hi) n
theorem fit_eLs {ls : List (List Rel)} (h : RelsOk ls) (n : Nat) : (eLs ls).fit (n + 5) = true := fit_tup fun d hd => by
  obtain ⟨l, hl, rfl⟩ := List.mem_map.mp hd
  exact fit_tup fun d hd => by
    obtain ⟨r, hr, rfl⟩ := List.mem_map.mp hd
    exact fit_eR (h.r l hl r hr) n
theorem eqv_self {d : D} {n : Nat} (h : d.fit n = true) : d.eqv d = true := by
  unfold D.eqv
  exact SeqAt.eqv_refl _ (D.fit_lay d n h).1
theorem eqv_tup (a b : List D) : (D.tup a).eqv (.tup b) = PyData.eqvAll (pyL a) (pyL b) := by
  unfold D.eqv
  rw [D.py, D.py, PyData.eqv]
theorem eqvAll_cons (a b : D) (r s : List D) : PyData.eqvAll (pyL (a :: r)) (pyL (b :: s)) = (a.eqv b && PyData.eqvAll (pyL r) (pyL s)) := by
  rw [pyL, pyL, PyData.eqvAll]; rfl
theorem eqvAll_nil : PyData.eqvAll (pyL []) (pyL []) = true := by rw [pyL, PyData.eqvAll]
theorem eqv_eO (a b : Off) : (eO a).eqv (eO b) = decide (a = b) := by
  obtain ⟨a1, a2, a3⟩ := a
  obtain ⟨b1, b2, b3⟩ := b
  unfold eO
  rw [eqv_tup, eqvAll_cons, eqvAll_cons, eqvAll_cons, eqvAll_nil, eqv_str, eqv_int, eqv_int]
  simp [Bool.decide_and]
theorem eqv_eW (a b : Wnt) : (eW a).eqv (eW b) = decide (a = b) := by
  obtain ⟨a0, a1, a2, a3⟩ := a
  obtain ⟨b0, b1, b2, b3⟩ := b
  unfold eW
  rw [eqv_tup, eqvAll_cons, eqvAll_cons, eqvAll_cons, eqvAll_cons, eqvAll_nil, eqv_str, eqv_str, eqv_int, eqv_int]
  simp [Bool.decide_and]
theorem any_eO (l : List Off) (o : Off) : ((l.map eO).any fun z => z.eqv (eO o)) = decide (o ∈ l) := by
  induction l with
  | nil => simp
  | cons a r ih =>
    rw [List.map_cons, List.any_cons, ih, eqv_eO]
    by_cases h : a = o
    · subst h; simp
    · have h2 : ¬ o = a := fun e => h e.symm
      simp [h, h2]

/-! ### sorted -/
theorem sort_map {α : Type} {f : α → D} (l : List α) : ∃ l' : List α, sortD (l.map f) = l'.map f ∧ l'.Perm l :=
  ⟨l.mergeSort fun a b => leD (f a) (f b), (List.map_mergeSort (f := f) (s := leD) (fun _ _ _ _ => rfl)).symm, List.mergeSort_perm _ _⟩
theorem alike_int (a b : Int) : alike (.int a) (.int b) = true := rfl
theorem alike_str (a b : Str) : alike (.str a) (.str b) = true := rfl
theorem alike_tup (a b : List D) : alike (D.tup a).py (D.tup b).py = alikeAll (pyL a) (pyL b) := by rw [D.py, D.py, alike]
theorem alikeAll_cons (a b : D) (r s : List D) : alikeAll (pyL (a :: r)) (pyL (b :: s)) = (alike a.py b.py && alikeAll (pyL r) (pyL s)) := by rw [pyL, pyL, alikeAll]
theorem alikeAll_nil (s : List D) : alikeAll (pyL []) (pyL s) = true := by rw [pyL, alikeAll]
theorem alike_eO (a b : Off) : alike (eO a).py (eO b).py = true := by
  unfold eO
  rw [alike_tup, alikeAll_cons, alikeAll_cons, alikeAll_cons, alikeAll_nil]
  simp [D.py, alike]
theorem alike_eW (a b : Wnt) : alike (eW a).py (eW b).py = true := by
  unfold eW
  rw [alike_tup, alikeAll_cons, alikeAll_cons, alikeAll_cons, alikeAll_cons, alikeAll_nil]
  simp [D.py, alike]
theorem sorts_of {α : Type} {f : α → D} {l : List α} {n : Nat} (hf : ∀ a ∈ l, (f a).fit 63 = true) (ha : ∀ a b, alike (f a).py (f b).py = true) (ht : ∀ a, ∃ d r, f a = .tup (d :: r)) :
    fitL (l.map f) 63 = true ∧ PySem.W.AllAlike ((l.map f).map D.py) ∧ PySem.W.Sortable ((l.map f).map D.py) := by
  refine ⟨fitL_of fun d hd => ?_, fun d hd e he => ?_, .inl fun d hd => ?_⟩
  · obtain ⟨a, h, rfl⟩ := List.mem_map.mp hd
    exact hf a h
  · rw [List.map_map] at hd he
    obtain ⟨a, _, rfl⟩ := List.mem_map.mp hd
    obtain ⟨b, _, rfl⟩ := List.mem_map.mp he
    exact ha a b
  · rw [List.map_map] at hd
    obtain ⟨a, _, rfl⟩ := List.mem_map.mp hd
    obtain ⟨x, r, e⟩ := ht a
    refine ⟨x.py, pyL r, ?_⟩
    show (f a).py = _
    rw [e, D.py, pyL]
/-- sorted(xs) of offers -/
theorem s_sortO {ms : MS} {sd : SD} {l : List Off} {k : SD → Prop} (e : lstOf ms sd = some (l.map eO)) (ho : ∀ o ∈ l, ook o) (hl : l.length ≤ 1000) (h : ∀ l' : List Off, l'.Perm l → k (.d (.lst (l'.map eO)))) : oSorted ms [sd] k := by
  obtain ⟨l', h1, h2⟩ := sort_map (f := eO) l
  obtain ⟨a, b, c⟩ := sorts_of (n := 0) (fun o h => fit_eO (ho o h) 62) alike_eO fun a => ⟨_, _, rfl⟩
  exact ⟨_, e, a, b, c, by rw [List.length_map]; exact small_len hl, by rw [h1]; exact h l' h2⟩
theorem s_sortW {ms : MS} {sd : SD} {l : List Wnt} {k : SD → Prop} (e : lstOf ms sd = some (l.map eW)) (ho : ∀ o ∈ l, wok o) (hl : l.length ≤ 1000) (h : ∀ l' : List Wnt, l'.Perm l → k (.d (.lst (l'.map eW)))) : oSorted ms [sd] k := by
  obtain ⟨l', h1, h2⟩ := sort_map (f := eW) l
  obtain ⟨a, b, c⟩ := sorts_of (n := 0) (fun o h => fit_eW (ho o h) 62) alike_eW fun a => ⟨_, _, rfl⟩
  exact ⟨_, e, a, b, c, by rw [List.length_map]; exact small_len hl, by rw [h1]; exact h l' h2⟩
/-- (name,) + want -/
def eX (x : Str × Wnt) : D := .tup [.str x.1, .str x.2.1, .str x.2.2.1, .int x.2.2.2.1, .int x.2.2.2.2]
theorem s_sortX {ms : MS} {sd : SD} {l : List (Str × Wnt)} {k : SD → Prop} (e : lstOf ms sd = some (l.map eX)) (ho : ∀ o ∈ l, sok o.1 ∧ wok o.2) (hl : l.length ≤ 1000) (h : ∀ l' : List D, l'.length = l.length → k (.d (.lst l'))) : oSorted ms [sd] k := by
  obtain ⟨a, b, c⟩ := sorts_of (n := 0) (f := eX) (l := l) (fun o h => fit_tup (n := 62) fun d hd => by
    simp only [List.mem_cons, List.not_mem_nil, or_false] at hd
    rcases hd with rfl | rfl | rfl | rfl | rfl
    · exact fit_str (ho o h).1 _
    · exact fit_str (ho o h).2.1 _
    · exact fit_str (ho o h).2.2 _
    · rfl
    · rfl) (fun a b => by
    unfold eX
    rw [alike_tup, alikeAll_cons, alikeAll_cons, alikeAll_cons, alikeAll_cons, alikeAll_cons, alikeAll_nil]
    simp [D.py, alike]) fun a => ⟨_, _, rfl⟩
  exact ⟨_, e, a, b, c, by rw [List.length_map]; exact small_len hl, h _ (by unfold sortD; rw [List.length_mergeSort, List.length_map])⟩

/-! ### mixtures -/
def ltL : List Nat → List Nat → Bool
  | a :: r, b :: s => if a = b then ltL r s else decide (a < b)
  | [], _ :: _ => true
  | _, [] => false
theorem ltL_irr : ∀ a, ltL a a = false
  | [] => rfl
  | a :: r => by rw [ltL, if_pos rfl]; exact ltL_irr r
theorem ltL_asym : ∀ a b, ltL a b = true → ltL b a = false
  | [], [], h => by simp [ltL] at h
  | [], _ :: _, _ => rfl
  | _ :: _, [], h => by cases h
  | a :: r, b :: s, h => by
    rw [ltL] at h ⊢
    by_cases e : a = b
    · rw [if_pos e] at h; rw [if_pos e.symm]; exact ltL_asym r s h
    · rw [if_neg e] at h
      rw [if_neg (fun q => e q.symm)]
      have := of_decide_eq_true h
      exact decide_eq_false (by omega)
theorem ltL_snoc : ∀ a b x y, a.length = b.length → ltL a b = true → ltL (a ++ [x]) (b ++ [y]) = true
  | [], [], _, _, _, h => by cases h
  | [], _ :: _, _, _, e, _ => by cases e
  | _ :: _, [], _, _, e, _ => by cases e
  | a :: r, b :: s, x, y, e, h => by
    rw [ltL] at h
    rw [List.cons_append, List.cons_append, ltL]
    by_cases q : a = b
    · rw [if_pos q] at h ⊢; exact ltL_snoc r s x y (Nat.succ.inj e) h
    · rw [if_neg q] at h ⊢; exact h
theorem ltL_last : ∀ a x y, x < y → ltL (a ++ [x]) (a ++ [y]) = true
  | [], x, y, h => by
    show (if x = y then _ else decide (x < y)) = true
    rw [if_neg (by omega)]; exact decide_eq_true h
  | a :: r, x, y, h => by rw [List.cons_append, List.cons_append, ltL, if_pos rfl]; exact ltL_last r x y h
theorem lt_eM (a b : List Nat) : dataLt (eM a).py (eM b).py = ltL a b := by
  have tk : ∀ l : List Nat, keyToks (eM l).py = keyToksAll (pyL (l.map fun i : Nat => D.int i)) := fun l => by unfold eM; rw [D.py, keyToks]
  have main : ∀ a b : List Nat, PyProof.Rows.lexLt itemOrd (keyToksAll (pyL (a.map fun i : Nat => D.int i))) (keyToksAll (pyL (b.map fun i : Nat => D.int i))) = ltL a b := by
    intro a
    induction a with
    | nil =>
      intro b
      cases b with
      | nil => exact lex_irrefl _
      | cons y s => rw [List.map_cons, List.map_nil, pyL, pyL, keyToksAll, keyToksAll, ltL]; rfl
    | cons x r ih =>
      intro b
      cases b with
      | nil => rw [List.map_cons, List.map_nil, pyL, pyL, keyToksAll, keyToksAll, ltL]; rfl
      | cons y s =>
        rw [List.map_cons, List.map_cons, pyL, pyL, PySem.W.dataLt_cons (by rfl), ih, ltL]
        show (if PyData.eqv (.int x) (.int y) = true then _ else dataLt (.int x) (.int y)) = _
        have e1 : PyData.eqv (.int x) (.int y) = decide ((x : Int) = (y : Int)) := eqv_int _ _
        rw [e1, PySem.W.dataLt_int]
        by_cases q : x = y
        · subst q; simp
        · have : ¬ ((x : Int) = (y : Int)) := by omega
          rw [if_neg (by simpa using this), if_neg q]
          by_cases q2 : x < y
          · rw [decide_eq_true q2, decide_eq_true (by omega)]
          · rw [decide_eq_false q2, decide_eq_false (by omega)]
  unfold dataLt
  rw [tk, tk, main]
def mixes (sizes : List Nat) : List (List Nat) := sizes.foldl (fun found s => found.flatMap fun m => (List.range s).map fun i => m ++ [i]) [[]]
theorem mixes_snoc (l : List Nat) (s : Nat) : mixes (l ++ [s]) = (mixes l).flatMap fun m => (List.range s).map fun i => m ++ [i] := by
  unfold mixes
  rw [List.foldl_append]; rfl
def Vm (sizes m : List Nat) : Prop := m.length = sizes.length ∧ ∀ i, i < sizes.length → m.getD i 0 < sizes.getD i 0
theorem mixes_ok (l : List Nat) : (∀ m ∈ mixes l, Vm l m) ∧ (mixes l).Pairwise fun a b => ltL a b = true := by
  have e : l = l.reverse.reverse := by simp
  rw [e]
  generalize l.reverse = r
  induction r with
  | nil => exact ⟨fun m h => by rw [List.mem_singleton.mp h]; exact ⟨rfl, fun i h => by simp at h⟩, List.pairwise_singleton _ _⟩
  | cons s r ih =>
    rw [List.reverse_cons]
    generalize r.reverse = l at ih ⊢
    rw [mixes_snoc]
    constructor
    · intro m hm
      obtain ⟨a, ha, hm⟩ := List.mem_flatMap.mp hm
      obtain ⟨i, hi, rfl⟩ := List.mem_map.mp hm
      have hi := List.mem_range.mp hi
      obtain ⟨h1, h2⟩ := ih.1 a ha
      refine ⟨by simp [h1], fun j hj => ?_⟩
      rw [List.length_append, List.length_singleton] at hj
      simp only [List.getD_eq_getElem?_getD]
      by_cases q : j < l.length
      · have := h2 j q
        simp only [List.getD_eq_getElem?_getD] at this
        rw [List.getElem?_append_left (by omega), List.getElem?_append_left q]; exact this
      · have e : j = l.length := by omega
        subst e
        rw [List.getElem?_append_right (by omega), List.getElem?_append_right (by omega), h1]
        simpa using hi
    · rw [List.pairwise_flatMap]
      refine ⟨fun a _ => ?_, ?_⟩
      · rw [List.pairwise_map]
        exact List.pairwise_lt_range.imp fun h => ltL_last a _ _ h
      · refine ih.2.imp_of_mem fun {a b} ha hb h x hx y hy => ?_
        obtain ⟨i, _, rfl⟩ := List.mem_map.mp hx
        obtain ⟨j, _, rfl⟩ := List.mem_map.mp hy
        exact ltL_snoc a b i j ((ih.1 a ha).1.trans (ih.1 b hb).1.symm) h
/-- how many devices change -/
def chg (m o : List Nat) : Nat := ((List.range o.length).filter fun i => !decide (o.getD i 0 = m.getD i 0)).length
def stepL (m : List Nat) (st : Option (Nat × List Nat)) (o : List Nat) : Option (Nat × List Nat) := match st with
  | none => some (chg m o, o)
  | some (c, b) => if chg m o < c ∨ (chg m o = c ∧ ltL o b = true) then some (chg m o, o) else some (c, b)
def stepM (m : List Nat) (st : Option (Nat × List Nat)) (o : List Nat) : Option (Nat × List Nat) := match st with
  | none => some (chg m o, o)
  | some (c, b) => if chg m o < c then some (chg m o, o) else some (c, b)
theorem steps_eq (m : List Nat) : ∀ (l : List (List Nat)) (st : Option (Nat × List Nat)), l.Pairwise (fun a b => ltL a b = true) → (∀ c b, st = some (c, b) → ∀ o ∈ l, ltL b o = true) → l.foldl (stepL m) st = l.foldl (stepM m) st
  | [], _, _, _ => rfl
  | o :: l, st, hp, hs => by
    have e : stepL m st o = stepM m st o := by
      cases st with
      | none => rfl
      | some p =>
        obtain ⟨c, b⟩ := p
        have h := ltL_asym _ _ (hs c b rfl o (List.mem_cons_self ..))
        simp [stepL, stepM, h]
    rw [List.foldl_cons, List.foldl_cons, e]
    rw [List.pairwise_cons] at hp
    refine steps_eq m l _ hp.2 fun c b q o' ho' => ?_
    cases st with
    | none => cases q; exact hp.1 o' ho'
    | some p =>
      obtain ⟨c', b'⟩ := p
      simp only [stepM] at q
      split at q
      · cases q; exact hp.1 o' ho'
      · cases q; exact hs _ _ rfl o' (List.mem_cons_of_mem _ ho')
theorem best_eq (m : List Nat) (p : List Nat → Bool) (sizes : List Nat) : ((mixes sizes).filter p).foldl (stepL m) none = (mixes sizes).foldl (fun st o => if p o = true then stepM m st o else st) none := by
  rw [steps_eq m _ none ((mixes_ok sizes).2.filter p) (fun _ _ h => by cases h), List.foldl_filter]
theorem fold_none (m : List Nat) (l : List (List Nat)) : (l.foldl (stepL m) none).isNone = l.isEmpty := by
  have h : ∀ (l : List (List Nat)) st, (st.isSome = true) → (l.foldl (stepL m) st).isSome = true := by
    intro l
    induction l with
    | nil => exact fun st h => h
    | cons o l ih =>
      intro st hs
      refine ih _ ?_
      cases st with
      | none => rfl
      | some p => simp only [stepL]; split <;> rfl
  cases l with
  | nil => rfl
  | cons o l =>
    have := h l (stepL m none o) rfl
    rw [List.foldl_cons]
    cases q : List.foldl (stepL m) (stepL m none o) l with
    | none => rw [q] at this; cases this
    | some _ => rfl

/-! ### missing -/
section
variable (names : List Str) (rels : List (List Rel)) (m : List Nat)
def rel (k : Nat) : Rel := (rels.getD k []).getD (m.getD k 0) ([], [])
def offB (w : Wnt) : Bool := (List.range names.length).any fun k => decide (names.getD k "" = w.1) && decide (w.2 ∈ (rel rels m k).1)
def lack (k : Nat) : List Wnt := (rel rels m k).2.filter fun w => decide (w.1 = names.getD k "") || !offB names rels m w
def miss : List (Str × Wnt) := (List.range names.length).flatMap fun k => (lack names rels m k).map fun w => (names.getD k "", w)
def goodB : Bool := decide ((miss names rels m).length = 0)
def sizesOf : List Nat := rels.map List.length
def goods : List (List Nat) := (mixes (sizesOf rels)).filter (goodB names rels)
def bestP : Option (Nat × List Nat) := (goods names rels).foldl (stepL m) none
/-- what mend's answer says -/
def outc : D := match bestP names rels m with
  | none => .tup [.str "lot", .tup []]
  | some b => .tup [.str "good", eM b.2]
end
/-! ### plain -/
mutual
def plainD : D → D
  | .tup l => .tup [.bl false, .lst (plainL l)]
  | .lst l => .tup [.bl true, .lst (plainL l)]
  | .bl b => .tup [.bl true, .bl b]
  | d => .tup [.bl false, d]
def plainL : List D → List D
  | [] => []
  | d :: r => plainD d :: plainL r
end
theorem plainL_map : ∀ l : List D, plainL l = l.map plainD
  | [] => by simp [plainL]
  | d :: r => by simp [plainL, plainL_map r]
mutual
theorem plain_fit : ∀ (d : D) (n : Nat), d.fit n = true → (plainD d).fit (2 * n + 1) = true
  | .non, n, _ => by simp [plainD, D.fit, fitL]
  | .bl _, n, _ => by simp [plainD, D.fit, fitL]
  | .int _, n, _ => by simp [plainD, D.fit, fitL]
  | .str x, n, h => by simp only [plainD, D.fit, fitL] at h ⊢; simp [h]
  | .tup l, 0, h => by simp [D.fit] at h
  | .tup l, n + 1, h => by
    have := plainL_fit l n (by simpa [D.fit] using h)
    rw [show 2 * (n + 1) + 1 = (2 * n + 1) + 1 + 1 by omega]
    simp [plainD, D.fit, fitL, this]
  | .lst l, 0, h => by simp [D.fit] at h
  | .lst l, n + 1, h => by
    have := plainL_fit l n (by simpa [D.fit] using h)
    rw [show 2 * (n + 1) + 1 = (2 * n + 1) + 1 + 1 by omega]
    simp [plainD, D.fit, fitL, this]
  | .frl l, 0, h => by simp [D.fit] at h
  | .frl l, n + 1, h => by
    rw [show 2 * (n + 1) + 1 = (2 * n + 1) + 1 + 1 by omega]
    simp only [plainD, D.fit, fitL, Bool.and_eq_true, and_true, true_and] at h ⊢
    exact fitL_mono l n _ (by omega) h
  | .ins _ _, n, h => by simp [D.fit] at h
theorem plainL_fit : ∀ (l : List D) (n : Nat), fitL l n = true → fitL (plainL l) (2 * n + 1) = true
  | [], n, _ => by simp [plainL, fitL]
  | d :: r, n, h => by
    simp only [fitL, Bool.and_eq_true] at h
    simp only [plainL, fitL, Bool.and_eq_true]
    exact ⟨plain_fit d n h.1, plainL_fit r n h.2⟩
theorem fit_mono : ∀ (d : D) (n m : Nat), n ≤ m → d.fit n = true → d.fit m = true
  | .non, _, _, _, h => by simp [D.fit]
  | .bl _, _, _, _, h => by simp [D.fit]
  | .int _, _, _, _, h => by simp [D.fit]
  | .str x, _, _, _, h => by simpa [D.fit] using h
  | .tup l, 0, _, _, h => by simp [D.fit] at h
  | .tup l, n + 1, 0, q, h => by omega
  | .tup l, n + 1, m + 1, q, h => by
    simp only [D.fit] at h ⊢
    exact fitL_mono l n m (by omega) h
  | .lst l, 0, _, _, h => by simp [D.fit] at h
  | .lst l, n + 1, 0, q, h => by omega
  | .lst l, n + 1, m + 1, q, h => by
    simp only [D.fit] at h ⊢
    exact fitL_mono l n m (by omega) h
  | .frl l, 0, _, _, h => by simp [D.fit] at h
  | .frl l, n + 1, 0, q, h => by omega
  | .frl l, n + 1, m + 1, q, h => by
    simp only [D.fit] at h ⊢
    exact fitL_mono l n m (by omega) h
  | .ins _ _, _, _, _, h => by simp [D.fit] at h
theorem fitL_mono : ∀ (l : List D) (n m : Nat), n ≤ m → fitL l n = true → fitL l m = true
  | [], _, _, _, _ => by simp [fitL]
  | d :: r, n, m, q, h => by
    simp only [fitL, Bool.and_eq_true] at h ⊢
    exact ⟨fit_mono d n m q h.1, fitL_mono r n m q h.2⟩
end
end R76

/-! ## K76a -/
set_option Elab.async false
set_option linter.all false
set_option maxRecDepth 100000
set_option maxHeartbeats 4000000
namespace R76
open PySem PySem.Spec PyProof.Rows L2 AL
open Evl (Ex)
local macro_rules | `(tactic| walk_at "st") => `(tactic| first
  | (with_reducible refine' s_seq ?_) | (with_reducible refine' s_set ?_) | (with_reducible refine' s_nx ?_) | (with_reducible refine' s_ret ?_) | (with_reducible refine' s_drop ?_) | (with_reducible refine' s_asg ?_) | (with_reducible refine' s_for ?_) | (with_reducible refine' s_tt ?_) | (with_reducible refine' s_ff ?_) | (with_reducible refine' s_lcS ?_) | (with_reducible refine' s_put ?_) | (with_reducible refine' s_app ?_) | (with_reducible refine' s_ext ?_)
  | (with_reducible refine' s_gN ?_) | ((with_reducible refine' s_v ?e ?_); (case e => rfl)) | (with_reducible refine' s_asB ?_) | (with_reducible refine' s_asI ?_) | (with_reducible refine' s_asD ?_) | (with_reducible refine' s_nil ?_) | (with_reducible refine' s_cons ?_)
  | (with_reducible refine' s_addI ?_) | (with_reducible refine' s_I0 ?_) | (with_reducible refine' s_neg ?_) | (with_reducible refine' s_eqI ?_) | (with_reducible refine' s_eqS ?_) | (with_reducible refine' s_ltI ?_) | (with_reducible refine' s_isN ?_) | (with_reducible refine' s_int ?_) | (with_reducible refine' s_abs ?_)
  | ((with_reducible refine' s_len ?e ?_); (case e => first | rfl | exact seqOf_m (by assumption) | exact seqOf_m mu_same))
  | ((with_reducible refine' s_ix ?e ?e2 ?_); (case e => first | rfl | exact seqOf_m (by assumption) | exact seqOf_m mu_same); (case e2 => first | rfl | assumption | exact atI_nat (j := 0) rfl | exact atI_nat (j := 1) rfl | exact atI_nat (j := 2) rfl | exact atI_nat (j := 3) rfl))
  | ((with_reducible refine' s_putL ?e ?e2 ?_); (case e => first | assumption | exact mu_same); (case e2 => first | rfl | assumption))
  | ((with_reducible refine' s_oL ?e ?_); (case e => first | assumption | exact mu_same))
  | ((with_reducible refine' s_dat ?e ?_); (case e => rfl)) | ((with_reducible refine' s_rng ?e ?_); (case e => exact ⟨by omega, by omega⟩))
  | ((with_reducible refine' s_I ?c ?_); (case c => first | assumption | exact ⟨by omega, by omega⟩ | exact ⟨by decide, by decide, by decide⟩ | exact Or.inl ⟨by omega, by omega⟩ | exact Or.inr ⟨by omega, by omega⟩ | (show (0 : Int) < _; omega) | (show (0 : Int) ≤ _; omega)))
  | (with_reducible refine' s_slT ?_) | (with_reducible refine' s_slL ?_) | (with_reducible refine' s_gC ?_) | ((with_reducible refine' s_gT ?e ?_); (case e => rfl))
  | ((with_reducible refine' s_tup ?e ?_); (case e => first | rfl | exact seqOf_m (by assumption) | exact seqOf_m mu_same))
  | ((with_reducible refine' s_list ?e ?_); (case e => first | rfl | exact seqOf_m (by assumption) | exact seqOf_m mu_same))
  | ((with_reducible refine' s_isi ?e ?e2 ?_); (case e => rfl); (case e2 => rfl))
  | (with_reducible refine' s_max ?_)
  | ((with_reducible refine' And.intro ?r ?_); (case r => with_reducible rfl)))
local macro_rules | `(tactic| walk_at "one") => `(tactic| first | (with_reducible refine' s_if ?_) | walk_at "st")
local macro_rules | `(tactic| walk_at "up") => `(tactic| repeat walk_at "st")
local macro_rules | `(tactic| walk_at "go") => `(tactic| repeat walk_at "one")
local macro_rules | `(tactic| walk_at "all") => `(tactic| repeat' (first | walk_at "one" | (refine s_ite (fun _ => ?_) (fun _ => ?_))))

def topS (i : Nat) : Stmt := PySem.Challenge.pw_romwright_k77_whole_cheapest_plan.main.body.getD i (.Pass ⟨0, 0, 0, 0⟩)
theorem u1 {k : Nat} {A : Around} (hr : Room k A) : A.units + 1 < cLine := by have := hr.un; omega
theorem u64 {k : Nat} {A : Around} (hr : Room k A) : A.units + 64 < cLine := by have := hr.un; omega
theorem u65 {k : Nat} {A : Around} (hr : Room k A) : A.units + 65 < cLine := by have := hr.un; omega
theorem u80 {k : Nat} {A : Around} (hr : Room k A) : A.units + 80 < cLine := by have := hr.un; omega
/-- the built-in names are the built-ins -/
structure Blt (mg : Str → Option Value) : Prop where
  len : mg "len" = none
  abs : mg "abs" = none
  int : mg "int" = none
  str : mg "str" = none
  tuple : mg "tuple" = none
  list : mg "list" = none
  bool : mg "bool" = none
  sorted : mg "sorted" = none
  isinstance : mg "isinstance" = none
  range : mg "range" = none
  zip : mg "zip" = none
  max : mg "max" = none
  all : mg "all" = none
/-! ### the source of draws -/
def SrcOk (l : List D) : Prop := ∃ (cells : List Int) (place count : Nat) (digits mixed : Int), l = [.lst (cells.map .int), .int place, .int digits, .int count, .int mixed] ∧ cells ≠ []
def SrcAt (ms : MS) (a : Addr) : Prop := ∃ l, ms a = some (.l l) ∧ SrcOk l
def SB (a : Addr) (ms ms' : MS) : Prop := SrcAt ms' a ∧ ∀ b, b ≠ a → ms' b = ms b
theorem atI_ok {α : Type} {l : List α} {i : Int} (h0 : 0 ≤ i) (h1 : i < l.length) : ∃ v, atI l i = some v ∧ v ∈ l := by
  obtain ⟨n, rfl⟩ := Int.eq_ofNat_of_zero_le h0
  have hn : n < l.length := by omega
  exact ⟨l[n], atI_nat (List.getElem?_eq_getElem hn), List.getElem_mem hn⟩
theorem atI_int {l : List Int} {i : Int} (h0 : 0 ≤ i) (h1 : i < l.length) : ∃ v, atI (l.map D.int) i = some (.int v) ∧ v ∈ l := by
  obtain ⟨v, h, hm⟩ := atI_ok (l := l.map D.int) h0 (by rw [List.length_map]; exact h1)
  obtain ⟨u, hu, rfl⟩ := List.mem_map.mp hm
  exact ⟨u, h, hu⟩
theorem SB.mu {a : Addr} {ms m1 : MS} {l : List D} (h : ∀ b, b ≠ a → m1 b = ms b) (ok : SrcOk l) : SB a ms (AL.mu m1 a (.l l)) := ⟨⟨l, mu_same, ok⟩, fun b hb => by rw [mu_ne hb]; exact h b hb⟩
theorem SB.trans {a : Addr} {m0 m1 m2 : MS} (h : SB a m0 m1) (g : SB a m1 m2) : SB a m0 m2 := ⟨g.1, fun b hb => (g.2 b hb).trans (h.2 b hb)⟩
theorem SB.refl {a : Addr} {ms : MS} (h : SrcAt ms a) : SB a ms ms := ⟨h, fun _ _ => rfl⟩
theorem srcOk {cells : List Int} (h : cells ≠ []) (place count digits mixed : Int) (hp : 0 ≤ place) (hc : 0 ≤ count) : SrcOk [.lst (cells.map .int), .int place, .int digits, .int count, .int mixed] := by
  obtain ⟨p, rfl⟩ := Int.eq_ofNat_of_zero_le hp
  obtain ⟨c, rfl⟩ := Int.eq_ofNat_of_zero_le hc
  exact ⟨cells, p, c, digits, mixed, rfl, h⟩
section
variable {P : Program} {w : World} {K : PySem.W.Frag} {mg : Str → Option Value} {base : Heap}
abbrev s_law_draw : Stmt := (topS 22)
theorem sc_law_draw : FnScope ["source", "below", "cells", "place", "digits", "count", "seed", "number"] ["source", "below"] (defScope s_law_draw) := ⟨rfl, rfl, rfl, by decide +kernel, rfl, by decide +kernel, by decide +kernel⟩

def R_draw : AFn := fun sds ms k _ => ∃ a n, sds = [.v (.ref a), .d (.int n)] ∧ SrcAt ms a ∧ 0 < n ∧ n < 1073741824 ∧ ∀ v ms', 0 ≤ v → v < n → SB a ms ms' → k (.d (.int v)) ms'
theorem ok_draw (T : Blt mg) {f : Addr} {fd : FuncData} (F : Fun K "_law_draw" "_law_draw" s_law_draw f fd) : FnOk P w K mg base CX0 1 f fd ["source", "below"] (spA R_draw) := by
  refine fnA F sc_law_draw (fun sds ms k x h => ?_) (by decide) fun cdv A outer s H E hr => ⟨_, _, (ass_cons (as_set 2 sc_law_draw.nd (ae_ix (u1 hr) (ae_v 0) ae_int))
    (ass_cons (as_set 3 sc_law_draw.nd (ae_ix (u1 hr) (ae_v 0) ae_int))
    (ass_cons (as_set 4 sc_law_draw.nd (ae_ix (u1 hr) (ae_v 0) ae_int))
    (ass_cons (as_set 5 sc_law_draw.nd (ae_ix (u1 hr) (ae_v 0) ae_int))
    (ass_cons (as_put (u1 hr) (ae_v 0) ae_int (ae_bin op_addA oa_add (ae_v 5) ae_int))
    (ass_cons (as_if (AW.at (aw_and (at_cmp (op_eqA (u64 hr)) oa_eq (ae_ix (u1 hr) (ae_v 0) ae_int) ae_int (nomark _)) (aw_and1 (at_cmp (op_ltA (u64 hr)) oa_lt (ae_v 3) (ae_callB call_len oa_len (by rfl) T.len (by decide +kernel) (aa_cons (ae_v 2) aa_nil)) (nomark _))))) (ass_cons (as_put (u1 hr) (ae_v 0) ae_int (ae_bin op_fdiv oa_div (ae_v 4) (ae_v 1)))
      (ass_cons (as_if (at_cmp (op_eqA (u64 hr)) oa_eq (ae_ix (u1 hr) (ae_v 0) ae_int) ae_int (nomark _)) (ass_cons (as_put (u1 hr) (ae_v 0) ae_int (ae_bin op_addA oa_add (ae_v 3) ae_int))
        (ass_one (as_if (at_cmp (op_ltA (u64 hr)) oa_lt (ae_bin op_addA oa_add (ae_v 3) ae_int) (ae_callB call_len oa_len (by rfl) T.len (by decide +kernel) (aa_cons (ae_v 2) aa_nil)) (nomark _)) (ass_one (as_put (u1 hr) (ae_v 0) ae_int (ae_ix (u1 hr) (ae_v 2) (ae_bin op_addA oa_add (ae_v 3) ae_int)))) ass_nil))) ass_nil)
      (ass_one (as_ret (ae_bin op_mod oa_mod (ae_callTy call_int1 oa_int (by rfl) T.int (by decide +kernel) (aa_cons (ae_v 4) aa_nil)) (ae_v 1)))))) ass_nil)
    (ass_cons (as_set 6 sc_law_draw.nd (ae_bin op_addA oa_add (ae_bin op_addA oa_add (ae_ix (u1 hr) (ae_v 2) (ae_bin op_mod oa_mod (ae_callTy call_int1 oa_int (by rfl) T.int (by decide +kernel) (aa_cons (ae_v 5) aa_nil)) (ae_callB call_len oa_len (by rfl) T.len (by decide +kernel) (aa_cons (ae_v 2) aa_nil)))) (ae_bin op_mul oa_mul ae_int (ae_v 5))) ae_int))
    (ass_cons (as_set 7 sc_law_draw.nd (ae_bin op_mod oa_mod (ae_callTy call_int1 oa_int (by rfl) T.int (by decide +kernel) (aa_cons (ae_bin op_addA oa_add (ae_bin op_mul oa_mul (ae_v 6) ae_int) (ae_bin op_mul oa_mul (ae_bin op_addA oa_add (ae_v 5) ae_int) ae_int)) aa_nil)) ae_int))
    (ass_cons (as_set 7 sc_law_draw.nd (ae_bin op_mod oa_mod (ae_callTy call_int1 oa_int (by rfl) T.int (by decide +kernel) (aa_cons (ae_bin op_addA oa_add (ae_bin op_mul oa_mul (ae_v 7) (ae_bin op_addA oa_add (ae_bin op_addA oa_add (ae_bin op_mod oa_mod (ae_callTy call_int1 oa_int (by rfl) T.int (by decide +kernel) (aa_cons (ae_v 7) aa_nil)) ae_int) (ae_v 5)) ae_int)) (ae_v 6)) aa_nil)) ae_int))
    (ass_one (as_ret (ae_bin op_mod oa_mod (ae_callTy call_int1 oa_int (by rfl) T.int (by decide +kernel) (aa_cons (ae_bin op_fdiv oa_div (ae_v 7) ae_int) aa_nil)) (ae_v 1))))))))))))), fun sds ms k x h => ?_⟩
  · obtain ⟨a, n, rfl, _⟩ := h; rfl
  · obtain ⟨a, n, rfl, ⟨l, hl, cells, place, count, digits, mixed, rfl, hne⟩, h2, h3, q⟩ := h
    have hlen : 0 < (cells.length : Int) := by
      have : 0 < cells.length := List.length_pos_iff.mpr hne
      omega
    have hlm : 0 < ((cells.map D.int).length : Int) := by rw [List.length_map]; exact hlen
    have fin : ∀ (v : Int) {m1 : MS} {l : List D}, (∀ b, b ≠ a → m1 b = ms b) → SrcOk l → k (.d (.int (v % n))) (mu m1 a (.l l)) := fun v m1 l h1 h4 =>
      q _ _ (Int.emod_nonneg _ (by omega)) (Int.emod_lt_of_pos _ h2) (SB.mu h1 h4)
    dsimp only [gam]
    walk_at "go"
    refine s_ite (fun hb => ?_) (fun hb => s_iteF rfl ?_)
    walk_at "go"
    refine s_ite (fun hb2 => ?_) (fun hb2 => ?_)
    · walk_at "go"
      refine s_ite (fun hb3 => ?_) (fun hb3 => ?_)
      · walk_at "go"
        refine s_ite (fun hb4 => ?_) (fun hb4 => ?_)
        · walk_at "go"
          rw [List.length_map] at hb4
          obtain ⟨v, hv, _⟩ := atI_int (l := cells) (i := (place : Int) + 1) (by omega) (of_decide_eq_true hb4)
          refine s_ix rfl hv ?_
          walk_at "go"
          exact Out.here (fin _ (fun b hb => by simp only [mu_ne hb]) (srcOk hne _ _ _ _ (by omega) (by omega)))
        · walk_at "go"
          exact Out.here (fin _ (fun b hb => by simp only [mu_ne hb]) (srcOk hne _ _ _ _ (by omega) (by omega)))
      · walk_at "go"
        exact Out.here (fin _ (fun b hb => by simp only [mu_ne hb]) (srcOk hne _ _ _ _ (by omega) (by omega)))
    all_goals
      walk_at "go"
      obtain ⟨v, hv, _⟩ := atI_int (l := cells) (i := (count : Int) % ((cells.map D.int).length : Int)) (Int.emod_nonneg _ (by omega)) (by rw [List.length_map]; exact Int.emod_lt_of_pos _ hlen)
      refine s_ix rfl hv ?_
      walk_at "go"
      exact Out.here (fin _ (fun b hb => by simp only [mu_ne hb]) (srcOk hne _ _ _ _ (by omega) (by omega)))
end
end R76

/-! ## K76b -/
set_option Elab.async false
set_option linter.all false
set_option maxRecDepth 100000
set_option maxHeartbeats 4000000
namespace AL
open PySem PySem.Spec PyProof.Rows L2
open Evl (Ex)
/-- a list of whole numbers among the module's own objects -/
def KL (K : PySem.W.Frag) (a : Addr) (ns : List Int) : Prop := ∃ (o : Obj) (its : Array Value) (n : Nat), K.lookup a = some o ∧ o.cls = .type "list" ∧ o.dict = none ∧ o.data = .seq its n ∧ its.size ≤ sizeLine ∧ Vals (ns.map V.int) its.toList
/-- the script of a law -/
def Scr (K : PySem.W.Frag) (sd : SD) (ns : List Int) : Prop := sd = .d (.frl (ns.map .int)) ∨ ∃ a, sd = .v (.ref a) ∧ KL K a ns
def oDatS (K : PySem.W.Frag) (u : SD) (k : List D → Prop) : Prop := ∃ ns, Scr K u ns ∧ k (ns.map .int)
theorem shw_ints (G : Hp) : ∀ ns : List Int, ShwL G (ns.map V.int) (ns.map D.int)
  | [] => .nil
  | n :: r => .cons (.int n) (shw_ints G r)
theorem ints_shw {G : Hp} : ∀ {ns : List Int} {vs : List V}, ShwL G vs (ns.map D.int) → vs = ns.map V.int
  | [], _, s => by cases s; rfl
  | n :: r, _, s => by
    cases s with
    | cons a b =>
      cases a
      rw [ints_shw b]; rfl
theorem ai_seqS {X : Cx} {W : WX} {tg e : Expr} {te : TE} {re : AER} (he : AE X W e te re) : AI X W tg e (iSeq3 X.K te) (fun Γ ms k x => re Γ ms (fun u ms1 => oDatS X.K u fun ds => k ds ms1) x) := by
  refine ⟨pi_seq he.pe, fun Γ ms k x h σ H G F R ev g kk xw => ?_⟩
  refine he.ok Γ ms _ x h σ H G F _ ev g (fun v H1 G1 sd ms1 e1 g1 s1 q1 => ?_) xw
  obtain ⟨ns, hs, q⟩ := q1
  have wl : ∀ (a : Addr), (∀ G' H', Ex G1 G' → Ex G' H' → SqL X.K H' a (ns.map V.int)) → Walks (Itl X.K a) (ns.map .int) G1 := fun a hs i H' G' F' ms' e' g' => by
    have h1 := hs G' H' e' g'.ex
    have sh := shw_ints G1 ns
    refine ⟨fun hi => ⟨_, h1, by rw [sh.length]; exact hi⟩, fun d hd => ?_⟩
    obtain ⟨w, hw, sw⟩ := sh.get hd
    refine ⟨⟨_, w, h1, hw⟩, fun x H'' hy => ?_⟩
    obtain ⟨rfl, hy⟩ := hy
    have ex : x = w := Option.some.inj ((hy _ h1).symm.trans hw)
    subst ex
    exact ⟨G', Ex.refl G', g', sw.mono e'⟩
  rcases hs with rfl | ⟨a, rfl, hk⟩
  · cases s1 with
    | frl a b =>
      have ev := ints_shw b
      subst ev
      exact .inl ⟨_, rfl, .inl ⟨⟨_, .inl (.inr ⟨_, g1.ex _ _ a⟩)⟩, kk _ _ _ _ _ e1 g1 q (wl _ fun G' H' e1 e2 => .inl (.inr ⟨_, e2 _ _ (e1 _ _ a)⟩))⟩⟩
  · have ev : v = .ref a := s1
    subst ev
    exact .inl ⟨_, rfl, .inl ⟨⟨_, .inr hk⟩, kk _ _ _ _ _ e1 g1 q (wl _ fun _ _ _ _ => .inr hk)⟩⟩
end AL
namespace R76
open PySem PySem.Spec PyProof.Rows L2 AL
open Evl (Ex)
local macro_rules | `(tactic| walk_at "st") => `(tactic| first
  | (with_reducible refine' s_seq ?_) | (with_reducible refine' s_set ?_) | (with_reducible refine' s_nx ?_) | (with_reducible refine' s_ret ?_) | (with_reducible refine' s_drop ?_) | (with_reducible refine' s_asg ?_) | (with_reducible refine' s_for ?_) | (with_reducible refine' s_tt ?_) | (with_reducible refine' s_ff ?_) | (with_reducible refine' s_lcS ?_) | (with_reducible refine' s_put ?_) | (with_reducible refine' s_app ?_) | (with_reducible refine' s_ext ?_)
  | (with_reducible refine' s_gN ?_) | ((with_reducible refine' s_v ?e ?_); (case e => rfl)) | (with_reducible refine' s_asB ?_) | (with_reducible refine' s_asI ?_) | (with_reducible refine' s_asD ?_) | (with_reducible refine' s_nil ?_) | (with_reducible refine' s_cons ?_)
  | (with_reducible refine' s_addI ?_) | (with_reducible refine' s_I0 ?_) | (with_reducible refine' s_neg ?_) | (with_reducible refine' s_eqI ?_) | (with_reducible refine' s_eqS ?_) | (with_reducible refine' s_ltI ?_) | (with_reducible refine' s_isN ?_) | (with_reducible refine' s_int ?_) | (with_reducible refine' s_abs ?_)
  | ((with_reducible refine' s_len ?e ?_); (case e => first | rfl | exact seqOf_m (by assumption) | exact seqOf_m mu_same))
  | ((with_reducible refine' s_ix ?e ?e2 ?_); (case e => first | rfl | exact seqOf_m (by assumption) | exact seqOf_m mu_same); (case e2 => first | rfl | assumption | exact atI_nat (j := 0) rfl | exact atI_nat (j := 1) rfl | exact atI_nat (j := 2) rfl | exact atI_nat (j := 3) rfl))
  | ((with_reducible refine' s_putL ?e ?e2 ?_); (case e => first | assumption | exact mu_same); (case e2 => first | rfl | assumption))
  | ((with_reducible refine' s_oL ?e ?_); (case e => first | assumption | exact mu_same))
  | ((with_reducible refine' s_dat ?e ?_); (case e => rfl)) | ((with_reducible refine' s_rng ?e ?_); (case e => exact ⟨by omega, by omega⟩))
  | ((with_reducible refine' s_I ?c ?_); (case c => first | assumption | exact ⟨by omega, by omega⟩ | exact ⟨by decide, by decide, by decide⟩ | exact Or.inl ⟨by omega, by omega⟩ | exact Or.inr ⟨by omega, by omega⟩ | (show (0 : Int) < _; omega) | (show (0 : Int) ≤ _; omega)))
  | (with_reducible refine' s_slT ?_) | (with_reducible refine' s_slL ?_) | (with_reducible refine' s_gC ?_) | ((with_reducible refine' s_gT ?e ?_); (case e => rfl))
  | ((with_reducible refine' s_tup ?e ?_); (case e => first | rfl | exact seqOf_m (by assumption) | exact seqOf_m mu_same))
  | ((with_reducible refine' s_list ?e ?_); (case e => first | rfl | exact seqOf_m (by assumption) | exact seqOf_m mu_same))
  | ((with_reducible refine' s_isi ?e ?e2 ?_); (case e => rfl); (case e2 => rfl))
  | (with_reducible refine' s_max ?_)
  | ((with_reducible refine' And.intro ?r ?_); (case r => with_reducible rfl)))
local macro_rules | `(tactic| walk_at "one") => `(tactic| first | (with_reducible refine' s_if ?_) | walk_at "st")
local macro_rules | `(tactic| walk_at "up") => `(tactic| repeat walk_at "st")
local macro_rules | `(tactic| walk_at "go") => `(tactic| repeat walk_at "one")
local macro_rules | `(tactic| walk_at "all") => `(tactic| repeat' (first | walk_at "one" | (refine s_ite (fun _ => ?_) (fun _ => ?_))))

section
variable {P : Program} {w : World} {K : PySem.W.Frag} {mg : Str → Option Value} {base : Heap}
abbrev s_law_source : Stmt := (topS 21)
theorem sc_law_source : FnScope ["script", "cells", "cell", "mixed"] ["script"] (defScope s_law_source) := ⟨rfl, rfl, rfl, by decide +kernel, rfl, by decide +kernel, by decide +kernel⟩

def R_source (K : PySem.W.Frag) : AFn := fun sds ms k _ => ∃ (ns : List Int) (sd : SD), sds = [sd] ∧ Scr K sd ns ∧ ns.length ≤ 63 ∧ ∀ p l, ms p = none → SrcOk l → k (.v (.ref p)) (mu ms p (.l l))
theorem ok_source (T : Blt mg) {f : Addr} {fd : FuncData} (F : Fun K "_law_source" "_law_source" s_law_source f fd) : FnOk P w K mg base CX0 1 f fd ["script"] (spA (R_source K)) := by
  refine fnA F sc_law_source (fun sds ms k x h => ?_) (by decide) fun cdv A outer s H E hr => ⟨_, _, (ass_cons (as_setLc 1 (own := [("cell", 2)]) rfl sc_law_source.nd (ai_seqS (ae_v 0)) (blkOk_by (own := [("cell", 2)]) (N := ["script", "cells", "cell", "mixed"]) (sc := defScope s_law_source) (by decide +kernel)) (by decide) (fun _ _ _ _ _ => (ag_name 2 sc_law_source.nd)) (fun _ _ _ _ _ => ats_nil) (fun _ _ _ _ _ => (ae_callB call_abs oa_abs (by rfl) T.abs (by decide +kernel) (aa_cons (ae_callTy call_int1 oa_int (by rfl) T.int (by decide +kernel) (aa_cons (ae_v 2) aa_nil)) aa_nil))) (sw_true rfl rfl rfl (by decide +kernel)))
    (ass_cons (as_if (at_cmp (op_eqA (u64 hr)) oa_eq (ae_callB call_len oa_len (by rfl) T.len (by decide +kernel) (aa_cons (ae_v 1) aa_nil)) ae_int (nomark _)) (ass_one (as_set 1 sc_law_source.nd (ae_lst (aa_cons ae_int aa_nil)))) ass_nil)
    (ass_cons (as_set 3 sc_law_source.nd ae_int)
    (ass_cons (as_if (at_cmp (op_ltA (u64 hr)) oa_lt (ae_ix (u1 hr) (ae_v 1) ae_int) (ae_bin op_pow oa_pow ae_int ae_int) (nomark _)) (ass_one (as_set 3 sc_law_source.nd (ae_bin op_mod oa_mod (ae_callTy call_int1 oa_int (by rfl) T.int (by decide +kernel) (aa_cons (ae_ix (u1 hr) (ae_v 1) ae_int) aa_nil)) ae_int))) ass_nil)
    (ass_one (as_ret (ae_lstM (aa_cons (ae_v 1) (aa_cons ae_int (aa_cons (ae_ix (u1 hr) (ae_v 1) ae_int) (aa_cons ae_int (aa_cons (ae_v 3) aa_nil)))))))))))), fun sds ms k x h => ?_⟩
  · obtain ⟨a, b, rfl, _⟩ := h; rfl
  · obtain ⟨ns, sd, rfl, hsc, hl, q⟩ := h
    dsimp only [gam]
    walk_at "go"
    refine ⟨ns, hsc, ?_⟩
    have e : ns.map D.int = ns.map fun n => D.int n := rfl
    refine lcI_map (f := fun n => D.int ((n.natAbs : Nat) : Int)) (small_len (by omega)) (fun x hx acc N hz hN => ?_) ?_
    · walk_at "go"
      exact ⟨hz, hN⟩
    rw [show (ns.map fun n => D.int ((n.natAbs : Nat) : Int)) = (ns.map fun n => ((n.natAbs : Nat) : Int)).map D.int by rw [List.map_map]; rfl]
    generalize (ns.map fun n => ((n.natAbs : Nat) : Int)) = cells
    walk_at "go"
    refine s_ite (fun hb => ?_) (fun hb => ?_)
    · walk_at "go"
      refine s_iteT (by decide) ?_
      walk_at "go"
      exact fun p hp => Out.here (q p _ hp (srcOk (cells := [5]) (by decide) 0 0 5 _ (by omega) (by omega)))
    · cases cells with
      | nil => exact absurd hb (by decide)
      | cons c r =>
        walk_at "go"
        refine s_ite (fun hb => ?_) (fun hb => ?_)
        · walk_at "go"
          exact fun p hp => Out.here (q p _ hp (srcOk (cells := c :: r) (by simp) 0 0 c _ (by omega) (by omega)))
        · walk_at "go"
          exact fun p hp => Out.here (q p _ hp (srcOk (cells := c :: r) (by simp) 0 0 c _ (by omega) (by omega)))
end
end R76

/-! ## K77m -/
set_option Elab.async false
set_option linter.all false
set_option maxRecDepth 100000
set_option maxHeartbeats 4000000
namespace R77
/-! ### parcels, rows of parcels, their value -/
structure Par where
  base : Option Int
  result : Int
  words : Int
abbrev Lab := Int × Nat × List Nat
/-- price, count, row -/
def lab (a b : Lab) : Prop := a.1 < b.1 ∨ (a.1 = b.1 ∧ (a.2.1 < b.2.1 ∨ (a.2.1 = b.2.1 ∧ R76.ltL a.2.2 b.2.2 = true)))
section
variable (ps : List Par) (free : List Nat)
def cost (i : Nat) : Int := if i ∈ free then 0 else ((ps[i]?).map (·.words)).getD 0
def run (place : Int) : List Nat → Option Int
  | [] => some place
  | i :: r => match ps[i]? with
    | none => none
    | some p => if p.base = none ∨ p.base = some place then run p.result r else none
def price (row : List Nat) : Int := (row.map (cost ps free)).sum
def val (row : List Nat) : Lab := (price ps free row, row.length, row)
end
theorem run_append (ps : List Par) : ∀ (a : List Nat) (place : Int) (b : List Nat), run ps place (a ++ b) = (run ps place a).bind fun q => run ps q b
  | [], _, _ => rfl
  | i :: a, place, b => by
    rw [List.cons_append, run, run]
    cases ps[i]? with
    | none => rfl
    | some p =>
      dsimp only
      split
      · exact run_append ps a p.result b
      · rfl

theorem run_snoc {ps : List Par} {a : List Nat} {i : Nat} {place x : Int} : run ps place (a ++ [i]) = some x ↔ ∃ b p, run ps place a = some b ∧ ps[i]? = some p ∧ (p.base = none ∨ p.base = some b) ∧ p.result = x := by
  rw [run_append]
  constructor
  · intro h
    cases e : run ps place a with
    | none => rw [e] at h; cases h
    | some b =>
      rw [e] at h
      have h : run ps b [i] = some x := h
      rw [run] at h
      cases e2 : ps[i]? with
      | none => rw [e2] at h; cases h
      | some p =>
        rw [e2] at h
        dsimp only at h
        split at h
        · rename_i hb
          exact ⟨b, p, rfl, rfl, hb, by simpa [run] using h⟩
        · cases h
  · rintro ⟨b, p, e, e2, hb, rfl⟩
    rw [e]
    show run ps b [i] = _
    rw [run, e2]
    dsimp only
    rw [if_pos hb, run]
/-- what is run from a place depends on the place only through the first parcel's base -/
theorem run_lt {ps : List Par} : ∀ {row : List Nat} {place x : Int}, run ps place row = some x → ∀ i ∈ row, i < ps.length
  | [], _, _, _, i, h => by simp at h
  | j :: r, place, x, h, i, hi => by
    rw [run] at h
    cases e : ps[j]? with
    | none => rw [e] at h; cases h
    | some p =>
      rw [e] at h
      dsimp only at h
      split at h
      · rcases List.mem_cons.mp hi with rfl | hi
        · exact (List.getElem?_eq_some_iff.mp e).1
        · exact run_lt h i hi
      · cases h
section
variable {ps : List Par} {free : List Nat}
def Pos (ps : List Par) : Prop := ∀ p ∈ ps, 0 ≤ p.words
theorem cost_nn (hp : Pos ps) (i : Nat) : 0 ≤ cost ps free i := by
  unfold cost
  split
  · exact Int.le_refl _
  · cases e : ps[i]? with
    | none => exact Int.le_refl _
    | some p => exact hp p (List.mem_of_getElem? e)
theorem price_nn (hp : Pos ps) : ∀ row, 0 ≤ price ps free row
  | [] => Int.le_refl _
  | i :: r => by
    have := price_nn hp r
    have h := cost_nn (free := free) hp i
    show 0 ≤ cost ps free i + price ps free r
    omega
theorem price_append (a b : List Nat) : price ps free (a ++ b) = price ps free a + price ps free b := by
  unfold price
  rw [List.map_append, List.sum_append]
theorem lab_irr (a : Lab) : ¬ lab a a := by
  rintro (h1 | ⟨_, h1 | ⟨_, h1⟩⟩)
  · omega
  · omega
  · rw [R76.ltL_irr] at h1; cases h1
theorem dup_split : ∀ {l : List Nat}, ¬ l.Nodup → ∃ a i b c, l = a ++ i :: b ++ i :: c
  | [], h => absurd List.nodup_nil h
  | j :: r, h => by
    by_cases hj : j ∈ r
    · obtain ⟨b, c, rfl⟩ := List.append_of_mem hj
      exact ⟨[], j, b, c, rfl⟩
    · have hr : ¬ r.Nodup := fun hn => h (List.nodup_cons.mpr ⟨hj, hn⟩)
      obtain ⟨a, i, b, c, e⟩ := dup_split hr
      exact ⟨j :: a, i, b, c, by rw [e]; rfl⟩
theorem cut (hp : Pos ps) {row : List Nat} {place x : Int} (h : run ps place row = some x) (hd : ¬ row.Nodup) : ∃ row', run ps place row' = some x ∧ row'.length < row.length ∧ price ps free row' ≤ price ps free row := by
  obtain ⟨a, i, b, c, rfl⟩ := dup_split hd
  have e1 : a ++ i :: b ++ i :: c = ((a ++ [i]) ++ (b ++ [i])) ++ c := by simp
  rw [e1, run_append, run_append] at h
  have e2 : run ps place (a ++ [i] ++ c) = (run ps place (a ++ [i])).bind fun q => run ps q c := run_append ..
  cases h1 : run ps place (a ++ [i]) with
  | none => rw [h1] at h; cases h
  | some q1 =>
    rw [h1] at h
    have h : ((run ps q1 (b ++ [i])).bind fun q => run ps q c) = some x := h
    cases h2 : run ps q1 (b ++ [i]) with
    | none => rw [h2] at h; cases h
    | some q2 =>
      rw [h2] at h
      obtain ⟨_, p1, _, f1, _, g1⟩ := run_snoc.mp h1
      obtain ⟨_, p2, _, f2, _, g2⟩ := run_snoc.mp h2
      rw [f1] at f2
      cases f2
      have hq : q1 = q2 := g1.symm.trans g2
      subst hq
      refine ⟨a ++ [i] ++ c, by rw [e2, h1]; exact h, by simp; omega, ?_⟩
      rw [e1]
      simp only [price_append]
      have hb := price_nn (free := free) hp b
      have hi := price_nn (free := free) hp [i]
      omega
/-- each row can be had without repeats, at no greater value -/
theorem simple (hp : Pos ps) : ∀ (n : Nat) {row : List Nat} {place x : Int}, row.length ≤ n → run ps place row = some x → ∃ row', run ps place row' = some x ∧ row'.Nodup ∧ (row' = row ∨ lab (val ps free row') (val ps free row))
  | 0, row, place, x, hn, h => by
    have e : row = [] := List.length_eq_zero_iff.mp (by omega)
    subst e
    exact ⟨[], h, List.nodup_nil, .inl rfl⟩
  | n + 1, row, place, x, hn, h => by
    by_cases hd : row.Nodup
    · exact ⟨row, h, hd, .inl rfl⟩
    · obtain ⟨r1, h1, h2, h3⟩ := cut (free := free) hp h hd
      have lt1 : lab (val ps free r1) (val ps free row) := by
        unfold lab val
        dsimp only
        omega
      obtain ⟨r2, k1, k2, k3⟩ := simple hp n (by omega) h1
      refine ⟨r2, k1, k2, .inr ?_⟩
      rcases k3 with rfl | k3
      · exact lt1
      · unfold lab val at k3 lt1 ⊢
        dsimp only at k3 lt1 ⊢
        omega
end
/-! ### the order of labels -/
open R76 (ltL ltL_irr ltL_asym ltL_snoc ltL_last)
theorem ltL_tri : ∀ a b : List Nat, a ≠ b → ltL a b = true ∨ ltL b a = true
  | [], [], h => absurd rfl h
  | [], _ :: _, _ => .inl rfl
  | _ :: _, [], _ => .inr rfl
  | a :: r, b :: s, h => by
    rw [ltL, ltL]
    by_cases e : a = b
    · subst e
      rw [if_pos rfl, if_pos rfl]
      exact ltL_tri r s fun e => h (by rw [e])
    · rw [if_neg e, if_neg (fun q => e q.symm)]
      rcases Nat.lt_or_ge a b with q | q
      · exact .inl (decide_eq_true q)
      · exact .inr (decide_eq_true (by omega))
theorem ltL_trans : ∀ {a b c : List Nat}, ltL a b = true → ltL b c = true → ltL a c = true
  | [], [], _, h, _ => by cases h
  | [], _ :: _, [], _, h => by cases h
  | [], _ :: _, _ :: _, _, _ => rfl
  | _ :: _, [], _, h, _ => by cases h
  | _ :: _, _ :: _, [], _, h => by cases h
  | a :: r, b :: s, c :: t, h, g => by
    rw [ltL] at h g ⊢
    by_cases e : a = b
    · subst e
      rw [if_pos rfl] at h
      by_cases f : a = c
      · rw [if_pos f] at g ⊢; exact ltL_trans h g
      · rw [if_neg f] at g ⊢; exact g
    · rw [if_neg e] at h
      have h := of_decide_eq_true h
      by_cases f : b = c
      · subst f; rw [if_neg e]; exact decide_eq_true h
      · rw [if_neg f] at g
        have g := of_decide_eq_true g
        rw [if_neg (by omega)]
        exact decide_eq_true (by omega)
theorem lab_trans {a b c : Lab} (h : lab a b) (g : lab b c) : lab a c := by
  unfold lab at *
  rcases h with h | ⟨h0, h | ⟨h1, h⟩⟩ <;> rcases g with g | ⟨g0, g | ⟨g1, g⟩⟩
  all_goals first
    | (left; omega)
    | (right; refine ⟨by omega, ?_⟩; left; omega)
    | (right; exact ⟨by omega, .inr ⟨by omega, ltL_trans h g⟩⟩)
theorem lab_tri {a b : Lab} (h : a ≠ b) : lab a b ∨ lab b a := by
  obtain ⟨a1, a2, a3⟩ := a
  obtain ⟨b1, b2, b3⟩ := b
  unfold lab
  dsimp only
  rcases Int.lt_trichotomy a1 b1 with e | e | e
  · exact .inl (.inl e)
  · rcases Nat.lt_trichotomy a2 b2 with f | f | f
    · exact .inl (.inr ⟨e, .inl f⟩)
    · rcases ltL_tri a3 b3 (fun q => h (by rw [e, f, q])) with q | q
      · exact .inl (.inr ⟨e, .inr ⟨f, q⟩⟩)
      · exact .inr (.inr ⟨e.symm, .inr ⟨f.symm, q⟩⟩)
    · exact .inr (.inr ⟨e.symm, .inl f⟩)
  · exact .inr (.inl e)
/-- not greater -/
def labLe (a b : Lab) : Prop := a = b ∨ lab a b
theorem labLe.refl (a : Lab) : labLe a a := .inl rfl
theorem labLe.trans {a b c : Lab} (h : labLe a b) (g : labLe b c) : labLe a c := by
  rcases h with rfl | h
  · exact g
  · rcases g with rfl | g
    · exact .inr h
    · exact .inr (lab_trans h g)
theorem labLe.not {a b : Lab} (h : labLe a b) : ¬ lab b a := fun g => by
  rcases h with rfl | h
  · exact lab_irr _ g
  · exact lab_irr _ (lab_trans h g)
theorem labLe_of {a b : Lab} (h : ¬ lab b a) : labLe a b := by
  by_cases e : a = b
  · exact .inl e
  · rcases lab_tri e with q | q
    · exact .inr q
    · exact absurd q h
def labB (a b : Lab) : Bool := if a.1 = b.1 then (if a.2.1 = b.2.1 then ltL a.2.2 b.2.2 else decide (a.2.1 < b.2.1)) else decide (a.1 < b.1)
theorem labB_iff (a b : Lab) : labB a b = true ↔ lab a b := by
  unfold labB lab
  split
  · rename_i e
    split
    · rename_i f
      constructor
      · exact fun h => .inr ⟨e, .inr ⟨f, h⟩⟩
      · rintro (h | ⟨_, h | ⟨_, h⟩⟩)
        · omega
        · omega
        · exact h
    · rename_i f
      constructor
      · exact fun h => .inr ⟨e, .inl (of_decide_eq_true h)⟩
      · rintro (h | ⟨_, h | ⟨h, _⟩⟩)
        · omega
        · exact decide_eq_true h
        · exact absurd h f
  · rename_i e
    constructor
    · exact fun h => .inl (of_decide_eq_true h)
    · rintro (h | ⟨h, _⟩)
      · exact decide_eq_true h
      · exact absurd h e
/-! ### the least row to a goal -/
structure Least (ps : List Par) (free : List Nat) (start : Int) (goals : List Int) (o : Option Lab) : Prop where
  no : o = none → ∀ x ∈ goals, ∀ row, run ps start row ≠ some x
  is : ∀ l, o = some l → ∃ x ∈ goals, ∃ row, run ps start row = some x ∧ l = val ps free row
  le : ∀ l, o = some l → ∀ x ∈ goals, ∀ row, run ps start row = some x → labLe l (val ps free row)
theorem Least.uniq {ps : List Par} {free : List Nat} {start : Int} {goals : List Int} {o o' : Option Lab} (h : Least ps free start goals o) (g : Least ps free start goals o') : o = o' := by
  cases o with
  | none =>
    cases o' with
    | none => rfl
    | some l =>
      obtain ⟨x, hx, row, hr, _⟩ := g.is l rfl
      exact absurd hr (h.no rfl x hx row)
  | some l =>
    cases o' with
    | none =>
      obtain ⟨x, hx, row, hr, _⟩ := h.is l rfl
      exact absurd hr (g.no rfl x hx row)
    | some l' =>
      obtain ⟨x, hx, row, hr, e⟩ := h.is l rfl
      obtain ⟨x', hx', row', hr', e'⟩ := g.is l' rfl
      have h1 := h.le l rfl x' hx' row' hr'
      have h2 := g.le l' rfl x hx row hr
      rw [← e'] at h1
      rw [← e] at h2
      rcases h1 with h1 | h1
      · rw [h1]
      · exact absurd h1 h2.not
/-! ### the law's walk over all rows without repeats -/
def onP (ps : List Par) (w : List Nat) (pl : Int) (k : Nat) : Bool := !decide (k ∈ w) && (decide (((ps[k]?).bind (·.base)) = none) || decide (((ps[k]?).bind (·.base)) = some pl))
def resP (ps : List Par) (k : Nat) : Int := ((ps[k]?).map (·.result)).getD 0
def nextP (ps : List Par) (line : List (List Nat × Int)) : List (List Nat × Int) := line.flatMap fun q => ((List.range ps.length).filter (onP ps q.1 q.2)).map fun k => (q.1 ++ [k], resP ps k)
def lineP (ps : List Par) (start : Int) : Nat → List (List Nat × Int)
  | 0 => [([], start)]
  | s + 1 => nextP ps (lineP ps start s)
def hitP (goals : List Int) (line : List (List Nat × Int)) : List (List Nat) := (line.filter fun q => decide (q.2 ∈ goals)).map (·.1)
def waysP (ps : List Par) (start : Int) (goals : List Int) : List (List Nat) := (List.range (ps.length + 1)).flatMap fun s => hitP goals (lineP ps start s)
def stepB (ps : List Par) (free : List Nat) (b : Option Lab) (w : List Nat) : Option Lab := match b with
  | none => some (val ps free w)
  | some l => if labB (val ps free w) l = true then some (val ps free w) else some l
def bestL (ps : List Par) (free : List Nat) (start : Int) (goals : List Int) : Option Lab := (waysP ps start goals).foldl (stepB ps free) none
theorem mem_line {ps : List Par} {start : Int} : ∀ {s : Nat} {w : List Nat} {pl : Int}, (w, pl) ∈ lineP ps start s ↔ w.length = s ∧ w.Nodup ∧ run ps start w = some pl
  | 0, w, pl => by
    rw [lineP, List.mem_singleton]
    constructor
    · intro h; cases h; exact ⟨rfl, List.nodup_nil, rfl⟩
    · rintro ⟨h1, _, h3⟩
      have := List.length_eq_zero_iff.mp h1
      subst this
      cases h3; rfl
  | s + 1, w, pl => by
    rw [lineP, nextP, List.mem_flatMap]
    constructor
    · rintro ⟨⟨w0, p0⟩, h0, h⟩
      obtain ⟨k, hk, e⟩ := List.mem_map.mp h
      obtain ⟨hk1, hk2⟩ := List.mem_filter.mp hk
      have hk1 := List.mem_range.mp hk1
      obtain ⟨a1, a2, a3⟩ := mem_line.mp h0
      cases e
      unfold onP at hk2
      rw [List.getElem?_eq_getElem hk1] at hk2
      simp only [Bool.and_eq_true, Bool.or_eq_true, Bool.not_eq_true', decide_eq_false_iff_not, decide_eq_true_eq] at hk2
      refine ⟨by rw [List.length_append, a1]; rfl, ?_, run_snoc.mpr ⟨p0, ps[k], a3, List.getElem?_eq_getElem hk1, hk2.2, ?_⟩⟩
      · rw [List.nodup_append]
        refine ⟨a2, by simp, fun a ha b hb e => ?_⟩
        rw [List.mem_singleton.mp hb] at e
        subst e
        exact hk2.1 ha
      · unfold resP; rw [List.getElem?_eq_getElem hk1]; rfl
    · rintro ⟨h1, h2, h3⟩
      have hne : w ≠ [] := fun e => by subst e; cases h1
      have ew := List.dropLast_concat_getLast hne
      rw [← ew] at h1 h2 h3 ⊢
      generalize w.dropLast = w0 at *
      generalize w.getLast hne = k at *
      obtain ⟨b, p, r1, r2, r3, r4⟩ := run_snoc.mp h3
      rw [List.nodup_append] at h2
      have hk : k < ps.length := (List.getElem?_eq_some_iff.mp r2).1
      refine ⟨(w0, b), mem_line.mpr ⟨by rw [List.length_append] at h1; simpa using h1, h2.1, r1⟩, List.mem_map.mpr ⟨k, List.mem_filter.mpr ⟨List.mem_range.mpr hk, ?_⟩, ?_⟩⟩
      · unfold onP
        rw [r2]
        simp only [Bool.and_eq_true, Bool.or_eq_true, Bool.not_eq_true', decide_eq_false_iff_not, decide_eq_true_eq]
        exact ⟨fun hm => h2.2.2 k hm k (by simp) rfl, r3⟩
      · unfold resP; rw [r2]; show (w0 ++ [k], p.result) = _; rw [r4]
theorem pigeon : ∀ (n : Nat) (l : List Nat), l.Nodup → (∀ x ∈ l, x < n) → l.length ≤ n
  | 0, l, _, h => by
    cases l with
    | nil => simp
    | cons a r => exact absurd (h a (by simp)) (by omega)
  | n + 1, l, hn, h => by
    by_cases hm : n ∈ l
    · have h1 := pigeon n (l.erase n) (hn.erase n) fun x hx => by
        have h2 := h x (List.mem_of_mem_erase hx)
        have : x ≠ n := fun e => by
          subst e
          exact (List.Nodup.not_mem_erase hn) hx
        omega
      rw [List.length_erase_of_mem hm] at h1
      omega
    · have h1 := pigeon n l hn fun x hx => by
        have h2 := h x hx
        have : x ≠ n := fun e => by subst e; exact hm hx
        omega
      omega
theorem mem_ways {ps : List Par} {start : Int} {goals : List Int} {w : List Nat} : w ∈ waysP ps start goals ↔ w.Nodup ∧ ∃ x ∈ goals, run ps start w = some x := by
  unfold waysP hitP
  rw [List.mem_flatMap]
  constructor
  · rintro ⟨s, hs, h⟩
    obtain ⟨⟨w', pl⟩, h1, e⟩ := List.mem_map.mp h
    obtain ⟨h2, h3⟩ := List.mem_filter.mp h1
    cases e
    obtain ⟨_, a2, a3⟩ := mem_line.mp h2
    exact ⟨a2, pl, of_decide_eq_true h3, a3⟩
  · rintro ⟨h1, x, hx, h2⟩
    refine ⟨w.length, List.mem_range.mpr ?_, List.mem_map.mpr ⟨(w, x), List.mem_filter.mpr ⟨mem_line.mpr ⟨rfl, h1, h2⟩, decide_eq_true hx⟩, rfl⟩⟩
    have := pigeon ps.length w h1 (run_lt h2)
    omega
theorem foldB {ps : List Par} {free : List Nat} : ∀ (ws : List (List Nat)) (b : Option Lab),
    (ws.foldl (stepB ps free) b = none → b = none ∧ ws = []) ∧
    ∀ l, ws.foldl (stepB ps free) b = some l → (b = some l ∨ ∃ w ∈ ws, l = val ps free w) ∧ (∀ l0, b = some l0 → labLe l l0) ∧ ∀ w ∈ ws, labLe l (val ps free w)
  | [], b => ⟨fun h => ⟨h, rfl⟩, fun l h => ⟨.inl h, fun l0 h0 => by
      have h : b = some l := h
      rw [h] at h0; cases h0; exact .refl _, fun w hw => by cases hw⟩⟩
  | w :: ws, b => by
    obtain ⟨i1, i2⟩ := foldB ws (stepB ps free b w)
    have hs : ∃ l1, stepB ps free b w = some l1 ∧ (b = some l1 ∨ l1 = val ps free w) ∧ (∀ l0, b = some l0 → labLe l1 l0) ∧ labLe l1 (val ps free w) := by
      cases b with
      | none => exact ⟨_, rfl, .inr rfl, (fun _ h => by cases h), .refl _⟩
      | some l0 =>
        show ∃ l1, (if labB (val ps free w) l0 = true then some (val ps free w) else some l0) = some l1 ∧ _
        by_cases e : labB (val ps free w) l0 = true
        · rw [if_pos e]
          exact ⟨_, rfl, .inr rfl, (fun l h => by cases h; exact .inr ((labB_iff _ _).mp e)), .refl _⟩
        · rw [if_neg e]
          exact ⟨_, rfl, .inl rfl, (fun l h => by cases h; exact .refl _), labLe_of fun q => e ((labB_iff _ _).mpr q)⟩
    obtain ⟨l1, e1, e2, e3, e4⟩ := hs
    rw [List.foldl_cons]
    refine ⟨fun h => ?_, fun l h => ?_⟩
    · have := (i1 h).1
      rw [e1] at this; cases this
    · obtain ⟨j1, j2, j3⟩ := i2 l h
      have j4 := j2 l1 e1
      refine ⟨?_, fun l0 h0 => j4.trans (e3 l0 h0), fun w' hw => ?_⟩
      · rcases j1 with j1 | ⟨w', hw, j1⟩
        · rw [e1] at j1
          cases j1
          rcases e2 with e2 | e2
          · exact .inl e2
          · exact .inr ⟨w, by simp, e2⟩
        · exact .inr ⟨w', List.mem_cons_of_mem _ hw, j1⟩
      · rcases List.mem_cons.mp hw with rfl | hw
        · exact j4.trans e4
        · exact j3 w' hw
theorem best_none {ps : List Par} {free : List Nat} {start : Int} {goals : List Int} : bestL ps free start goals = none ↔ waysP ps start goals = [] := by
  constructor
  · intro h; exact ((foldB _ _).1 h).2
  · intro h; unfold bestL; rw [h]; rfl
theorem best_least {ps : List Par} {free : List Nat} {start : Int} {goals : List Int} (hp : Pos ps) : Least ps free start goals (bestL ps free start goals) := by
  refine ⟨fun h x hx row hr => ?_, fun l h => ?_, fun l h x hx row hr => ?_⟩
  · obtain ⟨r, h1, h2, _⟩ := simple (free := free) hp row.length (Nat.le_refl _) hr
    have hm : r ∈ waysP ps start goals := mem_ways.mpr ⟨h2, x, hx, h1⟩
    rw [best_none.mp h] at hm
    cases hm
  · obtain ⟨j1, _, _⟩ := (foldB _ _).2 l h
    rcases j1 with j1 | ⟨w, hw, e⟩
    · cases j1
    · obtain ⟨_, x, hx, hr⟩ := mem_ways.mp hw
      exact ⟨x, hx, w, hr, e⟩
  · obtain ⟨_, _, j3⟩ := (foldB _ _).2 l h
    obtain ⟨r, h1, h2, h3⟩ := simple (free := free) hp row.length (Nat.le_refl _) hr
    have h4 := j3 r (mem_ways.mpr ⟨h2, x, hx, h1⟩)
    rcases h3 with rfl | h3
    · exact h4
    · exact h4.trans (.inr h3)
end R77

/-! ## K77n -/
set_option Elab.async false
set_option linter.all false
set_option maxRecDepth 100000
set_option maxHeartbeats 4000000
namespace R77
open R76 (ltL ltL_irr ltL_asym ltL_snoc ltL_last)
/-! ### the relaxation -/
abbrev Lbs := Int → Option Lab
def updL (L : Lbs) (x : Int) (c : Lab) : Lbs := fun y => if y = x then some c else L y
section
variable (ps : List Par) (free : List Nat) (start : Int)
def extP (l : Lab) (i : Nat) : Lab := (l.1 + cost ps free i, l.2.1 + 1, l.2.2 ++ [i])
def candP (L : Lbs) (i : Nat) : Option (Int × Lab) := (ps[i]?).bind fun p => (L (p.base.getD start)).map fun l => (p.result, extP ps free l i)
def betterP (L : Lbs) (x : Int) (c : Lab) : Bool := match L x with
  | none => true
  | some l => labB c l
def stepR (L : Lbs) (i : Nat) : Lbs := match candP ps free start L i with
  | none => L
  | some (x, c) => if betterP L x c = true then updL L x c else L
structure InvA (L : Lbs) : Prop where
  st : L start = some (0, 0, [])
  row : ∀ x l, L x = some l → ∃ row, run ps start row = some x ∧ l = val ps free row
def Reach (L : Lbs) (j : Nat) : Prop := ∀ row x, row.length ≤ j → run ps start row = some x → ∃ l, L x = some l ∧ labLe l (val ps free row)
def LLe (L L' : Lbs) : Prop := ∀ x l, L x = some l → ∃ l', L' x = some l' ∧ labLe l' l
end
theorem LLe.refl (L : Lbs) : LLe L L := fun x l h => ⟨l, h, .refl l⟩
theorem LLe.trans {L L' L'' : Lbs} (h : LLe L L') (g : LLe L' L'') : LLe L L'' := fun x l e => by
  obtain ⟨l', e1, h1⟩ := h x l e
  obtain ⟨l2, e2, h2⟩ := g x l' e1
  exact ⟨l2, e2, h2.trans h1⟩
section
variable {ps : List Par} {free : List Nat} {start : Int}
theorem val_snoc (row : List Nat) (i : Nat) : val ps free (row ++ [i]) = extP ps free (val ps free row) i := by
  unfold val extP
  rw [price_append, List.length_append]
  have : price ps free [i] = cost ps free i := by unfold price; simp
  rw [this]; rfl
theorem ext_mono {l l' : Lab} {i : Nat} (h1 : l.2.1 = l.2.2.length) (h2 : l'.2.1 = l'.2.2.length) (h : labLe l l') : labLe (extP ps free l i) (extP ps free l' i) := by
  rcases h with rfl | h
  · exact .refl _
  · right
    unfold lab extP at *
    dsimp only
    rcases h with h | ⟨h0, h | ⟨h3, h⟩⟩
    · left; omega
    · right; exact ⟨by omega, .inl (by omega)⟩
    · right
      exact ⟨by omega, .inr ⟨by omega, ltL_snoc _ _ _ _ (by omega) h⟩⟩
theorem val_count (row : List Nat) : (val ps free row).2.1 = (val ps free row).2.2.length := rfl
theorem cand_row (hp : Pos ps) {L : Lbs} {i : Nat} {x : Int} {c : Lab} (hA : InvA ps free start L) (h : candP ps free start L i = some (x, c)) : ∃ row, run ps start (row ++ [i]) = some x ∧ c = val ps free (row ++ [i]) := by
  unfold candP at h
  cases e : ps[i]? with
  | none => rw [e] at h; cases h
  | some p =>
    rw [e] at h
    have h : (L (p.base.getD start)).map (fun l => (p.result, extP ps free l i)) = some (x, c) := h
    cases e2 : L (p.base.getD start) with
    | none => rw [e2] at h; cases h
    | some l =>
      rw [e2] at h
      cases h
      obtain ⟨row, hr, rfl⟩ := hA.row _ _ e2
      cases hb : p.base with
      | none =>
        rw [hb] at e2 hr
        exact ⟨row, run_snoc.mpr ⟨_, p, hr, e, .inl hb, rfl⟩, (val_snoc row i).symm⟩
      | some b =>
        rw [hb] at e2 hr
        exact ⟨row, run_snoc.mpr ⟨_, p, hr, e, .inr hb, rfl⟩, (val_snoc row i).symm⟩
theorem not_better_start (hp : Pos ps) {L : Lbs} {row : List Nat} {i : Nat} (hA : InvA ps free start L) : betterP L start (val ps free (row ++ [i])) = false := by
  unfold betterP
  rw [hA.st]
  show labB _ _ = false
  rw [Bool.eq_false_iff]
  intro h
  have h := (labB_iff _ _).mp h
  have hn := price_nn (free := free) hp (row ++ [i])
  unfold lab val at h
  dsimp only at h
  rcases h with h | ⟨_, h | ⟨h, _⟩⟩
  · omega
  · omega
  · simp at h
theorem step_inv (hp : Pos ps) {L : Lbs} {i : Nat} (hA : InvA ps free start L) : InvA ps free start (stepR ps free start L i) := by
  unfold stepR
  cases e : candP ps free start L i with
  | none => exact hA
  | some q =>
    obtain ⟨x, c⟩ := q
    obtain ⟨row, hr, rfl⟩ := cand_row hp hA e
    dsimp only
    split
    · rename_i hb
      have hx : x ≠ start := fun z => by
        subst z
        rw [not_better_start hp hA] at hb; cases hb
      refine ⟨by unfold updL; rw [if_neg (Ne.symm hx)]; exact hA.st, fun y l hy => ?_⟩
      unfold updL at hy
      split at hy
      · rename_i z
        subst z
        cases hy
        exact ⟨_, hr, rfl⟩
      · exact hA.row y l hy
    · exact hA
theorem step_le {L : Lbs} {i : Nat} : LLe L (stepR ps free start L i) := by
  unfold stepR
  cases e : candP ps free start L i with
  | none => exact .refl _
  | some q =>
    obtain ⟨x, c⟩ := q
    dsimp only
    split
    · rename_i hb
      intro y l hy
      unfold updL
      split
      · rename_i z
        subst z
        refine ⟨c, rfl, .inr ?_⟩
        unfold betterP at hb
        rw [hy] at hb
        exact (labB_iff _ _).mp hb
      · exact ⟨l, hy, .refl _⟩
    · exact .refl _
theorem step_cand {L : Lbs} {i : Nat} {x : Int} {c : Lab} (h : candP ps free start L i = some (x, c)) : ∃ l, stepR ps free start L i x = some l ∧ labLe l c := by
  unfold stepR
  rw [h]
  dsimp only
  split
  · exact ⟨c, if_pos rfl, .refl _⟩
  · rename_i hb
    unfold betterP at hb
    cases e : L x with
    | none => rw [e] at hb; exact absurd rfl hb
    | some l =>
      rw [e] at hb
      exact ⟨l, rfl, labLe_of fun q => hb ((labB_iff _ _).mpr q)⟩
theorem fold_inv (hp : Pos ps) : ∀ (is : List Nat) {L : Lbs}, InvA ps free start L → InvA ps free start (is.foldl (stepR ps free start) L)
  | [], _, h => h
  | i :: is, _, h => fold_inv hp is (step_inv hp h)
theorem fold_le : ∀ (is : List Nat) {L : Lbs}, LLe L (is.foldl (stepR ps free start) L)
  | [], _ => .refl _
  | i :: is, _ => step_le.trans (fold_le is)
/-- a place's label reaches over a parcel -/
theorem fold_reach (hp : Pos ps) : ∀ (is : List Nat) {L : Lbs} {i : Nat} {p : Par} {l0 : Lab}, InvA ps free start L → i ∈ is → ps[i]? = some p → L (p.base.getD start) = some l0 → ∃ l, is.foldl (stepR ps free start) L p.result = some l ∧ labLe l (extP ps free l0 i)
  | [], _, _, _, _, _, h, _, _ => by cases h
  | k :: is, L, i, p, l0, hA, hi, e, h0 => by
    by_cases hk : i = k
    · subst hk
      have hc : candP ps free start L i = some (p.result, extP ps free l0 i) := by unfold candP; rw [e]; show (L (p.base.getD start)).map _ = _; rw [h0]; rfl
      obtain ⟨l1, h1, h2⟩ := step_cand hc
      obtain ⟨l2, h3, h4⟩ := fold_le is _ _ h1
      exact ⟨l2, h3, h4.trans h2⟩
    · have hi : i ∈ is := (List.mem_cons.mp hi).resolve_left hk
      obtain ⟨l1, h1, h2⟩ := step_le (ps := ps) (free := free) (start := start) (i := k) _ _ h0
      obtain ⟨l2, h3, h4⟩ := fold_reach hp is (step_inv hp hA) hi e h1
      refine ⟨l2, h3, h4.trans (ext_mono ?_ ?_ h2)⟩
      · obtain ⟨row, _, e⟩ := (step_inv (i := k) hp hA).row _ _ h1
        rw [e]; rfl
      · obtain ⟨row, _, e⟩ := hA.row _ _ h0
        rw [e]; rfl
def passR (ps : List Par) (free : List Nat) (start : Int) (L : Lbs) : Lbs := (List.range ps.length).foldl (stepR ps free start) L
theorem pass_reach (hp : Pos ps) {L : Lbs} {j : Nat} (hA : InvA ps free start L) (h : Reach ps free start L j) : Reach ps free start (passR ps free start L) (j + 1) := by
  intro row x hl hr
  by_cases hne : row = []
  · subst hne
    obtain ⟨l, h1, h2⟩ := h [] x (by simp) hr
    obtain ⟨l2, h3, h4⟩ := fold_le (ps := ps) (free := free) (start := start) (List.range ps.length) _ _ h1
    exact ⟨l2, h3, h4.trans h2⟩
  · rw [← List.dropLast_concat_getLast hne] at hl hr ⊢
    generalize row.dropLast = r at *
    generalize row.getLast hne = i at *
    obtain ⟨b, p, r1, r2, r3, rfl⟩ := run_snoc.mp hr
    have hi : i < ps.length := (List.getElem?_eq_some_iff.mp r2).1
    rw [List.length_append] at hl
    rcases r3 with r3 | r3
    · have h0 : L (p.base.getD start) = some (0, 0, []) := by rw [r3]; exact hA.st
      obtain ⟨l, h1, h2⟩ := fold_reach hp (List.range ps.length) hA (List.mem_range.mpr hi) r2 h0
      refine ⟨l, h1, h2.trans ?_⟩
      have hn := price_nn (free := free) hp r
      unfold extP val
      rw [price_append, List.length_append]
      have hs : price ps free [i] = cost ps free i := by unfold price; simp
      rw [hs]
      by_cases he : r = []
      · subst he; left; simp [price]
      · have : 0 < r.length := List.length_pos_iff.mpr he
        right
        unfold lab
        dsimp only
        rcases Int.lt_or_eq_of_le hn with q | q
        · left; omega
        · right; refine ⟨by omega, .inl ?_⟩
          simp only [List.length_singleton]; omega
    · obtain ⟨l0, h1, h2⟩ := h r b (by simp at hl; omega) r1
      have h0 : L (p.base.getD start) = some l0 := by rw [r3]; exact h1
      obtain ⟨l, h3, h4⟩ := fold_reach hp (List.range ps.length) hA (List.mem_range.mpr hi) r2 h0
      refine ⟨l, h3, h4.trans ?_⟩
      rw [val_snoc]
      refine ext_mono ?_ rfl h2
      obtain ⟨row, _, e⟩ := hA.row _ _ h1
      rw [e]; rfl
/-- behind as many passes as there are parcels nothing is better -/
theorem no_better (hp : Pos ps) {L : Lbs} {i : Nat} {x : Int} {c : Lab} (hA : InvA ps free start L) (h : Reach ps free start L ps.length) (hc : candP ps free start L i = some (x, c)) : betterP L x c = false := by
  obtain ⟨row, hr, rfl⟩ := cand_row hp hA hc
  obtain ⟨r, h1, h2, h3⟩ := simple (free := free) hp _ (Nat.le_refl _) hr
  obtain ⟨l, h4, h5⟩ := h r x (pigeon _ r h2 (run_lt h1)) h1
  have h6 : labLe l (val ps free (row ++ [i])) := by
    rcases h3 with h3 | h3
    · rw [← h3]; exact h5
    · exact h5.trans (.inr h3)
  unfold betterP
  rw [h4]
  show labB _ l = false
  rw [Bool.eq_false_iff]
  exact fun q => h6.not ((labB_iff _ _).mp q)
/-- what the labels are at the end -/
structure Done (ps : List Par) (free : List Nat) (start : Int) (L : Lbs) : Prop where
  row : ∀ x l, L x = some l → ∃ row, run ps start row = some x ∧ l = val ps free row
  all : ∀ row x, run ps start row = some x → ∃ l, L x = some l ∧ labLe l (val ps free row)
theorem done_of (hp : Pos ps) {L : Lbs} {j : Nat} (hA : InvA ps free start L) (h : Reach ps free start L j) (hs : passR ps free start L = L) : Done ps free start L := by
  have hk : ∀ k, Reach ps free start L (j + k) := by
    intro k
    induction k with
    | zero => exact h
    | succ k ih =>
      have := pass_reach hp hA ih
      rw [hs] at this
      exact this
  exact ⟨hA.row, fun row x hr => hk row.length row x (by omega) hr⟩
theorem inv0 : InvA ps free start (fun x => if x = start then some (0, 0, []) else none) := by
  refine ⟨if_pos rfl, fun x l h => ?_⟩
  have h : (if x = start then some ((0, 0, []) : Lab) else none) = some l := h
  by_cases e : x = start
  · rw [if_pos e] at h
    cases h
    exact ⟨[], by rw [e]; rfl, rfl⟩
  · rw [if_neg e] at h
    cases h
theorem reach0 : Reach ps free start (fun x => if x = start then some (0, 0, []) else none) 0 := by
  intro row x hl hr
  have : row = [] := List.length_eq_zero_iff.mp (by omega)
  subst this
  cases hr
  exact ⟨_, if_pos rfl, .refl _⟩
/-- the least of the goals' labels -/
theorem done_least {L : Lbs} {goals : List Int} {o : Option Lab} (h : Done ps free start L) (h0 : o = none → ∀ x ∈ goals, L x = none) (h1 : ∀ l, o = some l → (∃ x ∈ goals, L x = some l) ∧ ∀ x ∈ goals, ∀ l', L x = some l' → labLe l l') : Least ps free start goals o := by
  refine ⟨fun e x hx row hr => ?_, fun l e => ?_, fun l e x hx row hr => ?_⟩
  · obtain ⟨l, hl, _⟩ := h.all row x hr
    rw [h0 e x hx] at hl; cases hl
  · obtain ⟨x, hx, hl⟩ := (h1 l e).1
    obtain ⟨row, hr, e2⟩ := h.row x l hl
    exact ⟨x, hx, row, hr, e2⟩
  · obtain ⟨l', hl, h2⟩ := h.all row x hr
    exact ((h1 l e).2 x hx l' hl).trans h2
end
end R77

/-! ## K77d -/
set_option Elab.async false
set_option linter.all false
set_option maxRecDepth 100000
set_option maxHeartbeats 4000000
namespace R77
open PySem PySem.Spec PyProof.Rows L2 AL
open PySem.W (keyToks keyToksAll alike alikeAll dataLt dataLe)
open R76 (ltL ltL_irr eM fit_tup fit_lst fitL_of lt_eM eqv_tup eqvAll_cons eqvAll_nil)
/-! ### data -/
def oD : Option Int → D
  | none => .non
  | some i => .int i
def nT (l : List Nat) : D := .tup (l.map fun n : Nat => .int n)
def lD (l : Lab) : D := .tup [.int l.1, .int l.2.1, nT l.2.2]
def dPar (C : Addr) (p : Par) : D := .ins C [("base", oD p.base), ("result", .int p.result), ("words", .int p.words)]
def rowD (p : Par) : D := .tup [oD p.base, .int p.result, .int p.words]
def iT (l : List Int) : D := .tup (l.map .int)
theorem nT_eM (l : List Nat) : nT l = eM l := rfl
theorem fit_nT (l : List Nat) (n : Nat) : (nT l).fit (n + 1) = true := fit_tup fun d hd => by
  obtain ⟨i, _, rfl⟩ := List.mem_map.mp hd
  simp [D.fit]
theorem fit_lD (l : Lab) (n : Nat) : (lD l).fit (n + 2) = true := by
  unfold lD
  refine fit_tup fun d hd => ?_
  rcases List.mem_cons.mp hd with rfl | hd
  · simp [D.fit]
  rcases List.mem_cons.mp hd with rfl | hd
  · simp [D.fit]
  rw [List.mem_singleton.mp hd]
  exact fit_nT _ n
theorem alike_nT : ∀ a b : List Nat, alike (nT a).py (nT b).py = true := by
  intro a b
  unfold nT
  rw [R76.alike_tup]
  induction a generalizing b with
  | nil => rw [List.map_nil]; exact R76.alikeAll_nil _
  | cons x r ih =>
    cases b with
    | nil => rw [List.map_cons, List.map_nil, pyL, pyL]; rfl
    | cons y s =>
      rw [List.map_cons, List.map_cons, R76.alikeAll_cons, ih s]
      simp [D.py, alike]
theorem alike_lD (a b : Lab) : alike (lD a).py (lD b).py = true := by
  unfold lD
  rw [R76.alike_tup, R76.alikeAll_cons, R76.alikeAll_cons, R76.alikeAll_cons, R76.alikeAll_nil, alike_nT]
  simp [D.py, alike]
theorem eqv_nT (a b : List Nat) : (nT a).eqv (nT b) = decide (a = b) := by
  unfold nT
  rw [eqv_tup]
  induction a generalizing b with
  | nil =>
    cases b with
    | nil => rw [List.map_nil, eqvAll_nil]; rfl
    | cons y s => rw [List.map_cons, List.map_nil, pyL, pyL, PyData.eqvAll]; simp
  | cons x r ih =>
    cases b with
    | nil => rw [List.map_cons, List.map_nil, pyL, pyL, PyData.eqvAll]; simp
    | cons y s =>
      rw [List.map_cons, List.map_cons, eqvAll_cons, ih s, eqv_int]
      by_cases e : x = y
      · subst e; simp
      · have : ¬ ((x : Int) = (y : Int)) := by omega
        simp [e, this]
theorem lt_lD (a b : Lab) : (lD a).lt (lD b) = labB a b := by
  obtain ⟨a1, a2, a3⟩ := a
  obtain ⟨b1, b2, b3⟩ := b
  have tk : ∀ l : List D, keyToks (D.tup l).py = keyToksAll (pyL l) := fun l => by rw [D.py, keyToks]
  unfold D.lt dataLt
  unfold lD
  rw [tk, tk]
  simp only [pyL]
  rw [PySem.W.dataLt_cons (by rfl), PySem.W.dataLt_cons (by rfl), PySem.W.dataLt_cons (alike_nT _ _)]
  have e1 : PyData.eqv (D.int a1).py (D.int b1).py = decide (a1 = b1) := eqv_int _ _
  have e2 : PyData.eqv (D.int (a2 : Nat)).py (D.int (b2 : Nat)).py = decide ((a2 : Int) = (b2 : Int)) := eqv_int _ _
  have e3 : PyData.eqv (nT a3).py (nT b3).py = decide (a3 = b3) := eqv_nT _ _
  have e4 : dataLt (nT a3).py (nT b3).py = ltL a3 b3 := lt_eM a3 b3
  rw [e1, e2, e3, e4]
  simp only [D.py]
  rw [PySem.W.dataLt_int, PySem.W.dataLt_int]
  unfold labB
  dsimp only
  by_cases h1 : a1 = b1
  · simp only [h1, decide_true, if_true]
    by_cases h2 : a2 = b2
    · subst h2
      simp only [decide_true, if_true]
      by_cases h3 : a3 = b3
      · subst h3
        simp only [decide_true, if_true, ltL_irr]
        exact lex_irrefl _
      · simp [h3]
    · have : ¬ ((a2 : Int) = (b2 : Int)) := by omega
      simp only [h2, this, decide_false, if_false, Bool.false_eq_true]
      by_cases h4 : a2 < b2
      · rw [decide_eq_true h4, decide_eq_true (by omega)]
      · rw [decide_eq_false h4, decide_eq_false (by omega)]
  · simp [h1]
/-! ### dicts with ints as keys -/
theorem find_snoc {κ : Type} [DecidableEq κ] (kvs : List (κ × D)) (k : κ) (d : D) (k' : κ) : valD (kvs ++ [(k, d)]) k' = (valD kvs k').or (if k = k' then some d else none) := by
  unfold valD
  rw [List.find?_append]
  cases e : kvs.find? fun kv => decide (kv.1 = k') with
  | some q => rfl
  | none =>
    simp only [Option.none_or, Option.map_none, List.find?_cons, List.find?_nil]
    by_cases h : k = k'
    · simp [h]
    · simp [h]
theorem val_putD {κ : Type} [DecidableEq κ] (kvs : List (κ × D)) (k : κ) (d : D) (k' : κ) : valD (putKD kvs k d) k' = if k = k' then some d else valD kvs k' := by
  unfold putKD
  split
  · rename_i h
    induction kvs with
    | nil => simp at h
    | cons q r ih =>
      obtain ⟨a, b⟩ := q
      rw [List.map_cons]
      unfold valD at ih ⊢
      rw [List.find?_cons, List.find?_cons]
      by_cases ha : a = k
      · subst ha
        simp only [if_true]
        by_cases hk : a = k'
        · simp [hk]
        · simp only [hk, decide_false, if_false]
          by_cases hr : (r.any fun kv => decide (kv.1 = a)) = true
          · rw [ih hr, if_neg hk]
          · have : r.map (fun kv => if kv.1 = a then (kv.1, d) else kv) = r := by
              rw [List.map_congr_left (g := id), List.map_id]
              intro q hq
              have : ¬ (q.1 = a) := fun e => hr (List.any_eq_true.mpr ⟨q, hq, decide_eq_true e⟩)
              rw [if_neg this]; rfl
            rw [this]
      · simp only [ha, if_false]
        have hr : (r.any fun kv => decide (kv.1 = k)) = true := by
          rw [List.any_cons] at h
          simpa [ha] using h
        by_cases hk : a = k'
        · have : ¬ (k = k') := fun e => ha (by rw [e, hk])
          simp [hk, this]
        · simp only [hk, decide_false]
          exact ih hr
  · rename_i h
    rw [find_snoc]
    have hn : valD kvs k = none := by
      unfold valD
      rw [List.find?_eq_none.mpr]
      · rfl
      · intro q hq e
        exact h (List.any_eq_true.mpr ⟨q, hq, e⟩)
    by_cases hk : k = k'
    · subst hk
      rw [hn]; simp
    · rw [if_neg hk, if_neg hk, Option.or_none]
theorem len_putD {κ : Type} [DecidableEq κ] (kvs : List (κ × D)) (k : κ) (d : D) : (putKD kvs k d).length ≤ kvs.length + 1 := by
  unfold putKD
  split
  · rw [List.length_map]; omega
  · rw [List.length_append]; simp
abbrev KvI := List (Key × D)
def kI (i : Int) : Key := Sum.inl i
/-- the dict holds the labels -/
def KvL (kvs : KvI) (L : Lbs) : Prop := ∀ x, valD kvs (kI x) = (L x).map lD
theorem KvL.put {kvs : KvI} {L : Lbs} (h : KvL kvs L) (x : Int) (c : Lab) : KvL (putKD kvs (kI x) (lD c)) (updL L x c) := fun y => by
  rw [val_putD]
  unfold updL
  by_cases e : x = y
  · subst e; rw [if_pos rfl, if_pos rfl]; rfl
  · rw [if_neg (fun q => e (by unfold kI at q; exact Sum.inl.inj q)), if_neg (Ne.symm e)]
    exact h y
/-! ### steps -/
section
variable {ms : MS} {k : SD → Prop}
theorem key_int (i : Int) : (D.int i).key1 = some (kI i) := rfl
theorem dLook_k {p : Addr} {kvs : KvI} {i : Int} (hp : ms p = some (.k kvs)) : dLook ms (.v (.ref p)) (.d (.int i)) = some (valD kvs (kI i)) := by
  show (match ms p, (D.int i).key1 with | some (.k kvs), some k => some (valD kvs k) | _, _ => none) = _
  rw [hp, key_int]
theorem s_inK {neg : Bool} {p : Addr} {kvs : KvI} {i : Int} (hp : ms p = some (.k kvs)) (h : k (.d (.bl (neg ^^ (valD kvs (kI i)).isSome)))) : oIn neg ms (.d (.int i)) (.v (.ref p)) k := .inr (.inr ⟨_, dLook_k hp, h⟩)
theorem s_ixK {p : Addr} {kvs : KvI} {i : Int} {d : D} (hp : ms p = some (.k kvs)) (hv : valD kvs (kI i) = some d) (h : k (.d d)) : oIx ms (.v (.ref p)) (.d (.int i)) k := .inr (.inr ⟨d, by rw [dLook_k hp, hv], h⟩)
theorem s_putK {p : Addr} {kvs : KvI} {i : Int} {dv : D} {K1 : MS → Prop} (hp : ms p = some (.k kvs)) (hl : kvs.length < sizeLine) (h : K1 (mu ms p (.k (putKD kvs (kI i) dv)))) : oPut ms (.v (.ref p)) (.d (.int i)) dv K1 :=
  ⟨p, rfl, .inr (.inr ⟨kvs, _, _, hp, rfl, key_int i, hl, h⟩)⟩
theorem s_ltD {a b : D} (ha : a.fit 64 = true) (hb : b.fit 64 = true) (hl : alike a.py b.py = true) (hn : a.py ≠ .none) (h : k (.d (.bl (a.lt b)))) : oLt ms (.d a) (.d b) k := by
  unfold oLt
  split
  · rename_i i j e1 e2
    cases e1; cases e2
    have e : D.lt (.int i) (.int j) = decide (i < j) := PySem.W.dataLt_int _ _
    rw [e] at h; exact h
  · rename_i e1 e2; cases e1; cases e2; exact ⟨ha, hb, hl, hn, h⟩
  · rename_i h1 h2; exact h2 _ _ rfl rfl
theorem s_ltLab {a b : Lab} (h : k (.d (.bl (labB a b)))) : oLt ms (.d (lD a)) (.d (lD b)) k := s_ltD (fit_lD a 62) (fit_lD b 62) (alike_lD a b) (by unfold lD; simp [D.py]) (by rw [lt_lD]; exact h)
theorem s_fldP {C : Addr} {p : Par} {f : Str} {d : D} (e : ([("base", oD p.base), ("result", .int p.result), ("words", .int p.words)] : List (Str × D)).lookup f = some d) (h : k (.d d)) : oFld C f ms (.d (dPar C p)) k := ⟨rfl, d, e, h⟩
end
theorem enum_get {ds : List D} {i : Nat} {d : D} (h : (enumD ds)[i]? = some d) : ∃ e, ds[i]? = some e ∧ d = .tup [.int i, e] := by
  unfold enumD at h
  rw [List.getElem?_mapIdx] at h
  cases q : ds[i]? with
  | none => rw [q] at h; cases h
  | some e => rw [q] at h; cases h; exact ⟨e, rfl, rfl⟩
theorem enum_len (ds : List D) : (enumD ds).length = ds.length := by unfold enumD; rw [List.length_mapIdx]
/-! ### sorted lists of labels, of tuples of numbers -/
theorem sort_lab (ls : List Lab) : ∃ ls' : List Lab, sortD (ls.map lD) = ls'.map lD ∧ ls'.Perm ls ∧ ls'.Pairwise labLe := by
  have le_eq : ∀ a b : Lab, leD (lD a) (lD b) = !labB b a := fun a b => by
    rw [← lt_lD]
    rfl
  refine ⟨ls.mergeSort fun a b => !labB b a, ?_, List.mergeSort_perm _ _, ?_⟩
  · have h : ∀ l : List Lab, (l.mergeSort fun a b => !labB b a) = l.mergeSort fun a b => leD (lD a) (lD b) := fun l => by
      congr 1
      funext a b
      rw [le_eq]
    rw [h]
    exact (List.map_mergeSort (f := lD) (s := leD) (fun _ _ _ _ => rfl)).symm
  · have iff : ∀ a b : Lab, (!labB b a) = true ↔ labLe a b := fun a b => by
      rw [Bool.not_eq_true', Bool.eq_false_iff]
      constructor
      · exact fun h => labLe_of fun q => h ((labB_iff _ _).mpr q)
      · exact fun h q => h.not ((labB_iff _ _).mp q)
    refine (List.pairwise_mergeSort (le := fun a b => !labB b a) (fun a b c h g => ?_) (fun a b => ?_) ls).imp fun {a b} h => (iff a b).mp h
    · exact (iff a c).mpr (((iff a b).mp h).trans ((iff b c).mp g))
    · rw [Bool.or_eq_true]
      by_cases e : lab b a
      · exact .inr ((iff b a).mpr (.inr e))
      · exact .inl ((iff a b).mpr (labLe_of e))
end R77

/-! ## K77p -/
set_option Elab.async false
set_option linter.all false
set_option maxRecDepth 100000
set_option maxHeartbeats 4000000
namespace R77
open PySem PySem.Spec PyProof.Rows L2 AL
open Evl (Ex)
open R76 (topS u1 u64 u65 u80 plainD plainL plainL_map SrcAt SrcOk SB R_draw)
local macro_rules | `(tactic| walk_at "st") => `(tactic| first
  | (with_reducible refine' s_seq ?_) | (with_reducible refine' s_set ?_) | (with_reducible refine' s_nx ?_) | (with_reducible refine' s_ret ?_) | (with_reducible refine' s_drop ?_) | (with_reducible refine' s_asg ?_) | (with_reducible refine' s_for ?_) | (with_reducible refine' s_tt ?_) | (with_reducible refine' s_ff ?_) | (with_reducible refine' s_lcS ?_) | (with_reducible refine' s_put ?_) | (with_reducible refine' s_app ?_) | (with_reducible refine' s_ext ?_)
  | (with_reducible refine' s_gN ?_) | ((with_reducible refine' s_v ?e ?_); (case e => rfl)) | (with_reducible refine' s_asB ?_) | (with_reducible refine' s_asI ?_) | (with_reducible refine' s_asD ?_) | (with_reducible refine' s_nil ?_) | (with_reducible refine' s_cons ?_)
  | (with_reducible refine' s_addI ?_) | (with_reducible refine' s_I0 ?_) | (with_reducible refine' s_neg ?_) | (with_reducible refine' s_eqI ?_) | (with_reducible refine' s_eqS ?_) | (with_reducible refine' s_ltI ?_) | (with_reducible refine' s_isN ?_) | (with_reducible refine' s_int ?_) | (with_reducible refine' s_abs ?_)
  | ((with_reducible refine' s_len ?e ?_); (case e => first | rfl | exact seqOf_m (by assumption) | exact seqOf_m mu_same))
  | ((with_reducible refine' s_ix ?e ?e2 ?_); (case e => first | rfl | exact seqOf_m (by assumption) | exact seqOf_m mu_same); (case e2 => first | rfl | assumption | exact atI_nat (j := 0) rfl | exact atI_nat (j := 1) rfl | exact atI_nat (j := 2) rfl | exact atI_nat (j := 3) rfl))
  | ((with_reducible refine' s_putL ?e ?e2 ?_); (case e => first | assumption | exact mu_same); (case e2 => first | rfl | assumption))
  | ((with_reducible refine' s_oL ?e ?_); (case e => first | assumption | exact mu_same))
  | ((with_reducible refine' s_dat ?e ?_); (case e => rfl)) | ((with_reducible refine' s_rng ?e ?_); (case e => exact ⟨by omega, by omega⟩))
  | ((with_reducible refine' s_I ?c ?_); (case c => first | assumption | exact ⟨by omega, by omega⟩ | exact ⟨by decide, by decide, by decide⟩ | exact Or.inl ⟨by omega, by omega⟩ | exact Or.inr ⟨by omega, by omega⟩ | (show (0 : Int) < _; omega) | (show (0 : Int) ≤ _; omega)))
  | (with_reducible refine' s_slT ?_) | (with_reducible refine' s_slL ?_) | (with_reducible refine' s_gC ?_) | ((with_reducible refine' s_gT ?e ?_); (case e => rfl))
  | ((with_reducible refine' s_tup ?e ?_); (case e => first | rfl | exact seqOf_m (by assumption) | exact seqOf_m mu_same))
  | ((with_reducible refine' s_list ?e ?_); (case e => first | rfl | exact seqOf_m (by assumption) | exact seqOf_m mu_same))
  | ((with_reducible refine' s_isi ?e ?e2 ?_); (case e => rfl); (case e2 => rfl))
  | (with_reducible refine' s_max ?_)
  | ((with_reducible refine' And.intro ?r ?_); (case r => with_reducible rfl)))
local macro_rules | `(tactic| walk_at "one") => `(tactic| first | (with_reducible refine' s_if ?_) | walk_at "st")
local macro_rules | `(tactic| walk_at "up") => `(tactic| repeat walk_at "st")
local macro_rules | `(tactic| walk_at "go") => `(tactic| repeat walk_at "one")
local macro_rules | `(tactic| walk_at "all") => `(tactic| repeat' (first | walk_at "one" | (refine s_ite (fun _ => ?_) (fun _ => ?_))))

structure Blt77 (mg : Str → Option Value) extends R76.Blt mg where
  sum : mg "sum" = none
  min : mg "min" = none
  enumerate : mg "enumerate" = none
structure TopP (K : PySem.W.Frag) (mg : Str → Option Value) extends Blt77 mg where
  CP : Addr
  CL : Addr
  t1 : Tok
  t2 : Tok
  t3 : Tok
  t4 : Tok
  c_MOST_PARCELS : mg "MOST_PARCELS" = some (.int 10 t1)
  c_MOST_STARTS : mg "MOST_STARTS" = some (.int 8 t2)
  c_MOST_WORDS : mg "MOST_WORDS" = some (.int 60000 t3)
  c_TIMES : mg "TIMES" = some (.int 2 t4)
  cls_Parcel : Cls K CP
  na_base : NoAttr K CP "base"
  na_result : NoAttr K CP "result"
  na_words : NoAttr K CP "words"
  cls_Plan : Cls K CL
  na_to_all : NoAttr K CL "to_all"
  na_rows : NoAttr K CL "rows"
  na_price : NoAttr K CL "price"
theorem s_setF {A : AEnd} {Γ : Gam} {ms : MS} {C : Addr} {f : Str} {ro re : AER} (h : re Γ ms (fun v ms1 => ro Γ ms1 (fun u ms2 => asD (fun dv => ∃ p fs, u = .v (.ref p) ∧ ms2 p = some (.i C fs) ∧ fs.length < 1000 ∧ A.nx Γ (mu ms2 p (.i C (putD f dv fs)))) v) (A.x Γ)) (A.x Γ)) : rSetF C f ro re A Γ ms := h
section
variable {P : Program} {w : World} {K : PySem.W.Frag} {mg : Str → Option Value} {base : Heap}
/-! ### plain -/
abbrev s_law_plain : Stmt := (topS 23)
theorem sc_law_plain : FnScope ["thing", "one"] ["thing"] (defScope s_law_plain) := ⟨rfl, rfl, rfl, by decide +kernel, rfl, by decide +kernel, by decide +kernel⟩

def dAt (d : D) : Prop := d = .non ∨ (∃ b, d = .bl b) ∨ (∃ i, d = .int i) ∨ ∃ z, d = .str z
def dDp : Nat → D → Prop
  | 0 => dAt
  | n + 1 => fun d => dAt d ∨ (∃ l, (d = .tup l ∨ d = .lst l) ∧ l.length ≤ 2000 ∧ ∀ e ∈ l, dDp n e)
theorem dDp_up : ∀ {n : Nat} {d : D}, dDp n d → dDp (n + 1) d
  | 0, _, h => .inl h
  | n + 1, _, h => by
    rcases h with h | ⟨l, h1, h2, h3⟩
    · exact .inl h
    · exact .inr ⟨l, h1, h2, fun e he => dDp_up (h3 e he)⟩
def R_plain (n : Nat) : AFn := fun sds ms k _ => ∃ d, sds = [.d d] ∧ dDp n d ∧ k (.d (plainD d)) ms
theorem z2000 {n : Nat} (h : n ≤ 2000) : n ≤ sizeLine := Nat.le_trans h (by decide)
theorem ok_plain0 (T : R76.Blt mg) (n : Nat) (G_law_plain : FnA P w K mg base CX0 n "_law_plain" (fun sds ms k x => ∃ m, n = m + 1 ∧ R_plain m sds ms k x)) {f : Addr} {fd : FuncData} (F : Fun K "_law_plain" "_law_plain" s_law_plain f fd) : FnOk P w K mg base CX0 (n + 1) f fd ["thing"] (spA (R_plain n)) := by
  refine fnA F sc_law_plain (fun sds ms k x h => ?_) (by decide) fun cdv A outer s H E hr => ⟨_, _, (ass_cons (as_if (at_val (ae_isi2 (ae_v 0) (by rfl) T.isinstance (by decide +kernel) (by rfl) T.list (by decide +kernel) (by rfl) T.tuple (by decide +kernel) (T := "") (U := "") (T' := "list") (U' := "tuple"))) (ass_one (as_ret (ae_tup (aa_cons (ae_callB call_isi oa_isi (by rfl) T.isinstance (by decide +kernel) (aa_cons (ae_v 0) (aa_cons (ae_bty (T := "list") (by rfl) T.list (by decide +kernel)) aa_nil))) (aa_cons (ae_lc (own := [("one", 1)]) rfl sc_law_plain.nd (ai_seq (ae_v 0)) (blkOk_by (own := [("one", 1)]) (N := ["thing", "one"]) (sc := defScope s_law_plain) (by decide +kernel)) (by decide) (fun _ _ _ _ _ => (ag_name 1 sc_law_plain.nd)) (fun _ _ _ _ _ => ats_nil) (fun _ _ _ _ _ => (ae_call G_law_plain (hr.mono (by first | decide | omega)) (fun _ => pass0At) (by rfl) (aa_cons (ae_v 1) aa_nil)))) aa_nil))))) ass_nil)
    (ass_one (as_ret (ae_tup (aa_cons (ae_callB call_isi oa_isi (by rfl) T.isinstance (by decide +kernel) (aa_cons (ae_v 0) (aa_cons (ae_bty (T := "bool") (by rfl) T.bool (by decide +kernel)) aa_nil))) (aa_cons (ae_v 0) aa_nil)))))), fun sds ms k x h => ?_⟩
  · obtain ⟨a, rfl, _⟩ := h; rfl
  · obtain ⟨d, rfl, hd, q⟩ := h
    have hd' : dAt d ∨ ∃ m l, n = m + 1 ∧ (d = .tup l ∨ d = .lst l) ∧ l.length ≤ 2000 ∧ ∀ e ∈ l, dDp m e := by
      cases n with
      | zero => exact .inl hd
      | succ m =>
        rcases hd with hd | ⟨l, h1, h2, h3⟩
        · exact .inl hd
        · exact .inr ⟨m, l, rfl, h1, h2, h3⟩
    dsimp only [gam]
    rcases hd' with (rfl | ⟨b, rfl⟩ | ⟨b, rfl⟩ | ⟨b, rfl⟩) | ⟨m, l, rfl, rfl | rfl, hl, hall⟩
    · rw [show plainD D.non = .tup [.bl false, .non] by simp [plainD]] at q
      walk_at "go"
      refine ⟨_, false, false, rfl, by decide, by decide, ?_⟩
      walk_at "go"
      refine s_iteF rfl ?_
      walk_at "go"
      exact Out.here q
    · rw [show plainD (D.bl b) = .tup [.bl true, .bl b] by simp [plainD]] at q
      walk_at "go"
      refine ⟨_, false, false, rfl, by decide, by decide, ?_⟩
      walk_at "go"
      refine s_iteF rfl ?_
      walk_at "go"
      exact Out.here q
    · rw [show plainD (D.int b) = .tup [.bl false, .int b] by simp [plainD]] at q
      walk_at "go"
      refine ⟨_, false, false, rfl, by decide, by decide, ?_⟩
      walk_at "go"
      refine s_iteF rfl ?_
      walk_at "go"
      exact Out.here q
    · rw [show plainD (D.str b) = .tup [.bl false, .str b] by simp [plainD]] at q
      walk_at "go"
      refine ⟨_, false, false, rfl, by decide, by decide, ?_⟩
      walk_at "go"
      refine s_iteF rfl ?_
      walk_at "go"
      exact Out.here q
    · rw [show plainD (D.tup l) = .tup [.bl false, .lst (l.map plainD)] by rw [plainD, plainL_map]] at q
      walk_at "go"
      refine ⟨_, false, true, rfl, by decide, by decide, ?_⟩
      walk_at "go"
      refine s_iteT rfl ?_
      walk_at "go"
      refine lcI_mapD (f := plainD) (z2000 hl) (fun e he acc N hz hN => ?_) ?_
      · walk_at "go"
        exact ⟨m, rfl, e, rfl, hall e he, hz, hN⟩
      walk_at "go"
      exact Out.here q
    · rw [show plainD (D.lst l) = .tup [.bl true, .lst (l.map plainD)] by rw [plainD, plainL_map]] at q
      walk_at "go"
      refine ⟨_, true, false, rfl, by decide, by decide, ?_⟩
      walk_at "go"
      refine s_iteT rfl ?_
      walk_at "go"
      refine lcI_mapD (f := plainD) (z2000 hl) (fun e he acc N hz hN => ?_) ?_
      · walk_at "go"
        exact ⟨m, rfl, e, rfl, hall e he, hz, hN⟩
      walk_at "go"
      exact Out.here q
/-! ### numbers, parcels -/
abbrev s_is_number : Stmt := (topS 5)
theorem sc_is_number : FnScope ["thing"] ["thing"] (defScope s_is_number) := ⟨rfl, rfl, rfl, by decide +kernel, rfl, by decide +kernel, by decide +kernel⟩

def R_isnum : AFn := fun sds ms k _ => ∃ i, sds = [.d (.int i)] ∧ k (.d (.bl true)) ms
theorem ok_isnum (T : R76.Blt mg) {f : Addr} {fd : FuncData} (F : Fun K "is_number" "is_number" s_is_number f fd) : FnOk P w K mg base CX0 1 f fd ["thing"] (spA R_isnum) := by
  refine fnA F sc_is_number (fun sds ms k x h => ?_) (by decide) fun cdv A outer s H E hr => ⟨_, _, (ass_one (as_ret (ae_and (ae_callB call_isi oa_isi (by rfl) T.isinstance (by decide +kernel) (aa_cons (ae_v 0) (aa_cons (ae_bty (T := "int") (by rfl) T.int (by decide +kernel)) aa_nil))) (ae_one (ae_not (ae_callB call_isi oa_isi (by rfl) T.isinstance (by decide +kernel) (aa_cons (ae_v 0) (aa_cons (ae_bty (T := "bool") (by rfl) T.bool (by decide +kernel)) aa_nil)))))))), fun sds ms k x h => ?_⟩
  · obtain ⟨a, rfl, _⟩ := h; rfl
  · obtain ⟨i, rfl, q⟩ := h
    dsimp only [gam]
    walk_at "go"
    exact Out.here q
abbrev s_Parcel_init : Stmt := (inClass (topS 11) 0)
theorem sc_Parcel_init : FnScope ["self", "base", "result", "words"] ["self", "base", "result", "words"] (defScope s_Parcel_init) := ⟨rfl, rfl, rfl, by decide +kernel, rfl, by decide +kernel, by decide +kernel⟩

def R_parcel (C : Addr) : AFn := fun sds ms k _ => ∃ p b r w, sds = [.v (.ref p), .d b, .d r, .d (.int w)] ∧ 1 ≤ w ∧ w ≤ 60000 ∧ ms p = some (.i C []) ∧ k (.d .non) (mu ms p (.i C [("base", b), ("result", r), ("words", .int w)]))
theorem ok_parcel (T : TopP K mg) (G_is_number : FnA P w K mg base CX0 1 "is_number" R_isnum) {f : Addr} {fd : FuncData} (F : Fun K "__init__" "Parcel.__init__" s_Parcel_init f fd) : FnOk P w K mg base CX0 2 f fd ["self", "base", "result", "words"] (spA (R_parcel T.CP)) := by
  refine fnA F sc_Parcel_init (fun sds ms k x h => ?_) (by decide) fun cdv A outer s H E hr => ⟨_, _, (ass_cons (as_if (AW.at (aw_or (at_not (at_val (ae_call G_is_number (hr.mono (by first | decide | omega)) (fun _ => pass0At) (by rfl) (aa_cons (ae_v 3) aa_nil)))) (aw_or1 (at_not (at_chain op_le oa_le op_le oa_le ae_int (ae_v 3) (ae_gint (by rfl) T.c_MOST_WORDS) (fun p1 p2 p3 => pt_chain op_le op_le p1 p2 p3)))))) (ass_one as_never) ass_nil)
    (ass_cons (as_setF T.cls_Parcel T.na_base (ae_v 0) (ae_v 1))
    (ass_cons (as_setF T.cls_Parcel T.na_result (ae_v 0) (ae_v 2))
    (ass_one (as_setF T.cls_Parcel T.na_words (ae_v 0) (ae_v 3)))))), fun sds ms k x h => ?_⟩
  · obtain ⟨a, b, c, d, rfl, _⟩ := h; rfl
  · obtain ⟨p, b, r, w, rfl, h1, h2, hp, q⟩ := h
    dsimp only [gam]
    walk_at "go"
    refine ⟨w, rfl, ?_⟩
    walk_at "go"
    refine s_iteF rfl ?_
    walk_at "go"
    refine s_iteT (decide_eq_true h1) ?_
    walk_at "go"
    refine s_iteF (by rw [decide_eq_true h2]; rfl) ?_
    walk_at "go"
    (with_reducible refine' s_setF ?_)
    walk_at "go"
    refine ⟨p, [], rfl, hp, by decide, ?_⟩
    walk_at "go"
    (with_reducible refine' s_setF ?_)
    walk_at "go"
    refine ⟨p, _, rfl, mu_same, by show 1 < 1000; decide, ?_⟩
    rw [mu_mu]
    (with_reducible refine' s_setF ?_)
    walk_at "go"
    refine ⟨p, _, rfl, mu_same, by show 2 < 1000; decide, ?_⟩
    rw [mu_mu]
    exact Out.here q
/-- which bits a number has -/
def numsP (c : Int) (n : Nat) : List Nat := (List.range n).filter fun i => decide (Builtin.bitAnd (c / 2 ^ i) 1 = 1)
def R_nums : AFn := fun sds ms k _ => ∃ c : Int, ∃ n : Nat, sds = [.d (.int c), .d (.int n)] ∧ n ≤ 1000 ∧ k (.d (nT (numsP c n))) ms
theorem nums_d (c : Int) (n : Nat) : nT (numsP c n) = .tup ((numsP c n).map fun n : Nat => D.int n) := rfl
theorem rngD0 (n : Nat) : rngD 0 n = (List.range n).map fun i : Nat => D.int i := by
  unfold rngD
  refine List.map_congr_left fun i _ => ?_
  rw [Int.zero_add]
abbrev s_numbers_in : Stmt := (topS 15)
theorem sc_numbers_in : FnScope ["chosen", "count", "number"] ["chosen", "count"] (defScope s_numbers_in) := ⟨rfl, rfl, rfl, by decide +kernel, rfl, by decide +kernel, by decide +kernel⟩

theorem ok_nums (T : R76.Blt mg) {f : Addr} {fd : FuncData} (F : Fun K "numbers_in" "numbers_in" s_numbers_in f fd) : FnOk P w K mg base CX0 1 f fd ["chosen", "count"] (spA R_nums) := by
  refine fnA F sc_numbers_in (fun sds ms k x h => ?_) (by decide) fun cdv A outer s H E hr => ⟨_, _, (ass_one (as_ret (ae_callTy call_tuple_of oa_tup (by rfl) T.tuple (by decide +kernel) (aa_cons (ae_lc (own := [("number", 2)]) rfl sc_numbers_in.nd (ai_range1 (by rfl) T.range (ae_v 1)) (blkOk_by (own := [("number", 2)]) (N := ["chosen", "count", "number"]) (sc := defScope s_numbers_in) (by decide +kernel)) (by decide) (fun _ _ _ _ _ => (ag_name 2 sc_numbers_in.nd)) (fun _ _ _ _ _ => (ats_one (at_cmp (opK_eq (K := K) rfl (u64 hr)) oa_eq (ae_bin op_and oa_and (ae_bin op_shr oa_shr (ae_v 0) (ae_v 2)) ae_int) ae_int (nomark _)))) (fun _ _ _ _ _ => (ae_v 2))) aa_nil)))), fun sds ms k x h => ?_⟩
  · obtain ⟨a, b, rfl, _⟩ := h; rfl
  · obtain ⟨c, n, rfl, hn, q⟩ := h
    dsimp only [gam]
    walk_at "go"
    rw [Int.toNat_natCast, rngD0]
    refine lcI_fm (f := fun i : Nat => D.int i) (p := fun i => decide (Builtin.bitAnd (c / 2 ^ i) 1 = 1)) (small_len (by rw [List.length_range]; exact hn)) (fun i hi acc N hz hN => ?_) ?_
    · walk_at "go"
      rw [Int.toNat_natCast]
      refine s_ite (fun e => ?_) (fun e => ?_)
      · rw [if_pos (by simpa using e)] at hN
        walk_at "go"
        exact ⟨hz, hN⟩
      · rw [if_neg (by simpa using e), List.append_nil] at hN
        exact hN
    walk_at "go"
    exact Out.here q
abbrev s_law_numbers : Stmt := (topS 30)
theorem sc_law_numbers : FnScope ["chosen", "count", "k"] ["chosen", "count"] (defScope s_law_numbers) := ⟨rfl, rfl, rfl, by decide +kernel, rfl, by decide +kernel, by decide +kernel⟩

theorem ok_lnums (T : R76.Blt mg) {f : Addr} {fd : FuncData} (F : Fun K "_law_numbers" "_law_numbers" s_law_numbers f fd) : FnOk P w K mg base CX0 1 f fd ["chosen", "count"] (spA R_nums) := by
  refine fnA F sc_law_numbers (fun sds ms k x h => ?_) (by decide) fun cdv A outer s H E hr => ⟨_, _, (ass_one (as_ret (ae_callTy call_tuple_of oa_tup (by rfl) T.tuple (by decide +kernel) (aa_cons (ae_lc (own := [("k", 2)]) rfl sc_law_numbers.nd (ai_range1 (by rfl) T.range (ae_v 1)) (blkOk_by (own := [("k", 2)]) (N := ["chosen", "count", "k"]) (sc := defScope s_law_numbers) (by decide +kernel)) (by decide) (fun _ _ _ _ _ => (ag_name 2 sc_law_numbers.nd)) (fun _ _ _ _ _ => (ats_one (at_cmp (opK_eq (K := K) rfl (u64 hr)) oa_eq (ae_bin op_and oa_and (ae_bin op_shr oa_shr (ae_v 0) (ae_v 2)) ae_int) ae_int (nomark _)))) (fun _ _ _ _ _ => (ae_v 2))) aa_nil)))), fun sds ms k x h => ?_⟩
  · obtain ⟨a, b, rfl, _⟩ := h; rfl
  · obtain ⟨c, n, rfl, hn, q⟩ := h
    dsimp only [gam]
    walk_at "go"
    rw [Int.toNat_natCast, rngD0]
    refine lcI_fm (f := fun i : Nat => D.int i) (p := fun i => decide (Builtin.bitAnd (c / 2 ^ i) 1 = 1)) (small_len (by rw [List.length_range]; exact hn)) (fun i hi acc N hz hN => ?_) ?_
    · walk_at "go"
      rw [Int.toNat_natCast]
      refine s_ite (fun e => ?_) (fun e => ?_)
      · rw [if_pos (by simpa using e)] at hN
        walk_at "go"
        exact ⟨hz, hN⟩
      · rw [if_neg (by simpa using e), List.append_nil] at hN
        exact hN
    walk_at "go"
    exact Out.here q
end
end R77

/-! ## K77q -/
set_option Elab.async false
set_option linter.all false
set_option maxRecDepth 100000
set_option maxHeartbeats 4000000
namespace R77
open PySem PySem.Spec PyProof.Rows L2 AL
open Evl (Ex)
open R76 (topS u1 u64 u65 u80)
local macro_rules | `(tactic| walk_at "st") => `(tactic| first
  | (with_reducible refine' s_seq ?_) | (with_reducible refine' s_set ?_) | (with_reducible refine' s_nx ?_) | (with_reducible refine' s_ret ?_) | (with_reducible refine' s_drop ?_) | (with_reducible refine' s_asg ?_) | (with_reducible refine' s_for ?_) | (with_reducible refine' s_tt ?_) | (with_reducible refine' s_ff ?_) | (with_reducible refine' s_lcS ?_) | (with_reducible refine' s_put ?_) | (with_reducible refine' s_app ?_) | (with_reducible refine' s_ext ?_)
  | (with_reducible refine' s_gN ?_) | ((with_reducible refine' s_v ?e ?_); (case e => rfl)) | (with_reducible refine' s_asB ?_) | (with_reducible refine' s_asI ?_) | (with_reducible refine' s_asD ?_) | (with_reducible refine' s_nil ?_) | (with_reducible refine' s_cons ?_)
  | (with_reducible refine' s_addI ?_) | (with_reducible refine' s_I0 ?_) | (with_reducible refine' s_neg ?_) | (with_reducible refine' s_eqI ?_) | (with_reducible refine' s_eqS ?_) | (with_reducible refine' s_ltI ?_) | (with_reducible refine' s_isN ?_) | (with_reducible refine' s_int ?_) | (with_reducible refine' s_abs ?_)
  | ((with_reducible refine' s_len ?e ?_); (case e => first | rfl | exact seqOf_m (by assumption) | exact seqOf_m mu_same))
  | ((with_reducible refine' s_ix ?e ?e2 ?_); (case e => first | rfl | exact seqOf_m (by assumption) | exact seqOf_m mu_same); (case e2 => first | rfl | assumption | exact atI_nat (j := 0) rfl | exact atI_nat (j := 1) rfl | exact atI_nat (j := 2) rfl | exact atI_nat (j := 3) rfl))
  | ((with_reducible refine' s_putL ?e ?e2 ?_); (case e => first | assumption | exact mu_same); (case e2 => first | rfl | assumption))
  | ((with_reducible refine' s_oL ?e ?_); (case e => first | assumption | exact mu_same))
  | ((with_reducible refine' s_dat ?e ?_); (case e => rfl)) | ((with_reducible refine' s_rng ?e ?_); (case e => exact ⟨by omega, by omega⟩))
  | ((with_reducible refine' s_I ?c ?_); (case c => first | assumption | exact ⟨by omega, by omega⟩ | exact ⟨by decide, by decide, by decide⟩ | exact Or.inl ⟨by omega, by omega⟩ | exact Or.inr ⟨by omega, by omega⟩ | (show (0 : Int) < _; omega) | (show (0 : Int) ≤ _; omega)))
  | (with_reducible refine' s_slT ?_) | (with_reducible refine' s_slL ?_) | (with_reducible refine' s_gC ?_) | ((with_reducible refine' s_gT ?e ?_); (case e => rfl))
  | ((with_reducible refine' s_tup ?e ?_); (case e => first | rfl | exact seqOf_m (by assumption) | exact seqOf_m mu_same))
  | ((with_reducible refine' s_list ?e ?_); (case e => first | rfl | exact seqOf_m (by assumption) | exact seqOf_m mu_same))
  | ((with_reducible refine' s_isi ?e ?e2 ?_); (case e => rfl); (case e2 => rfl))
  | (with_reducible refine' s_max ?_)
  | ((with_reducible refine' And.intro ?r ?_); (case r => with_reducible rfl)))
local macro_rules | `(tactic| walk_at "one") => `(tactic| first | (with_reducible refine' s_if ?_) | walk_at "st")
local macro_rules | `(tactic| walk_at "up") => `(tactic| repeat walk_at "st")
local macro_rules | `(tactic| walk_at "go") => `(tactic| repeat walk_at "one")
local macro_rules | `(tactic| walk_at "all") => `(tactic| repeat' (first | walk_at "one" | (refine s_ite (fun _ => ?_) (fun _ => ?_))))

/-- no row of a label is longer -/
def LenB (L : Lbs) (B : Nat) : Prop := ∀ x l, L x = some l → l.2.2.length ≤ B
theorem LenB.mono {L : Lbs} {B B' : Nat} (h : LenB L B) (hb : B ≤ B') : LenB L B' := fun x l e => Nat.le_trans (h x l e) hb
theorem any_nT (l : List Nat) (i : Nat) : ((l.map fun n : Nat => D.int n).any fun z => z.eqv (.int i)) = decide (i ∈ l) := by
  induction l with
  | nil => simp
  | cons a r ih =>
    rw [List.map_cons, List.any_cons, ih, eqv_int]
    by_cases h : a = i
    · subst h; simp
    · have h2 : ¬ ((a : Int) = (i : Int)) := by omega
      have h3 : ¬ i = a := fun e => h e.symm
      simp [h2, h3]
theorem cost_get {ps : List Par} {free : List Nat} {i : Nat} {p : Par} (h : ps[i]? = some p) : cost ps free i = if i ∈ free then 0 else p.words := by
  unfold cost; rw [h]; rfl
theorem fitL_ints (l : List Nat) (n : Nat) : fitL (l.map fun n : Nat => D.int n) n = true := R76.fitL_of fun d hd => by
  obtain ⟨i, _, rfl⟩ := List.mem_map.mp hd
  simp [D.fit]
theorem s_inT0 {K : PySem.W.Frag} {neg : Bool} {ms : MS} {k : SD → Prop} {y : SD} {free : List Nat} {i : Nat} (hf : FrT K y (free.map fun n : Nat => .int n)) (h : k (.d (.bl (neg ^^ decide (i ∈ free))))) : oInT0 K neg ms (.d (.int i)) y k :=
  ⟨_, _, hf, rfl, by simp [D.fit], fitL_ints _ _, by rw [any_nT]; exact h⟩
theorem isN_oD (b : Option Int) : (SD.d (oD b)).isNon = decide (b = none) := by
  cases b <;> rfl
def L0f (start : Int) : Lbs := fun x => if x = start then some (0, 0, []) else none
theorem kv0 (start : Int) : KvL [(kI start, .tup [.int 0, .int 0, .tup []])] (L0f start) := fun y => by
  unfold valD L0f
  rw [List.find?_cons]
  by_cases e : y = start
  · subst e
    rw [decide_eq_true rfl, if_pos rfl]; rfl
  · rw [decide_eq_false (show ¬ (kI start = kI y) from fun h => e (Sum.inl.inj h).symm), if_neg e]; rfl
theorem len0 (start : Int) (B : Nat) : LenB (L0f start) B := fun y l hy => by
  unfold L0f at hy
  by_cases e : y = start
  · rw [if_pos e] at hy; cases hy; exact Nat.zero_le _
  · rw [if_neg e] at hy; cases hy
local macro_rules | `(tactic| walk_at "tg") => `(tactic| repeat (first | (with_reducible refine' s_gC ?_) | ((with_reducible refine' s_gT ?e ?_); (case e => rfl)) | (with_reducible refine' s_gN ?_) | ((with_reducible refine' And.intro ?r ?_); (case r => with_reducible rfl))))
section
variable {P : Program} {w : World} {K : PySem.W.Frag} {mg : Str → Option Value} {base : Heap}
def parsD (C : Addr) (ps : List Par) : D := .lst (ps.map (dPar C))
abbrev s_least_labels : Stmt := (topS 12)
theorem sc_least_labels : FnScope ["parcels", "start", "free", "labels", "settled", "number", "parcel", "base", "price", "count", "row", "cost", "label"] ["parcels", "start", "free"] (defScope s_least_labels) := ⟨rfl, rfl, rfl, by decide +kernel, rfl, by decide +kernel, by decide +kernel⟩

def R_labels (K : PySem.W.Frag) (C : Addr) : AFn := fun sds ms k _ => ∃ ps start free fr, sds = [.d (parsD C ps), .d (.int start), fr] ∧ FrT K fr (free.map fun n : Nat => .int n) ∧ ps.length ≤ 10 ∧ Pos ps ∧
  ∀ p kvs L, ms p = none → KvL kvs L → Done ps free start L → k (.v (.ref p)) (mu ms p (.k kvs))
theorem ok_labels (T : TopP K mg) {f : Addr} {fd : FuncData} (F : Fun K "least_labels" "least_labels" s_least_labels f fd) : FnOk P w K mg base CX0 1 f fd ["parcels", "start", "free"] (spA (R_labels K T.CP)) := by
  refine fnA F sc_least_labels (fun sds ms k x h => ?_) (by decide) fun cdv A outer s H E hr => ⟨_, _, (ass_cons (as_set 3 sc_least_labels.nd (ae_dict1 (ae_v 1) (ae_tup (aa_cons ae_int (aa_cons ae_int (aa_cons (ae_tup aa_nil) aa_nil))))))
    (ass_cons (as_set 4 sc_least_labels.nd ae_bl)
    (ass_cons (as_while PassesOwn.never (at_not (at_val (ae_v 4)))
      (ass_cons (as_set 4 sc_least_labels.nd ae_bl)
      (ass_one (as_for PassesOwn.never rfl (ai_enum (by rfl) T.enumerate (ae_v 0)) (ag_tup rfl (ags_cons (ag_name 5 sc_least_labels.nd) (ags_cons (ag_name 6 sc_least_labels.nd) ags_nil)))
        (ass_cons (as_set 7 sc_least_labels.nd (ae_ifE (at_cmp op_isN oa_isN (ae_fld T.cls_Parcel T.na_base (ae_v 6)) ae_non (nomark _)) (ae_v 1) (ae_fld T.cls_Parcel T.na_base (ae_v 6))))
        (ass_one (as_if (at_cmp (op_inA (u65 hr)) oa_in (ae_v 7) (ae_v 3) (by rfl)) (ass_cons (as_asg (ae_ix (u1 hr) (ae_v 3) (ae_v 7)) (ag_tup rfl (ags_cons (ag_name 8 sc_least_labels.nd) (ags_cons (ag_name 9 sc_least_labels.nd) (ags_cons (ag_name 10 sc_least_labels.nd) ags_nil)))))
          (ass_cons (as_set 11 sc_least_labels.nd (ae_ifE (at_cmp (op_inA (u65 hr)) oa_inT0 (ae_v 5) (ae_v 2) (by rfl)) ae_int (ae_fld T.cls_Parcel T.na_words (ae_v 6))))
          (ass_cons (as_set 12 sc_least_labels.nd (ae_tup (aa_cons (ae_bin op_addA oa_add (ae_v 8) (ae_v 11)) (aa_cons (ae_bin op_addA oa_add (ae_v 9) ae_int) (aa_cons (ae_bin op_addA oa_add (ae_v 10) (ae_tup (aa_cons (ae_v 5) aa_nil))) aa_nil)))))
          (ass_one (as_if (AW.at (aw_or (at_cmp (op_ninA (u65 hr)) oa_nin (ae_fld T.cls_Parcel T.na_result (ae_v 6)) (ae_v 3) (by rfl)) (aw_or1 (at_cmp (op_ltA (u64 hr)) oa_lt (ae_v 12) (ae_ix (u1 hr) (ae_v 3) (ae_fld T.cls_Parcel T.na_result (ae_v 6))) (nomark _))))) (ass_cons (as_put (u1 hr) (ae_v 3) (ae_fld T.cls_Parcel T.na_result (ae_v 6)) (ae_v 12))
            (ass_one (as_set 4 sc_least_labels.nd ae_bl))) ass_nil))))) ass_nil)))))))
    (ass_one (as_ret (ae_v 3)))))), fun sds ms k x h => ?_⟩
  · obtain ⟨a, b, c, d, rfl, _⟩ := h; rfl
  · obtain ⟨ps, start, free, fr, rfl, hfr, hn, hp, q⟩ := h
    dsimp only [gam]
    walk_at "go"
    refine ⟨kI start, rfl, fun p hpn => ?_⟩
    walk_at "go"
    refine ⟨fun m Γ ms' => ∃ g5 g6 g7 g8 g9 g10 g11 g12 L kvs st j, Γ = [some (.d (parsD T.CP ps)), some (.d (.int start)), some fr, some (.v (.ref p)), some (.d (.bl st)), g5, g6, g7, g8, g9, g10, g11, g12] ∧ ms' = mu ms p (.k kvs) ∧
      KvL kvs L ∧ InvA ps free start L ∧ LenB L (j * ps.length) ∧ kvs.length ≤ 1 + j * ps.length ∧ (st = false → Reach ps free start L j ∧ j ≤ ps.length ∧ m = ps.length + 1 - j) ∧ (st = true → Done ps free start L ∧ m = 0),
      ⟨ps.length + 1, none, none, none, none, none, none, none, none, L0f start, [(kI start, .tup [.int 0, .int 0, .tup []])], false, 0, rfl, rfl, kv0 start, inv0, len0 start _, by simp, fun _ => ⟨reach0, Nat.zero_le _, by omega⟩, fun h => by cases h⟩, ?_⟩
    · rintro m Γ ms' ⟨g5, g6, g7, g8, g9, g10, g11, g12, L0, kvs0, st, j, rfl, rfl, hkv, hA, hlb, hkl, hsf, hst⟩
      walk_at "go"
      cases st with
      | true =>
        refine s_iteF rfl ?_
        walk_at "go"
        exact Out.here (q p kvs0 L0 hpn hkv (hst rfl).1)
      | false =>
        obtain ⟨hre, hj, rfl⟩ := hsf rfl
        refine s_iteT rfl ?_
        walk_at "go"
        refine ⟨_, rfl, ?_⟩
        have hjn : j * ps.length ≤ 100 := Nat.le_trans (Nat.mul_le_mul (Nat.le_trans hj hn) hn) (by decide)
        refine forR_inv (fun t Γ ms' => ∃ g5 g6 g7 g8 g9 g10 g11 g12 L kvs st, Γ = [some (.d (parsD T.CP ps)), some (.d (.int start)), some fr, some (.v (.ref p)), some (.d (.bl st)), g5, g6, g7, g8, g9, g10, g11, g12] ∧ ms' = mu ms p (.k kvs) ∧
          KvL kvs L ∧ L = ((List.range ps.length).take t).foldl (stepR ps free start) L0 ∧ InvA ps free start L ∧ LenB L (j * ps.length + t) ∧ kvs.length ≤ 1 + j * ps.length + t ∧ (st = true → L = L0) ∧ (st = false → ¬ Reach ps free start L0 ps.length))
          ⟨g5, g6, g7, g8, g9, g10, g11, g12, L0, kvs0, true, rfl, rfl, hkv, by simp, hA, hlb.mono (by omega), by omega, fun _ => rfl, fun h => by cases h⟩ (fun t d Γ m1 hd hP N hN => ?_) fun Γ m1 hP => ?_
        · obtain ⟨g5, g6, g7, g8, g9, g10, g11, g12, L, kvs, st, rfl, rfl, hkv, hL, hA, hlb, hkl, hs1, hs2⟩ := hP
          obtain ⟨e, he, rfl⟩ := enum_get hd
          rw [List.getElem?_map] at he
          cases hpt : ps[t]? with
          | none => rw [hpt] at he; cases he
          | some pt =>
          rw [hpt] at he
          cases he
          have ht : t < ps.length := (List.getElem?_eq_some_iff.mp hpt).1
          have hLn : ((List.range ps.length).take (t + 1)).foldl (stepR ps free start) L0 = stepR ps free start L t := by
            rw [List.take_add_one, List.foldl_append, ← hL, List.getElem?_range ht]; rfl
          rw [hLn] at hN
          have hc : candP ps free start L t = (L (pt.base.getD start)).map fun l => (pt.result, extP ps free l t) := by unfold candP; rw [hpt]; rfl
          clear hL hLn
          walk_at "tg"
          (with_reducible refine' s_seq ?_)
          refine s_setN (fun sd ms1 => sd = .d (.int (pt.base.getD start)) ∧ ms1 = mu ms p (.k kvs)) (fun K1 hK => ?_) (fun sd ms1 h => ?_)
          · walk_at "go"
            refine s_fldP rfl ?_
            walk_at "go"
            rw [isN_oD, Bool.false_xor]
            refine s_ite (fun e => ?_) (fun e => ?_)
            · walk_at "go"
              rw [of_decide_eq_true e] at hK
              exact hK _ _ ⟨rfl, rfl⟩
            · walk_at "go"
              refine s_fldP rfl ?_
              cases hb : pt.base with
              | none => rw [hb] at e; cases e
              | some b => rw [hb] at hK; exact hK _ _ ⟨rfl, rfl⟩
          obtain ⟨rfl, rfl⟩ := h
          walk_at "go"
          refine s_inK mu_same ?_
          walk_at "go"
          rw [hkv, Bool.false_xor]
          cases hb : L (pt.base.getD start) with
          | none =>
            have e : stepR ps free start L t = L := by unfold stepR; rw [hc, hb]; rfl
            refine s_iteF rfl ?_
            walk_at "go"
            refine hN _ _ ⟨_, _, _, _, _, _, _, _, L, kvs, st, rfl, rfl, hkv, e.symm, hA, hlb.mono (by omega), by omega, hs1, hs2⟩
          | some l =>
            rw [hb] at hc
            have hc : candP ps free start L t = some (pt.result, extP ps free l t) := hc
            have hll : l.2.2.length ≤ j * ps.length + t := hlb _ _ hb
            refine s_iteT rfl ?_
            walk_at "go"
            refine s_ixK mu_same (by rw [hkv, hb]; rfl) ?_
            unfold lD
            walk_at "tg"
            (with_reducible refine' s_seq ?_)
            refine s_setN (fun sd ms1 => sd = .d (.int (cost ps free t)) ∧ ms1 = mu ms p (.k kvs)) (fun K1 hK => ?_) (fun sd ms1 h => ?_)
            · walk_at "go"
              refine s_inT0 hfr ?_
              walk_at "go"
              rw [cost_get hpt] at hK
              refine s_ite (fun e => ?_) (fun e => ?_)
              · rw [if_pos (by simpa using e)] at hK
                exact hK _ _ ⟨rfl, rfl⟩
              · rw [if_neg (by simpa using e)] at hK
                walk_at "go"
                refine s_fldP rfl ?_
                exact hK _ _ ⟨rfl, rfl⟩
            obtain ⟨rfl, rfl⟩ := h
            unfold nT
            walk_at "go"
            refine s_addT (small_len (by rw [List.length_map]; simp only [List.length_cons, List.length_nil]; omega)) ?_
            rw [show (l.2.2.map fun n : Nat => D.int n) ++ [D.int t] = (l.2.2 ++ [t]).map fun n : Nat => D.int n by simp, show ((l.2.1 : Int) + 1) = ((l.2.1 + 1 : Nat) : Int) by omega]
            walk_at "up"
            dsimp only
            refine s_ifN (fun b ms1 => b = betterP L pt.result (extP ps free l t) ∧ ms1 = mu ms p (.k kvs)) (fun K1 hK => ?_) (fun ms1 h => ?_) (fun ms1 h => ?_)
            · walk_at "go"
              refine s_fldP rfl ?_
              walk_at "go"
              refine s_inK mu_same ?_
              walk_at "go"
              rw [hkv, Bool.true_xor]
              unfold betterP at hK
              cases hr : L pt.result with
              | none =>
                rw [hr] at hK
                refine s_iteT rfl ?_
                exact hK _ _ ⟨rfl, rfl⟩
              | some l2 =>
                rw [hr] at hK
                refine s_iteF rfl ?_
                walk_at "go"
                refine s_fldP rfl ?_
                walk_at "go"
                refine s_ixK mu_same (by rw [hkv, hr]; rfl) ?_
                refine s_ltLab (a := extP ps free l t) (b := l2) ?_
                walk_at "go"
                exact hK _ _ ⟨rfl, rfl⟩
            · obtain ⟨hbt, rfl⟩ := h
              have e : stepR ps free start L t = updL L pt.result (extP ps free l t) := by unfold stepR; rw [hc]; dsimp only; rw [if_pos hbt.symm]
              have hA' := step_inv (i := t) hp hA
              rw [e] at hN hA'
              walk_at "go"
              refine s_fldP rfl ?_
              walk_at "go"
              refine s_putK mu_same (Nat.lt_of_le_of_lt hkl (Nat.lt_of_lt_of_le (show _ < 1000 by omega) (by decide))) ?_
              rw [mu_mu]
              walk_at "go"
              refine hN _ _ ⟨_, _, _, _, _, _, _, _, _, _, false, rfl, rfl, hkv.put pt.result (extP ps free l t), rfl, hA', fun y l3 hy => ?_, ?_, (fun h => by cases h), fun _ hR => ?_⟩
              · unfold updL at hy
                split at hy
                · cases hy
                  show (l.2.2 ++ [t]).length ≤ _
                  rw [List.length_append]; simp only [List.length_cons, List.length_nil]; omega
                · have := hlb y l3 hy; omega
              · exact Nat.le_trans (len_putD _ _ _) (by omega)
              · cases st with
                | false => exact hs2 rfl hR
                | true =>
                  have e0 := hs1 rfl
                  subst e0
                  rw [no_better hp hA hR hc] at hbt
                  cases hbt
            · obtain ⟨hbt, rfl⟩ := h
              have e : stepR ps free start L t = L := by unfold stepR; rw [hc]; dsimp only; rw [← hbt]; rfl
              refine hN _ _ ⟨_, _, _, _, _, _, _, _, L, kvs, st, rfl, rfl, hkv, e.symm, hA, hlb.mono (by omega), by omega, hs1, hs2⟩
        · obtain ⟨g5, g6, g7, g8, g9, g10, g11, g12, L, kvs, st, rfl, rfl, hkv, hL, hA', hlb, hkl, hs1, hs2⟩ := hP
          rw [enum_len, List.length_map] at hL hlb hkl
          rw [List.take_of_length_le (by rw [List.length_range]; exact Nat.le_refl _)] at hL
          have hL : L = passR ps free start L0 := hL
          have hR := pass_reach hp hA hre
          rw [← hL] at hR
          cases st with
          | true =>
            have e := hs1 rfl
            rw [e] at hL hkv hA' hlb
            exact ⟨0, by omega, _, _, _, _, _, _, _, _, L0, kvs, true, j + 1, rfl, rfl, hkv, hA', hlb.mono (by rw [Nat.succ_mul]; exact Nat.le_refl _), by rw [Nat.succ_mul]; omega, (fun h => by cases h), fun _ => ⟨done_of hp hA hre hL.symm, rfl⟩⟩
          | false =>
            have hne : j ≠ ps.length := fun e => hs2 rfl (e ▸ hre)
            exact ⟨ps.length + 1 - (j + 1), by omega, _, _, _, _, _, _, _, _, L, kvs, false, j + 1, rfl, rfl, hkv, hA', hlb.mono (by rw [Nat.succ_mul]; exact Nat.le_refl _), by rw [Nat.succ_mul]; omega, fun _ => ⟨hR, by omega, rfl⟩, fun h => by cases h⟩
end
end R77

/-! ## Exc77 -/
set_option Elab.async false
set_option linter.all false
set_option maxRecDepth 100000
set_option maxHeartbeats 2000000
namespace PySem
namespace X_TooMany
open PySem.W PySem.Calls PyProof.Rows PySem.HandSPX
/-! ### the text of __init__ -/
def iA (p1 p2 : Pos) : Arguments := { posonlyargs := [], args := [{ arg := "self", annotation := none, pos := p1 }, { arg := "limit", annotation := none, pos := p2 }], vararg := none, kwonlyargs := [], kw_defaults := [], kwarg := none, defaults := [] }
def iB (q1 q2 q3 q4 : Pos) : List Stmt := [.Assign [.Attribute (.Name "self" q1) "limit" q2] (.Name "limit" q3) q4]
def iS : Scope := { kind := .function, names := [(PySem.Str.ofString "self", .local), (PySem.Str.ofString "limit", .local)], isGenerator := false, isCoroutine := false, more := [] }
/-- what the written part says of Low, at C, and of its __init__, at fI -/
structure Txt_TooMany (K : Frag) (mg : Str → Option Value) (C fI : Addr) : Prop where
  gC : mg "TooMany" = some (.ref C)
  cls : ∃ nm q N bs bm sn sub ab col dd k0 k1 k2 k3 k5, K.lookup C = some (excClassObj nm q C N bs bm true sn sub ab col dd k0 k1 k2 k3 k5 "ValueError.__new__") ∧ refsVE bm = true
  sa : findIn K (.ref C) "__setattr__" = some (some (.builtin "object.__setattr__"))
  ga : findIn K (.ref C) "__getattribute__" = some (some (.builtin "BaseException.__getattribute__"))
  gg : findIn K (.ref C) "__getattr__" = some none
  noN : findIn K (.ref C) "limit" = some none
  iC : findIn K (.ref C) "__init__" = some (some (.ref fI))
  tC : typeIn K (.ref fI) = some (.type "function")
  kC : keepIn K (.ref C) = true
  exC : subIn K (.ref C) (.type "BaseException") = some true
  tyC : typeIn K (.ref C) = some (.type "type")
  hdC : hasDictIn K C = true
  te : exmOne K (.ref C) (.ref C) = some true
  fn : ∃ (oc : Value) (od : Option Addr) (doc pm : Value) (an : Option Addr) (cdv ct : Value) (osl : Array (Option Value)) (p1 p2 q1 q2 q3 q4 : Pos),
    K.lookup fI = some ⟨oc, od, .func (fnOf "__init__" "TooMany.__init__" (iA p1 p2) (iB q1 q2 q3 q4) iS .none .none doc pm an cdv ct), osl⟩ ∧ codeIn K cdv "TooMany.__init__" = true
theorem one_size (v : Value) : [v].length ≤ sizeLine := by
  rw [sizeLine_eq]
  exact (by decide : 1 ≤ 16777216)
theorem kept_but {K : Frag} {h h' : Heap} {x : Addr} (X : K.In h) (hx : K.lookup x = none) (k : ∀ b o, b ≠ x → h.get? b = some o → h'.get? b = some o) : K.In h' := fun a o e =>
  k a o (fun z => by rw [z, hx] at e; cases e) (X a o e)
theorem ldC {M : Model} {s : Shared} {name : Str} {scope : Scope} {L a : Addr} {cd : Value} {m : Str → Option Value} {x : Str} {pos : Pos} {v : Value} {Q : Value → Shared → Prop} {A : Around} {E : Value → Shared → Prop} (hn : s.heap.Ns L m) (hv : m x = some v) (h : Q v s)
    (hk : scope.kind = .function := by rfl) (hl : (envOfC name scope L a cd).kindOf x = some .local := by rfl) (hd : (x == ("__debug__" : Str)) = false := by decide) :
    wpAny M A (eval (.Name x pos) (envOfC name scope L a cd)) Q E s := wpAny_Name (wpAny_loadName_local hk hl hn hv h) hd
/-- what __init__ leaves of a fresh exception at x -/
structure InitEnd (h h' : Heap) (x C dx t1 : Addr) (v : Value) : Prop where
  keep : ∀ b o, b ≠ x → h.get? b = some o → h'.get? b = some o
  obj : h'.get? x = some { cls := .ref C, dict := some dx, data := .fields #[.ref t1, .none, .none, .none, .bool false, .none] }
  dbig : h.objs.size ≤ dx
  dne : dx ≠ x
  ns : h'.Ns1 dx (fun y => if y = "limit" then some v else none)
/-- a made Low -/
structure OwnMade (h h' : Heap) (e C d : Addr) (v : Value) : Prop where
  keep : ∀ b o, h.get? b = some o → h'.get? b = some o
  new : h.objs.size ≤ e
  obj : ∃ oe vs, h'.get? e = some oe ∧ oe.cls = .ref C ∧ oe.dict = some d ∧ oe.data = .fields vs ∧ vs[1]? = some .none
  dbig : h.objs.size ≤ d
  dne : d ≠ e
  ns : h'.Ns1 d (fun y => if y = "limit" then some v else none)
section
variable {prog : Program} {w : World} {A : Around} {E : Value → Shared → Prop} {R : Result → Shared → Prop} {s : Shared} {K : Frag} {mg : Str → Option Value} {C fI : Addr}
theorem low_init_TooMany (T : Txt_TooMany K mg C fI) {x t0 : Addr} {v : Value} (X : K.In s.heap) (hlim : s.heap.NoLimit) (hx : s.heap.get? x = some (excO C t0)) (hnx : K.lookup x = none) (hroom : A.depth < recursionLimit)
    (hq : ∀ h' tk dx, InitEnd s.heap h' x C dx t0 v → R (.ok (.ret .none)) { s with heap := h', toks := tk }) :
    codeAny (model prog w) A (.call (.ref fI) ⟨[.ref x, v], []⟩) R s := by
  obtain ⟨oc, od, doc, pm, an, cdv, ct, osl, p1, p2, q1, q2, q3, q4, ho, hcd⟩ := T.fn
  obtain ⟨nm, q, N, bs, bm, sn, sub, ab, col, dd, k0, k1, k2, k3, k5, hC, hbm⟩ := T.cls
  have hcl : clsIn K C = some { name := nm, bases := bs, mro := .ref C :: bm, ns := N, qualname := q, hasDict := true, slotNames := sn, subclasses := sub, abstract := ab, collection := col, hasDel := false } := by unfold clsIn; rw [hC] <;> rfl
  refine Att.call_fn (binds := [("self", .ref x), ("limit", v)]) X hlim ho hcd hroom (BindsTo.of_eq (by first | rfl | with_unfolding_all rfl)) (by first | rfl | decide | with_unfolding_all rfl) (fun s₁ IC => ?_) rfl rfl rfl
  obtain ⟨h₁, tk₁, rfl⟩ := IC.toInCall.same
  have k : ∀ b o, s.heap.get? b = some o → h₁.get? b = some o := IC.toInCall.keep
  have hn := IC.toInCall.ns
  have hxL : s.heap.objs.size ≠ x := Nat.ne_of_gt (Heap.lt_size hx)
  have X₁ : K.In h₁ := X.keeps k
  have hx₁ := k _ _ hx
  -- self.by = by
  show wpAny _ _ (execs _ _) _ _ _
  refine wpAny_execs_cons (plainObj_wpAny_Assign_Attribute ?_)
  refine ldC (v := v) hn (by first | rfl | with_unfolding_all rfl | kernel_rfl) (ldC (v := .ref x) hn (by first | rfl | with_unfolding_all rfl | kernel_rfl) ?_)
  refine set_plain X₁ (ox := excO C t0) (od := none) ⟨hx₁, rfl, rfl, trivial⟩ T.sa ?_
  refine exc_osa X₁ hx₁ hcl (show refsVE (.ref C :: bm) = true from hbm) rfl T.noN (fun h₃ tk₃ dx k₃ dn dne hx₃ hn₃ => ?_)
  show wpAny _ _ (execs _ _) _ _ _
  have z : s.heap.objs.size < h₁.objs.size := hn.lt
  exact wpAny_execs_nil (hq h₃ tk₃ dx ⟨fun b o hb e => k₃ b o hb (k b o e), hx₃, Nat.le_of_lt (Nat.lt_of_lt_of_le z dn), dne, hn₃⟩)
theorem low_made_TooMany (T : Txt_TooMany K mg C fI) {v : Value} (X : K.In s.heap) (hlim : s.heap.NoLimit) (hroom : A.depth + 1 < recursionLimit)
    (hq : ∀ h' tk e d, OwnMade s.heap h' e C d v → R (.ok (.ret (.ref e))) { s with heap := h', toks := tk }) :
    codeAny (model prog w) A (.call (.ref C) ⟨[v], []⟩) R s := by
  obtain ⟨nm, q, N, bs, bm, sn, sub, ab, col, dd, k0, k1, k2, k3, k5, hC, hbm⟩ := T.cls
  obtain ⟨hp, g, dr, tk, os⟩ := s
  have k : ∀ b o, hp.get? b = some o → ((hp.push (kdv_tup [v])).push (excO C hp.objs.size)).get? b = some o := fun b o e => Heap.get?_push_of_some _ (Heap.get?_push_of_some _ e)
  have hget : ((hp.push (kdv_tup [v])).push (excO C hp.objs.size)).get? (hp.objs.size + 1) = some (excO C hp.objs.size) := by heap_get
  have hnx : K.lookup (hp.objs.size + 1) = none := by
    cases e : K.lookup (hp.objs.size + 1) with
    | none => rfl
    | some o =>
      have z : hp.get? (hp.objs.size + 1) = some o := X _ _ e
      exact absurd (Nat.lt_of_succ_lt (Heap.lt_size z)) (Nat.lt_irrefl _)
  refine call_own F.excBase_ValueError (fun X => refsVE_contains X bm hbm) (X _ _ hC) (looks_findIn X T.iC) (fun self => bind_fn X self T.tC) (one_size v) ?_
  refine low_init_TooMany (s := ⟨(hp.push (kdv_tup [v])).push (excO C hp.objs.size), g, dr, tk, os⟩) T (X.keeps k) (hlim.keeps k) hget hnx ?_ fun h' tk' dx ⟨k', hx, dn, dne, hns⟩ => ?_
  · show A.depth + 1 < recursionLimit
    exact hroom
  · have old : ∀ b o, hp.get? b = some o → h'.get? b = some o := fun b o e => k' b o (Nat.ne_of_lt (Nat.lt_succ_of_lt (Heap.lt_size e))) (k b o e)
    have z : hp.objs.size + 1 + 1 ≤ dx := by
      first
        | (simpa only [Heap.size_push] using dn)
        | exact dn
        | (have q := dn; rw [Heap.size_push, Heap.size_push] at q; exact q)
    exact ⟨rfl, hq h' tk' (hp.objs.size + 1) dx ⟨old, Nat.le_succ _, ⟨_, _, hx, rfl, rfl, rfl, rfl⟩, Nat.le_trans (Nat.le_trans (Nat.le_succ _) (Nat.le_succ _)) z, dne, hns⟩⟩
end
end X_TooMany
end PySem
namespace L2
open PySem PySem.Spec PyProof.Rows
theorem relO_low_TooMany {v : V} {v' : Value} (r : RelV v v') (f : Str) : RelO (List.lookup f [(("limit" : Str), v)]) (if f = "limit" then some v' else none) := by
  by_cases hw : f = "limit"
  · subst hw
    rw [if_pos rfl]
    have q : List.lookup ("limit" : Str) [(("limit" : Str), v)] = some v := by simp [List.lookup]
    rw [q]
    exact r
  · rw [if_neg hw]
    have qw : (f == ("limit" : Str)) = false := by simpa using hw
    have q2 : List.lookup f [(("limit" : Str), v)] = none := by simp [List.lookup, qw]
    rw [q2]
    trivial
section
variable {X : Cx} {C fI : Addr}
/-- Low(e) -/
def tMkLow_TooMany (C : Addr) (ta : TA) : St → Hp → XK → Prop := fun σ H Q => ta σ H fun vs H1 => ∃ v, vs = [v] ∧ ∀ d, H1 d = none → Q (.ref C) (some d) (upd H1 d (.xd [(("limit" : Str), v)]))
theorem pmk_low_TooMany {a : Expr} {ta : TA} {p pos : Pos} {k : Nat} (T : PySem.X_TooMany.Txt_TooMany X.K X.mg C fI) (hr : Room k X.A) (ha : PA X [a] ta) (hg : Gl X "TooMany" := by rfl)
    (he : starEach (a :: []) X.env = (false, eval a X.env) :: starEach [] X.env := by rfl) (hpl : (backTo pos (starEach [] X.env)).any (·.1) = false := by rfl) :
    PMk X (.Call (.Name "TooMany" p) [a] [] pos) (tMkLow_TooMany C ta) := by
  intro pins s σ H Q I h
  refine wpAny_Call_Name_kw (ld_glob I hg T.gC ?_)
  refine PySem.W.callWith_K (h₀ := X.base) I.ok.mod.kin T.kC (thn (ha.run pos pins s σ H _ I h) fun us s1 hh => ?_) he hpl
  obtain ⟨vs, H1, I1, r1, v, ev, q1⟩ := hh
  subst ev
  refine ⟨I1.kIn, ?_⟩
  cases r1 with
  | cons rv rn =>
    rename_i v' us'
    cases rn
    show wpAny _ _ (call (.ref C) [v']) _ _ _
    have hlim := I1.nolimit
    obtain ⟨hp, g, dr, tk, os⟩ := s1
    refine wpAny_call (PySem.X_TooMany.low_made_TooMany T I1.kIn hlim (by have := hr.dp; omega) fun h' tk' e d M => ?_)
    show MkP X pins σ Q (.ref e) ⟨h', g, dr, tk', os⟩
    obtain ⟨oe, fv, hoe, hc, hd, hdat, h1⟩ := M.obj
    have hns := M.ns
    obtain ⟨G', g1, g2⟩ := restrict h' fun b => decide (b ≠ e)
    have gk : ∀ b, b ≠ e → G'.get? b = h'.get? b := fun b hb => g1 b (decide_eq_true hb)
    have ge : G'.get? e = none := g2 e (by simp)
    have old : ∀ b o, hp.get? b = some o → G'.get? b = some o := fun b o q => (gk b (Nat.ne_of_lt (Nat.lt_of_lt_of_le (Heap.lt_size q) M.new))).trans (M.keep b o q)
    have ob : ObjOk X.prog X.w (upd H1 d (.xd [(("limit" : Str), v)])) G' d (.xd [(("limit" : Str), v)]) :=
      ⟨_, hns.at (fun o q => (gk d M.dne).trans q), fun f => relO_low_TooMany rv f⟩
    have J : Inv X pins σ (upd H1 d (.xd [(("limit" : Str), v)])) ⟨G', g, dr, tk', os⟩ := I1.laid (t' := tk') old M.dbig ob
    refine ⟨e, oe, fv, ⟨G', g, dr, tk', os⟩, _, .ref C, some d, rfl, J, fun b o q => ?_, ge, hoe, ⟨hc, hd⟩, hdat, h1, ?_, rfl, I1.bare, raises_own T.exC T.tyC, q1 d (I1.hok.fresh M.dbig)⟩
    · by_cases hb : b = e
      · have q' : G'.get? b = some o := q
        rw [hb, ge] at q'; cases q'
      · exact (gk b hb).symm.trans q
    · rw [upd_ne (Ne.symm M.dne)]
      exact I1.hok.fresh M.new
/-- raise Low(e) -/
def tRaiseLow_TooMany (C : Addr) (W : WX) (ta : TA) : TS := fun _ σ H => tMkLow_TooMany C ta σ H fun cls d H' => W cls d σ H'
theorem ps_raiseLow_TooMany {a : Expr} {ta : TA} {W : WX} {p pos pos2 : Pos} {k : Nat} (hc : X.calm = true) (T : PySem.X_TooMany.Txt_TooMany X.K X.mg C fI) (hr : Room k X.A) (tk : Takes X W) (ha : PA X [a] ta) (hg : Gl X "TooMany" := by rfl)
    (he : starEach (a :: []) X.env = (false, eval a X.env) :: starEach [] X.env := by rfl) (hpl : (backTo pos (starEach [] X.env)).any (·.1) = false := by rfl) :
    PS X (.Raise (some (.Call (.Name "TooMany" p) [a] [] pos)) none pos2) (tRaiseLow_TooMany C W ta) := ps_raise hc tk (pmk_low_TooMany T hr ha hg he hpl)
/-- low.by, low the exception that the suite holds (at a; its class cls, its dict d) -/
def tByLow_TooMany (C : Addr) (a : Addr) (cls : Value) (d : Option Addr) (te : TE) : TE := fun σ H Q => te σ H fun x H1 => x = .ref a ∧ cls = .ref C ∧ ∃ (dd : Addr) (v : V), d = some dd ∧ H1 dd = some (.xd [(("limit" : Str), v)]) ∧ Q v H1
theorem pe_byLow_TooMany {a : Addr} {oe : Obj} {cls : Value} {d : Option Addr} {pn : List (Addr × Obj)} {e : Expr} {te : TE} {pos : Pos} (T : PySem.X_TooMany.Txt_TooMany X.K X.mg C fI) (hz : Zc cls d oe) (hf : ∃ vs, oe.data = .fields vs) (he : PE (X.suite a ((a, oe) :: pn)) e te)
    (hb : attributeBase e "limit" X.env (eval e X.env) = eval e X.env := by rfl) :
    PE (X.suite a ((a, oe) :: pn)) (.Attribute e "limit" pos) (tByLow_TooMany C a cls d te) := by
  refine ⟨fun pins s σ H Q I h => ?_⟩
  refine attr_of hb (thn (he.run pins s σ H _ I h) fun u s1 hh => ?_)
  obtain ⟨x, H1, I1, rx, ex, ec, dd, v, ed, ea, q⟩ := hh
  subst ex
  obtain rfl : u = Value.ref a := rx
  subst ec
  subst ed
  obtain ⟨ha, _⟩ := I1.pin (a, oe) (List.mem_append_left _ List.mem_cons_self)
  obtain ⟨vs, hd⟩ := hf
  have hx : ObjOk X.prog X.w H1 s1.heap dd (.xd [(("limit" : Str), v)]) := I1.hok dd _ ea
  obtain ⟨mA, hns, hr⟩ := hx
  obtain ⟨od, ho, hl⟩ := lookIn_ns hns
  have l : List.lookup ("limit" : Str) [(("limit" : Str), v)] = some v := by simp [List.lookup]
  obtain ⟨u, hu, ru⟩ := RelO.some_of (v := v) (o := mA "limit") (by rw [← l]; exact hr "limit")
  have J : PySem.W.InstAt s1.heap a oe C (some od) := ⟨ha, hz.1, by unfold PySem.W.notCls; rw [hd] <;> rfl, by rw [hz.2]; exact ho⟩
  exact HandSPX.exc_get I1.kIn J T.ga T.gg T.exC (PySem.W.findObj_own T.hdC T.noN rfl (by rw [hl, hu])) (handed_of ru) ⟨v, H1, I1.tok _, ru, q⟩
end
end L2


namespace PySem
namespace X_NoRow
open PySem.W PySem.Calls PyProof.Rows PySem.HandSPX
/-! ### the text of __init__ -/
def iA (p1 p2 : Pos) : Arguments := { posonlyargs := [], args := [{ arg := "self", annotation := none, pos := p1 }, { arg := "start", annotation := none, pos := p2 }], vararg := none, kwonlyargs := [], kw_defaults := [], kwarg := none, defaults := [] }
def iB (q1 q2 q3 q4 : Pos) : List Stmt := [.Assign [.Attribute (.Name "self" q1) "start" q2] (.Name "start" q3) q4]
def iS : Scope := { kind := .function, names := [(PySem.Str.ofString "self", .local), (PySem.Str.ofString "start", .local)], isGenerator := false, isCoroutine := false, more := [] }
/-- what the written part says of Low, at C, and of its __init__, at fI -/
structure Txt_NoRow (K : Frag) (mg : Str → Option Value) (C fI : Addr) : Prop where
  gC : mg "NoRow" = some (.ref C)
  cls : ∃ nm q N bs bm sn sub ab col dd k0 k1 k2 k3 k5, K.lookup C = some (excClassObj nm q C N bs bm true sn sub ab col dd k0 k1 k2 k3 k5 "ValueError.__new__") ∧ refsVE bm = true
  sa : findIn K (.ref C) "__setattr__" = some (some (.builtin "object.__setattr__"))
  ga : findIn K (.ref C) "__getattribute__" = some (some (.builtin "BaseException.__getattribute__"))
  gg : findIn K (.ref C) "__getattr__" = some none
  noN : findIn K (.ref C) "start" = some none
  iC : findIn K (.ref C) "__init__" = some (some (.ref fI))
  tC : typeIn K (.ref fI) = some (.type "function")
  kC : keepIn K (.ref C) = true
  exC : subIn K (.ref C) (.type "BaseException") = some true
  tyC : typeIn K (.ref C) = some (.type "type")
  hdC : hasDictIn K C = true
  te : exmOne K (.ref C) (.ref C) = some true
  fn : ∃ (oc : Value) (od : Option Addr) (doc pm : Value) (an : Option Addr) (cdv ct : Value) (osl : Array (Option Value)) (p1 p2 q1 q2 q3 q4 : Pos),
    K.lookup fI = some ⟨oc, od, .func (fnOf "__init__" "NoRow.__init__" (iA p1 p2) (iB q1 q2 q3 q4) iS .none .none doc pm an cdv ct), osl⟩ ∧ codeIn K cdv "NoRow.__init__" = true
theorem one_size (v : Value) : [v].length ≤ sizeLine := by
  rw [sizeLine_eq]
  exact (by decide : 1 ≤ 16777216)
theorem kept_but {K : Frag} {h h' : Heap} {x : Addr} (X : K.In h) (hx : K.lookup x = none) (k : ∀ b o, b ≠ x → h.get? b = some o → h'.get? b = some o) : K.In h' := fun a o e =>
  k a o (fun z => by rw [z, hx] at e; cases e) (X a o e)
theorem ldC {M : Model} {s : Shared} {name : Str} {scope : Scope} {L a : Addr} {cd : Value} {m : Str → Option Value} {x : Str} {pos : Pos} {v : Value} {Q : Value → Shared → Prop} {A : Around} {E : Value → Shared → Prop} (hn : s.heap.Ns L m) (hv : m x = some v) (h : Q v s)
    (hk : scope.kind = .function := by rfl) (hl : (envOfC name scope L a cd).kindOf x = some .local := by rfl) (hd : (x == ("__debug__" : Str)) = false := by decide) :
    wpAny M A (eval (.Name x pos) (envOfC name scope L a cd)) Q E s := wpAny_Name (wpAny_loadName_local hk hl hn hv h) hd
/-- what __init__ leaves of a fresh exception at x -/
structure InitEnd (h h' : Heap) (x C dx t1 : Addr) (v : Value) : Prop where
  keep : ∀ b o, b ≠ x → h.get? b = some o → h'.get? b = some o
  obj : h'.get? x = some { cls := .ref C, dict := some dx, data := .fields #[.ref t1, .none, .none, .none, .bool false, .none] }
  dbig : h.objs.size ≤ dx
  dne : dx ≠ x
  ns : h'.Ns1 dx (fun y => if y = "start" then some v else none)
/-- a made Low -/
structure OwnMade (h h' : Heap) (e C d : Addr) (v : Value) : Prop where
  keep : ∀ b o, h.get? b = some o → h'.get? b = some o
  new : h.objs.size ≤ e
  obj : ∃ oe vs, h'.get? e = some oe ∧ oe.cls = .ref C ∧ oe.dict = some d ∧ oe.data = .fields vs ∧ vs[1]? = some .none
  dbig : h.objs.size ≤ d
  dne : d ≠ e
  ns : h'.Ns1 d (fun y => if y = "start" then some v else none)
section
variable {prog : Program} {w : World} {A : Around} {E : Value → Shared → Prop} {R : Result → Shared → Prop} {s : Shared} {K : Frag} {mg : Str → Option Value} {C fI : Addr}
theorem low_init_NoRow (T : Txt_NoRow K mg C fI) {x t0 : Addr} {v : Value} (X : K.In s.heap) (hlim : s.heap.NoLimit) (hx : s.heap.get? x = some (excO C t0)) (hnx : K.lookup x = none) (hroom : A.depth < recursionLimit)
    (hq : ∀ h' tk dx, InitEnd s.heap h' x C dx t0 v → R (.ok (.ret .none)) { s with heap := h', toks := tk }) :
    codeAny (model prog w) A (.call (.ref fI) ⟨[.ref x, v], []⟩) R s := by
  obtain ⟨oc, od, doc, pm, an, cdv, ct, osl, p1, p2, q1, q2, q3, q4, ho, hcd⟩ := T.fn
  obtain ⟨nm, q, N, bs, bm, sn, sub, ab, col, dd, k0, k1, k2, k3, k5, hC, hbm⟩ := T.cls
  have hcl : clsIn K C = some { name := nm, bases := bs, mro := .ref C :: bm, ns := N, qualname := q, hasDict := true, slotNames := sn, subclasses := sub, abstract := ab, collection := col, hasDel := false } := by unfold clsIn; rw [hC] <;> rfl
  refine Att.call_fn (binds := [("self", .ref x), ("start", v)]) X hlim ho hcd hroom (BindsTo.of_eq (by first | rfl | with_unfolding_all rfl)) (by first | rfl | decide | with_unfolding_all rfl) (fun s₁ IC => ?_) rfl rfl rfl
  obtain ⟨h₁, tk₁, rfl⟩ := IC.toInCall.same
  have k : ∀ b o, s.heap.get? b = some o → h₁.get? b = some o := IC.toInCall.keep
  have hn := IC.toInCall.ns
  have hxL : s.heap.objs.size ≠ x := Nat.ne_of_gt (Heap.lt_size hx)
  have X₁ : K.In h₁ := X.keeps k
  have hx₁ := k _ _ hx
  -- self.by = by
  show wpAny _ _ (execs _ _) _ _ _
  refine wpAny_execs_cons (plainObj_wpAny_Assign_Attribute ?_)
  refine ldC (v := v) hn (by first | rfl | with_unfolding_all rfl | kernel_rfl) (ldC (v := .ref x) hn (by first | rfl | with_unfolding_all rfl | kernel_rfl) ?_)
  refine set_plain X₁ (ox := excO C t0) (od := none) ⟨hx₁, rfl, rfl, trivial⟩ T.sa ?_
  refine exc_osa X₁ hx₁ hcl (show refsVE (.ref C :: bm) = true from hbm) rfl T.noN (fun h₃ tk₃ dx k₃ dn dne hx₃ hn₃ => ?_)
  show wpAny _ _ (execs _ _) _ _ _
  have z : s.heap.objs.size < h₁.objs.size := hn.lt
  exact wpAny_execs_nil (hq h₃ tk₃ dx ⟨fun b o hb e => k₃ b o hb (k b o e), hx₃, Nat.le_of_lt (Nat.lt_of_lt_of_le z dn), dne, hn₃⟩)
theorem low_made_NoRow (T : Txt_NoRow K mg C fI) {v : Value} (X : K.In s.heap) (hlim : s.heap.NoLimit) (hroom : A.depth + 1 < recursionLimit)
    (hq : ∀ h' tk e d, OwnMade s.heap h' e C d v → R (.ok (.ret (.ref e))) { s with heap := h', toks := tk }) :
    codeAny (model prog w) A (.call (.ref C) ⟨[v], []⟩) R s := by
  obtain ⟨nm, q, N, bs, bm, sn, sub, ab, col, dd, k0, k1, k2, k3, k5, hC, hbm⟩ := T.cls
  obtain ⟨hp, g, dr, tk, os⟩ := s
  have k : ∀ b o, hp.get? b = some o → ((hp.push (kdv_tup [v])).push (excO C hp.objs.size)).get? b = some o := fun b o e => Heap.get?_push_of_some _ (Heap.get?_push_of_some _ e)
  have hget : ((hp.push (kdv_tup [v])).push (excO C hp.objs.size)).get? (hp.objs.size + 1) = some (excO C hp.objs.size) := by heap_get
  have hnx : K.lookup (hp.objs.size + 1) = none := by
    cases e : K.lookup (hp.objs.size + 1) with
    | none => rfl
    | some o =>
      have z : hp.get? (hp.objs.size + 1) = some o := X _ _ e
      exact absurd (Nat.lt_of_succ_lt (Heap.lt_size z)) (Nat.lt_irrefl _)
  refine call_own F.excBase_ValueError (fun X => refsVE_contains X bm hbm) (X _ _ hC) (looks_findIn X T.iC) (fun self => bind_fn X self T.tC) (one_size v) ?_
  refine low_init_NoRow (s := ⟨(hp.push (kdv_tup [v])).push (excO C hp.objs.size), g, dr, tk, os⟩) T (X.keeps k) (hlim.keeps k) hget hnx ?_ fun h' tk' dx ⟨k', hx, dn, dne, hns⟩ => ?_
  · show A.depth + 1 < recursionLimit
    exact hroom
  · have old : ∀ b o, hp.get? b = some o → h'.get? b = some o := fun b o e => k' b o (Nat.ne_of_lt (Nat.lt_succ_of_lt (Heap.lt_size e))) (k b o e)
    have z : hp.objs.size + 1 + 1 ≤ dx := by
      first
        | (simpa only [Heap.size_push] using dn)
        | exact dn
        | (have q := dn; rw [Heap.size_push, Heap.size_push] at q; exact q)
    exact ⟨rfl, hq h' tk' (hp.objs.size + 1) dx ⟨old, Nat.le_succ _, ⟨_, _, hx, rfl, rfl, rfl, rfl⟩, Nat.le_trans (Nat.le_trans (Nat.le_succ _) (Nat.le_succ _)) z, dne, hns⟩⟩
end
end X_NoRow
end PySem
namespace L2
open PySem PySem.Spec PyProof.Rows
theorem relO_low_NoRow {v : V} {v' : Value} (r : RelV v v') (f : Str) : RelO (List.lookup f [(("start" : Str), v)]) (if f = "start" then some v' else none) := by
  by_cases hw : f = "start"
  · subst hw
    rw [if_pos rfl]
    have q : List.lookup ("start" : Str) [(("start" : Str), v)] = some v := by simp [List.lookup]
    rw [q]
    exact r
  · rw [if_neg hw]
    have qw : (f == ("start" : Str)) = false := by simpa using hw
    have q2 : List.lookup f [(("start" : Str), v)] = none := by simp [List.lookup, qw]
    rw [q2]
    trivial
section
variable {X : Cx} {C fI : Addr}
/-- Low(e) -/
def tMkLow_NoRow (C : Addr) (ta : TA) : St → Hp → XK → Prop := fun σ H Q => ta σ H fun vs H1 => ∃ v, vs = [v] ∧ ∀ d, H1 d = none → Q (.ref C) (some d) (upd H1 d (.xd [(("start" : Str), v)]))
theorem pmk_low_NoRow {a : Expr} {ta : TA} {p pos : Pos} {k : Nat} (T : PySem.X_NoRow.Txt_NoRow X.K X.mg C fI) (hr : Room k X.A) (ha : PA X [a] ta) (hg : Gl X "NoRow" := by rfl)
    (he : starEach (a :: []) X.env = (false, eval a X.env) :: starEach [] X.env := by rfl) (hpl : (backTo pos (starEach [] X.env)).any (·.1) = false := by rfl) :
    PMk X (.Call (.Name "NoRow" p) [a] [] pos) (tMkLow_NoRow C ta) := by
  intro pins s σ H Q I h
  refine wpAny_Call_Name_kw (ld_glob I hg T.gC ?_)
  refine PySem.W.callWith_K (h₀ := X.base) I.ok.mod.kin T.kC (thn (ha.run pos pins s σ H _ I h) fun us s1 hh => ?_) he hpl
  obtain ⟨vs, H1, I1, r1, v, ev, q1⟩ := hh
  subst ev
  refine ⟨I1.kIn, ?_⟩
  cases r1 with
  | cons rv rn =>
    rename_i v' us'
    cases rn
    show wpAny _ _ (call (.ref C) [v']) _ _ _
    have hlim := I1.nolimit
    obtain ⟨hp, g, dr, tk, os⟩ := s1
    refine wpAny_call (PySem.X_NoRow.low_made_NoRow T I1.kIn hlim (by have := hr.dp; omega) fun h' tk' e d M => ?_)
    show MkP X pins σ Q (.ref e) ⟨h', g, dr, tk', os⟩
    obtain ⟨oe, fv, hoe, hc, hd, hdat, h1⟩ := M.obj
    have hns := M.ns
    obtain ⟨G', g1, g2⟩ := restrict h' fun b => decide (b ≠ e)
    have gk : ∀ b, b ≠ e → G'.get? b = h'.get? b := fun b hb => g1 b (decide_eq_true hb)
    have ge : G'.get? e = none := g2 e (by simp)
    have old : ∀ b o, hp.get? b = some o → G'.get? b = some o := fun b o q => (gk b (Nat.ne_of_lt (Nat.lt_of_lt_of_le (Heap.lt_size q) M.new))).trans (M.keep b o q)
    have ob : ObjOk X.prog X.w (upd H1 d (.xd [(("start" : Str), v)])) G' d (.xd [(("start" : Str), v)]) :=
      ⟨_, hns.at (fun o q => (gk d M.dne).trans q), fun f => relO_low_NoRow rv f⟩
    have J : Inv X pins σ (upd H1 d (.xd [(("start" : Str), v)])) ⟨G', g, dr, tk', os⟩ := I1.laid (t' := tk') old M.dbig ob
    refine ⟨e, oe, fv, ⟨G', g, dr, tk', os⟩, _, .ref C, some d, rfl, J, fun b o q => ?_, ge, hoe, ⟨hc, hd⟩, hdat, h1, ?_, rfl, I1.bare, raises_own T.exC T.tyC, q1 d (I1.hok.fresh M.dbig)⟩
    · by_cases hb : b = e
      · have q' : G'.get? b = some o := q
        rw [hb, ge] at q'; cases q'
      · exact (gk b hb).symm.trans q
    · rw [upd_ne (Ne.symm M.dne)]
      exact I1.hok.fresh M.new
/-- raise Low(e) -/
def tRaiseLow_NoRow (C : Addr) (W : WX) (ta : TA) : TS := fun _ σ H => tMkLow_NoRow C ta σ H fun cls d H' => W cls d σ H'
theorem ps_raiseLow_NoRow {a : Expr} {ta : TA} {W : WX} {p pos pos2 : Pos} {k : Nat} (hc : X.calm = true) (T : PySem.X_NoRow.Txt_NoRow X.K X.mg C fI) (hr : Room k X.A) (tk : Takes X W) (ha : PA X [a] ta) (hg : Gl X "NoRow" := by rfl)
    (he : starEach (a :: []) X.env = (false, eval a X.env) :: starEach [] X.env := by rfl) (hpl : (backTo pos (starEach [] X.env)).any (·.1) = false := by rfl) :
    PS X (.Raise (some (.Call (.Name "NoRow" p) [a] [] pos)) none pos2) (tRaiseLow_NoRow C W ta) := ps_raise hc tk (pmk_low_NoRow T hr ha hg he hpl)
/-- low.by, low the exception that the suite holds (at a; its class cls, its dict d) -/
def tByLow_NoRow (C : Addr) (a : Addr) (cls : Value) (d : Option Addr) (te : TE) : TE := fun σ H Q => te σ H fun x H1 => x = .ref a ∧ cls = .ref C ∧ ∃ (dd : Addr) (v : V), d = some dd ∧ H1 dd = some (.xd [(("start" : Str), v)]) ∧ Q v H1
theorem pe_byLow_NoRow {a : Addr} {oe : Obj} {cls : Value} {d : Option Addr} {pn : List (Addr × Obj)} {e : Expr} {te : TE} {pos : Pos} (T : PySem.X_NoRow.Txt_NoRow X.K X.mg C fI) (hz : Zc cls d oe) (hf : ∃ vs, oe.data = .fields vs) (he : PE (X.suite a ((a, oe) :: pn)) e te)
    (hb : attributeBase e "start" X.env (eval e X.env) = eval e X.env := by rfl) :
    PE (X.suite a ((a, oe) :: pn)) (.Attribute e "start" pos) (tByLow_NoRow C a cls d te) := by
  refine ⟨fun pins s σ H Q I h => ?_⟩
  refine attr_of hb (thn (he.run pins s σ H _ I h) fun u s1 hh => ?_)
  obtain ⟨x, H1, I1, rx, ex, ec, dd, v, ed, ea, q⟩ := hh
  subst ex
  obtain rfl : u = Value.ref a := rx
  subst ec
  subst ed
  obtain ⟨ha, _⟩ := I1.pin (a, oe) (List.mem_append_left _ List.mem_cons_self)
  obtain ⟨vs, hd⟩ := hf
  have hx : ObjOk X.prog X.w H1 s1.heap dd (.xd [(("start" : Str), v)]) := I1.hok dd _ ea
  obtain ⟨mA, hns, hr⟩ := hx
  obtain ⟨od, ho, hl⟩ := lookIn_ns hns
  have l : List.lookup ("start" : Str) [(("start" : Str), v)] = some v := by simp [List.lookup]
  obtain ⟨u, hu, ru⟩ := RelO.some_of (v := v) (o := mA "start") (by rw [← l]; exact hr "start")
  have J : PySem.W.InstAt s1.heap a oe C (some od) := ⟨ha, hz.1, by unfold PySem.W.notCls; rw [hd] <;> rfl, by rw [hz.2]; exact ho⟩
  exact HandSPX.exc_get I1.kIn J T.ga T.gg T.exC (PySem.W.findObj_own T.hdC T.noN rfl (by rw [hl, hu])) (handed_of ru) ⟨v, H1, I1.tok _, ru, q⟩
end
end L2

/-! ## K77r -/
set_option Elab.async false
set_option linter.all false
set_option maxRecDepth 100000
set_option maxHeartbeats 4000000
namespace AL
open PySem PySem.Spec PyProof.Rows L2
section
variable {P : Program} {w : World} {K : PySem.W.Frag} {mg : Str → Option Value} {base : Heap} {CX : CXT} {k : Nat} {x : Str} {f : Addr} {R : AFn}
theorem FnR.never (F : FnR P w K mg base (L2.CX P w) k f (spA R)) : FnR P w K mg base CX0 k f (spA fun sds ms kk _ => R sds ms kk noX) := fun A outer s H us vs Q E hr e0 r hs => by
  obtain ⟨sds, G, F', ms, kk, xx, a, b, c, d, _⟩ := hs
  refine codeAny_mono (F A outer s H us vs Q (fun _ _ _ => False) hr e0 r ⟨sds, G, F', ms, kk, noX, a, b, c, d, fun _ _ _ _ _ _ _ _ _ _ _ _ z => z.elim⟩) fun r s' hq => ?_
  cases r with
  | error e =>
    obtain ⟨_, _, _, _, _, _, _, _, _, _, _, _, z⟩ := (show L2.CX P w outer H s (fun _ _ _ => False) e s' from hq)
    exact z.elim
  | ok fl => cases fl <;> exact hq
/-- a def that may raise, where it does not -/
theorem FnA.never (F : FnA P w K mg base (L2.CX P w) k x R) : FnA P w K mg base CX0 k x (fun sds ms kk _ => R sds ms kk noX) := by
  obtain ⟨f, h1, h2, h3⟩ := F.ex
  exact ⟨⟨f, h1, FnR.never h2, h3⟩⟩
theorem Sub.out {sd : SD} {ms : MS} {p : Addr} {o : MO} {k : SD → MS → Prop} (hp : ms p = none) (h : k sd ms) : Out sd (AL.mu ms p o) k := .inl ⟨ms, Sub.mu hp, h⟩
end
end AL
namespace R77
open PySem PySem.Spec PyProof.Rows L2 AL
open Evl (Ex)
open R76 (topS u1 u64 u65 u80)
local macro_rules | `(tactic| walk_at "st") => `(tactic| first
  | (with_reducible refine' s_seq ?_) | (with_reducible refine' s_set ?_) | (with_reducible refine' s_nx ?_) | (with_reducible refine' s_ret ?_) | (with_reducible refine' s_drop ?_) | (with_reducible refine' s_asg ?_) | (with_reducible refine' s_for ?_) | (with_reducible refine' s_tt ?_) | (with_reducible refine' s_ff ?_) | (with_reducible refine' s_lcS ?_) | (with_reducible refine' s_put ?_) | (with_reducible refine' s_app ?_) | (with_reducible refine' s_ext ?_)
  | (with_reducible refine' s_gN ?_) | ((with_reducible refine' s_v ?e ?_); (case e => rfl)) | (with_reducible refine' s_asB ?_) | (with_reducible refine' s_asI ?_) | (with_reducible refine' s_asD ?_) | (with_reducible refine' s_nil ?_) | (with_reducible refine' s_cons ?_)
  | (with_reducible refine' s_addI ?_) | (with_reducible refine' s_I0 ?_) | (with_reducible refine' s_neg ?_) | (with_reducible refine' s_eqI ?_) | (with_reducible refine' s_eqS ?_) | (with_reducible refine' s_ltI ?_) | (with_reducible refine' s_isN ?_) | (with_reducible refine' s_int ?_) | (with_reducible refine' s_abs ?_)
  | ((with_reducible refine' s_len ?e ?_); (case e => first | rfl | exact seqOf_m (by assumption) | exact seqOf_m mu_same))
  | ((with_reducible refine' s_ix ?e ?e2 ?_); (case e => first | rfl | exact seqOf_m (by assumption) | exact seqOf_m mu_same); (case e2 => first | rfl | assumption | exact atI_nat (j := 0) rfl | exact atI_nat (j := 1) rfl | exact atI_nat (j := 2) rfl | exact atI_nat (j := 3) rfl))
  | ((with_reducible refine' s_putL ?e ?e2 ?_); (case e => first | assumption | exact mu_same); (case e2 => first | rfl | assumption))
  | ((with_reducible refine' s_oL ?e ?_); (case e => first | assumption | exact mu_same))
  | ((with_reducible refine' s_dat ?e ?_); (case e => rfl)) | ((with_reducible refine' s_rng ?e ?_); (case e => exact ⟨by omega, by omega⟩))
  | ((with_reducible refine' s_I ?c ?_); (case c => first | assumption | exact ⟨by omega, by omega⟩ | exact ⟨by decide, by decide, by decide⟩ | exact Or.inl ⟨by omega, by omega⟩ | exact Or.inr ⟨by omega, by omega⟩ | (show (0 : Int) < _; omega) | (show (0 : Int) ≤ _; omega)))
  | (with_reducible refine' s_slT ?_) | (with_reducible refine' s_slL ?_) | (with_reducible refine' s_gC ?_) | ((with_reducible refine' s_gT ?e ?_); (case e => rfl))
  | ((with_reducible refine' s_tup ?e ?_); (case e => first | rfl | exact seqOf_m (by assumption) | exact seqOf_m mu_same))
  | ((with_reducible refine' s_list ?e ?_); (case e => first | rfl | exact seqOf_m (by assumption) | exact seqOf_m mu_same))
  | ((with_reducible refine' s_isi ?e ?e2 ?_); (case e => rfl); (case e2 => rfl))
  | (with_reducible refine' s_max ?_)
  | ((with_reducible refine' And.intro ?r ?_); (case r => with_reducible rfl)))
local macro_rules | `(tactic| walk_at "one") => `(tactic| first | (with_reducible refine' s_if ?_) | walk_at "st")
local macro_rules | `(tactic| walk_at "up") => `(tactic| repeat walk_at "st")
local macro_rules | `(tactic| walk_at "go") => `(tactic| repeat walk_at "one")
local macro_rules | `(tactic| walk_at "all") => `(tactic| repeat' (first | walk_at "one" | (refine s_ite (fun _ => ?_) (fun _ => ?_))))

structure TopX (K : PySem.W.Frag) (mg : Str → Option Value) extends TopP K mg where
  CT : Addr
  fT : Addr
  CN : Addr
  fN : Addr
  x_TooMany : PySem.X_TooMany.Txt_TooMany K mg CT fT
  x_NoRow : PySem.X_NoRow.Txt_NoRow K mg CN fN
theorem s_raise {A : AEnd} {Γ : Gam} {ms : MS} {C : Addr} {f : Str} {re : AER} (h : re Γ ms (fun sd ms1 => asD (fun dv => A.x Γ C f dv ms1) sd) (A.x Γ)) : rRaise C f re A Γ ms := h
theorem s_aug {A : AEnd} {Γ : Gam} {ms : MS} {i : Nat} {re : AER} {f : Int → Int → Int} {a : Int} (e : Γ[i]? = some (some (.d (.int a)))) (h : re Γ ms (fun v ms1 => asI (fun b => A.nx (Γ.set i (some (.d (.int (f a b))))) ms1) v) (A.x Γ)) : rAug i re f A Γ ms := by
  unfold rAug
  rw [e]
  exact h
def oL : Option Lab → D
  | none => .non
  | some l => lD l
def labs (L : Lbs) (goals : List Int) : List Lab := (goals.filter fun x => (L x).isSome).map fun x => (L x).getD (0, 0, [])
theorem mem_labs {L : Lbs} {goals : List Int} {l : Lab} : l ∈ labs L goals ↔ ∃ x ∈ goals, L x = some l := by
  unfold labs
  rw [List.mem_map]
  constructor
  · rintro ⟨x, hx, rfl⟩
    obtain ⟨h1, h2⟩ := List.mem_filter.mp hx
    obtain ⟨l, hl⟩ := Option.isSome_iff_exists.mp h2
    exact ⟨x, h1, by rw [hl]; rfl⟩
  · rintro ⟨x, hx, hl⟩
    exact ⟨x, List.mem_filter.mpr ⟨hx, by rw [hl]; rfl⟩, by rw [hl]; rfl⟩
theorem head_least {ps : List Par} {free : List Nat} {start : Int} {goals : List Int} {L : Lbs} {ls : List Lab} (hp : Pos ps) (hD : Done ps free start L) (h1 : ls.Perm (labs L goals)) (h2 : ls.Pairwise labLe) : bestL ps free start goals = ls.head? := by
  refine (best_least hp).uniq (done_least hD (fun h x hx => ?_) fun l h => ?_)
  · have hn : ls = [] := List.head?_eq_none_iff.mp h
    subst hn
    cases hl : L x with
    | none => rfl
    | some l =>
      have := h1.mem_iff.mpr (mem_labs.mpr ⟨x, hx, hl⟩)
      cases this
  · cases ls with
    | nil => cases h
    | cons a r =>
      cases h
      refine ⟨mem_labs.mp (h1.mem_iff.mp (by simp)), fun x hx l' hl => ?_⟩
      rcases List.mem_cons.mp (h1.mem_iff.mpr (mem_labs.mpr ⟨x, hx, hl⟩)) with rfl | hm
      · exact .refl _
      · exact (List.pairwise_cons.mp h2).1 l' hm
section
variable {P : Program} {w : World} {K : PySem.W.Frag} {mg : Str → Option Value} {base : Heap}
abbrev s_least_label : Stmt := (topS 13)
theorem sc_least_label : FnScope ["parcels", "start", "goals", "free", "labels", "found", "goal"] ["parcels", "start", "goals", "free"] (defScope s_least_label) := ⟨rfl, rfl, rfl, by decide +kernel, rfl, by decide +kernel, by decide +kernel⟩

def R_label (K : PySem.W.Frag) (C : Addr) : AFn := fun sds ms k _ => ∃ ps start goals free fr, sds = [.d (parsD C ps), .d (.int start), .d (iT goals), fr] ∧ FrT K fr (free.map fun n : Nat => .int n) ∧ ps.length ≤ 10 ∧ Pos ps ∧ goals.length ≤ 10 ∧ k (.d (oL (bestL ps free start goals))) ms
theorem ok_label (T : TopP K mg) (G_least_labels : FnA P w K mg base CX0 1 "least_labels" (R_labels K T.CP)) {f : Addr} {fd : FuncData} (F : Fun K "least_label" "least_label" s_least_label f fd) : FnOk P w K mg base CX0 2 f fd ["parcels", "start", "goals", "free"] (spA (R_label K T.CP)) := by
  refine fnA F sc_least_label (fun sds ms k x h => ?_) (by decide) fun cdv A outer s H E hr => ⟨_, _, (ass_cons (as_set 4 sc_least_label.nd (ae_call G_least_labels (hr.mono (by first | decide | omega)) (fun _ => pass0At) (by rfl) (aa_cons (ae_v 0) (aa_cons (ae_v 1) (aa_cons (ae_v 3) aa_nil)))))
    (ass_cons (as_set 5 sc_least_label.nd (ae_callB (cr_sortedD (u80 hr)) oa_sorted (by rfl) T.sorted (by decide +kernel) (aa_cons (ae_lc (own := [("goal", 6)]) rfl sc_least_label.nd (ai_seq (ae_v 2)) (blkOk_by (own := [("goal", 6)]) (N := ["parcels", "start", "goals", "free", "labels", "found", "goal"]) (sc := defScope s_least_label) (by decide +kernel)) (by decide) (fun _ _ _ _ _ => (ag_name 6 sc_least_label.nd)) (fun _ _ _ _ _ => (ats_one (at_cmp (opK_in (K := K) rfl (u65 hr)) oa_in (ae_v 6) (ae_v 4) (by rfl)))) (fun _ _ _ _ _ => (ae_ixK (K := K) rfl (u1 hr) (ae_v 4) (ae_v 6)))) aa_nil)))
    (ass_one (as_ret (ae_ifE (at_cmp op_gt oa_gt (ae_callB call_len oa_len (by rfl) T.len (by decide +kernel) (aa_cons (ae_v 5) aa_nil)) ae_int (nomark _)) (ae_ix (u1 hr) (ae_v 5) ae_int) ae_non))))), fun sds ms k x h => ?_⟩
  · obtain ⟨a, b, c, d, e, rfl, _⟩ := h; rfl
  · obtain ⟨ps, start, goals, free, fr, rfl, hfr, hn, hp, hg, q⟩ := h
    dsimp only [gam]
    walk_at "go"
    refine ⟨ps, start, free, fr, rfl, hfr, hn, hp, fun p kvs L hpn hkv hD => ?_⟩
    walk_at "go"
    refine lcI_fm (f := fun x : Int => lD ((L x).getD (0, 0, []))) (p := fun x => (L x).isSome) (small_len (by omega)) (fun x hx acc N hz hN => ?_) ?_
    · walk_at "go"
      refine s_inK mu_same ?_
      walk_at "go"
      rw [hkv, Bool.false_xor]
      cases hl : L x with
      | none =>
        rw [hl, if_neg (by simp), List.append_nil] at hN
        refine s_iteF rfl ?_
        exact hN
      | some l =>
        rw [hl] at hN
        simp only [Option.isSome_some, ↓reduceIte, Option.getD_some] at hN
        refine s_iteT rfl ?_
        walk_at "go"
        refine s_ixK mu_same (by rw [hkv, hl]; rfl) ?_
        walk_at "go"
        exact ⟨hz, hN⟩
    rw [show (List.map (fun x : Int => lD ((L x).getD (0, 0, []))) (List.filter (fun x => (L x).isSome) goals)) = (labs L goals).map lD by unfold labs; rw [List.map_map]; rfl]
    obtain ⟨ls, hs, h1, h2⟩ := sort_lab (labs L goals)
    have hb := head_least hp hD h1 h2
    have hll : (labs L goals).length ≤ 10 := by
      unfold labs
      rw [List.length_map]
      exact Nat.le_trans (List.length_filter_le _ _) hg
    obtain ⟨f1, f2, f3⟩ := R76.sorts_of (n := 0) (l := labs L goals) (fun l _ => fit_lD l 61) alike_lD fun a => ⟨_, _, rfl⟩
    walk_at "go"
    refine ⟨_, rfl, f1, f2, f3, small_len (by rw [List.length_map]; omega), ?_⟩
    rw [hs]
    rw [hb] at q
    walk_at "go"
    cases ls with
    | nil =>
      refine s_iteF rfl ?_
      walk_at "go"
      exact Sub.out hpn q
    | cons a r =>
      refine s_iteT (by simp) ?_
      walk_at "go"
      exact Sub.out hpn q
abbrev s_row_of : Stmt := (topS 14)
theorem sc_row_of : FnScope ["parcels", "start", "goals", "free", "label"] ["parcels", "start", "goals", "free"] (defScope s_row_of) := ⟨rfl, rfl, rfl, by decide +kernel, rfl, by decide +kernel, by decide +kernel⟩

/-- a row to a goal: with too many parcels, or with none, an error -/
def R_row (K : PySem.W.Frag) (C CT CN : Addr) : AFn := fun sds ms k x => ∃ ds start goals free fr, sds = [.d (.lst ds), .d (.int start), .d (iT goals), fr] ∧ FrT K fr (free.map fun n : Nat => .int n) ∧ ds.length ≤ 1000 ∧ goals.length ≤ 10 ∧
  ((10 < ds.length ∧ x CT "limit" (.int 10) ms) ∨ ∃ ps, ds = ps.map (dPar C) ∧ ps.length ≤ 10 ∧ Pos ps ∧ (bestL ps free start goals = none → x CN "start" (.int start) ms) ∧ ∀ l, bestL ps free start goals = some l → k (.d (nT l.2.2)) ms)
theorem ok_row (T : TopX K mg) (G_least_label : FnA P w K mg base CX0 2 "least_label" (R_label K T.CP)) {f : Addr} {fd : FuncData} {dvs : List V} {kws : List (Str × V)} (F : FunD K "row_of" "row_of" (defArgs s_row_of) (defBody s_row_of) (defScope s_row_of) dvs kws f fd) :
    FnOk P w K mg base (L2.CX P w) 3 f fd ["parcels", "start", "goals", "free"] (spA (R_row K T.CP T.CT T.CN)) := by
  refine fnAXD F sc_row_of (fun sds ms k x h => ?_) (by decide) fun cdv A outer s H E hr => ⟨_, _, (ass_cons (as_if (at_cmp op_gt oa_gt (ae_callB call_len oa_len (by rfl) T.len (by decide +kernel) (aa_cons (ae_v 0) aa_nil)) (ae_gint (by rfl) T.c_MOST_PARCELS) (nomark _)) (ass_one (as_raise rfl (takes_of rfl rfl rfl rfl) (ae_gint (by rfl) T.c_MOST_PARCELS) (L2.pmk_low_TooMany T.x_TooMany hr (AA.pe (W := W0) (aa_cons (ae_gint (by rfl) T.c_MOST_PARCELS) aa_nil))))) ass_nil)
    (ass_cons (as_set 4 sc_row_of.nd (ae_call G_least_label (hr.mono (by first | decide | omega)) (fun _ => pass0At) (by rfl) (aa_cons (ae_v 0) (aa_cons (ae_v 1) (aa_cons (ae_v 2) (aa_cons (ae_v 3) aa_nil))))))
    (ass_cons (as_if (at_cmp op_isN oa_isN (ae_v 4) ae_non (nomark _)) (ass_one (as_raise rfl (takes_of rfl rfl rfl rfl) (ae_v 1) (L2.pmk_low_NoRow T.x_NoRow hr (AA.pe (W := W0) (aa_cons (ae_v 1) aa_nil))))) ass_nil)
    (ass_one (as_ret (ae_ix (u1 hr) (ae_v 4) ae_int)))))), fun sds ms k x h => ?_⟩
  · obtain ⟨a, b, c, d, e, rfl, _⟩ := h; rfl
  · obtain ⟨ds, start, goals, free, fr, rfl, hfr, hdl, hg, q⟩ := h
    dsimp only [gam]
    walk_at "go"
    rcases q with ⟨h10, q⟩ | ⟨ps, rfl, hn, hp, qn, qs⟩
    · refine s_iteT (decide_eq_true (by omega)) ?_
      (with_reducible refine' s_raise ?_)
      walk_at "go"
      exact q
    · refine s_iteF (decide_eq_false (by rw [List.length_map]; omega)) ?_
      walk_at "go"
      refine ⟨ps, start, goals, free, fr, rfl, hfr, hn, hp, hg, ?_⟩
      walk_at "go"
      cases hb : bestL ps free start goals with
      | none =>
        refine s_iteT rfl ?_
        (with_reducible refine' s_raise ?_)
        walk_at "go"
        exact qn hb
      | some l =>
        refine s_iteF rfl ?_
        unfold oL lD
        walk_at "go"
        exact Out.here (qs l hb)
/-! ### prices -/
def wOf (ps : List Par) (i : Nat) : Int := ((ps[i]?).map (·.words)).getD 0
def sumF (ps : List Par) (free : List Nat) : Int := 2 * (free.map (wOf ps)).sum
def sumB (ps : List Par) (free : List Nat) (goals : List Int) (starts : List Int) : Int := (starts.map fun s => ((bestL ps free s goals).map (·.1)).getD 0).sum
def priceP (ps : List Par) (starts goals : List Int) (free : List Nat) : Option Int := if (starts.all fun s => (bestL ps free s goals).isSome) = true then some (sumF ps free + sumB ps free goals starts) else none
theorem sumB_snoc (ps : List Par) (free : List Nat) (goals starts : List Int) (s : Int) : sumB ps free goals (starts ++ [s]) = sumB ps free goals starts + ((bestL ps free s goals).map (·.1)).getD 0 := by
  unfold sumB
  rw [List.map_append, List.sum_append]
  simp
theorem sum2 (ps : List Par) (free : List Nat) : (free.map fun i => 2 * wOf ps i).sum = sumF ps free := by
  unfold sumF
  induction free with
  | nil => rfl
  | cons i r ih => rw [List.map_cons, List.map_cons, List.sum_cons, List.sum_cons, ih]; omega
theorem price_none {ps : List Par} {starts goals : List Int} {free : List Nat} {s : Int} (hs : s ∈ starts) (h : bestL ps free s goals = none) : priceP ps starts goals free = none := by
  unfold priceP
  rw [if_neg]
  intro q
  have := List.all_eq_true.mp q s hs
  rw [h] at this; cases this
abbrev s_price_with : Stmt := (topS 16)
theorem sc_price_with : FnScope ["parcels", "starts", "goals", "free", "price", "number", "start", "label"] ["parcels", "starts", "goals", "free"] (defScope s_price_with) := ⟨rfl, rfl, rfl, by decide +kernel, rfl, by decide +kernel, by decide +kernel⟩

def R_pricew (C : Addr) : AFn := fun sds ms k _ => ∃ ps starts goals free, sds = [.d (parsD C ps), .d (iT starts), .d (iT goals), .d (nT free)] ∧ ps.length ≤ 10 ∧ Pos ps ∧ goals.length ≤ 10 ∧ starts.length ≤ 1000 ∧ free.length ≤ 1000 ∧ (∀ i ∈ free, i < ps.length) ∧ k (.d (oD (priceP ps starts goals free))) ms
theorem at_par {C : Addr} {ps : List Par} {i : Nat} (h : i < ps.length) : atI (ps.map (dPar C)) (i : Int) = some (dPar C ps[i]) := atI_nat (by rw [List.getElem?_map, List.getElem?_eq_getElem h]; rfl)
theorem w_at {ps : List Par} {i : Nat} (h : i < ps.length) : wOf ps i = ps[i].words := by unfold wOf; rw [List.getElem?_eq_getElem h]; rfl
theorem ok_pricew (T : TopP K mg) (G_least_label : FnA P w K mg base CX0 2 "least_label" (R_label K T.CP)) {f : Addr} {fd : FuncData} (F : Fun K "price_with" "price_with" s_price_with f fd) : FnOk P w K mg base CX0 3 f fd ["parcels", "starts", "goals", "free"] (spA (R_pricew T.CP)) := by
  refine fnA F sc_price_with (fun sds ms k x h => ?_) (by decide) fun cdv A outer s H E hr => ⟨_, _, (ass_cons (as_set 4 sc_price_with.nd (ae_callB (cr_sum rfl) oa_sum (by rfl) T.sum (by decide +kernel) (aa_cons (ae_lc (own := [("number", 5)]) rfl sc_price_with.nd (ai_seq (ae_v 3)) (blkOk_by (own := [("number", 5)]) (N := ["parcels", "starts", "goals", "free", "price", "number", "start", "label"]) (sc := defScope s_price_with) (by decide +kernel)) (by decide) (fun _ _ _ _ _ => (ag_name 5 sc_price_with.nd)) (fun _ _ _ _ _ => ats_nil) (fun _ _ _ _ _ => (ae_bin op_mul oa_mul (ae_gint (by rfl) T.c_TIMES) (ae_fldK (K := K) rfl T.cls_Parcel T.na_words (ae_ixK (K := K) rfl (u1 hr) (ae_v 0) (ae_v 5)))))) aa_nil)))
    (ass_cons (as_for PassesOwn.never rfl (ai_seq (ae_v 1)) (ag_name 6 sc_price_with.nd)
      (ass_cons (as_set 7 sc_price_with.nd (ae_call G_least_label (hr.mono (by first | decide | omega)) (fun _ => pass0At) (by rfl) (aa_cons (ae_v 0) (aa_cons (ae_v 6) (aa_cons (ae_v 2) (aa_cons (ae_v 3) aa_nil))))))
      (ass_cons (as_if (at_cmp op_isN oa_isN (ae_v 7) ae_non (nomark _)) (ass_one (as_ret ae_non)) ass_nil)
      (ass_one (as_aug 4 sc_price_with.nd (ae_ix (u1 hr) (ae_v 7) ae_int) ip_add)))))
    (ass_one (as_ret (ae_v 4))))), fun sds ms k x h => ?_⟩
  · obtain ⟨a, b, c, d, rfl, _⟩ := h; rfl
  · obtain ⟨ps, starts, goals, free, rfl, hn, hp, hg, hs, hfl, hf, q⟩ := h
    dsimp only [gam]
    walk_at "go"
    unfold nT
    walk_at "go"
    refine lcI_map (f := fun i : Nat => D.int (2 * wOf ps i)) (small_len hfl) (fun i hi acc N hz hN => ?_) ?_
    · have hi := hf i hi
      unfold parsD
      walk_at "go"
      refine s_ix rfl (at_par hi) ?_
      refine s_fldP rfl ?_
      rw [w_at hi] at hN
      walk_at "go"
      exact ⟨hz, hN⟩
    walk_at "go"
    refine ⟨free.map fun i => 2 * wOf ps i, by rw [List.map_map]; rfl, ?_⟩
    rw [sum2]
    walk_at "go"
    unfold iT
    walk_at "go"
    refine forR_inv (fun i Γ ms' => ms' = ms ∧ (∀ s ∈ starts.take i, (bestL ps free s goals).isSome = true) ∧ ∃ g5 g6 g7, Γ = [some (.d (parsD T.CP ps)), some (.d (iT starts)), some (.d (iT goals)), some (.d (nT free)), some (.d (.int (sumF ps free + sumB ps free goals (starts.take i)))), g5, g6, g7]) ⟨rfl, by simp, _, _, _, by rw [show sumF ps free + sumB ps free goals (starts.take 0) = sumF ps free by simp [sumB]]; rfl⟩ (fun i d Γ m1 hd hP N hN => ?_) fun Γ m1 hP => ?_
    · obtain ⟨rfl, hall, g5, g6, g7, rfl⟩ := hP
      rw [List.getElem?_map] at hd
      cases hs1 : starts[i]? with
      | none => rw [hs1] at hd; cases hd
      | some s1 =>
      rw [hs1] at hd
      cases hd
      walk_at "go"
      refine ⟨ps, s1, goals, free, _, rfl, .inl rfl, hn, hp, hg, ?_⟩
      walk_at "go"
      cases hb : bestL ps free s1 goals with
      | none =>
        refine s_iteT rfl ?_
        rw [price_none (List.mem_of_getElem? hs1) hb] at q
        walk_at "go"
        exact Out.here q
      | some l =>
        refine s_iteF rfl ?_
        unfold oL lD
        walk_at "go"
        dsimp only
        refine s_aug rfl ?_
        walk_at "go"
        have e : sumF ps free + sumB ps free goals (starts.take (i + 1)) = sumF ps free + sumB ps free goals (starts.take i) + l.1 := by
          rw [List.take_add_one, hs1]
          show sumF ps free + sumB ps free goals (starts.take i ++ [s1]) = _
          rw [sumB_snoc, hb]
          show _ + (_ + l.1) = _
          omega
        rw [e] at hN
        refine hN _ _ ⟨rfl, fun s2 h2 => ?_, _, _, _, rfl⟩
        rw [List.take_add_one, hs1] at h2
        rcases List.mem_append.mp h2 with h2 | h2
        · exact hall s2 h2
        · rw [List.mem_singleton.mp h2, hb]; rfl
    · obtain ⟨rfl, hall, g5, g6, g7, rfl⟩ := hP
      rw [List.length_map, List.take_length] at *
      have e : priceP ps starts goals free = some (sumF ps free + sumB ps free goals starts) := if_pos (List.all_eq_true.mpr hall)
      rw [e] at q
      walk_at "go"
      exact Out.here q
end
end R77

/-! ## K77s -/
set_option Elab.async false
set_option linter.all false
set_option maxRecDepth 100000
set_option maxHeartbeats 4000000
namespace R77
open PySem PySem.Spec PyProof.Rows L2 AL
open Evl (Ex)
open R76 (topS u1 u64 u65 u80)
local macro_rules | `(tactic| walk_at "st") => `(tactic| first
  | (with_reducible refine' s_seq ?_) | (with_reducible refine' s_set ?_) | (with_reducible refine' s_nx ?_) | (with_reducible refine' s_ret ?_) | (with_reducible refine' s_drop ?_) | (with_reducible refine' s_asg ?_) | (with_reducible refine' s_for ?_) | (with_reducible refine' s_tt ?_) | (with_reducible refine' s_ff ?_) | (with_reducible refine' s_lcS ?_) | (with_reducible refine' s_put ?_) | (with_reducible refine' s_app ?_) | (with_reducible refine' s_ext ?_)
  | (with_reducible refine' s_gN ?_) | ((with_reducible refine' s_v ?e ?_); (case e => rfl)) | (with_reducible refine' s_asB ?_) | (with_reducible refine' s_asI ?_) | (with_reducible refine' s_asD ?_) | (with_reducible refine' s_nil ?_) | (with_reducible refine' s_cons ?_)
  | (with_reducible refine' s_addI ?_) | (with_reducible refine' s_I0 ?_) | (with_reducible refine' s_neg ?_) | (with_reducible refine' s_eqI ?_) | (with_reducible refine' s_eqS ?_) | (with_reducible refine' s_ltI ?_) | (with_reducible refine' s_isN ?_) | (with_reducible refine' s_int ?_) | (with_reducible refine' s_abs ?_)
  | ((with_reducible refine' s_len ?e ?_); (case e => first | rfl | exact seqOf_m (by assumption) | exact seqOf_m mu_same))
  | ((with_reducible refine' s_ix ?e ?e2 ?_); (case e => first | rfl | exact seqOf_m (by assumption) | exact seqOf_m mu_same); (case e2 => first | rfl | assumption | exact atI_nat (j := 0) rfl | exact atI_nat (j := 1) rfl | exact atI_nat (j := 2) rfl | exact atI_nat (j := 3) rfl))
  | ((with_reducible refine' s_putL ?e ?e2 ?_); (case e => first | assumption | exact mu_same); (case e2 => first | rfl | assumption))
  | ((with_reducible refine' s_oL ?e ?_); (case e => first | assumption | exact mu_same))
  | ((with_reducible refine' s_dat ?e ?_); (case e => rfl)) | ((with_reducible refine' s_rng ?e ?_); (case e => exact ⟨by omega, by omega⟩))
  | ((with_reducible refine' s_I ?c ?_); (case c => first | assumption | exact ⟨by omega, by omega⟩ | exact ⟨by decide, by decide, by decide⟩ | exact Or.inl ⟨by omega, by omega⟩ | exact Or.inr ⟨by omega, by omega⟩ | (show (0 : Int) < _; omega) | (show (0 : Int) ≤ _; omega)))
  | (with_reducible refine' s_slT ?_) | (with_reducible refine' s_slL ?_) | (with_reducible refine' s_gC ?_) | ((with_reducible refine' s_gT ?e ?_); (case e => rfl))
  | ((with_reducible refine' s_tup ?e ?_); (case e => first | rfl | exact seqOf_m (by assumption) | exact seqOf_m mu_same))
  | ((with_reducible refine' s_list ?e ?_); (case e => first | rfl | exact seqOf_m (by assumption) | exact seqOf_m mu_same))
  | ((with_reducible refine' s_isi ?e ?e2 ?_); (case e => rfl); (case e2 => rfl))
  | (with_reducible refine' s_max ?_)
  | ((with_reducible refine' And.intro ?r ?_); (case r => with_reducible rfl)))
local macro_rules | `(tactic| walk_at "one") => `(tactic| first | (with_reducible refine' s_if ?_) | walk_at "st")
local macro_rules | `(tactic| walk_at "up") => `(tactic| repeat walk_at "st")
local macro_rules | `(tactic| walk_at "go") => `(tactic| repeat walk_at "one")
local macro_rules | `(tactic| walk_at "all") => `(tactic| repeat' (first | walk_at "one" | (refine s_ite (fun _ => ?_) (fun _ => ?_))))

structure TopO (K : PySem.W.Frag) (mg : Str → Option Value) extends TopX K mg where
  gLt : Addr
  gLe : Addr
  gGt : Addr
  gGe : Addr
  gEq : Addr
  o_lt : PySem.W.findIn K (.ref CL) (cmpInfo .Lt).2.1 = some (some (.ref gLt))
  o_le : PySem.W.findIn K (.ref CL) (cmpInfo .LtE).2.1 = some (some (.ref gLe))
  o_gt : PySem.W.findIn K (.ref CL) (cmpInfo .Gt).2.1 = some (some (.ref gGt))
  o_ge : PySem.W.findIn K (.ref CL) (cmpInfo .GtE).2.1 = some (some (.ref gGe))
  o_eq : PySem.W.findIn K (.ref CL) (cmpInfo .Eq).2.1 = some (some (.ref gEq))
  of_lt : PySem.W.isFn K (.ref gLt) = true
  of_le : PySem.W.isFn K (.ref gLe) = true
  of_gt : PySem.W.isFn K (.ref gGt) = true
  of_ge : PySem.W.isFn K (.ref gGe) = true
  of_eq : PySem.W.isFn K (.ref gEq) = true
  neC : NeC K CL
  isi_Plan : IsiC K CL
  g_Plan : mg "Plan" = some (.ref CL)
/-! ### the table of prices -/
theorem shl1 (n : Nat) : (1 : Int) * 2 ^ ((n : Nat) : Int).toNat = ((2 ^ n : Nat) : Int) := by
  rw [Int.one_mul, Int.toNat_natCast]; simp
theorem pow10 {n : Nat} (h : n ≤ 10) : 2 ^ n ≤ 1024 := Nat.le_trans (Nat.pow_le_pow_right (by decide) h) (by decide)
theorem rngOk {m : Nat} (h : m ≤ 100000) : -(2 ^ 62) ≤ (m : Int) ∧ (m : Int) < 2 ^ 62 := ⟨by omega, by omega⟩
theorem cpow1 {n : Nat} (h : n ≤ 10) : CPow 1 (n : Int) := ⟨by omega, by omega, by decide⟩
theorem nums_lt {c : Int} {n i : Nat} (h : i ∈ numsP c n) : i < n := List.mem_range.mp (List.mem_filter.mp h).1
theorem nums_len (c : Int) (n : Nat) : (numsP c n).length ≤ n := Nat.le_trans (List.length_filter_le _ _) (by rw [List.length_range]; exact Nat.le_refl _)
def tabP (ps : List Par) (starts goals : List Int) : List (Option Int) := (List.range (2 ^ ps.length)).map fun c : Nat => priceP ps starts goals (numsP c ps.length)
theorem tab_len (ps : List Par) (starts goals : List Int) : (tabP ps starts goals).length = 2 ^ ps.length := by unfold tabP; rw [List.length_map, List.length_range]
def tabD (ps : List Par) (starts goals : List Int) : D := .lst ((tabP ps starts goals).map oD)
section
variable {P : Program} {w : World} {K : PySem.W.Frag} {mg : Str → Option Value} {base : Heap}
abbrev s_price_table : Stmt := (topS 17)
theorem sc_price_table : FnScope ["parcels", "starts", "goals", "count", "chosen"] ["parcels", "starts", "goals"] (defScope s_price_table) := ⟨rfl, rfl, rfl, by decide +kernel, rfl, by decide +kernel, by decide +kernel⟩

def scTab : Scope := match (defBody s_price_table).getD 3 (.Pass ⟨0, 0, 0, 0⟩) with
  | .Return (some (.ListComp _ _ sc _)) _ => sc
  | _ => { kind := .function, names := [], isGenerator := false, isCoroutine := false }
def R_table (C CT : Addr) : AFn := fun sds ms k x => ∃ ds starts goals, sds = [.d (.lst ds), .d (iT starts), .d (iT goals)] ∧ ds.length ≤ 1000 ∧ starts.length ≤ 1000 ∧ goals.length ≤ 10 ∧
  ((10 < ds.length ∧ x CT "limit" (.int 10) ms) ∨ (ds.length ≤ 10 ∧ 8 < starts.length ∧ x CT "limit" (.int 8) ms) ∨ ∃ ps, ds = ps.map (dPar C) ∧ ps.length ≤ 10 ∧ Pos ps ∧ starts.length ≤ 8 ∧ k (.d (tabD ps starts goals)) ms)
theorem ok_table (T : TopX K mg) (G_numbers_in : FnA P w K mg base CX0 1 "numbers_in" R_nums) (G_price_with : FnA P w K mg base CX0 3 "price_with" (R_pricew T.CP)) {f : Addr} {fd : FuncData} (F : Fun K "price_table" "price_table" s_price_table f fd) :
    FnOk P w K mg base (L2.CX P w) 4 f fd ["parcels", "starts", "goals"] (spA (R_table T.CP T.CT)) := by
  refine fnAX F sc_price_table (fun sds ms k x h => ?_) (by decide) fun cdv A outer s H E hr => ⟨_, _, (ass_cons (as_if (at_cmp op_gt oa_gt (ae_callB call_len oa_len (by rfl) T.len (by decide +kernel) (aa_cons (ae_v 0) aa_nil)) (ae_gint (by rfl) T.c_MOST_PARCELS) (nomark _)) (ass_one (as_raise rfl (takes_of rfl rfl rfl rfl) (ae_gint (by rfl) T.c_MOST_PARCELS) (L2.pmk_low_TooMany T.x_TooMany hr (AA.pe (W := W0) (aa_cons (ae_gint (by rfl) T.c_MOST_PARCELS) aa_nil))))) ass_nil)
    (ass_cons (as_if (at_cmp op_gt oa_gt (ae_callB call_len oa_len (by rfl) T.len (by decide +kernel) (aa_cons (ae_v 1) aa_nil)) (ae_gint (by rfl) T.c_MOST_STARTS) (nomark _)) (ass_one (as_raise rfl (takes_of rfl rfl rfl rfl) (ae_gint (by rfl) T.c_MOST_STARTS) (L2.pmk_low_TooMany T.x_TooMany hr (AA.pe (W := W0) (aa_cons (ae_gint (by rfl) T.c_MOST_STARTS) aa_nil))))) ass_nil)
    (ass_cons (as_set 3 sc_price_table.nd (ae_callB call_len oa_len (by rfl) T.len (by decide +kernel) (aa_cons (ae_v 0) aa_nil)))
    (ass_one (as_ret (ae_lc (own := [("chosen", 4)]) rfl sc_price_table.nd (ai_range1 (by rfl) T.range (ae_bin op_shl oa_shl ae_int (ae_v 3))) (blkOk_by (own := [("chosen", 4)]) (N := ["parcels", "starts", "goals", "count", "chosen"]) (sc := defScope s_price_table) (by decide +kernel)) (by decide) (fun _ _ _ _ _ => (ag_name 4 sc_price_table.nd)) (fun _ _ _ _ _ => ats_nil) (fun _ _ _ _ _ => (ae_call G_price_with (hr.mono (by first | decide | omega)) (fun _ => pass0At) (by rfl) (aa_cons (ae_v 0) (aa_cons (ae_v 1) (aa_cons (ae_v 2) (aa_cons (ae_call G_numbers_in (hr.mono (by first | decide | omega)) (fun _ => pass0At) (by rfl) (aa_cons (ae_v 4) (aa_cons (ae_v 3) aa_nil))) aa_nil)))))))))))), fun sds ms k x h => ?_⟩
  · obtain ⟨a, b, c, rfl, _⟩ := h; rfl
  · obtain ⟨ds, starts, goals, rfl, hdl, hsl, hg, q⟩ := h
    dsimp only [gam]
    walk_at "go"
    rcases q with ⟨h10, q⟩ | ⟨h10, h8, q⟩ | ⟨ps, rfl, hn, hp, h8, q⟩
    · refine s_iteT (decide_eq_true (by omega)) ?_
      (with_reducible refine' s_raise ?_)
      walk_at "go"
      exact q
    · refine s_iteF (decide_eq_false (by omega)) ?_
      unfold iT
      walk_at "go"
      refine s_iteT (decide_eq_true (by rw [List.length_map]; omega)) ?_
      (with_reducible refine' s_raise ?_)
      walk_at "go"
      exact q
    · refine s_iteF (decide_eq_false (by rw [List.length_map]; omega)) ?_
      have hz := pow10 hn
      unfold iT
      walk_at "go"
      refine s_iteF (decide_eq_false (by rw [List.length_map]; omega)) ?_
      walk_at "go"
      rw [List.length_map]
      rw [shl1]
      refine s_rng (rngOk (by omega)) ?_
      rw [Int.toNat_natCast, rngD0]
      refine lcI_map (f := fun c : Nat => oD (priceP ps starts goals (numsP c ps.length))) (z2000 (by rw [List.length_range]; omega)) (fun c hc acc N hz hN => ?_) ?_
      · walk_at "go"
        refine ⟨c, ps.length, rfl, by omega, ?_⟩
        walk_at "go"
        refine ⟨ps, starts, goals, numsP c ps.length, rfl, hn, hp, hg, by omega, Nat.le_trans (nums_len _ _) (by omega), fun i hi => nums_lt hi, ?_⟩
        walk_at "go"
        exact ⟨hz, hN⟩
      refine Out.here ?_
      unfold tabD tabP at q
      rw [List.map_map] at q
      exact q
/-! ### plans -/
def plD (C : Addr) (t r : D) (p : Int) : D := .ins C [("to_all", t), ("rows", r), ("price", .int p)]
abbrev s_Plan_init : Stmt := (inClass (topS 18) 0)
theorem sc_Plan_init : FnScope ["self", "to_all", "rows", "price"] ["self", "to_all", "rows", "price"] (defScope s_Plan_init) := ⟨rfl, rfl, rfl, by decide +kernel, rfl, by decide +kernel, by decide +kernel⟩

def R_planI (C : Addr) : AFn := fun sds ms k _ => ∃ p t r w, sds = [.v (.ref p), .d t, .d r, .d w] ∧ ms p = some (.i C []) ∧ k (.d .non) (mu ms p (.i C [("to_all", t), ("rows", r), ("price", w)]))
theorem ok_planI (T : TopP K mg) {f : Addr} {fd : FuncData} (F : Fun K "__init__" "Plan.__init__" s_Plan_init f fd) : FnOk P w K mg base CX0 1 f fd ["self", "to_all", "rows", "price"] (spA (R_planI T.CL)) := by
  refine fnA F sc_Plan_init (fun sds ms k x h => ?_) (by decide) fun cdv A outer s H E hr => ⟨_, _, (ass_cons (as_setF T.cls_Plan T.na_to_all (ae_v 0) (ae_v 1))
    (ass_cons (as_setF T.cls_Plan T.na_rows (ae_v 0) (ae_v 2))
    (ass_one (as_setF T.cls_Plan T.na_price (ae_v 0) (ae_v 3))))), fun sds ms k x h => ?_⟩
  · obtain ⟨a, b, c, d, rfl, _⟩ := h; rfl
  · obtain ⟨p, t, r, w, rfl, hp, q⟩ := h
    dsimp only [gam]
    (with_reducible refine' s_seq ?_)
    (with_reducible refine' s_setF ?_)
    walk_at "go"
    refine ⟨p, [], rfl, hp, by decide, ?_⟩
    walk_at "go"
    (with_reducible refine' s_setF ?_)
    walk_at "go"
    refine ⟨p, _, rfl, mu_same, by show 1 < 1000; decide, ?_⟩
    rw [mu_mu]
    (with_reducible refine' s_setF ?_)
    walk_at "go"
    refine ⟨p, _, rfl, mu_same, by show 2 < 1000; decide, ?_⟩
    rw [mu_mu]
    exact Out.here q
def R_cmp (C : Addr) (f : Int → Int → Bool) : AFn := fun sds ms k _ => ∃ t r p t' r' p', sds = [.d (plD C t r p), .d (plD C t' r' p')] ∧ k (.d (.bl (f p p'))) ms
theorem s_fldL {C : Addr} {t r : D} {p : Int} {f : Str} {d : D} {ms : MS} {k : SD → Prop} (e : ([("to_all", t), ("rows", r), ("price", .int p)] : List (Str × D)).lookup f = some d) (h : k (.d d)) : oFld C f ms (.d (plD C t r p)) k := ⟨rfl, d, e, h⟩
abbrev s_Plan_eq : Stmt := (inClass (topS 18) 1)
theorem sc_Plan_eq : FnScope ["self", "other"] ["self", "other"] (defScope s_Plan_eq) := ⟨rfl, rfl, rfl, by decide +kernel, rfl, by decide +kernel, by decide +kernel⟩

theorem ok_eq (T : TopO K mg) {f : Addr} {fd : FuncData} (F : Fun K "__eq__" "Plan.__eq__" s_Plan_eq f fd) : FnOk P w K mg base CX0 1 f fd ["self", "other"] (spA (R_cmp T.CL fun i j => decide (i = j))) := by
  refine fnA F sc_Plan_eq (fun sds ms k x h => ?_) (by decide) fun cdv A outer s H E hr => ⟨_, _, (ass_cons (as_if (at_not (at_val (ae_callB call_isi (oa_isiC T.isi_Plan) (by rfl) T.isinstance (by decide +kernel) (aa_cons (ae_v 1) (aa_cons (ae_gcls (by rfl) T.g_Plan) aa_nil))))) (ass_one as_never) ass_nil)
    (ass_one (as_ret (ae_cmp (op_eqA (u64 hr)) oa_eq (ae_fld T.cls_Plan T.na_price (ae_v 0)) (ae_fld T.cls_Plan T.na_price (ae_v 1)) (nomark _))))), fun sds ms k x h => ?_⟩
  · obtain ⟨a, b, c, d, e, f, rfl, _⟩ := h; rfl
  · obtain ⟨t, r, p, t', r', p', rfl, q⟩ := h
    dsimp only [gam]
    walk_at "go"
    refine ⟨rfl, rfl, ?_⟩
    walk_at "go"
    refine s_iteF rfl ?_
    walk_at "go"
    refine s_fldL rfl ?_
    walk_at "go"
    refine s_fldL rfl ?_
    walk_at "go"
    exact Out.here (by rw [Bool.false_xor]; exact q)
abbrev s_Plan_lt : Stmt := (inClass (topS 18) 2)
theorem sc_Plan_lt : FnScope ["self", "other"] ["self", "other"] (defScope s_Plan_lt) := ⟨rfl, rfl, rfl, by decide +kernel, rfl, by decide +kernel, by decide +kernel⟩

theorem ok_lt (T : TopO K mg) {f : Addr} {fd : FuncData} (F : Fun K "__lt__" "Plan.__lt__" s_Plan_lt f fd) : FnOk P w K mg base CX0 1 f fd ["self", "other"] (spA (R_cmp T.CL fun i j => decide (i < j))) := by
  refine fnA F sc_Plan_lt (fun sds ms k x h => ?_) (by decide) fun cdv A outer s H E hr => ⟨_, _, (ass_cons (as_if (at_not (at_val (ae_callB call_isi (oa_isiC T.isi_Plan) (by rfl) T.isinstance (by decide +kernel) (aa_cons (ae_v 1) (aa_cons (ae_gcls (by rfl) T.g_Plan) aa_nil))))) (ass_one as_never) ass_nil)
    (ass_one (as_ret (ae_cmp (op_ltA (u64 hr)) oa_lt (ae_fld T.cls_Plan T.na_price (ae_v 0)) (ae_fld T.cls_Plan T.na_price (ae_v 1)) (nomark _))))), fun sds ms k x h => ?_⟩
  · obtain ⟨a, b, c, d, e, f, rfl, _⟩ := h; rfl
  · obtain ⟨t, r, p, t', r', p', rfl, q⟩ := h
    dsimp only [gam]
    walk_at "go"
    refine ⟨rfl, rfl, ?_⟩
    walk_at "go"
    refine s_iteF rfl ?_
    walk_at "go"
    refine s_fldL rfl ?_
    walk_at "go"
    refine s_fldL rfl ?_
    walk_at "go"
    exact Out.here q
abbrev s_Plan_le : Stmt := (inClass (topS 18) 3)
theorem sc_Plan_le : FnScope ["self", "other"] ["self", "other"] (defScope s_Plan_le) := ⟨rfl, rfl, rfl, by decide +kernel, rfl, by decide +kernel, by decide +kernel⟩

theorem ok_le (T : TopO K mg) {f : Addr} {fd : FuncData} (F : Fun K "__le__" "Plan.__le__" s_Plan_le f fd) : FnOk P w K mg base CX0 1 f fd ["self", "other"] (spA (R_cmp T.CL fun i j => decide (i ≤ j))) := by
  refine fnA F sc_Plan_le (fun sds ms k x h => ?_) (by decide) fun cdv A outer s H E hr => ⟨_, _, (ass_cons (as_if (at_not (at_val (ae_callB call_isi (oa_isiC T.isi_Plan) (by rfl) T.isinstance (by decide +kernel) (aa_cons (ae_v 1) (aa_cons (ae_gcls (by rfl) T.g_Plan) aa_nil))))) (ass_one as_never) ass_nil)
    (ass_one (as_ret (ae_cmp op_le oa_le (ae_fld T.cls_Plan T.na_price (ae_v 0)) (ae_fld T.cls_Plan T.na_price (ae_v 1)) (nomark _))))), fun sds ms k x h => ?_⟩
  · obtain ⟨a, b, c, d, e, f, rfl, _⟩ := h; rfl
  · obtain ⟨t, r, p, t', r', p', rfl, q⟩ := h
    dsimp only [gam]
    walk_at "go"
    refine ⟨rfl, rfl, ?_⟩
    walk_at "go"
    refine s_iteF rfl ?_
    walk_at "go"
    refine s_fldL rfl ?_
    walk_at "go"
    refine s_fldL rfl ?_
    walk_at "go"
    exact Out.here q
abbrev s_Plan_gt : Stmt := (inClass (topS 18) 4)
theorem sc_Plan_gt : FnScope ["self", "other"] ["self", "other"] (defScope s_Plan_gt) := ⟨rfl, rfl, rfl, by decide +kernel, rfl, by decide +kernel, by decide +kernel⟩

theorem ok_gt (T : TopO K mg) {f : Addr} {fd : FuncData} (F : Fun K "__gt__" "Plan.__gt__" s_Plan_gt f fd) : FnOk P w K mg base CX0 1 f fd ["self", "other"] (spA (R_cmp T.CL fun i j => decide (j < i))) := by
  refine fnA F sc_Plan_gt (fun sds ms k x h => ?_) (by decide) fun cdv A outer s H E hr => ⟨_, _, (ass_cons (as_if (at_not (at_val (ae_callB call_isi (oa_isiC T.isi_Plan) (by rfl) T.isinstance (by decide +kernel) (aa_cons (ae_v 1) (aa_cons (ae_gcls (by rfl) T.g_Plan) aa_nil))))) (ass_one as_never) ass_nil)
    (ass_one (as_ret (ae_cmp op_gt oa_gt (ae_fld T.cls_Plan T.na_price (ae_v 0)) (ae_fld T.cls_Plan T.na_price (ae_v 1)) (nomark _))))), fun sds ms k x h => ?_⟩
  · obtain ⟨a, b, c, d, e, f, rfl, _⟩ := h; rfl
  · obtain ⟨t, r, p, t', r', p', rfl, q⟩ := h
    dsimp only [gam]
    walk_at "go"
    refine ⟨rfl, rfl, ?_⟩
    walk_at "go"
    refine s_iteF rfl ?_
    walk_at "go"
    refine s_fldL rfl ?_
    walk_at "go"
    refine s_fldL rfl ?_
    walk_at "go"
    exact Out.here q
abbrev s_Plan_ge : Stmt := (inClass (topS 18) 5)
theorem sc_Plan_ge : FnScope ["self", "other"] ["self", "other"] (defScope s_Plan_ge) := ⟨rfl, rfl, rfl, by decide +kernel, rfl, by decide +kernel, by decide +kernel⟩

theorem ok_ge (T : TopO K mg) {f : Addr} {fd : FuncData} (F : Fun K "__ge__" "Plan.__ge__" s_Plan_ge f fd) : FnOk P w K mg base CX0 1 f fd ["self", "other"] (spA (R_cmp T.CL fun i j => decide (j ≤ i))) := by
  refine fnA F sc_Plan_ge (fun sds ms k x h => ?_) (by decide) fun cdv A outer s H E hr => ⟨_, _, (ass_cons (as_if (at_not (at_val (ae_callB call_isi (oa_isiC T.isi_Plan) (by rfl) T.isinstance (by decide +kernel) (aa_cons (ae_v 1) (aa_cons (ae_gcls (by rfl) T.g_Plan) aa_nil))))) (ass_one as_never) ass_nil)
    (ass_one (as_ret (ae_cmp op_ge oa_ge (ae_fld T.cls_Plan T.na_price (ae_v 0)) (ae_fld T.cls_Plan T.na_price (ae_v 1)) (nomark _))))), fun sds ms k x h => ?_⟩
  · obtain ⟨a, b, c, d, e, f, rfl, _⟩ := h; rfl
  · obtain ⟨t, r, p, t', r', p', rfl, q⟩ := h
    dsimp only [gam]
    walk_at "go"
    refine ⟨rfl, rfl, ?_⟩
    walk_at "go"
    refine s_iteF rfl ?_
    walk_at "go"
    refine s_fldL rfl ?_
    walk_at "go"
    refine s_fldL rfl ?_
    walk_at "go"
    exact Out.here q
end
end R77

/-! ## K77t -/
set_option Elab.async false
set_option linter.all false
set_option maxRecDepth 100000
set_option maxHeartbeats 4000000
namespace R77
open PySem PySem.Spec PyProof.Rows L2 AL
open Evl (Ex)
open R76 (topS u1 u64 u65 u80)
local macro_rules | `(tactic| walk_at "st") => `(tactic| first
  | (with_reducible refine' s_seq ?_) | (with_reducible refine' s_set ?_) | (with_reducible refine' s_nx ?_) | (with_reducible refine' s_ret ?_) | (with_reducible refine' s_drop ?_) | (with_reducible refine' s_asg ?_) | (with_reducible refine' s_for ?_) | (with_reducible refine' s_tt ?_) | (with_reducible refine' s_ff ?_) | (with_reducible refine' s_lcS ?_) | (with_reducible refine' s_put ?_) | (with_reducible refine' s_app ?_) | (with_reducible refine' s_ext ?_)
  | (with_reducible refine' s_gN ?_) | ((with_reducible refine' s_v ?e ?_); (case e => rfl)) | (with_reducible refine' s_asB ?_) | (with_reducible refine' s_asI ?_) | (with_reducible refine' s_asD ?_) | (with_reducible refine' s_nil ?_) | (with_reducible refine' s_cons ?_)
  | (with_reducible refine' s_addI ?_) | (with_reducible refine' s_I0 ?_) | (with_reducible refine' s_neg ?_) | (with_reducible refine' s_eqI ?_) | (with_reducible refine' s_eqS ?_) | (with_reducible refine' s_ltI ?_) | (with_reducible refine' s_isN ?_) | (with_reducible refine' s_int ?_) | (with_reducible refine' s_abs ?_)
  | ((with_reducible refine' s_len ?e ?_); (case e => first | rfl | exact seqOf_m (by assumption) | exact seqOf_m mu_same))
  | ((with_reducible refine' s_ix ?e ?e2 ?_); (case e => first | rfl | exact seqOf_m (by assumption) | exact seqOf_m mu_same); (case e2 => first | rfl | assumption | exact atI_nat (j := 0) rfl | exact atI_nat (j := 1) rfl | exact atI_nat (j := 2) rfl | exact atI_nat (j := 3) rfl))
  | ((with_reducible refine' s_putL ?e ?e2 ?_); (case e => first | assumption | exact mu_same); (case e2 => first | rfl | assumption))
  | ((with_reducible refine' s_oL ?e ?_); (case e => first | assumption | exact mu_same))
  | ((with_reducible refine' s_dat ?e ?_); (case e => rfl)) | ((with_reducible refine' s_rng ?e ?_); (case e => exact ⟨by omega, by omega⟩))
  | ((with_reducible refine' s_I ?c ?_); (case c => first | assumption | exact ⟨by omega, by omega⟩ | exact ⟨by decide, by decide, by decide⟩ | exact Or.inl ⟨by omega, by omega⟩ | exact Or.inr ⟨by omega, by omega⟩ | (show (0 : Int) < _; omega) | (show (0 : Int) ≤ _; omega)))
  | (with_reducible refine' s_slT ?_) | (with_reducible refine' s_slL ?_) | (with_reducible refine' s_gC ?_) | ((with_reducible refine' s_gT ?e ?_); (case e => rfl))
  | ((with_reducible refine' s_tup ?e ?_); (case e => first | rfl | exact seqOf_m (by assumption) | exact seqOf_m mu_same))
  | ((with_reducible refine' s_list ?e ?_); (case e => first | rfl | exact seqOf_m (by assumption) | exact seqOf_m mu_same))
  | ((with_reducible refine' s_isi ?e ?e2 ?_); (case e => rfl); (case e2 => rfl))
  | (with_reducible refine' s_max ?_)
  | ((with_reducible refine' And.intro ?r ?_); (case r => with_reducible rfl)))
local macro_rules | `(tactic| walk_at "one") => `(tactic| first | (with_reducible refine' s_if ?_) | walk_at "st")
local macro_rules | `(tactic| walk_at "up") => `(tactic| repeat walk_at "st")
local macro_rules | `(tactic| walk_at "go") => `(tactic| repeat walk_at "one")
local macro_rules | `(tactic| walk_at "all") => `(tactic| repeat' (first | walk_at "one" | (refine s_ite (fun _ => ?_) (fun _ => ?_))))

/-! ### the plan -/
theorem best_free {ps : List Par} {free : List Nat} {s : Int} {goals : List Int} : (bestL ps free s goals).isSome = (bestL ps [] s goals).isSome := by
  have h : bestL ps free s goals = none ↔ bestL ps [] s goals = none := best_none.trans best_none.symm
  cases e : bestL ps free s goals with
  | none => rw [h.mp e]
  | some a =>
    cases e2 : bestL ps [] s goals with
    | none => rw [h.mpr e2] at e; cases e
    | some b => rfl
theorem tab_some {ps : List Par} {starts goals : List Int} (h : ∀ s ∈ starts, (bestL ps [] s goals).isSome = true) : ∃ ns : List Int, tabP ps starts goals = ns.map some ∧ ns.length = 2 ^ ps.length := by
  refine ⟨(List.range (2 ^ ps.length)).map fun c : Nat => sumF ps (numsP c ps.length) + sumB ps (numsP c ps.length) goals starts, ?_, by rw [List.length_map, List.length_range]⟩
  unfold tabP
  rw [List.map_map]
  refine List.map_congr_left fun c _ => ?_
  unfold priceP
  rw [if_pos]
  · rfl
  · exact List.all_eq_true.mpr fun s hs => by rw [best_free]; exact h s hs
def freesP (n : Nat) (tab : List (Option Int)) (m : Int) : List (List Nat) := ((List.range (2 ^ n)).filter fun c => decide (tab[c]? = some (some m))).map fun c : Nat => numsP c n
structure PlanIs (n : Nat) (tab : List (Option Int)) (least : Int) (fr : List Nat) : Prop where
  mem : some least ∈ tab
  le : ∀ y, some y ∈ tab → least ≤ y
  fr : atI (sortD ((freesP n tab least).map nT)) 0 = some (nT fr)
theorem nT_inj {a b : List Nat} (h : nT a = nT b) : a = b := by
  have h : a.map (fun n : Nat => D.int n) = b.map (fun n : Nat => D.int n) := D.tup.inj h
  have inj : ∀ x y : Nat, D.int (x : Int) = D.int (y : Int) → x = y := fun x y e => by have := D.int.inj e; omega
  induction a generalizing b with
  | nil => cases b with
    | nil => rfl
    | cons y s => cases h
  | cons x r ih =>
    cases b with
    | nil => cases h
    | cons y s =>
      rw [List.map_cons, List.map_cons] at h
      injection h with h1 h2
      rw [inj x y h1, ih (congrArg D.tup h2) h2]
theorem PlanIs.uniq {n : Nat} {tab : List (Option Int)} {l l' : Int} {f f' : List Nat} (h : PlanIs n tab l f) (g : PlanIs n tab l' f') : l = l' ∧ f = f' := by
  have e : l = l' := Int.le_antisymm (h.le _ g.mem) (g.le _ h.mem)
  subst e
  have e2 := h.fr.symm.trans g.fr
  exact ⟨rfl, nT_inj (Option.some.inj e2)⟩
theorem frees_sort {n : Nat} {tab : List (Option Int)} {m : Int} (h : some m ∈ tab) (ht : tab.length = 2 ^ n) : ∃ fr, atI (sortD ((freesP n tab m).map nT)) 0 = some (nT fr) ∧ fr ∈ freesP n tab m := by
  obtain ⟨l', h1, h2⟩ := R76.sort_map (f := nT) (freesP n tab m)
  obtain ⟨c, hc⟩ := List.getElem?_of_mem h
  have hlt : c < 2 ^ n := by rw [← ht]; exact (List.getElem?_eq_some_iff.mp hc).1
  have hm : numsP c n ∈ freesP n tab m := List.mem_map.mpr ⟨c, List.mem_filter.mpr ⟨List.mem_range.mpr hlt, decide_eq_true hc⟩, rfl⟩
  have hm2 := h2.mem_iff.mpr hm
  cases l' with
  | nil => cases hm2
  | cons a r => exact ⟨a, by rw [h1]; exact atI_nat (j := 0) rfl, h2.mem_iff.mp (by simp)⟩
theorem frees_lt {n : Nat} {tab : List (Option Int)} {m : Int} {fr : List Nat} (h : fr ∈ freesP n tab m) : fr.length ≤ n ∧ ∀ i ∈ fr, i < n := by
  obtain ⟨c, _, rfl⟩ := List.mem_map.mp h
  exact ⟨nums_len _ _, fun i hi => nums_lt hi⟩
theorem frees_len (n : Nat) (tab : List (Option Int)) (m : Int) : (freesP n tab m).length ≤ 2 ^ n := by
  unfold freesP
  rw [List.length_map]
  exact Nat.le_trans (List.length_filter_le _ _) (by rw [List.length_range]; exact Nat.le_refl _)
theorem PlanIs.lt {n : Nat} {tab : List (Option Int)} {l : Int} {f : List Nat} (h : PlanIs n tab l f) (ht : tab.length = 2 ^ n) : f.length ≤ n ∧ ∀ i ∈ f, i < n := by
  obtain ⟨fr, h1, h2⟩ := frees_sort h.mem ht
  rw [h.fr] at h1
  rw [nT_inj (Option.some.inj h1)]
  exact frees_lt h2
/-- sorted(..) of tuples of numbers -/
theorem s_sortN {ms : MS} {l : List (List Nat)} {k : SD → Prop} (hl : l.length ≤ 2000) (h : k (.d (.lst (sortD (l.map nT))))) : oSortedT ms [.d (.lst (l.map nT))] k := by
  refine ⟨_, rfl, R76.fitL_of fun d hd => ?_, fun d hd e he => ?_, fun d hd => ?_, z2000 (by rw [List.length_map]; exact hl), h⟩
  · obtain ⟨a, _, rfl⟩ := List.mem_map.mp hd
    exact fit_nT a 62
  · rw [List.map_map] at hd he
    obtain ⟨a, _, rfl⟩ := List.mem_map.mp hd
    obtain ⟨b, _, rfl⟩ := List.mem_map.mp he
    exact alike_nT a b
  · obtain ⟨a, _, rfl⟩ := List.mem_map.mp hd
    exact ⟨_, rfl⟩
def rowL (ps : List Par) (fr : List Nat) (s : Int) (goals : List Int) : List Nat := ((bestL ps fr s goals).map (·.2.2)).getD []
def rowsD (ps : List Par) (fr : List Nat) (starts goals : List Int) : D := .tup (starts.map fun s => nT (rowL ps fr s goals))
section
variable {P : Program} {w : World} {K : PySem.W.Frag} {mg : Str → Option Value} {base : Heap}
def R_row3 (C CT CN : Addr) : AFn := fun sds ms k x => ∃ ds start goals, sds = [.d (.lst ds), .d (.int start), .d (iT goals)] ∧ ds.length ≤ 1000 ∧ goals.length ≤ 10 ∧
  ((10 < ds.length ∧ x CT "limit" (.int 10) ms) ∨ ∃ ps, ds = ps.map (dPar C) ∧ ps.length ≤ 10 ∧ Pos ps ∧ (bestL ps [] start goals = none → x CN "start" (.int start) ms) ∧ ∀ l, bestL ps [] start goals = some l → k (.d (nT l.2.2)) ms)
theorem row3_of {C CT CN T : Addr} (hT : KT0 K T) {sds : List SD} {ms : MS} {k : SD → MS → Prop} {x : AX} (h : R_row3 C CT CN sds ms k x) : R_row K C CT CN (sds ++ [.v (.ref T)]) ms k x := by
  obtain ⟨ds, start, goals, rfl, h1, h2, h3⟩ := h
  exact ⟨ds, start, goals, [], _, rfl, .inr ⟨rfl, T, rfl, hT⟩, h1, h2, h3⟩
abbrev s_plan : Stmt := (topS 19)
theorem sc_plan : FnScope ["parcels", "starts", "goals", "prices", "start", "least", "count", "free", "chosen"] ["parcels", "starts", "goals"] (defScope s_plan) := ⟨rfl, rfl, rfl, by decide +kernel, rfl, by decide +kernel, by decide +kernel⟩

def R_plan (C CL CT CN : Addr) : AFn := fun sds ms k x => ∃ ds starts goals, sds = [.d (.lst ds), .d (iT starts), .d (iT goals)] ∧ ds.length ≤ 1000 ∧ starts.length ≤ 1000 ∧ goals.length ≤ 10 ∧
  ((10 < ds.length ∧ x CT "limit" (.int 10) ms) ∨ (ds.length ≤ 10 ∧ 8 < starts.length ∧ x CT "limit" (.int 8) ms) ∨ ∃ ps, ds = ps.map (dPar C) ∧ ps.length ≤ 10 ∧ Pos ps ∧ starts.length ≤ 8 ∧
    (∀ pre s post, starts = pre ++ s :: post → (∀ y ∈ pre, (bestL ps [] y goals).isSome = true) → bestL ps [] s goals = none → x CN "start" (.int s) ms) ∧
    ((∀ s ∈ starts, (bestL ps [] s goals).isSome = true) → ∀ least fr, PlanIs ps.length (tabP ps starts goals) least fr → k (.d (plD CL (nT fr) (rowsD ps fr starts goals) least)) ms))
theorem ok_plan (T : TopX K mg) (G_price_table : FnA P w K mg base (L2.CX P w) 4 "price_table" (R_table T.CP T.CT)) (G_row_of3 : FnA P w K mg base (L2.CX P w) 3 "row_of" (R_row3 T.CP T.CT T.CN)) (G_row_of : FnA P w K mg base (L2.CX P w) 3 "row_of" (R_row K T.CP T.CT T.CN))
    (G_numbers_in : FnA P w K mg base CX0 1 "numbers_in" R_nums) (GC_Plan : MkA P w K mg base CX0 1 "Plan" T.CL (R_planI T.CL)) {f : Addr} {fd : FuncData} (F : Fun K "plan" "plan" s_plan f fd) :
    FnOk P w K mg base (L2.CX P w) 5 f fd ["parcels", "starts", "goals"] (spA (R_plan T.CP T.CL T.CT T.CN)) := by
  have G_row_of0 := FnA.never G_row_of
  refine fnAX F sc_plan (fun sds ms k x h => ?_) (by decide) fun cdv A outer s H E hr => ⟨_, _, (ass_cons (as_set 3 sc_plan.nd (ae_call G_price_table (hr.mono (by first | decide | omega)) (fun σ => passAt (takes_of rfl rfl rfl rfl) σ) (by rfl) (aa_cons (ae_v 0) (aa_cons (ae_v 1) (aa_cons (ae_v 2) aa_nil)))))
    (ass_cons (as_for (passes_of rfl) rfl (ai_seq (ae_v 1)) (ag_name 4 sc_plan.nd)
      (ass_one (as_expr (ae_call G_row_of3 (hr.mono (by first | decide | omega)) (fun σ => passAt (takes_of rfl rfl rfl rfl) σ) (by rfl) (aa_cons (ae_v 0) (aa_cons (ae_v 4) (aa_cons (ae_v 2) aa_nil)))))))
    (ass_cons (as_set 5 sc_plan.nd (ae_callB (cr_min rfl) oa_minL (by rfl) T.min (by decide +kernel) (aa_cons (ae_v 3) aa_nil)))
    (ass_cons (as_set 6 sc_plan.nd (ae_callB call_len oa_len (by rfl) T.len (by decide +kernel) (aa_cons (ae_v 0) aa_nil)))
    (ass_cons (as_set 7 sc_plan.nd (ae_ix (u1 hr) (ae_callB (cr_sortedT (u80 hr)) oa_sortedT (by rfl) T.sorted (by decide +kernel) (aa_cons (ae_lc (own := [("chosen", 8)]) rfl sc_plan.nd (ai_range1 (by rfl) T.range (ae_bin op_shl oa_shl ae_int (ae_v 6))) (blkOk_by (own := [("chosen", 8)]) (N := ["parcels", "starts", "goals", "prices", "start", "least", "count", "free", "chosen"]) (sc := defScope s_plan) (by decide +kernel)) (by decide) (fun _ _ _ _ _ => (ag_name 8 sc_plan.nd)) (fun _ _ _ _ _ => (ats_one (at_cmp (opK_eq (K := K) rfl (u64 hr)) oa_eq (ae_ixK (K := K) rfl (u1 hr) (ae_v 3) (ae_v 8)) (ae_v 5) (nomark _)))) (fun _ _ _ _ _ => (ae_call G_numbers_in (hr.mono (by first | decide | omega)) (fun _ => pass0At) (by rfl) (aa_cons (ae_v 8) (aa_cons (ae_v 6) aa_nil))))) aa_nil)) ae_int))
    (ass_one (as_ret (ae_make GC_Plan (hr.mono (by first | decide | omega)) (by rfl) (aa_cons (ae_v 7) (aa_cons (ae_callTy call_tuple_of oa_tup (by rfl) T.tuple (by decide +kernel) (aa_cons (ae_lc (own := [("start", 4)]) rfl sc_plan.nd (ai_seq (ae_v 1)) (blkOk_by (own := [("start", 4)]) (N := ["parcels", "starts", "goals", "prices", "start", "least", "count", "free", "chosen"]) (sc := defScope s_plan) (by decide +kernel)) (by decide) (fun _ _ _ _ _ => (ag_name 4 sc_plan.nd)) (fun _ _ _ _ _ => ats_nil) (fun _ _ _ _ _ => (ae_call G_row_of0 (hr.mono (by first | decide | omega)) (fun _ => pass0At) (by rfl) (aa_cons (ae_v 0) (aa_cons (ae_v 4) (aa_cons (ae_v 2) (aa_cons (ae_v 7) aa_nil))))))) aa_nil)) (aa_cons (ae_v 5) aa_nil))))))))))), fun sds ms k x h => ?_⟩
  · obtain ⟨a, b, c, rfl, _⟩ := h; rfl
  · obtain ⟨ds, starts, goals, rfl, hdl, hsl, hg, q⟩ := h
    dsimp only [gam]
    walk_at "go"
    refine ⟨ds, starts, goals, rfl, hdl, hsl, hg, ?_⟩
    rcases q with ⟨h10, q⟩ | ⟨h10, h8, q⟩ | ⟨ps, rfl, hn, hp, h8, qx, qk⟩
    · exact .inl ⟨h10, q⟩
    · exact .inr (.inl ⟨h10, h8, q⟩)
    refine .inr (.inr ⟨ps, rfl, hn, hp, h8, ?_⟩)
    have hz := pow10 hn
    walk_at "go"
    refine forR_inv (fun i Γ ms' => ms' = ms ∧ (∀ s ∈ starts.take i, (bestL ps [] s goals).isSome = true) ∧ ∃ g4, Γ = [some (.d (.lst (ps.map (dPar T.CP)))), some (.d (iT starts)), some (.d (iT goals)), some (.d (tabD ps starts goals)), g4, none, none, none, none]) ⟨rfl, by simp, _, rfl⟩ (fun i d Γ m1 hd hP N hN => ?_) fun Γ m1 hP => ?_
    · obtain ⟨rfl, hall, g4, rfl⟩ := hP
      rw [List.getElem?_map] at hd
      cases hs1 : starts[i]? with
      | none => rw [hs1] at hd; cases hd
      | some s1 =>
      rw [hs1] at hd
      cases hd
      walk_at "go"
      refine ⟨_, s1, goals, rfl, hdl, hg, .inr ⟨ps, rfl, hn, hp, fun hb => ?_, fun l hb => ?_⟩⟩
      · refine qx (starts.take i) s1 (starts.drop (i + 1)) ?_ hall hb
        have hi : i < starts.length := (List.getElem?_eq_some_iff.mp hs1).1
        have e := (List.take_append_drop i starts).symm
        rw [List.drop_eq_getElem_cons hi, (List.getElem?_eq_some_iff.mp hs1).2] at e
        exact e
      · walk_at "go"
        refine hN _ _ ⟨rfl, fun s2 h2 => ?_, _, rfl⟩
        rw [List.take_add_one, hs1] at h2
        rcases List.mem_append.mp h2 with h2 | h2
        · exact hall s2 h2
        · rw [List.mem_singleton.mp h2, hb]; rfl
    · obtain ⟨rfl, hall, g4, rfl⟩ := hP
      rw [List.length_map, List.take_length] at hall
      obtain ⟨ns, hns, hnl⟩ := tab_some hall
      have htd : tabD ps starts goals = .lst (ns.map .int) := by unfold tabD; rw [hns, List.map_map]; rfl
      have hpos : 0 < 2 ^ ps.length := Nat.pow_pos (by decide)
      walk_at "go"
      refine ⟨ns, by rw [htd]; rfl, by omega, fun m hm hmin => ?_⟩
      have hmt : some m ∈ tabP ps starts goals := by rw [hns]; exact List.mem_map.mpr ⟨m, hm, rfl⟩
      obtain ⟨fr, hfr, hfm⟩ := frees_sort hmt (tab_len ps starts goals)
      have hpl : PlanIs ps.length (tabP ps starts goals) m fr := ⟨hmt, fun y hy => by
        rw [hns] at hy
        obtain ⟨z, hz, e⟩ := List.mem_map.mp hy
        cases e
        exact hmin y hz, hfr⟩
      have hfl := frees_lt hfm
      walk_at "go"
      rw [List.length_map, shl1]
      refine s_rng (rngOk (by omega)) ?_
      rw [Int.toNat_natCast, rngD0]
      refine lcI_fm (f := fun c : Nat => nT (numsP c ps.length)) (p := fun c => decide ((tabP ps starts goals)[c]? = some (some m))) (z2000 (by rw [List.length_range]; omega)) (fun c hc acc N hz2 hN => ?_) ?_
      · have hc := List.mem_range.mp hc
        have hcl : c < ns.length := by omega
        have hcv : (tabP ps starts goals)[c]? = some (some ns[c]) := by rw [hns, List.getElem?_map, List.getElem?_eq_getElem hcl]; rfl
        walk_at "go"
        rw [htd]
        refine s_ix rfl (d := .int ns[c]) (atI_nat (by rw [List.getElem?_map, List.getElem?_eq_getElem hcl]; rfl)) ?_
        walk_at "go"
        rw [Bool.false_xor]
        rw [hcv] at hN
        refine s_ite (fun e => ?_) (fun e => ?_)
        · rw [if_pos (by have := of_decide_eq_true e; rw [this]; simp)] at hN
          walk_at "go"
          refine ⟨c, ps.length, rfl, by omega, ?_⟩
          walk_at "go"
          exact ⟨hz2, hN⟩
        · rw [if_neg (by have := of_decide_eq_false e; simp [this]), List.append_nil] at hN
          exact hN
      rw [show (List.map (fun c : Nat => nT (numsP c ps.length)) (List.filter (fun c => decide ((tabP ps starts goals)[c]? = some (some m))) (List.range (2 ^ ps.length)))) = (freesP ps.length (tabP ps starts goals) m).map nT by unfold freesP; rw [List.map_map]; rfl]
      walk_at "go"
      refine s_sortN (Nat.le_trans (frees_len _ _ _) (by omega)) ?_
      refine s_ix rfl hfr ?_
      walk_at "go"
      refine lcI_map (f := fun s : Int => nT (rowL ps fr s goals)) (small_len (by omega)) (fun s1 hs1 acc N hz2 hN => ?_) ?_
      · obtain ⟨l, hl⟩ := Option.isSome_iff_exists.mp (show (bestL ps fr s1 goals).isSome = true by rw [best_free]; exact hall s1 hs1)
        walk_at "go"
        refine ⟨_, s1, goals, fr, _, rfl, .inl rfl, hdl, hg, .inr ⟨ps, rfl, hn, hp, fun hb => ?_, fun l' hb => ?_⟩⟩
        · rw [hl] at hb; cases hb
        · walk_at "go"
          refine ⟨hz2, ?_⟩
          have e : rowL ps fr s1 goals = l'.2.2 := by unfold rowL; rw [hb]; rfl
          rw [e] at hN
          exact hN
      walk_at "go"
      intro p hpn
      refine ⟨p, _, _, _, rfl, mu_same, rfl, _, by rw [mu_mu]; exact mu_same, ?_⟩
      have e : md (mu (mu m1 p (.i T.CL [])) p (.i T.CL [("to_all", nT fr), ("rows", .tup (starts.map fun s => nT (rowL ps fr s goals))), ("price", .int m)])) p = m1 := by
        rw [mu_mu]
        funext b
        by_cases hb : b = p
        · subst hb; rw [md_same]; exact hpn.symm
        · rw [md_ne hb, mu_ne hb]
      rw [e]
      exact Out.here (qk hall m fr hpl)
end
end R77

/-! ## K77u -/
set_option Elab.async false
set_option linter.all false
set_option maxRecDepth 100000
set_option maxHeartbeats 4000000
namespace R77
open PySem PySem.Spec PyProof.Rows L2 AL
open Evl (Ex)
open R76 (topS u1 u64 u65 u80 SrcAt SB R_draw)
local macro_rules | `(tactic| walk_at "st") => `(tactic| first
  | (with_reducible refine' s_seq ?_) | (with_reducible refine' s_set ?_) | (with_reducible refine' s_nx ?_) | (with_reducible refine' s_ret ?_) | (with_reducible refine' s_drop ?_) | (with_reducible refine' s_asg ?_) | (with_reducible refine' s_for ?_) | (with_reducible refine' s_tt ?_) | (with_reducible refine' s_ff ?_) | (with_reducible refine' s_lcS ?_) | (with_reducible refine' s_put ?_) | (with_reducible refine' s_app ?_) | (with_reducible refine' s_ext ?_)
  | (with_reducible refine' s_gN ?_) | ((with_reducible refine' s_v ?e ?_); (case e => rfl)) | (with_reducible refine' s_asB ?_) | (with_reducible refine' s_asI ?_) | (with_reducible refine' s_asD ?_) | (with_reducible refine' s_nil ?_) | (with_reducible refine' s_cons ?_)
  | (with_reducible refine' s_addI ?_) | (with_reducible refine' s_I0 ?_) | (with_reducible refine' s_neg ?_) | (with_reducible refine' s_eqI ?_) | (with_reducible refine' s_eqS ?_) | (with_reducible refine' s_ltI ?_) | (with_reducible refine' s_isN ?_) | (with_reducible refine' s_int ?_) | (with_reducible refine' s_abs ?_)
  | ((with_reducible refine' s_len ?e ?_); (case e => first | rfl | exact seqOf_m (by assumption) | exact seqOf_m mu_same))
  | ((with_reducible refine' s_ix ?e ?e2 ?_); (case e => first | rfl | exact seqOf_m (by assumption) | exact seqOf_m mu_same); (case e2 => first | rfl | assumption | exact atI_nat (j := 0) rfl | exact atI_nat (j := 1) rfl | exact atI_nat (j := 2) rfl | exact atI_nat (j := 3) rfl))
  | ((with_reducible refine' s_putL ?e ?e2 ?_); (case e => first | assumption | exact mu_same); (case e2 => first | rfl | assumption))
  | ((with_reducible refine' s_oL ?e ?_); (case e => first | assumption | exact mu_same))
  | ((with_reducible refine' s_dat ?e ?_); (case e => rfl)) | ((with_reducible refine' s_rng ?e ?_); (case e => exact ⟨by omega, by omega⟩))
  | ((with_reducible refine' s_I ?c ?_); (case c => first | assumption | exact ⟨by omega, by omega⟩ | exact ⟨by decide, by decide, by decide⟩ | exact Or.inl ⟨by omega, by omega⟩ | exact Or.inr ⟨by omega, by omega⟩ | (show (0 : Int) < _; omega) | (show (0 : Int) ≤ _; omega)))
  | (with_reducible refine' s_slT ?_) | (with_reducible refine' s_slL ?_) | (with_reducible refine' s_gC ?_) | ((with_reducible refine' s_gT ?e ?_); (case e => rfl))
  | ((with_reducible refine' s_tup ?e ?_); (case e => first | rfl | exact seqOf_m (by assumption) | exact seqOf_m mu_same))
  | ((with_reducible refine' s_list ?e ?_); (case e => first | rfl | exact seqOf_m (by assumption) | exact seqOf_m mu_same))
  | ((with_reducible refine' s_isi ?e ?e2 ?_); (case e => rfl); (case e2 => rfl))
  | (with_reducible refine' s_max ?_)
  | ((with_reducible refine' And.intro ?r ?_); (case r => with_reducible rfl)))
local macro_rules | `(tactic| walk_at "one") => `(tactic| first | (with_reducible refine' s_if ?_) | walk_at "st")
local macro_rules | `(tactic| walk_at "up") => `(tactic| repeat walk_at "st")
local macro_rules | `(tactic| walk_at "go") => `(tactic| repeat walk_at "one")
local macro_rules | `(tactic| walk_at "all") => `(tactic| repeat' (first | walk_at "one" | (refine s_ite (fun _ => ?_) (fun _ => ?_))))

theorem dr {a : Addr} {n : Int} {ms : MS} {k : SD → MS → Prop} {x : AX} (hS : SrcAt ms a) (h1 : 0 < n) (h2 : n < 1073741824) (h : ∀ v ms', 0 ≤ v → v < n → SB a ms ms' → k (.d (.int v)) ms') : R_draw [.v (.ref a), .d (.int n)] ms k x := ⟨a, n, rfl, hS, h1, h2, h⟩
/-! ### lines are short -/
theorem next_len (ps : List Par) {m : Nat} (hm : ∀ w pl, ((List.range ps.length).filter (onP ps w pl)).length ≤ m) : ∀ line : List (List Nat × Int), (nextP ps line).length ≤ line.length * m
  | [] => by simp [nextP]
  | q :: r => by
    have ih := next_len ps hm r
    have e : nextP ps (q :: r) = ((List.range ps.length).filter (onP ps q.1 q.2)).map (fun k => (q.1 ++ [k], resP ps k)) ++ nextP ps r := rfl
    rw [e, List.length_append, List.length_map, List.length_cons, Nat.succ_mul]
    have := hm q.1 q.2
    omega
theorem line_len (ps : List Par) {m : Nat} (hm : ∀ w pl, ((List.range ps.length).filter (onP ps w pl)).length ≤ m) (start : Int) : ∀ s, (lineP ps start s).length ≤ m ^ s
  | 0 => by simp [lineP]
  | s + 1 => by
    have ih := line_len ps hm start s
    rw [lineP, Nat.pow_succ]
    exact Nat.le_trans (next_len ps hm _) (Nat.mul_le_mul ih (Nat.le_refl _))
structure WorldOk (ps : List Par) (starts goals : List Int) : Prop where
  n : ps.length ≤ 10
  w : ∀ p ∈ ps, 1 ≤ p.words ∧ p.words ≤ 60000
  st : starts.length ≤ 8
  g : goals.length ≤ 2
  ln : ∀ start s, s ≤ ps.length + 1 → (lineP ps start s).length ≤ 20000
theorem line5 {ps : List Par} (h : ps.length ≤ 5) (start : Int) (s : Nat) (hs : s ≤ ps.length + 1) : (lineP ps start s).length ≤ 20000 := by
  refine Nat.le_trans (line_len ps (m := 5) (fun w pl => Nat.le_trans (List.length_filter_le _ _) (by rw [List.length_range]; exact h)) start s) ?_
  exact Nat.le_trans (Nat.pow_le_pow_right (by decide) (show s ≤ 6 by omega)) (by decide)
def chainP (ws : List Int) : List Par := ws.mapIdx fun k w => ⟨some k, k + 1, w⟩
theorem filter_one {n : Nat} {p : Nat → Bool} {c : Int} (h : ∀ k : Nat, k < n → p k = true → (k : Int) = c) : ((List.range n).filter p).length ≤ 1 := by
  induction n with
  | zero => simp
  | succ n ih =>
    rw [List.range_succ, List.filter_append, List.length_append]
    by_cases hn : p n = true
    · have e : (List.range n).filter p = [] := by
        rw [List.filter_eq_nil_iff]
        intro k hk hp
        have := List.mem_range.mp hk
        have h1 := h k (by omega) hp
        have h2 := h n (by omega) hn
        omega
      rw [e]
      simp [hn]
    · simp [hn]; exact ih fun k hk => h k (by omega)
theorem line_chain (ws : List Int) (start : Int) (s : Nat) : (lineP (chainP ws) start s).length ≤ 20000 := by
  refine Nat.le_trans (line_len (chainP ws) (m := 1) (fun w pl => ?_) start s) (by rw [Nat.one_pow]; decide)
  refine filter_one (c := pl) fun k hkl hk => ?_
  unfold onP at hk
  rw [Bool.and_eq_true] at hk
  have hk := hk.2
  unfold chainP at hk
  rw [List.getElem?_mapIdx] at hk
  cases e : ws[k]? with
  | none =>
    unfold chainP at hkl
    rw [List.length_mapIdx] at hkl
    rw [List.getElem?_eq_getElem hkl] at e
    cases e
  | some w =>
    rw [e] at hk
    simpa using hk
section
variable {P : Program} {w : World} {K : PySem.W.Frag} {mg : Str → Option Value} {base : Heap}
abbrev s_law_words : Stmt := (topS 24)
theorem sc_law_words : FnScope ["source", "way"] ["source"] (defScope s_law_words) := ⟨rfl, rfl, rfl, by decide +kernel, rfl, by decide +kernel, by decide +kernel⟩

def R_words : AFn := fun sds ms k _ => ∃ a, sds = [.v (.ref a)] ∧ SrcAt ms a ∧ ∀ v ms', 1 ≤ v → v ≤ 60000 → SB a ms ms' → k (.d (.int v)) ms'
theorem ok_words (T : R76.Blt mg) (G_law_draw : FnA P w K mg base CX0 1 "_law_draw" R_draw) {f : Addr} {fd : FuncData} (F : Fun K "_law_words" "_law_words" s_law_words f fd) : FnOk P w K mg base CX0 2 f fd ["source"] (spA R_words) := by
  refine fnA F sc_law_words (fun sds ms k x h => ?_) (by decide) fun cdv A outer s H E hr => ⟨_, _, (ass_cons (as_set 1 sc_law_words.nd (ae_call G_law_draw (hr.mono (by first | decide | omega)) (fun _ => pass0At) (by rfl) (aa_cons (ae_v 0) (aa_cons ae_int aa_nil))))
    (ass_cons (as_if (at_cmp (op_ltA (u64 hr)) oa_lt (ae_v 1) ae_int (nomark _)) (ass_one (as_ret (ae_bin op_addA oa_add ae_int (ae_call G_law_draw (hr.mono (by first | decide | omega)) (fun _ => pass0At) (by rfl) (aa_cons (ae_v 0) (aa_cons ae_int aa_nil)))))) ass_nil)
    (ass_cons (as_if (at_cmp (op_eqA (u64 hr)) oa_eq (ae_v 1) ae_int (nomark _)) (ass_one (as_ret (ae_bin op_sub oa_sub ae_int (ae_call G_law_draw (hr.mono (by first | decide | omega)) (fun _ => pass0At) (by rfl) (aa_cons (ae_v 0) (aa_cons ae_int aa_nil)))))) ass_nil)
    (ass_one (as_ret (ae_bin op_addA oa_add ae_int (ae_call G_law_draw (hr.mono (by first | decide | omega)) (fun _ => pass0At) (by rfl) (aa_cons (ae_v 0) (aa_cons ae_int aa_nil))))))))), fun sds ms k x h => ?_⟩
  · obtain ⟨a, rfl, _⟩ := h; rfl
  · obtain ⟨a, rfl, hS, q⟩ := h
    dsimp only [gam]
    walk_at "go"
    refine dr hS (by decide) (by decide) fun v m1 h0 h1 hB => ?_
    walk_at "go"
    refine s_ite (fun e => ?_) (fun e => ?_)
    · walk_at "go"
      refine dr hB.1 (by decide) (by decide) fun u m2 h2 h3 hB2 => ?_
      walk_at "go"
      exact Out.here (q _ _ (by omega) (by omega) (hB.trans hB2))
    · walk_at "go"
      refine s_ite (fun e => ?_) (fun e => ?_)
      · walk_at "go"
        refine dr hB.1 (by decide) (by decide) fun u m2 h2 h3 hB2 => ?_
        walk_at "go"
        exact Out.here (q _ _ (by omega) (by omega) (hB.trans hB2))
      · walk_at "go"
        refine dr hB.1 (by decide) (by decide) fun u m2 h2 h3 hB2 => ?_
        walk_at "go"
        exact Out.here (q _ _ (by omega) (by omega) (hB.trans hB2))
def worldD (ps : List Par) (starts goals : List Int) : D := .tup [.lst (ps.map rowD), iT starts, iT goals]
abbrev s_law_chain : Stmt := (topS 25)
theorem sc_law_chain : FnScope ["source", "rows", "k"] ["source"] (defScope s_law_chain) := ⟨rfl, rfl, rfl, by decide +kernel, rfl, by decide +kernel, by decide +kernel⟩

def R_chain : AFn := fun sds ms k _ => ∃ a, sds = [.v (.ref a)] ∧ SrcAt ms a ∧ ∀ ps starts goals ms', WorldOk ps starts goals → SB a ms ms' → k (.d (worldD ps starts goals)) ms'
theorem ok_chain (T : R76.Blt mg) (G_law_draw : FnA P w K mg base CX0 1 "_law_draw" R_draw) (G_law_words : FnA P w K mg base CX0 2 "_law_words" R_words) {f : Addr} {fd : FuncData} (F : Fun K "_law_chain" "_law_chain" s_law_chain f fd) : FnOk P w K mg base CX0 3 f fd ["source"] (spA R_chain) := by
  refine fnA F sc_law_chain (fun sds ms k x h => ?_) (by decide) fun cdv A outer s H E hr => ⟨_, _, (ass_cons (as_setLc 1 (own := [("k", 2)]) rfl sc_law_chain.nd (ai_range1 (by rfl) T.range ae_int) (blkOk_by (own := [("k", 2)]) (N := ["source", "rows", "k"]) (sc := defScope s_law_chain) (by decide +kernel)) (by decide) (fun _ _ _ _ _ => (ag_name 2 sc_law_chain.nd)) (fun _ _ _ _ _ => ats_nil) (fun _ _ _ _ _ => (ae_tup (aa_cons (ae_v 2) (aa_cons (ae_bin (opK_add (K := K) rfl) oa_add (ae_v 2) ae_int) (aa_cons (ae_call G_law_words (hr.mono (by first | decide | omega)) (fun _ => pass0At) (by rfl) (aa_cons (ae_v 0) aa_nil)) aa_nil))))) (sw_true rfl rfl rfl (by decide +kernel)))
    (ass_one (as_ret (ae_tup (aa_cons (ae_v 1) (aa_cons (ae_tup (aa_cons (ae_call G_law_draw (hr.mono (by first | decide | omega)) (fun _ => pass0At) (by rfl) (aa_cons (ae_v 0) (aa_cons ae_int aa_nil))) aa_nil)) (aa_cons (ae_tup (aa_cons (ae_bin op_sub oa_sub ae_int (ae_call G_law_draw (hr.mono (by first | decide | omega)) (fun _ => pass0At) (by rfl) (aa_cons (ae_v 0) (aa_cons ae_int aa_nil)))) aa_nil)) aa_nil))))))), fun sds ms k x h => ?_⟩
  · obtain ⟨a, rfl, _⟩ := h; rfl
  · obtain ⟨a, rfl, hS, q⟩ := h
    dsimp only [gam]
    walk_at "go"
    refine lcI_inv (fun i acc ms' => SB a ms ms' ∧ ∃ ws : List Int, acc = (chainP ws).map rowD ∧ ws.length = i ∧ ∀ w ∈ ws, 1 ≤ w ∧ w ≤ 60000) ⟨.refl hS, [], rfl, rfl, by simp⟩ (fun i d acc m1 hd hP N hN => ?_) fun acc m1 hP => ?_
    · obtain ⟨hB, ws, rfl, hi, hw⟩ := hP
      have hlt : i < 10 := by
        have := (List.getElem?_eq_some_iff.mp hd).1
        unfold rngD at this
        simpa using this
      have ed : d = .int i := by
        unfold rngD at hd
        rw [List.getElem?_map, List.getElem?_range (by simpa using hlt)] at hd
        cases hd
        simp
      subst ed
      walk_at "go"
      refine ⟨a, rfl, hB.1, fun v m2 h1 h2 hB2 => ?_⟩
      walk_at "go"
      refine ⟨small_len (by rw [List.length_map]; unfold chainP; rw [List.length_mapIdx]; omega), hN _ _ ⟨hB.trans hB2, ws ++ [v], ?_, by simp [hi], fun w hw2 => ?_⟩⟩
      · unfold chainP
        rw [List.mapIdx_append, List.map_append, hi]
        simp [rowD, oD]
      · rcases List.mem_append.mp hw2 with h | h
        · exact hw w h
        · rw [List.mem_singleton.mp h]; exact ⟨h1, h2⟩
    · obtain ⟨hB, ws, rfl, hi, hw⟩ := hP
      have hi : ws.length = 10 := by rw [hi]; unfold rngD; simp
      walk_at "go"
      refine dr hB.1 (by decide) (by decide) fun u m2 h2 h3 hB2 => ?_
      walk_at "go"
      refine dr hB2.1 (by decide) (by decide) fun v m3 h4 h5 hB3 => ?_
      walk_at "go"
      refine Out.here (q (chainP ws) [u] [10 - v] _ ⟨?_, fun p hp => ?_, by simp, by simp, fun start s _ => line_chain ws start s⟩ ((hB.trans hB2).trans hB3))
      · unfold chainP; rw [List.length_mapIdx]; omega
      · unfold chainP at hp
        obtain ⟨i, hi, e⟩ := List.mem_mapIdx.mp hp
        subst e
        exact hw _ (List.getElem_mem _)
abbrev s_law_parcel : Stmt := (topS 26)
theorem sc_law_parcel : FnScope ["source", "numbers", "at", "result", "way"] ["source", "numbers"] (defScope s_law_parcel) := ⟨rfl, rfl, rfl, by decide +kernel, rfl, by decide +kernel, by decide +kernel⟩

def R_lparcel : AFn := fun sds ms k _ => ∃ a, ∃ nums : List Int, sds = [.v (.ref a), .d (.lst (nums.map .int))] ∧ nums.length = 5 ∧ SrcAt ms a ∧ ∀ p ms', 1 ≤ p.words → p.words ≤ 60000 → SB a ms ms' → k (.d (rowD p)) ms'
theorem num_at {nums : List Int} {i : Int} (hl : nums.length = 5) (h0 : 0 ≤ i) (h1 : i < 5) : ∃ v, atI (nums.map D.int) i = some (.int v) := by
  obtain ⟨v, h, _⟩ := R76.atI_int (l := nums) h0 (by omega)
  exact ⟨v, h⟩
theorem ok_lparcel (T : Blt77 mg) (G_law_draw : FnA P w K mg base CX0 1 "_law_draw" R_draw) (G_law_words : FnA P w K mg base CX0 2 "_law_words" R_words) {f : Addr} {fd : FuncData} (F : Fun K "_law_parcel" "_law_parcel" s_law_parcel f fd) : FnOk P w K mg base CX0 3 f fd ["source", "numbers"] (spA R_lparcel) := by
  refine fnA F sc_law_parcel (fun sds ms k x h => ?_) (by decide) fun cdv A outer s H E hr => ⟨_, _, (ass_cons (as_set 2 sc_law_parcel.nd (ae_call G_law_draw (hr.mono (by first | decide | omega)) (fun _ => pass0At) (by rfl) (aa_cons (ae_v 0) (aa_cons ae_int aa_nil))))
    (ass_cons (as_set 3 sc_law_parcel.nd (ae_ix (u1 hr) (ae_v 1) (ae_bin op_addA oa_add (ae_bin op_addA oa_add (ae_v 2) ae_int) (ae_call G_law_draw (hr.mono (by first | decide | omega)) (fun _ => pass0At) (by rfl) (aa_cons (ae_v 0) (aa_cons (ae_bin op_sub oa_sub ae_int (ae_v 2)) aa_nil))))))
    (ass_cons (as_set 4 sc_law_parcel.nd (ae_call G_law_draw (hr.mono (by first | decide | omega)) (fun _ => pass0At) (by rfl) (aa_cons (ae_v 0) (aa_cons ae_int aa_nil))))
    (ass_cons (as_if (at_cmp (op_eqA (u64 hr)) oa_eq (ae_v 4) ae_int (nomark _)) (ass_one (as_ret (ae_tup (aa_cons ae_non (aa_cons (ae_v 3) (aa_cons (ae_callB (call_min2 rfl) oa_min2 (by rfl) T.min (by decide +kernel) (aa_cons ae_int (aa_cons (ae_bin op_addA oa_add ae_int (ae_call G_law_words (hr.mono (by first | decide | omega)) (fun _ => pass0At) (by rfl) (aa_cons (ae_v 0) aa_nil))) aa_nil))) aa_nil)))))) ass_nil)
    (ass_cons (as_if (at_cmp (op_eqA (u64 hr)) oa_eq (ae_v 4) ae_int (nomark _)) (ass_one (as_ret (ae_tup (aa_cons (ae_ix (u1 hr) (ae_v 1) (ae_call G_law_draw (hr.mono (by first | decide | omega)) (fun _ => pass0At) (by rfl) (aa_cons (ae_v 0) (aa_cons ae_int aa_nil)))) (aa_cons (ae_ix (u1 hr) (ae_v 1) (ae_call G_law_draw (hr.mono (by first | decide | omega)) (fun _ => pass0At) (by rfl) (aa_cons (ae_v 0) (aa_cons ae_int aa_nil)))) (aa_cons (ae_call G_law_words (hr.mono (by first | decide | omega)) (fun _ => pass0At) (by rfl) (aa_cons (ae_v 0) aa_nil)) aa_nil)))))) ass_nil)
    (ass_one (as_ret (ae_tup (aa_cons (ae_ix (u1 hr) (ae_v 1) (ae_v 2)) (aa_cons (ae_v 3) (aa_cons (ae_call G_law_words (hr.mono (by first | decide | omega)) (fun _ => pass0At) (by rfl) (aa_cons (ae_v 0) aa_nil)) aa_nil))))))))))), fun sds ms k x h => ?_⟩
  · obtain ⟨a, b, rfl, _⟩ := h; rfl
  · obtain ⟨a, nums, rfl, hl, hS, q⟩ := h
    dsimp only [gam]
    walk_at "go"
    refine dr hS (by decide) (by decide) fun v1 m1 h0 h1 hB1 => ?_
    walk_at "go"
    refine dr hB1.1 (by omega) (by omega) fun v2 m2 h2 h3 hB2 => ?_
    obtain ⟨r, hr1⟩ := num_at (i := v1 + 1 + v2) hl (by omega) (by omega)
    walk_at "go"
    refine dr hB2.1 (by decide) (by decide) fun v3 m3 h4 h5 hB3 => ?_
    have hB := (hB1.trans hB2).trans hB3
    walk_at "go"
    refine s_ite (fun e => ?_) (fun e => ?_)
    · walk_at "go"
      refine ⟨a, rfl, hB3.1, fun v m4 h6 h7 hB4 => ?_⟩
      walk_at "go"
      refine (show oMin2 _ _ _ from ?_)
      refine Out.here (q ⟨none, r, if 2 + v < 60000 then 2 + v else 60000⟩ _ ?_ ?_ (hB.trans hB4))
      · dsimp only; split <;> omega
      · dsimp only; split <;> omega
    · walk_at "go"
      refine s_ite (fun e => ?_) (fun e => ?_)
      · walk_at "go"
        refine dr hB3.1 (by decide) (by decide) fun v4 m4 h6 h7 hB4 => ?_
        obtain ⟨r1, hr2⟩ := num_at (i := v4) hl h6 h7
        refine s_ix rfl hr2 ?_
        walk_at "go"
        refine dr hB4.1 (by decide) (by decide) fun v5 m5 h8 h9 hB5 => ?_
        obtain ⟨r3, hr3⟩ := num_at (i := v5) hl h8 h9
        refine s_ix rfl hr3 ?_
        walk_at "go"
        refine ⟨a, rfl, hB5.1, fun v m6 h10 h11 hB6 => ?_⟩
        walk_at "go"
        exact Out.here (q ⟨some r1, r3, v⟩ _ h10 h11 (((hB.trans hB4).trans hB5).trans hB6))
      · walk_at "go"
        obtain ⟨r1, hr2⟩ := num_at (i := v1) hl h0 (by omega)
        refine s_ix rfl hr2 ?_
        walk_at "go"
        refine ⟨a, rfl, hB3.1, fun v m4 h6 h7 hB4 => ?_⟩
        walk_at "go"
        exact Out.here (q ⟨some r1, r, v⟩ _ h6 h7 (hB.trans hB4))
abbrev s_law_world : Stmt := (topS 27)
theorem sc_law_world : FnScope ["source", "way", "numbers", "count", "devices", "rows", "k", "starts", "goals"] ["source"] (defScope s_law_world) := ⟨rfl, rfl, rfl, by decide +kernel, rfl, by decide +kernel, by decide +kernel⟩

def R_world : AFn := fun sds ms k _ => ∃ a, sds = [.v (.ref a)] ∧ SrcAt ms a ∧ ∀ ps starts goals ms', WorldOk ps starts goals → SB a ms ms' → k (.d (worldD ps starts goals)) ms'
theorem ok_world (T : R76.Blt mg) (G_law_draw : FnA P w K mg base CX0 1 "_law_draw" R_draw) (G_law_words : FnA P w K mg base CX0 2 "_law_words" R_words) (G_law_chain : FnA P w K mg base CX0 3 "_law_chain" R_chain) (G_law_parcel : FnA P w K mg base CX0 3 "_law_parcel" R_lparcel)
    {f : Addr} {fd : FuncData} (F : Fun K "_law_world" "_law_world" s_law_world f fd) : FnOk P w K mg base CX0 4 f fd ["source"] (spA R_world) := by
  refine fnA F sc_law_world (fun sds ms k x h => ?_) (by decide) fun cdv A outer s H E hr => ⟨_, _, (ass_cons (as_set 1 sc_law_world.nd (ae_call G_law_draw (hr.mono (by first | decide | omega)) (fun _ => pass0At) (by rfl) (aa_cons (ae_v 0) (aa_cons ae_int aa_nil))))
    (ass_cons (as_if (at_cmp (op_eqA (u64 hr)) oa_eq (ae_v 1) ae_int (nomark _)) (ass_one (as_ret (ae_call G_law_chain (hr.mono (by first | decide | omega)) (fun _ => pass0At) (by rfl) (aa_cons (ae_v 0) aa_nil)))) ass_nil)
    (ass_cons (as_set 2 sc_law_world.nd (ae_lst (aa_cons ae_int (aa_cons ae_int (aa_cons ae_int (aa_cons ae_int (aa_cons ae_int aa_nil)))))))
    (ass_cons (as_if (at_cmp (op_eqA (u64 hr)) oa_eq (ae_call G_law_draw (hr.mono (by first | decide | omega)) (fun _ => pass0At) (by rfl) (aa_cons (ae_v 0) (aa_cons ae_int aa_nil))) ae_int (nomark _)) (ass_one (as_set 2 sc_law_world.nd (ae_lst (aa_cons ae_int (aa_cons ae_int (aa_cons ae_int (aa_cons ae_int (aa_cons ae_int aa_nil)))))))) ass_nil)
    (ass_cons (as_set 3 sc_law_world.nd (ae_call G_law_draw (hr.mono (by first | decide | omega)) (fun _ => pass0At) (by rfl) (aa_cons (ae_v 0) (aa_cons ae_int aa_nil))))
    (ass_cons (as_set 4 sc_law_world.nd (ae_call G_law_draw (hr.mono (by first | decide | omega)) (fun _ => pass0At) (by rfl) (aa_cons (ae_v 0) (aa_cons ae_int aa_nil))))
    (ass_cons (as_if (at_cmp (op_inA (u65 hr)) oa_in (ae_v 1) (ae_tup (aa_cons ae_int (aa_cons ae_int (aa_cons ae_int (aa_cons ae_int aa_nil))))) (by rfl)) (ass_cons (as_set 3 sc_law_world.nd (ae_call G_law_draw (hr.mono (by first | decide | omega)) (fun _ => pass0At) (by rfl) (aa_cons (ae_v 0) (aa_cons ae_int aa_nil))))
      (ass_one (as_set 4 sc_law_world.nd ae_int))) ass_nil)
    (ass_cons (as_setLcM 5 (own := [("k", 6)]) rfl sc_law_world.nd (ai_range1 (by rfl) T.range (ae_v 3)) (blkOk_by (own := [("k", 6)]) (N := ["source", "way", "numbers", "count", "devices", "rows", "k", "starts", "goals"]) (sc := defScope s_law_world) (by decide +kernel)) (by decide) (fun _ _ _ _ _ => (ag_name 6 sc_law_world.nd)) (fun _ _ _ _ _ => ats_nil) (fun _ _ _ _ _ => (ae_call G_law_parcel (hr.mono (by first | decide | omega)) (fun _ => pass0At) (by rfl) (aa_cons (ae_v 0) (aa_cons (ae_v 2) aa_nil)))) (sw_true rfl rfl rfl (by decide +kernel)))
    (ass_cons (as_if (AW.at (aw_and (at_cmp op_gt oa_gt (ae_v 3) ae_int (nomark _)) (aw_and1 (at_cmp op_gt oa_gt (ae_call G_law_draw (hr.mono (by first | decide | omega)) (fun _ => pass0At) (by rfl) (aa_cons (ae_v 0) (aa_cons ae_int aa_nil))) ae_int (nomark _))))) (ass_one (as_put (u1 hr) (ae_v 5) (ae_call G_law_draw (hr.mono (by first | decide | omega)) (fun _ => pass0At) (by rfl) (aa_cons (ae_v 0) (aa_cons (ae_v 3) aa_nil))) (ae_tup (aa_cons ae_non (aa_cons (ae_ix (u1 hr) (ae_v 2) ae_int) (aa_cons (ae_bin op_addA oa_add ae_int (ae_bin op_fdiv oa_div (ae_bin op_mul oa_mul ae_int (ae_call G_law_words (hr.mono (by first | decide | omega)) (fun _ => pass0At) (by rfl) (aa_cons (ae_v 0) aa_nil))) ae_int)) aa_nil)))))) ass_nil)
    (ass_cons (as_set 7 sc_law_world.nd (ae_callTy call_tuple_of oa_tup (by rfl) T.tuple (by decide +kernel) (aa_cons (ae_lc (own := [("k", 6)]) rfl sc_law_world.nd (ai_range1 (by rfl) T.range (ae_v 4)) (blkOk_by (own := [("k", 6)]) (N := ["source", "way", "numbers", "count", "devices", "rows", "k", "starts", "goals"]) (sc := defScope s_law_world) (by decide +kernel)) (by decide) (fun _ _ _ _ _ => (ag_name 6 sc_law_world.nd)) (fun _ _ _ _ _ => ats_nil) (fun _ _ _ _ _ => (ae_ixK (K := K) rfl (u1 hr) (ae_v 2) (ae_call G_law_draw (hr.mono (by first | decide | omega)) (fun _ => pass0At) (by rfl) (aa_cons (ae_v 0) (aa_cons ae_int aa_nil)))))) aa_nil)))
    (ass_cons (as_set 8 sc_law_world.nd (ae_tup (aa_cons (ae_ix (u1 hr) (ae_v 2) ae_int) aa_nil)))
    (ass_cons (as_if (at_cmp (op_eqA (u64 hr)) oa_eq (ae_call G_law_draw (hr.mono (by first | decide | omega)) (fun _ => pass0At) (by rfl) (aa_cons (ae_v 0) (aa_cons ae_int aa_nil))) ae_int (nomark _)) (ass_one (as_set 8 sc_law_world.nd (ae_bin op_addA oa_add (ae_v 8) (ae_tup (aa_cons (ae_ix (u1 hr) (ae_v 2) (ae_call G_law_draw (hr.mono (by first | decide | omega)) (fun _ => pass0At) (by rfl) (aa_cons (ae_v 0) (aa_cons ae_int aa_nil)))) aa_nil))))) ass_nil)
    (ass_cons (as_if (at_cmp (op_eqA (u64 hr)) oa_eq (ae_call G_law_draw (hr.mono (by first | decide | omega)) (fun _ => pass0At) (by rfl) (aa_cons (ae_v 0) (aa_cons ae_int aa_nil))) ae_int (nomark _)) (ass_one (as_set 8 sc_law_world.nd (ae_tup aa_nil))) ass_nil)
    (ass_one (as_ret (ae_tup (aa_cons (ae_frz (ae_v 5)) (aa_cons (ae_v 7) (aa_cons (ae_v 8) aa_nil))))))))))))))))))), fun sds ms k x h => ?_⟩
  · obtain ⟨a, rfl, _⟩ := h; rfl
  · obtain ⟨a, rfl, hS, q⟩ := h
    dsimp only [gam]
    walk_at "go"
    refine dr hS (by decide) (by decide) fun way m1 h0 h1 hB1 => ?_
    walk_at "go"
    refine s_ite (fun e => ?_) (fun e => ?_)
    · walk_at "go"
      exact ⟨a, rfl, hB1.1, fun ps starts goals m2 hw hB2 => Out.here (q ps starts goals m2 hw (hB1.trans hB2))⟩
    walk_at "up"
    refine s_cutIf (fun Γ m => ∃ nums : List Int, nums.length = 5 ∧ Γ = [some (.v (.ref a)), some (.d (.int way)), some (.d (.lst (nums.map .int))), none, none, none, none, none, none] ∧ SB a ms m) (fun N hN => ?_) (fun Γ m hP => ?_)
    · walk_at "go"
      refine dr hB1.1 (by decide) (by decide) fun v m2 h2 h3 hB2 => ?_
      walk_at "go"
      refine s_ite (fun e => ?_) (fun e => ?_)
      · walk_at "go"
        exact hN _ _ ⟨[7, 0, 30, 2, 11], rfl, rfl, hB1.trans hB2⟩
      · exact hN _ _ ⟨[0, 1, 2, 3, 4], rfl, rfl, hB1.trans hB2⟩
    obtain ⟨nums, hnl, rfl, hB⟩ := hP
    clear hB1
    walk_at "go"
    refine dr hB.1 (by decide) (by decide) fun c0 m2 hc0 hc1 hB2 => ?_
    walk_at "go"
    refine dr hB2.1 (by decide) (by decide) fun d0 m3 hd0 hd1 hB3 => ?_
    walk_at "up"
    refine s_cutIf (fun Γ m => ∃ c d : Nat, c ≤ 5 ∧ d ≤ 8 ∧ Γ = [some (.v (.ref a)), some (.d (.int way)), some (.d (.lst (nums.map .int))), some (.d (.int c)), some (.d (.int d)), none, none, none, none] ∧ SB a ms m) (fun N hN => ?_) (fun Γ m hP => ?_)
    · walk_at "go"
      refine s_inS (ds := [.int 11, .int 26, .int 29, .int 41]) rfl (by simp [D.fit]) (by simp [fitL, D.fit]) ?_
      walk_at "go"
      refine s_ite (fun e => ?_) (fun e => ?_)
      · walk_at "go"
        refine dr hB3.1 (by decide) (by decide) fun c m4 h4 h5 hB4 => ?_
        walk_at "go"
        obtain ⟨c', rfl⟩ := Int.eq_ofNat_of_zero_le h4
        exact hN _ _ ⟨c', 8, by omega, by omega, rfl, ((hB.trans hB2).trans hB3).trans hB4⟩
      · obtain ⟨c', rfl⟩ := Int.eq_ofNat_of_zero_le hc0
        obtain ⟨d', rfl⟩ := Int.eq_ofNat_of_zero_le hd0
        exact hN _ _ ⟨c', d', by omega, by omega, rfl, (hB.trans hB2).trans hB3⟩
    clear hB hB2 hB3
    obtain ⟨c, d, hc, hd, rfl, hB⟩ := hP
    walk_at "go"
    rw [Int.toNat_natCast]
    refine lcI_inv (fun i acc ms' => SB a ms ms' ∧ ∃ ps : List Par, acc = ps.map rowD ∧ ps.length = i ∧ ∀ p ∈ ps, 1 ≤ p.words ∧ p.words ≤ 60000) ⟨hB, [], rfl, rfl, by simp⟩ (fun i e acc m1 he hP N hN => ?_) fun acc m1 hP => ?_
    · obtain ⟨hB, ps, rfl, hi, hw⟩ := hP
      have hlt : i < c := by
        have := (List.getElem?_eq_some_iff.mp he).1
        unfold rngD at this
        simpa using this
      walk_at "go"
      refine ⟨a, nums, rfl, hnl, hB.1, fun p m2 h1 h2 hB2 => ?_⟩
      walk_at "go"
      refine ⟨small_len (by rw [List.length_map]; omega), hN _ _ ⟨hB.trans hB2, ps ++ [p], by simp, by simp [hi], fun q hq => ?_⟩⟩
      rcases List.mem_append.mp hq with h | h
      · exact hw q h
      · rw [List.mem_singleton.mp h]; exact ⟨h1, h2⟩
    clear hB
    obtain ⟨hB, ps, rfl, hi, hw⟩ := hP
    have hi : ps.length = c := by rw [hi]; unfold rngD; simp
    intro p hpn
    have hpa : p ≠ a := fun e => by
      subst e
      obtain ⟨_, h, _⟩ := hB.1
      rw [hpn] at h; cases h
    have hmsp : ms p = none := by rw [← hB.2 p hpa]; exact hpn
    walk_at "up"
    refine s_cutIf (fun Γ m => ∃ ps : List Par, ps.length = c ∧ (∀ p ∈ ps, 1 ≤ p.words ∧ p.words ≤ 60000) ∧ ∃ g6, Γ = [some (.v (.ref a)), some (.d (.int way)), some (.d (.lst (nums.map .int))), some (.d (.int c)), some (.d (.int d)), some (.v (.ref p)), g6, none, none] ∧ m p = some (.l (ps.map rowD)) ∧ SrcAt m a ∧ ∀ b, b ≠ a → b ≠ p → m b = ms b) (fun N hN => ?_) (fun Γ m hP => ?_)
    · have base : ∃ ps : List Par, ps.length = c ∧ (∀ p ∈ ps, 1 ≤ p.words ∧ p.words ≤ 60000) ∧ mu m1 p (.l (ps.map rowD)) p = some (.l (ps.map rowD)) := ⟨ps, hi, hw, mu_same⟩
      have hS1 : SrcAt (mu m1 p (.l (ps.map rowD))) a := by rw [SrcAt, mu_ne hpa.symm]; exact hB.1
      have same : ∀ b, b ≠ a → b ≠ p → mu m1 p (.l (ps.map rowD)) b = ms b := fun b h1 h2 => by rw [mu_ne h2, hB.2 b h1]
      walk_at "go"
      refine s_ite (fun e => ?_) (fun e => ?_)
      · have hc1 : (0 : Int) < c := of_decide_eq_true e
        walk_at "go"
        refine dr hS1 (by decide) (by decide) fun v m2 h2 h3 hB2 => ?_
        walk_at "go"
        refine s_ite (fun e => ?_) (fun e => ?_)
        · walk_at "go"
          obtain ⟨r, hr1⟩ := num_at (nums := nums) (i := 4) hnl (by decide) (by decide)
          refine s_ix rfl hr1 ?_
          walk_at "go"
          refine ⟨a, rfl, hB2.1, fun v2 m3 h4 h5 hB3 => ?_⟩
          walk_at "go"
          refine dr hB3.1 (by omega) (by omega) fun v3 m4 h6 h7 hB4 => ?_
          have hp4 : m4 p = some (.l (ps.map rowD)) := by rw [hB4.2 p hpa, hB3.2 p hpa, hB2.2 p hpa, mu_same]
          obtain ⟨j, rfl⟩ := Int.eq_ofNat_of_zero_le h6
          have hj : j < ps.length := by omega
          walk_at "go"
          refine s_putL hp4 (n := j) (by rw [List.length_map]; unfold ixN; rw [if_pos (by omega), if_pos (by omega)]; simp) ?_
          have e2 : (ps.map rowD).set j (.tup [.non, .int r, .int (2 + 2 * v2 / 3)]) = (ps.set j ⟨none, r, 2 + 2 * v2 / 3⟩).map rowD := by
            rw [List.map_set]; rfl
          rw [e2]
          refine hN _ _ ⟨ps.set j ⟨none, r, 2 + 2 * v2 / 3⟩, by rw [List.length_set]; exact hi, fun q hq => ?_, _, rfl, mu_same, ?_, fun b h1 h2 => ?_⟩
          · rcases List.mem_or_eq_of_mem_set hq with h | h
            · exact hw q h
            · rw [h]; exact ⟨by dsimp only; omega, by dsimp only; omega⟩
          · rw [SrcAt, mu_ne hpa.symm]; exact hB4.1
          · rw [mu_ne h2, hB4.2 b h1, hB3.2 b h1, hB2.2 b h1]; exact same b h1 h2
        · exact hN _ _ ⟨ps, hi, hw, _, rfl, by rw [hB2.2 p hpa, mu_same], hB2.1, fun b h1 h2 => by rw [hB2.2 b h1]; exact same b h1 h2⟩
      · refine s_iteF rfl ?_
        exact hN _ _ ⟨ps, hi, hw, _, rfl, mu_same, hS1, same⟩
    obtain ⟨ps, hi, hw, g6, rfl, hp, hS, same⟩ := hP
    walk_at "go"
    rw [Int.toNat_natCast]
    refine lcI_inv (fun i acc ms' => SB a m ms' ∧ ∃ ss : List Int, acc = ss.map .int ∧ ss.length = i) ⟨.refl hS, [], rfl, rfl⟩ (fun i e acc m1 he hP N hN => ?_) fun acc m1 hP => ?_
    · obtain ⟨hB, ss, rfl, hi⟩ := hP
      have hlt : i < d := by
        have := (List.getElem?_eq_some_iff.mp he).1
        unfold rngD at this
        simpa using this
      walk_at "go"
      refine dr hB.1 (by decide) (by decide) fun v m2 h2 h3 hB2 => ?_
      obtain ⟨r, hr1⟩ := num_at (i := v) hnl h2 (by omega)
      refine s_ix rfl hr1 ?_
      walk_at "go"
      exact ⟨small_len (by rw [List.length_map]; omega), hN _ _ ⟨hB.trans hB2, ss ++ [r], by simp, by simp [hi]⟩⟩
    obtain ⟨hB, ss, rfl, hsl⟩ := hP
    have hsl : ss.length = d := by rw [hsl]; unfold rngD; simp
    obtain ⟨r, hr1⟩ := num_at (nums := nums) (i := 4) hnl (by decide) (by decide)
    walk_at "up"
    have fin : ∀ (goals : List Int) (m2 : MS), goals.length ≤ 2 → SB a m1 m2 → m2 p = some (.l (ps.map rowD)) ∧ k (.d (worldD ps ss goals)) (md m2 p) := fun goals m2 hg hB2 => by
      have hp2 : m2 p = some (.l (ps.map rowD)) := by rw [hB2.2 p hpa, hB.2 p hpa]; exact hp
      refine ⟨hp2, q ps ss goals _ ⟨by omega, hw, by omega, hg, fun start s hs => line5 (by omega) start s hs⟩ ⟨by rw [SrcAt, md_ne hpa.symm]; exact hB2.1, fun b hb => ?_⟩⟩
      by_cases e : b = p
      · subst e
        rw [md_same, hmsp]
      · rw [md_ne e, hB2.2 b hb, hB.2 b hb, same b hb e]
    refine s_cutIf (fun Γ m2 => ∃ goals : List Int, goals.length ≤ 2 ∧ SB a m1 m2 ∧ ∃ g6, Γ = [some (.v (.ref a)), some (.d (.int way)), some (.d (.lst (nums.map .int))), some (.d (.int c)), some (.d (.int d)), some (.v (.ref p)), g6, some (.d (iT ss)), some (.d (iT goals))]) (fun N hN => ?_) (fun Γ m2 hP => ?_)
    · walk_at "go"
      refine dr hB.1 (by decide) (by decide) fun v m2 h2 h3 hB2 => ?_
      walk_at "go"
      refine s_ite (fun e => ?_) (fun e => ?_)
      · walk_at "go"
        refine dr hB2.1 (by decide) (by decide) fun v2 m3 h4 h5 hB3 => ?_
        obtain ⟨r2, hr2⟩ := num_at (i := v2) hnl h4 h5
        refine s_ix rfl hr2 ?_
        walk_at "go"
        refine s_addT (small_len (by show 1 + 1 ≤ 1000; decide)) ?_
        walk_at "go"
        exact hN _ _ ⟨[r, r2], by simp, hB2.trans hB3, _, rfl⟩
      · exact hN _ _ ⟨[r], by simp, hB2, _, rfl⟩
    obtain ⟨goals, hg, hB2, g6', rfl⟩ := hP
    walk_at "go"
    refine dr hB2.1 (by decide) (by decide) fun v m3 h2 h3 hB3 => ?_
    walk_at "go"
    refine s_ite (fun e => ?_) (fun e => ?_)
    · walk_at "go"
      obtain ⟨f1, f2⟩ := fin [] m3 (by simp) (hB2.trans hB3)
      refine ⟨p, _, rfl, f1, ?_⟩
      walk_at "go"
      exact Out.here f2
    · walk_at "go"
      obtain ⟨f1, f2⟩ := fin goals m3 hg (hB2.trans hB3)
      refine ⟨p, _, rfl, f1, ?_⟩
      walk_at "go"
      exact Out.here f2
end
end R77

/-! ## K77v -/
set_option Elab.async false
set_option linter.all false
set_option maxRecDepth 100000
set_option maxHeartbeats 4000000
namespace R77
open PySem PySem.Spec PyProof.Rows L2 AL
open Evl (Ex)
open R76 (topS u1 u64 u65 u80 SrcAt SB R_draw)
local macro_rules | `(tactic| walk_at "st") => `(tactic| first
  | (with_reducible refine' s_seq ?_) | (with_reducible refine' s_set ?_) | (with_reducible refine' s_nx ?_) | (with_reducible refine' s_ret ?_) | (with_reducible refine' s_drop ?_) | (with_reducible refine' s_asg ?_) | (with_reducible refine' s_for ?_) | (with_reducible refine' s_tt ?_) | (with_reducible refine' s_ff ?_) | (with_reducible refine' s_lcS ?_) | (with_reducible refine' s_put ?_) | (with_reducible refine' s_app ?_) | (with_reducible refine' s_ext ?_)
  | (with_reducible refine' s_gN ?_) | ((with_reducible refine' s_v ?e ?_); (case e => rfl)) | (with_reducible refine' s_asB ?_) | (with_reducible refine' s_asI ?_) | (with_reducible refine' s_asD ?_) | (with_reducible refine' s_nil ?_) | (with_reducible refine' s_cons ?_)
  | (with_reducible refine' s_addI ?_) | (with_reducible refine' s_I0 ?_) | (with_reducible refine' s_neg ?_) | (with_reducible refine' s_eqI ?_) | (with_reducible refine' s_eqS ?_) | (with_reducible refine' s_ltI ?_) | (with_reducible refine' s_isN ?_) | (with_reducible refine' s_int ?_) | (with_reducible refine' s_abs ?_)
  | ((with_reducible refine' s_len ?e ?_); (case e => first | rfl | exact seqOf_m (by assumption) | exact seqOf_m mu_same))
  | ((with_reducible refine' s_ix ?e ?e2 ?_); (case e => first | rfl | exact seqOf_m (by assumption) | exact seqOf_m mu_same); (case e2 => first | rfl | assumption | exact atI_nat (j := 0) rfl | exact atI_nat (j := 1) rfl | exact atI_nat (j := 2) rfl | exact atI_nat (j := 3) rfl))
  | ((with_reducible refine' s_putL ?e ?e2 ?_); (case e => first | assumption | exact mu_same); (case e2 => first | rfl | assumption))
  | ((with_reducible refine' s_oL ?e ?_); (case e => first | assumption | exact mu_same))
  | ((with_reducible refine' s_dat ?e ?_); (case e => rfl)) | ((with_reducible refine' s_rng ?e ?_); (case e => exact ⟨by omega, by omega⟩))
  | ((with_reducible refine' s_I ?c ?_); (case c => first | assumption | exact ⟨by omega, by omega⟩ | exact ⟨by decide, by decide, by decide⟩ | exact Or.inl ⟨by omega, by omega⟩ | exact Or.inr ⟨by omega, by omega⟩ | (show (0 : Int) < _; omega) | (show (0 : Int) ≤ _; omega)))
  | (with_reducible refine' s_slT ?_) | (with_reducible refine' s_slL ?_) | (with_reducible refine' s_gC ?_) | ((with_reducible refine' s_gT ?e ?_); (case e => rfl))
  | ((with_reducible refine' s_tup ?e ?_); (case e => first | rfl | exact seqOf_m (by assumption) | exact seqOf_m mu_same))
  | ((with_reducible refine' s_list ?e ?_); (case e => first | rfl | exact seqOf_m (by assumption) | exact seqOf_m mu_same))
  | ((with_reducible refine' s_isi ?e ?e2 ?_); (case e => rfl); (case e2 => rfl))
  | (with_reducible refine' s_max ?_)
  | ((with_reducible refine' And.intro ?r ?_); (case r => with_reducible rfl)))
local macro_rules | `(tactic| walk_at "one") => `(tactic| first | (with_reducible refine' s_if ?_) | walk_at "st")
local macro_rules | `(tactic| walk_at "up") => `(tactic| repeat walk_at "st")
local macro_rules | `(tactic| walk_at "go") => `(tactic| repeat walk_at "one")
local macro_rules | `(tactic| walk_at "all") => `(tactic| repeat' (first | walk_at "one" | (refine s_ite (fun _ => ?_) (fun _ => ?_))))

local macro_rules | `(tactic| walk_at "tg") => `(tactic| repeat (first | (with_reducible refine' s_gC ?_) | ((with_reducible refine' s_gT ?e ?_); (case e => rfl)) | (with_reducible refine' s_gN ?_) | ((with_reducible refine' And.intro ?r ?_); (case r => with_reducible rfl))))
theorem zM {n : Nat} (h : n ≤ 1000000) : n ≤ sizeLine := by rw [sizeLine_eq]; omega
theorem any_iT (l : List Int) (i : Int) : ((l.map D.int).any fun z => z.eqv (.int i)) = decide (i ∈ l) := by
  induction l with
  | nil => simp
  | cons a r ih =>
    rw [List.map_cons, List.any_cons, ih, eqv_int]
    by_cases h : a = i
    · subst h; simp
    · have h3 : ¬ i = a := fun e => h e.symm
      simp [h, h3]
theorem fitL_iT (l : List Int) (n : Nat) : fitL (l.map D.int) n = true := R76.fitL_of fun d hd => by
  obtain ⟨i, _, rfl⟩ := List.mem_map.mp hd
  simp [D.fit]
theorem s_inI {neg : Bool} {ms : MS} {k : SD → Prop} {l : List Int} {i : Int} (h : k (.d (.bl (neg ^^ decide (i ∈ l))))) : oIn neg ms (.d (.int i)) (.d (iT l)) k :=
  s_inS (ds := l.map .int) rfl (by simp [D.fit]) (fitL_iT _ _) (by rw [any_iT]; exact h)
theorem s_inN {neg : Bool} {ms : MS} {k : SD → Prop} {l : List Nat} {i : Nat} (h : k (.d (.bl (neg ^^ decide (i ∈ l))))) : oIn neg ms (.d (.int i)) (.d (nT l)) k :=
  s_inS (ds := l.map fun n : Nat => .int n) rfl (by simp [D.fit]) (fitL_ints _ _) (by rw [any_nT]; exact h)
def qD (q : List Nat × Int) : D := .tup [nT q.1, .int q.2]
def waysD (ps : List Par) (start : Int) (goals : List Int) : D := .lst ((waysP ps start goals).map nT)
theorem next_app (ps : List Par) (a b : List (List Nat × Int)) : nextP ps (a ++ b) = nextP ps a ++ nextP ps b := List.flatMap_append ..
theorem hit_app (goals : List Int) (a b : List (List Nat × Int)) : hitP goals (a ++ b) = hitP goals a ++ hitP goals b := by unfold hitP; rw [List.filter_append, List.map_append]
def foundP (ps : List Par) (start : Int) (goals : List Int) (i : Nat) : List (List Nat) := (List.range i).flatMap fun s => hitP goals (lineP ps start s)
theorem found_succ (ps : List Par) (start : Int) (goals : List Int) (i : Nat) : foundP ps start goals (i + 1) = foundP ps start goals i ++ hitP goals (lineP ps start i) := by
  unfold foundP
  rw [List.range_succ, List.flatMap_append]
  simp
theorem hit_len (goals : List Int) (l : List (List Nat × Int)) : (hitP goals l).length ≤ l.length := by unfold hitP; rw [List.length_map]; exact List.length_filter_le _ _
theorem found_len {ps : List Par} {start : Int} {goals : List Int} (h : ∀ s, s ≤ ps.length + 1 → (lineP ps start s).length ≤ 20000) : ∀ i, i ≤ ps.length + 2 → (foundP ps start goals i).length ≤ i * 20000
  | 0, _ => by simp [foundP]
  | i + 1, hi => by
    rw [found_succ, List.length_append, Nat.succ_mul]
    have h1 := found_len (goals := goals) h i (by omega)
    have h2 := hit_len goals (lineP ps start i)
    have h3 := h i (by omega)
    omega
theorem row_at {ps : List Par} {i : Nat} (h : i < ps.length) : atI (ps.map rowD) (i : Int) = some (rowD ps[i]) := atI_nat (by rw [List.getElem?_map, List.getElem?_eq_getElem h]; rfl)
theorem onP_at {ps : List Par} {w : List Nat} {pl : Int} {k : Nat} (h : k < ps.length) : onP ps w pl k = (!decide (k ∈ w) && (decide (ps[k].base = none) || decide (ps[k].base = some pl))) := by unfold onP; rw [List.getElem?_eq_getElem h]; rfl
theorem resP_at {ps : List Par} {k : Nat} (h : k < ps.length) : resP ps k = ps[k].result := by unfold resP; rw [List.getElem?_eq_getElem h]; rfl
section
variable {P : Program} {w : World} {K : PySem.W.Frag} {mg : Str → Option Value} {base : Heap}
def rowsL (ps : List Par) : D := .lst (ps.map rowD)
abbrev s_law_ways : Stmt := (topS 28)
theorem sc_law_ways : FnScope ["rows", "start", "goals", "found", "line", "size", "longer", "way", "place", "on", "k"] ["rows", "start", "goals"] (defScope s_law_ways) := ⟨rfl, rfl, rfl, by decide +kernel, rfl, by decide +kernel, by decide +kernel⟩

def R_ways : AFn := fun sds ms k _ => ∃ ps start goals, sds = [.d (rowsL ps), .d (.int start), .d (iT goals)] ∧ ps.length ≤ 10 ∧ (∀ s, s ≤ ps.length + 1 → (lineP ps start s).length ≤ 20000) ∧ k (.d (waysD ps start goals)) ms
theorem ok_ways (T : R76.Blt mg) {f : Addr} {fd : FuncData} (F : Fun K "_law_ways" "_law_ways" s_law_ways f fd) : FnOk P w K mg base CX0 1 f fd ["rows", "start", "goals"] (spA R_ways) := by
  refine fnA F sc_law_ways (fun sds ms k x h => ?_) (by decide) fun cdv A outer s H E hr => ⟨_, _, (ass_cons (as_set 3 sc_law_ways.nd (ae_lstM aa_nil))
    (ass_cons (as_set 4 sc_law_ways.nd (ae_lst (aa_cons (ae_tup (aa_cons (ae_tup aa_nil) (aa_cons (ae_v 1) aa_nil))) aa_nil)))
    (ass_cons (as_for PassesOwn.never rfl (ai_range1 (by rfl) T.range (ae_bin op_addA oa_add (ae_callB call_len oa_len (by rfl) T.len (by decide +kernel) (aa_cons (ae_v 0) aa_nil)) ae_int)) (ag_name 5 sc_law_ways.nd)
      (ass_cons (as_set 6 sc_law_ways.nd (ae_lst aa_nil))
      (ass_cons (as_for PassesOwn.never rfl (ai_seq (ae_v 4)) (ag_tup rfl (ags_cons (ag_name 7 sc_law_ways.nd) (ags_cons (ag_name 8 sc_law_ways.nd) ags_nil)))
        (ass_cons (as_if (at_cmp (op_inA (u65 hr)) oa_in (ae_v 8) (ae_v 2) (by rfl)) (ass_one (as_expr (ae_append (ae_v 3) (ae_v 7)))) ass_nil)
        (ass_cons (as_setLc 9 (own := [("k", 10)]) rfl sc_law_ways.nd (ai_range1 (by rfl) T.range (ae_callB call_len oa_len (by rfl) T.len (by decide +kernel) (aa_cons (ae_v 0) aa_nil))) (blkOk_by (own := [("k", 10)]) (N := ["rows", "start", "goals", "found", "line", "size", "longer", "way", "place", "on", "k"]) (sc := defScope s_law_ways) (by decide +kernel)) (by decide) (fun _ _ _ _ _ => (ag_name 10 sc_law_ways.nd)) (fun _ _ _ _ _ => (ats_one (AW.at (aw_and (at_cmp (opK_nin (K := K) rfl (u65 hr)) oa_nin (ae_v 10) (ae_v 7) (by rfl)) (aw_and1 (AW.at (aw_or (at_cmp op_isN oa_isN (ae_ixK (K := K) rfl (u1 hr) (ae_ixK (K := K) rfl (u1 hr) (ae_v 0) (ae_v 10)) ae_int) ae_non (nomark _)) (aw_or1 (at_cmp (opK_eq (K := K) rfl (u64 hr)) oa_eq (ae_ixK (K := K) rfl (u1 hr) (ae_ixK (K := K) rfl (u1 hr) (ae_v 0) (ae_v 10)) ae_int) (ae_v 8) (nomark _)))))))))) (fun _ _ _ _ _ => (ae_v 10)) (sw_true rfl rfl rfl (by decide +kernel)))
        (ass_one (as_set 6 sc_law_ways.nd (ae_bin op_addA oa_add (ae_v 6) (ae_lc (own := [("k", 10)]) rfl sc_law_ways.nd (ai_seq (ae_v 9)) (blkOk_by (own := [("k", 10)]) (N := ["rows", "start", "goals", "found", "line", "size", "longer", "way", "place", "on", "k"]) (sc := defScope s_law_ways) (by decide +kernel)) (by decide) (fun _ _ _ _ _ => (ag_name 10 sc_law_ways.nd)) (fun _ _ _ _ _ => ats_nil) (fun _ _ _ _ _ => (ae_tup (aa_cons (ae_bin (opK_add (K := K) rfl) oa_add (ae_v 7) (ae_tup (aa_cons (ae_v 10) aa_nil))) (aa_cons (ae_ixK (K := K) rfl (u1 hr) (ae_ixK (K := K) rfl (u1 hr) (ae_v 0) (ae_v 10)) ae_int) aa_nil)))))))))))
      (ass_one (as_set 4 sc_law_ways.nd (ae_v 6))))))
    (ass_one (as_ret (ae_v 3)))))), fun sds ms k x h => ?_⟩
  · obtain ⟨a, b, c, rfl, _⟩ := h; rfl
  · obtain ⟨ps, start, goals, rfl, hn, hln, q⟩ := h
    dsimp only [gam]
    unfold rowsL
    walk_at "go"
    intro p hp
    walk_at "go"
    rw [List.length_map]
    walk_at "go"
    refine forR_inv (fun i Γ ms' => ∃ g5 g6 g7 g8 g9 g10, Γ = [some (.d (rowsL ps)), some (.d (.int start)), some (.d (iT goals)), some (.v (.ref p)), some (.d (.lst ((lineP ps start i).map qD))), g5, g6, g7, g8, g9, g10] ∧ ms' = mu ms p (.l ((foundP ps start goals i).map nT)))
      ⟨_, _, _, _, _, _, rfl, rfl⟩ (fun i d Γ m1 hd hP N hN => ?_) fun Γ m1 hP => ?_
    · obtain ⟨g5, g6, g7, g8, g9, g10, rfl, rfl⟩ := hP
      have hi : i < ps.length + 1 := by
        have := (List.getElem?_eq_some_iff.mp hd).1
        unfold rngD at this
        rw [List.length_map, List.length_range] at this
        omega
      have hl2 := hln (i + 1) (by omega)
      have hl1 := hln i (by omega)
      have hf := found_len (goals := goals) hln i (by omega)
      have hf2 : i * 20000 ≤ 220000 := Nat.le_trans (Nat.mul_le_mul (show i ≤ 11 by omega) (Nat.le_refl _)) (by decide)
      have hmem : ∀ w pl, (w, pl) ∈ lineP ps start i → w.length = i := fun w pl h => (mem_line.mp h).1
      rw [lineP] at hl2
      have eN : lineP ps start (i + 1) = nextP ps (lineP ps start i) := rfl
      rw [found_succ, eN] at hN
      generalize lineP ps start i = line at *
      generalize foundP ps start goals i = fnd at *
      walk_at "go"
      refine forR_inv (fun j Γ ms' => ∃ g5 g7 g8 g9 g10, Γ = [some (.d (rowsL ps)), some (.d (.int start)), some (.d (iT goals)), some (.v (.ref p)), some (.d (.lst (line.map qD))), g5, some (.d (.lst ((nextP ps (line.take j)).map qD))), g7, g8, g9, g10] ∧ ms' = mu ms p (.l ((fnd ++ hitP goals (line.take j)).map nT)))
        ⟨_, _, _, _, _, rfl, by simp [hitP]⟩ (fun j d Γ m1 hd hP N2 hN2 => ?_) fun Γ m1 hP => ?_
      · obtain ⟨g5, g7, g8, g9, g10, rfl, rfl⟩ := hP
        rw [List.getElem?_map] at hd
        cases hj : line[j]? with
        | none => rw [hj] at hd; cases hd
        | some wq =>
        rw [hj] at hd
        cases hd
        obtain ⟨wy, pl⟩ := wq
        have hwl := hmem wy pl (List.mem_of_getElem? hj)
        have hjl : j < line.length := (List.getElem?_eq_some_iff.mp hj).1
        have et : line.take (j + 1) = line.take j ++ [(wy, pl)] := by rw [List.take_add_one, hj]; rfl
        have en : nextP ps (line.take (j + 1)) = nextP ps (line.take j) ++ nextP ps [(wy, pl)] := by rw [et, next_app]
        have eh : hitP goals (line.take (j + 1)) = hitP goals (line.take j) ++ hitP goals [(wy, pl)] := by rw [et, hit_app]
        have hlen : (nextP ps (line.take j)).length + (nextP ps [(wy, pl)]).length ≤ 20000 := by
          rw [← List.length_append, ← en]
          have := congrArg List.length (show nextP ps line = nextP ps (line.take (j + 1)) ++ nextP ps (line.drop (j + 1)) by rw [← next_app, List.take_append_drop])
          rw [List.length_append] at this
          omega
        have hhl : (hitP goals (line.take j)).length ≤ 20000 := Nat.le_trans (hit_len _ _) (by rw [List.length_take]; omega)
        rw [en, eh] at hN2
        have e1 : nextP ps [(wy, pl)] = ((List.range ps.length).filter (onP ps wy pl)).map fun k => (wy ++ [k], resP ps k) := by simp [nextP]
        have e2 : hitP goals [(wy, pl)] = if pl ∈ goals then [wy] else [] := by unfold hitP; by_cases h : pl ∈ goals <;> simp [h]
        unfold qD
        walk_at "tg"
        (with_reducible refine' s_seq ?_)
        refine s_cutIf (fun Γ m => Γ = [some (.d (rowsL ps)), some (.d (.int start)), some (.d (iT goals)), some (.v (.ref p)), some (.d (.lst (line.map qD))), g5, some (.d (.lst ((nextP ps (line.take j)).map qD))), some (.d (nT wy)), some (.d (.int pl)), g9, g10] ∧ m = mu ms p (.l ((fnd ++ (hitP goals (line.take j) ++ hitP goals [(wy, pl)])).map nT))) (fun N3 hN3 => ?_) (fun Γ m hP => ?_)
        · walk_at "go"
          refine s_inI ?_
          walk_at "go"
          rw [Bool.false_xor]
          rw [e2] at hN3
          refine s_ite (fun e => ?_) (fun e => ?_)
          · rw [if_pos (of_decide_eq_true e)] at hN3
            walk_at "go"
            refine s_oApp mu_same (Nat.lt_of_lt_of_le (show _ < 1000000 by rw [List.length_map, List.length_append]; omega) (zM (Nat.le_refl _))) ?_
            rw [mu_mu]
            refine hN3 _ _ ⟨rfl, ?_⟩
            simp
          · rw [if_neg (of_decide_eq_false e), List.append_nil] at hN3
            exact hN3 _ _ ⟨rfl, rfl⟩
        obtain ⟨rfl, rfl⟩ := hP
        walk_at "go"
        unfold rowsL
        walk_at "go"
        rw [List.length_map]
        walk_at "go"
        rw [Int.toNat_natCast, rngD0]
        refine lcI_fm (f := fun i : Nat => D.int i) (p := onP ps wy pl) (small_len (by rw [List.length_range]; omega)) (fun c hc acc N3 hz hN3 => ?_) ?_
        · have hc := List.mem_range.mp hc
          rw [onP_at hc] at hN3
          walk_at "go"
          refine s_inN ?_
          walk_at "go"
          rw [Bool.true_xor]
          by_cases hcw : c ∈ wy
          · rw [if_neg (by simp [hcw]), List.append_nil] at hN3
            refine s_iteF (by simp [hcw]) ?_
            walk_at "go"
            exact hN3
          · refine s_iteT (by simp [hcw]) ?_
            walk_at "go"
            refine s_ix rfl (row_at hc) ?_
            refine s_ix (ds := [oD ps[c].base, .int ps[c].result, .int ps[c].words]) rfl (atI_nat (j := 0) rfl) ?_
            walk_at "go"
            rw [isN_oD, Bool.false_xor]
            have fin : N3 (acc ++ [D.int c]) (mu ms p (.l ((fnd ++ (hitP goals (line.take j) ++ hitP goals [(wy, pl)])).map nT))) → acc.length < sizeLine ∧ N3 (acc ++ [D.int c]) (mu ms p (.l ((fnd ++ (hitP goals (line.take j) ++ hitP goals [(wy, pl)])).map nT))) := fun h => ⟨hz, h⟩
            cases hb : ps[c].base with
            | none =>
              rw [hb, if_pos (by simp [hcw])] at hN3
              refine s_iteT rfl ?_
              walk_at "go"
              exact fin hN3
            | some b =>
              rw [hb] at hN3
              refine s_iteF rfl ?_
              walk_at "go"
              refine s_ix rfl (row_at hc) ?_
              refine s_ix (ds := [oD ps[c].base, .int ps[c].result, .int ps[c].words]) rfl (atI_nat (j := 0) rfl) ?_
              rw [hb]
              walk_at "go"
              refine s_ite (fun e => ?_) (fun e => ?_)
              · have e : b = pl := by simpa using e
                rw [if_pos (by simp [hcw, e])] at hN3
                walk_at "go"
                exact fin hN3
              · have e : ¬ b = pl := by simpa using e
                rw [if_neg (by simp [e]), List.append_nil] at hN3
                exact hN3
        walk_at "go"
        refine lcI_map (f := fun c : Nat => qD (wy ++ [c], resP ps c)) (z2000 (Nat.le_trans (List.length_filter_le _ _) (by rw [List.length_range]; omega))) (fun c hc acc N3 hz hN3 => ?_) ?_
        · have hc := List.mem_range.mp (List.mem_filter.mp hc).1
          rw [resP_at hc] at hN3
          walk_at "go"
          refine s_addT (small_len (by rw [List.length_map, hwl]; simp only [List.length_cons, List.length_nil]; omega)) ?_
          walk_at "go"
          refine s_ix rfl (row_at hc) ?_
          refine s_ix (ds := [oD ps[c].base, .int ps[c].result, .int ps[c].words]) rfl (atI_nat (j := 1) rfl) ?_
          walk_at "go"
          refine ⟨hz, ?_⟩
          unfold qD nT at hN3
          rw [List.map_append] at hN3
          exact hN3
        have hm2 : (((List.range ps.length).filter (onP ps wy pl)).map fun c : Nat => qD (wy ++ [c], resP ps c)) = (nextP ps [(wy, pl)]).map qD := by rw [e1, List.map_map]; rfl
        rw [hm2]
        refine s_addL (zM (by rw [List.length_map, List.length_map]; omega)) ?_
        rw [← List.map_append]
        walk_at "go"
        exact hN2 _ _ ⟨_, _, _, _, _, rfl, rfl⟩
      · obtain ⟨g5, g7, g8, g9, g10, rfl, rfl⟩ := hP
        rw [List.length_map, List.take_length]
        walk_at "go"
        exact hN _ _ ⟨_, _, _, _, _, _, rfl, rfl⟩
    · obtain ⟨g5, g6, g7, g8, g9, g10, rfl, rfl⟩ := hP
      have e : foundP ps start goals (rngD 0 ((ps.length : Int) + 1).toNat).length = waysP ps start goals := by
        unfold rngD foundP waysP
        rw [List.length_map, List.length_range, show ((ps.length : Int) + 1).toNat = ps.length + 1 by omega]
      rw [e]
      walk_at "go"
      exact .inr ⟨p, _, ms, rfl, mu_same, fun b o hb => (by
        rw [md_ne (fun z => by rw [z, hp] at hb; cases hb), mu_ne (fun z => by rw [z, hp] at hb; cases hb)]; exact hb), q⟩
theorem price_sum (ps : List Par) (free w : List Nat) : price ps free w = ((w.filter fun k => !decide (k ∈ free)).map (wOf ps)).sum := by
  unfold price
  induction w with
  | nil => rfl
  | cons k r ih =>
    rw [List.map_cons, List.sum_cons, ih, List.filter_cons]
    unfold cost
    by_cases h : k ∈ free
    · simp [h]
    · simp [h, wOf]
theorem isN_oL (o : Option Lab) : (SD.d (oL o)).isNon = o.isNone := by cases o <;> rfl
abbrev s_law_least : Stmt := (topS 29)
theorem sc_law_least : FnScope ["rows", "ways", "free", "best", "way", "price", "k"] ["rows", "ways", "free"] (defScope s_law_least) := ⟨rfl, rfl, rfl, by decide +kernel, rfl, by decide +kernel, by decide +kernel⟩

def R_least : AFn := fun sds ms k _ => ∃ ps, ∃ ws : List (List Nat), ∃ free, sds = [.d (rowsL ps), .d (.lst (ws.map nT)), .d (nT free)] ∧ ps.length ≤ 10 ∧ (∀ w ∈ ws, w.length ≤ 1000 ∧ ∀ i ∈ w, i < ps.length) ∧ k (.d (oL (ws.foldl (stepB ps free) none))) ms
theorem ok_least (T : Blt77 mg) {f : Addr} {fd : FuncData} (F : Fun K "_law_least" "_law_least" s_law_least f fd) : FnOk P w K mg base CX0 1 f fd ["rows", "ways", "free"] (spA R_least) := by
  refine fnA F sc_law_least (fun sds ms k x h => ?_) (by decide) fun cdv A outer s H E hr => ⟨_, _, (ass_cons (as_set 3 sc_law_least.nd ae_non)
    (ass_cons (as_for PassesOwn.never rfl (ai_seq (ae_v 1)) (ag_name 4 sc_law_least.nd)
      (ass_cons (as_set 5 sc_law_least.nd (ae_callB (cr_sum rfl) oa_sum (by rfl) T.sum (by decide +kernel) (aa_cons (ae_lc (own := [("k", 6)]) rfl sc_law_least.nd (ai_seq (ae_v 4)) (blkOk_by (own := [("k", 6)]) (N := ["rows", "ways", "free", "best", "way", "price", "k"]) (sc := defScope s_law_least) (by decide +kernel)) (by decide) (fun _ _ _ _ _ => (ag_name 6 sc_law_least.nd)) (fun _ _ _ _ _ => (ats_one (at_cmp (opK_nin (K := K) rfl (u65 hr)) oa_nin (ae_v 6) (ae_v 2) (by rfl)))) (fun _ _ _ _ _ => (ae_ixK (K := K) rfl (u1 hr) (ae_ixK (K := K) rfl (u1 hr) (ae_v 0) (ae_v 6)) ae_int))) aa_nil)))
      (ass_one (as_if (AW.at (aw_or (at_cmp op_isN oa_isN (ae_v 3) ae_non (nomark _)) (aw_or1 (at_cmp (op_ltA (u64 hr)) oa_lt (ae_tup (aa_cons (ae_v 5) (aa_cons (ae_callB call_len oa_len (by rfl) T.len (by decide +kernel) (aa_cons (ae_v 4) aa_nil)) (aa_cons (ae_v 4) aa_nil)))) (ae_v 3) (nomark _))))) (ass_one (as_set 3 sc_law_least.nd (ae_tup (aa_cons (ae_v 5) (aa_cons (ae_callB call_len oa_len (by rfl) T.len (by decide +kernel) (aa_cons (ae_v 4) aa_nil)) (aa_cons (ae_v 4) aa_nil)))))) ass_nil))))
    (ass_one (as_ret (ae_v 3))))), fun sds ms k x h => ?_⟩
  · obtain ⟨a, b, c, rfl, _⟩ := h; rfl
  · obtain ⟨ps, ws, free, rfl, hn, hw, q⟩ := h
    dsimp only [gam]
    walk_at "go"
    refine forR_inv (fun i Γ ms' => ms' = ms ∧ ∃ g4 g5 g6, Γ = [some (.d (rowsL ps)), some (.d (.lst (ws.map nT))), some (.d (nT free)), some (.d (oL ((ws.take i).foldl (stepB ps free) none))), g4, g5, g6]) ⟨rfl, _, _, _, rfl⟩ (fun i d Γ m1 hd hP N hN => ?_) fun Γ m1 hP => ?_
    · obtain ⟨rfl, g4, g5, g6, rfl⟩ := hP
      rw [List.getElem?_map] at hd
      cases hwi : ws[i]? with
      | none => rw [hwi] at hd; cases hd
      | some wy =>
      rw [hwi] at hd
      cases hd
      obtain ⟨hwl, hwn⟩ := hw wy (List.mem_of_getElem? hwi)
      have ef : (ws.take (i + 1)).foldl (stepB ps free) none = stepB ps free ((ws.take i).foldl (stepB ps free) none) wy := by rw [List.take_add_one, hwi, List.foldl_append]; rfl
      rw [ef] at hN
      generalize (ws.take i).foldl (stepB ps free) none = bst at *
      walk_at "go"
      refine lcI_fm (f := fun k : Nat => D.int (wOf ps k)) (p := fun k => !decide (k ∈ free)) (small_len hwl) (fun k hk acc N2 hz hN2 => ?_) ?_
      · have hk := hwn k hk
        walk_at "go"
        refine s_inN ?_
        walk_at "go"
        rw [Bool.true_xor]
        refine s_ite (fun e => ?_) (fun e => ?_)
        · rw [if_pos e] at hN2
          unfold rowsL
          walk_at "go"
          refine s_ix rfl (row_at hk) ?_
          refine s_ix (ds := [oD ps[k].base, .int ps[k].result, .int ps[k].words]) rfl (atI_nat (j := 2) rfl) ?_
          rw [w_at hk] at hN2
          walk_at "go"
          exact ⟨hz, hN2⟩
        · rw [if_neg (by rw [e]; exact Bool.false_ne_true), List.append_nil] at hN2
          exact hN2
      walk_at "go"
      refine ⟨(wy.filter fun k => !decide (k ∈ free)).map (wOf ps), by rw [List.map_map]; rfl, ?_⟩
      rw [← price_sum]
      dsimp only
      refine s_cutIf (fun Γ m => m = m1 ∧ ∃ g4 g5 g6, Γ = [some (.d (rowsL ps)), some (.d (.lst (ws.map nT))), some (.d (nT free)), some (.d (oL (stepB ps free bst wy))), g4, g5, g6]) (fun N3 hN3 => ?_) (fun Γ m hP => ?_)
      · walk_at "go"
        rw [isN_oL, Bool.false_xor]
        have hlen : (nT wy : D) = .tup (wy.map fun n : Nat => .int n) := rfl
        cases bst with
        | none =>
          refine s_iteT rfl ?_
          walk_at "go"
          rw [List.length_map]
          exact hN3 _ _ ⟨rfl, _, _, _, rfl⟩
        | some l =>
          refine s_iteF rfl ?_
          walk_at "go"
          rw [List.length_map]
          refine s_ltLab (a := val ps free wy) (b := l) ?_
          walk_at "go"
          have es : stepB ps free (some l) wy = if labB (val ps free wy) l = true then some (val ps free wy) else some l := rfl
          rw [es] at hN3
          refine s_ite (fun e => ?_) (fun e => ?_)
          · rw [if_pos e] at hN3
            walk_at "go"
            rw [List.length_map]
            exact hN3 _ _ ⟨rfl, _, _, _, rfl⟩
          · rw [if_neg (by rw [e]; exact Bool.false_ne_true)] at hN3
            exact hN3 _ _ ⟨rfl, _, _, _, rfl⟩
      obtain ⟨rfl, g4, g5, g6, rfl⟩ := hP
      exact hN _ _ ⟨rfl, _, _, _, rfl⟩
    · obtain ⟨rfl, g4, g5, g6, rfl⟩ := hP
      rw [List.length_map, List.take_length]
      walk_at "go"
      exact Out.here q
def WaysOk (ms : MS) (p : Addr) (ps : List Par) (starts goals : List Int) : Prop := ∃ kvs, ms p = some (.k kvs) ∧ ∀ s ∈ starts, valD kvs (kI s) = some (waysD ps s goals)
theorem ways_ok (ps : List Par) (s : Int) (goals : List Int) : ∀ w ∈ waysP ps s goals, w.length ≤ ps.length ∧ ∀ i ∈ w, i < ps.length := fun w hw => by
  obtain ⟨h1, x, _, h2⟩ := mem_ways.mp hw
  exact ⟨pigeon _ _ h1 (run_lt h2), run_lt h2⟩
abbrev s_law_price : Stmt := (topS 31)
theorem sc_law_price : FnScope ["rows", "ways", "starts", "free", "price", "k", "bests", "start"] ["rows", "ways", "starts", "free"] (defScope s_law_price) := ⟨rfl, rfl, rfl, by decide +kernel, rfl, by decide +kernel, by decide +kernel⟩

def R_lprice : AFn := fun sds ms k _ => ∃ ps pw starts goals free, sds = [.d (rowsL ps), .v (.ref pw), .d (iT starts), .d (nT free)] ∧ ps.length ≤ 10 ∧ starts.length ≤ 1000 ∧ free.length ≤ 1000 ∧ (∀ i ∈ free, i < ps.length) ∧ WaysOk ms pw ps starts goals ∧ k (.d (oD (priceP ps starts goals free))) ms
theorem ok_lprice (T : Blt77 mg) (G_law_least : FnA P w K mg base CX0 1 "_law_least" R_least) {f : Addr} {fd : FuncData} (F : Fun K "_law_price" "_law_price" s_law_price f fd) : FnOk P w K mg base CX0 2 f fd ["rows", "ways", "starts", "free"] (spA R_lprice) := by
  refine fnA F sc_law_price (fun sds ms k x h => ?_) (by decide) fun cdv A outer s H E hr => ⟨_, _, (ass_cons (as_set 4 sc_law_price.nd (ae_bin op_mul oa_mul ae_int (ae_callB (cr_sum rfl) oa_sum (by rfl) T.sum (by decide +kernel) (aa_cons (ae_lc (own := [("k", 5)]) rfl sc_law_price.nd (ai_seq (ae_v 3)) (blkOk_by (own := [("k", 5)]) (N := ["rows", "ways", "starts", "free", "price", "k", "bests", "start"]) (sc := defScope s_law_price) (by decide +kernel)) (by decide) (fun _ _ _ _ _ => (ag_name 5 sc_law_price.nd)) (fun _ _ _ _ _ => ats_nil) (fun _ _ _ _ _ => (ae_ixK (K := K) rfl (u1 hr) (ae_ixK (K := K) rfl (u1 hr) (ae_v 0) (ae_v 5)) ae_int))) aa_nil))))
    (ass_cons (as_set 6 sc_law_price.nd ae_dictK)
    (ass_cons (as_for PassesOwn.never rfl (ai_seq (ae_v 2)) (ag_name 7 sc_law_price.nd)
      (ass_cons (as_if (at_cmp (op_ninA (u65 hr)) oa_nin (ae_v 7) (ae_v 6) (by rfl)) (ass_one (as_put (u1 hr) (ae_v 6) (ae_v 7) (ae_call G_law_least (hr.mono (by first | decide | omega)) (fun _ => pass0At) (by rfl) (aa_cons (ae_v 0) (aa_cons (ae_ix (u1 hr) (ae_v 1) (ae_v 7)) (aa_cons (ae_v 3) aa_nil)))))) ass_nil)
      (ass_cons (as_if (at_cmp op_isN oa_isN (ae_ix (u1 hr) (ae_v 6) (ae_v 7)) ae_non (nomark _)) (ass_one (as_ret ae_non)) ass_nil)
      (ass_one (as_set 4 sc_law_price.nd (ae_bin op_addA oa_add (ae_v 4) (ae_ix (u1 hr) (ae_ix (u1 hr) (ae_v 6) (ae_v 7)) ae_int)))))))
    (ass_one (as_ret (ae_v 4)))))), fun sds ms k x h => ?_⟩
  · obtain ⟨a, b, c, d, e, rfl, _⟩ := h; rfl
  · obtain ⟨ps, pw, starts, goals, free, rfl, hn, hs, hfl, hf, ⟨kw, hpw, hw⟩, q⟩ := h
    dsimp only [gam]
    walk_at "go"
    refine lcI_map (f := fun i : Nat => D.int (wOf ps i)) (small_len hfl) (fun i hi acc N hz hN => ?_) ?_
    · have hi := hf i hi
      unfold rowsL
      walk_at "go"
      refine s_ix rfl (row_at hi) ?_
      refine s_ix (ds := [oD ps[i].base, .int ps[i].result, .int ps[i].words]) rfl (atI_nat (j := 2) rfl) ?_
      rw [w_at hi] at hN
      walk_at "go"
      exact ⟨hz, hN⟩
    walk_at "go"
    refine ⟨free.map (wOf ps), by rw [List.map_map]; rfl, ?_⟩
    refine s_I (.inl ⟨by decide, by decide⟩) ?_
    rw [show 2 * (free.map (wOf ps)).sum = sumF ps free from rfl]
    walk_at "go"
    intro p hp
    have hpp : p ≠ pw := fun e => by rw [e, hpw] at hp; cases hp
    walk_at "go"
    refine forR_inv (fun i Γ ms' => (∀ s ∈ starts.take i, (bestL ps free s goals).isSome = true) ∧ (∃ kvs : KvI, ms' = mu ms p (.k kvs) ∧ kvs.length ≤ i ∧ ∀ s, valD kvs (kI s) = if s ∈ starts.take i then some (oL (bestL ps free s goals)) else none) ∧
      ∃ g5 g7, Γ = [some (.d (rowsL ps)), some (.v (.ref pw)), some (.d (iT starts)), some (.d (nT free)), some (.d (.int (sumF ps free + sumB ps free goals (starts.take i)))), g5, some (.v (.ref p)), g7]) ⟨by simp, ⟨[], rfl, Nat.le_refl _, fun s => by simp [valD]⟩, _, _, by rw [show sumF ps free + sumB ps free goals (starts.take 0) = sumF ps free by simp [sumB]]; rfl⟩ (fun i d Γ m1 hd hP N hN => ?_) fun Γ m1 hP => ?_
    · obtain ⟨hall, ⟨kvs, rfl, hkl, hkv⟩, g5, g7, rfl⟩ := hP
      rw [List.getElem?_map] at hd
      cases hs1 : starts[i]? with
      | none => rw [hs1] at hd; cases hd
      | some s1 =>
      rw [hs1] at hd
      cases hd
      have hm := List.mem_of_getElem? hs1
      have hil : i < starts.length := (List.getElem?_eq_some_iff.mp hs1).1
      have et : starts.take (i + 1) = starts.take i ++ [s1] := by rw [List.take_add_one, hs1]; rfl
      walk_at "tg"
      (with_reducible refine' s_seq ?_)
      refine s_cutIf (fun Γ m => (∃ kvs : KvI, m = mu ms p (.k kvs) ∧ kvs.length ≤ i + 1 ∧ ∀ s, valD kvs (kI s) = if s ∈ starts.take (i + 1) then some (oL (bestL ps free s goals)) else none) ∧ ∃ g5, Γ = [some (.d (rowsL ps)), some (.v (.ref pw)), some (.d (iT starts)), some (.d (nT free)), some (.d (.int (sumF ps free + sumB ps free goals (starts.take i)))), g5, some (.v (.ref p)), some (.d (.int s1))]) (fun N3 hN3 => ?_) (fun Γ m hP => ?_)
      · walk_at "go"
        refine s_inK mu_same ?_
        walk_at "go"
        rw [hkv]
        by_cases hin : s1 ∈ starts.take i
        · rw [if_pos hin]
          refine s_iteF rfl ?_
          walk_at "go"
          refine hN3 _ _ ⟨⟨kvs, rfl, by omega, fun s => ?_⟩, _, rfl⟩
          rw [hkv, et]
          by_cases hs2 : s ∈ starts.take i
          · rw [if_pos hs2, if_pos (List.mem_append_left _ hs2)]
          · rw [if_neg hs2, if_neg]
            intro h
            rcases List.mem_append.mp h with h | h
            · exact hs2 h
            · rw [List.mem_singleton.mp h] at hs2; exact hs2 hin
        · rw [if_neg hin]
          refine s_iteT rfl ?_
          walk_at "go"
          refine s_ixK (by rw [mu_ne hpp.symm]; exact hpw) (hw s1 hm) ?_
          walk_at "go"
          refine ⟨ps, waysP ps s1 goals, free, rfl, hn, fun w hw => ⟨Nat.le_trans (ways_ok ps s1 goals w hw).1 (by omega), (ways_ok ps s1 goals w hw).2⟩, ?_⟩
          walk_at "go"
          refine s_putK mu_same (Nat.lt_of_le_of_lt hkl (Nat.lt_of_lt_of_le (show _ < 1001 by omega) (by decide))) ?_
          rw [mu_mu]
          refine hN3 _ _ ⟨⟨_, rfl, Nat.le_trans (len_putD _ _ _) (by omega), fun s => ?_⟩, _, rfl⟩
          rw [val_putD, hkv, et]
          by_cases e : s1 = s
          · subst e
            rw [if_pos rfl, if_pos (List.mem_append_right _ (List.mem_singleton.mpr rfl))]; rfl
          · rw [if_neg (show ¬ (kI s1 = kI s) from fun h => e (Sum.inl.inj h))]
            by_cases hs2 : s ∈ starts.take i
            · rw [if_pos hs2, if_pos (List.mem_append_left _ hs2)]
            · rw [if_neg hs2, if_neg]
              intro h
              rcases List.mem_append.mp h with h | h
              · exact hs2 h
              · exact e (List.mem_singleton.mp h).symm
      clear hkl hkv
      obtain ⟨⟨kvs, rfl, hkl, hkv⟩, g5, rfl⟩ := hP
      have hv : valD kvs (kI s1) = some (oL (bestL ps free s1 goals)) := by rw [hkv, et, if_pos (List.mem_append_right _ (List.mem_singleton.mpr rfl))]
      walk_at "go"
      refine s_ixK mu_same hv ?_
      walk_at "go"
      rw [isN_oL, Bool.false_xor]
      cases hb : bestL ps free s1 goals with
      | none =>
        refine s_iteT rfl ?_
        rw [price_none hm hb] at q
        walk_at "go"
        exact Sub.out hp q
      | some l =>
        rw [hb] at hv
        refine s_iteF rfl ?_
        walk_at "go"
        refine s_ixK mu_same hv ?_
        refine s_ix (ds := [.int l.1, .int l.2.1, nT l.2.2]) rfl (atI_nat (j := 0) rfl) ?_
        walk_at "go"
        have e : sumF ps free + sumB ps free goals (starts.take (i + 1)) = sumF ps free + sumB ps free goals (starts.take i) + l.1 := by
          rw [et, sumB_snoc, hb]
          show _ + (_ + l.1) = _
          omega
        rw [e] at hN
        refine hN _ _ ⟨fun s2 h2 => ?_, ⟨kvs, rfl, hkl, hkv⟩, _, _, rfl⟩
        rw [et] at h2
        rcases List.mem_append.mp h2 with h2 | h2
        · exact hall s2 h2
        · rw [List.mem_singleton.mp h2, hb]; rfl
    · obtain ⟨hall, ⟨kvs, rfl, hkl, hkv⟩, g5, g7, rfl⟩ := hP
      rw [List.length_map, List.take_length] at *
      have e : priceP ps starts goals free = some (sumF ps free + sumB ps free goals starts) := if_pos (List.all_eq_true.mpr hall)
      rw [e] at q
      walk_at "go"
      exact Sub.out hp q
end
end R77

/-! ## K77w -/
set_option Elab.async false
set_option linter.all false
set_option maxRecDepth 100000
set_option maxHeartbeats 4000000
namespace AL
open PySem PySem.Spec PyProof.Rows L2
section
variable {P : Program} {w : World} {K : PySem.W.Frag} {mg : Str → Option Value} {base : Heap} {x qual : Str} {st : Stmt} {f : Addr} {fd : FuncData} {N ps : List Str} {k : Nat} {R : AFn}
abbrev WN : WX := fun _ _ _ _ => False
/-- a def that catches what it meets -/
theorem fnA0 (F : Fun K x qual st f fd) (S : FnScope N ps (defScope st)) (len : ∀ sds ms k x, R sds ms k x → sds.length = ps.length) (hN : ps.length ≤ N.length)
    (hbody : ∀ (cdv : Value) (A : Around) (outer : List Env) (s : Shared) (H : Hp) (E : XK), Room k (A.deeper (envOfC qual (defScope st) s.heap.objs.size f cdv)) →
      ∃ t r, ASs (cxOf CX0 P w K mg base N qual (defScope st) f cdv A outer s H E).nox WN (defBody st) t r ∧ ∀ sds ms k x, R sds ms k x → r (aEnd k noX) (gam N sds) ms) :
    FnOk P w K mg base CX0 (k + 1) f fd ps (spA R) := by
  refine F.ok S (fun vs H Q E h => ?_) (fun cdv A outer s H vs Q E hr h => ?_)
  · obtain ⟨sds, G, F, ms, kk, xx, s, g, q, _⟩ := h
    rw [s.length, len _ _ _ _ q]
  · obtain ⟨t, r, hb, hR⟩ := hbody cdv A outer s H E hr
    refine ⟨t, hb.pe, ?_⟩
    obtain ⟨sds, G, F, ms, kk, xx, s, g, q, kq, xe⟩ := h
    have hl : sds.length ≤ N.length := by rw [len _ _ _ _ q]; exact hN
    exact hb.ok _ _ _ (hR sds ms kk xx q) _ H G F _ (by rw [gam_eq N sds hl]; exact eok_start s hl) g ⟨fun σ' H' G' Γ' ms' e' ev' g' q' => out_ok kq _ H' G' _ ms' e' g' (okd .non) q', out_ok kq, fun _ _ _ _ _ _ _ _ z => z.elim, fun _ _ _ _ _ _ _ _ z => z.elim, fun σ' Γ' G' e' ev' => xw_no⟩
end
end AL
namespace R77
open PySem PySem.Spec PyProof.Rows L2 AL
open Evl (Ex)
open R76 (topS u1 u64 u65 u80 SrcAt SB R_draw plainD)
local macro_rules | `(tactic| walk_at "st") => `(tactic| first
  | (with_reducible refine' s_seq ?_) | (with_reducible refine' s_set ?_) | (with_reducible refine' s_nx ?_) | (with_reducible refine' s_ret ?_) | (with_reducible refine' s_drop ?_) | (with_reducible refine' s_asg ?_) | (with_reducible refine' s_for ?_) | (with_reducible refine' s_tt ?_) | (with_reducible refine' s_ff ?_) | (with_reducible refine' s_lcS ?_) | (with_reducible refine' s_put ?_) | (with_reducible refine' s_app ?_) | (with_reducible refine' s_ext ?_)
  | (with_reducible refine' s_gN ?_) | ((with_reducible refine' s_v ?e ?_); (case e => rfl)) | (with_reducible refine' s_asB ?_) | (with_reducible refine' s_asI ?_) | (with_reducible refine' s_asD ?_) | (with_reducible refine' s_nil ?_) | (with_reducible refine' s_cons ?_)
  | (with_reducible refine' s_addI ?_) | (with_reducible refine' s_I0 ?_) | (with_reducible refine' s_neg ?_) | (with_reducible refine' s_eqI ?_) | (with_reducible refine' s_eqS ?_) | (with_reducible refine' s_ltI ?_) | (with_reducible refine' s_isN ?_) | (with_reducible refine' s_int ?_) | (with_reducible refine' s_abs ?_)
  | ((with_reducible refine' s_len ?e ?_); (case e => first | rfl | exact seqOf_m (by assumption) | exact seqOf_m mu_same))
  | ((with_reducible refine' s_ix ?e ?e2 ?_); (case e => first | rfl | exact seqOf_m (by assumption) | exact seqOf_m mu_same); (case e2 => first | rfl | assumption | exact atI_nat (j := 0) rfl | exact atI_nat (j := 1) rfl | exact atI_nat (j := 2) rfl | exact atI_nat (j := 3) rfl))
  | ((with_reducible refine' s_putL ?e ?e2 ?_); (case e => first | assumption | exact mu_same); (case e2 => first | rfl | assumption))
  | ((with_reducible refine' s_oL ?e ?_); (case e => first | assumption | exact mu_same))
  | ((with_reducible refine' s_dat ?e ?_); (case e => rfl)) | ((with_reducible refine' s_rng ?e ?_); (case e => exact ⟨by omega, by omega⟩))
  | ((with_reducible refine' s_I ?c ?_); (case c => first | assumption | exact ⟨by omega, by omega⟩ | exact ⟨by decide, by decide, by decide⟩ | exact Or.inl ⟨by omega, by omega⟩ | exact Or.inr ⟨by omega, by omega⟩ | (show (0 : Int) < _; omega) | (show (0 : Int) ≤ _; omega)))
  | (with_reducible refine' s_slT ?_) | (with_reducible refine' s_slL ?_) | (with_reducible refine' s_gC ?_) | ((with_reducible refine' s_gT ?e ?_); (case e => rfl))
  | ((with_reducible refine' s_tup ?e ?_); (case e => first | rfl | exact seqOf_m (by assumption) | exact seqOf_m mu_same))
  | ((with_reducible refine' s_list ?e ?_); (case e => first | rfl | exact seqOf_m (by assumption) | exact seqOf_m mu_same))
  | ((with_reducible refine' s_isi ?e ?e2 ?_); (case e => rfl); (case e2 => rfl))
  | (with_reducible refine' s_max ?_)
  | ((with_reducible refine' And.intro ?r ?_); (case r => with_reducible rfl)))
local macro_rules | `(tactic| walk_at "one") => `(tactic| first | (with_reducible refine' s_if ?_) | walk_at "st")
local macro_rules | `(tactic| walk_at "up") => `(tactic| repeat walk_at "st")
local macro_rules | `(tactic| walk_at "go") => `(tactic| repeat walk_at "one")
local macro_rules | `(tactic| walk_at "all") => `(tactic| repeat' (first | walk_at "one" | (refine s_ite (fun _ => ?_) (fun _ => ?_))))

structure TopE (K : PySem.W.Frag) (mg : Str → Option Value) extends TopO K mg where
  e_TN : PySem.W.exmOne K (.ref CT) (.ref CN) = some false
  e_TT : PySem.W.exmOne K (.ref CT) (.ref CT) = some true
  e_NN : PySem.W.exmOne K (.ref CN) (.ref CN) = some true
theorem s_byF {C : Addr} {f : Str} {a : Addr} {cls : Value} {d : Option Addr} {re : AER} {Γ : Gam} {ms : MS} {k : SD → MS → Prop} {x : AX} (h : re Γ ms (fun u ms1 => cls = .ref C ∧ ∃ dd dv, u = .e a C dd f dv ∧ d = some dd ∧ k (.d dv) ms1) x) : rByF C f a cls d re Γ ms k x := h
theorem dDp_at : ∀ {n : Nat} {d : D}, dAt d → dDp n d
  | 0, _, h => h
  | _ + 1, _, h => .inl h
theorem dDp_lst {n : Nat} {l : List D} (hl : l.length ≤ 2000) (h : ∀ e ∈ l, dDp n e) : dDp (n + 1) (.lst l) := .inr ⟨l, .inr rfl, hl, h⟩
theorem dDp_tup {n : Nat} {l : List D} (hl : l.length ≤ 2000) (h : ∀ e ∈ l, dDp n e) : dDp (n + 1) (.tup l) := .inr ⟨l, .inl rfl, hl, h⟩
theorem dDp_int {n : Nat} {i : Int} : dDp n (.int i) := dDp_at (.inr (.inr (.inl ⟨i, rfl⟩)))
theorem dDp_str {n : Nat} {i : Str} : dDp n (.str i) := dDp_at (.inr (.inr (.inr ⟨i, rfl⟩)))
theorem dDp_oD {n : Nat} {o : Option Int} : dDp n (oD o) := by
  cases o with
  | none => exact dDp_at (.inl rfl)
  | some i => exact dDp_int
theorem fit_mono30 {d : D} (h : d.fit 10 = true) : (plainD d).fit 64 = true := R76.fit_mono _ 21 64 (by decide) (R76.plain_fit d 10 h)
/-- plain(x) == plain(x) -/
theorem s_eqP {ms : MS} {d : D} {k : SD → Prop} (hf : (plainD d).fit 64 = true) (h : k (.d (.bl true))) : oEq false ms (.d (plainD d)) (.d (plainD d)) k :=
  s_eqD hf hf (by rw [R76.eqv_self hf]; exact h)
theorem s_neP {ms : MS} {d : D} {k : SD → Prop} (hf : (plainD d).fit 64 = true) (h : k (.d (.bl false))) : oEq true ms (.d (plainD d)) (.d (plainD d)) k :=
  s_eqD hf hf (by rw [R76.eqv_self hf]; exact h)
def outP (C CL : Addr) (ds : List D) (starts goals : List Int) (k : D → Prop) : Prop :=
  (10 < ds.length ∧ k (.tup [.str "many", .int 10])) ∨ (ds.length ≤ 10 ∧ 8 < starts.length ∧ k (.tup [.str "many", .int 8])) ∨ ∃ ps, ds = ps.map (dPar C) ∧ ps.length ≤ 10 ∧ Pos ps ∧ starts.length ≤ 8 ∧
    (∀ pre s post, starts = pre ++ s :: post → (∀ y ∈ pre, (bestL ps [] y goals).isSome = true) → bestL ps [] s goals = none → k (.tup [.str "lost", .int s])) ∧
    ((∀ s ∈ starts, (bestL ps [] s goals).isSome = true) → ∀ least fr, PlanIs ps.length (tabP ps starts goals) least fr → k (.tup [.str "plan", plD CL (nT fr) (rowsD ps fr starts goals) least]))
section
variable {P : Program} {w : World} {K : PySem.W.Frag} {mg : Str → Option Value} {base : Heap}
abbrev s_law_planned : Stmt := (topS 32)
theorem sc_law_planned : FnScope ["parcels", "starts", "goals", "e"] ["parcels", "starts", "goals"] (defScope s_law_planned) := ⟨rfl, rfl, rfl, by decide +kernel, rfl, by decide +kernel, by decide +kernel⟩

def R_planned (C CL : Addr) : AFn := fun sds ms k _ => ∃ ds starts goals, sds = [.d (.lst ds), .d (iT starts), .d (iT goals)] ∧ ds.length ≤ 1000 ∧ starts.length ≤ 1000 ∧ goals.length ≤ 10 ∧ outP C CL ds starts goals fun d => k (.d d) ms
theorem ok_planned (T : TopE K mg) (G_plan : FnA P w K mg base (L2.CX P w) 5 "plan" (R_plan T.CP T.CL T.CT T.CN)) {f : Addr} {fd : FuncData} (F : Fun K "_law_planned" "_law_planned" s_law_planned f fd) :
    FnOk P w K mg base CX0 6 f fd ["parcels", "starts", "goals"] (spA (R_planned T.CP T.CL)) := by
  refine fnA0 F sc_law_planned (fun sds ms k x h => ?_) (by decide) fun cdv A outer s H E hr => ⟨_, _, (ass_one (as_try rfl rfl takes0 (fun W pn xe tk => (ass_one (as_ret (ae_tup (aa_cons ae_str (aa_cons (ae_call G_plan (hr.mono (by first | decide | omega)) (fun σ => passAt tk σ) (by rfl) (aa_cons (ae_v 0) (aa_cons (ae_v 1) (aa_cons (ae_v 2) aa_nil)))) aa_nil))))))
      (.named ⟨rfl, by decide, .inl T.x_NoRow.gC⟩ sc_law_planned.nd (i := 3) rfl rfl (fun a oe cls d pn hz hf => (ass_one (as_ret (ae_tup (aa_cons ae_str (aa_cons (ae_byF (ae_v 3) (L2.pe_byLow_NoRow T.x_NoRow hz hf (AE.pe (W := W0) (ae_v 3)))) aa_nil)))))) (.named ⟨rfl, by decide, .inl T.x_TooMany.gC⟩ sc_law_planned.nd (i := 3) rfl rfl (fun a oe cls d pn hz hf => (ass_one (as_ret (ae_tup (aa_cons ae_str (aa_cons (ae_byF (ae_v 3) (L2.pe_byLow_TooMany T.x_TooMany hz hf (AE.pe (W := W0) (ae_v 3)))) aa_nil)))))) .nil)))), fun sds ms k x h => ?_⟩
  · obtain ⟨a, b, c, rfl, _⟩ := h; rfl
  · obtain ⟨ds, starts, goals, rfl, hdl, hsl, hg, q⟩ := h
    dsimp only [gam]
    walk_at "go"
    refine (show rRet _ _ _ _ from ?_)
    walk_at "go"
    refine ⟨ds, starts, goals, rfl, hdl, hsl, hg, ?_⟩
    rcases q with ⟨h10, q⟩ | ⟨h10, h8, q⟩ | ⟨ps, rfl, hn, hp, h8, qx, qk⟩
    · refine .inl ⟨h10, ?_⟩
      refine ⟨false, T.e_TN, ?_, ?_⟩
      · intro h; cases h
      intro _
      refine ⟨true, T.e_TT, fun _ a dd => ?_, fun h => by cases h⟩
      refine s_ret ?_
      walk_at "go"
      refine s_byF ?_
      refine s_v rfl ?_
      refine ⟨rfl, _, _, rfl, rfl, ?_⟩
      walk_at "go"
      exact Out.here q
    · refine .inr (.inl ⟨h10, h8, ?_⟩)
      refine ⟨false, T.e_TN, ?_, ?_⟩
      · intro h; cases h
      intro _
      refine ⟨true, T.e_TT, fun _ a dd => ?_, fun h => by cases h⟩
      refine s_ret ?_
      walk_at "go"
      refine s_byF ?_
      refine s_v rfl ?_
      refine ⟨rfl, _, _, rfl, rfl, ?_⟩
      walk_at "go"
      exact Out.here q
    · refine .inr (.inr ⟨ps, rfl, hn, hp, h8, fun pre s post e1 e2 e3 => ?_, fun hall least fr hpl => ?_⟩)
      · refine ⟨true, T.e_NN, fun _ a dd => ?_, fun h => by cases h⟩
        refine s_ret ?_
        walk_at "go"
        refine s_byF ?_
        refine s_v rfl ?_
        refine ⟨rfl, _, _, rfl, rfl, ?_⟩
        walk_at "go"
        exact Out.here (qx pre s post e1 e2 e3)
      · walk_at "go"
        exact Out.here (qk hall least fr hpl)
abbrev s_law_table : Stmt := (topS 33)
theorem sc_law_table : FnScope ["parcels", "starts", "goals", "e"] ["parcels", "starts", "goals"] (defScope s_law_table) := ⟨rfl, rfl, rfl, by decide +kernel, rfl, by decide +kernel, by decide +kernel⟩

def R_ltable (C : Addr) : AFn := fun sds ms k _ => ∃ ds starts goals, sds = [.d (.lst ds), .d (iT starts), .d (iT goals)] ∧ ds.length ≤ 1000 ∧ starts.length ≤ 1000 ∧ goals.length ≤ 10 ∧
  ((10 < ds.length ∧ k (.d (.tup [.str "many", .int 10])) ms) ∨ (ds.length ≤ 10 ∧ 8 < starts.length ∧ k (.d (.tup [.str "many", .int 8])) ms) ∨ ∃ ps, ds = ps.map (dPar C) ∧ ps.length ≤ 10 ∧ Pos ps ∧ starts.length ≤ 8 ∧ k (.d (.tup [.str "table", tabD ps starts goals])) ms)
theorem ok_ltable (T : TopE K mg) (G_price_table : FnA P w K mg base (L2.CX P w) 4 "price_table" (R_table T.CP T.CT)) {f : Addr} {fd : FuncData} (F : Fun K "_law_table" "_law_table" s_law_table f fd) :
    FnOk P w K mg base CX0 5 f fd ["parcels", "starts", "goals"] (spA (R_ltable T.CP)) := by
  refine fnA0 F sc_law_table (fun sds ms k x h => ?_) (by decide) fun cdv A outer s H E hr => ⟨_, _, (ass_one (as_try rfl rfl takes0 (fun W pn xe tk => (ass_one (as_ret (ae_tup (aa_cons ae_str (aa_cons (ae_call G_price_table (hr.mono (by first | decide | omega)) (fun σ => passAt tk σ) (by rfl) (aa_cons (ae_v 0) (aa_cons (ae_v 1) (aa_cons (ae_v 2) aa_nil)))) aa_nil))))))
      (.named ⟨rfl, by decide, .inl T.x_TooMany.gC⟩ sc_law_table.nd (i := 3) rfl rfl (fun a oe cls d pn hz hf => (ass_one (as_ret (ae_tup (aa_cons ae_str (aa_cons (ae_byF (ae_v 3) (L2.pe_byLow_TooMany T.x_TooMany hz hf (AE.pe (W := W0) (ae_v 3)))) aa_nil)))))) .nil))), fun sds ms k x h => ?_⟩
  · obtain ⟨a, b, c, rfl, _⟩ := h; rfl
  · obtain ⟨ds, starts, goals, rfl, hdl, hsl, hg, q⟩ := h
    dsimp only [gam]
    walk_at "go"
    refine (show rRet _ _ _ _ from ?_)
    walk_at "go"
    refine ⟨ds, starts, goals, rfl, hdl, hsl, hg, ?_⟩
    rcases q with ⟨h10, q⟩ | ⟨h10, h8, q⟩ | ⟨ps, rfl, hn, hp, h8, q⟩
    · refine .inl ⟨h10, ?_⟩
      refine ⟨true, T.e_TT, fun _ a dd => ?_, fun h => by cases h⟩
      refine s_ret ?_
      walk_at "go"
      refine s_byF ?_
      refine s_v rfl ?_
      refine ⟨rfl, _, _, rfl, rfl, ?_⟩
      walk_at "go"
      exact Out.here q
    · refine .inr (.inl ⟨h10, h8, ?_⟩)
      refine ⟨true, T.e_TT, fun _ a dd => ?_, fun h => by cases h⟩
      refine s_ret ?_
      walk_at "go"
      refine s_byF ?_
      refine s_v rfl ?_
      refine ⟨rfl, _, _, rfl, rfl, ?_⟩
      walk_at "go"
      exact Out.here q
    · refine .inr (.inr ⟨ps, rfl, hn, hp, h8, ?_⟩)
      walk_at "go"
      exact Out.here q
abbrev s_law_row : Stmt := (topS 34)
theorem sc_law_row : FnScope ["parcels", "start", "goals", "free", "e"] ["parcels", "start", "goals", "free"] (defScope s_law_row) := ⟨rfl, rfl, rfl, by decide +kernel, rfl, by decide +kernel, by decide +kernel⟩

def outR (C : Addr) (ds : List D) (start : Int) (goals : List Int) (free : List Nat) (k : D → Prop) : Prop := (10 < ds.length ∧ k (.tup [.str "many", .int 10])) ∨ ∃ ps, ds = ps.map (dPar C) ∧ ps.length ≤ 10 ∧ Pos ps ∧ (bestL ps free start goals = none → k (.tup [.str "lost", .int start])) ∧ ∀ l, bestL ps free start goals = some l → k (.tup [.str "row", nT l.2.2])
/-- what the last argument says: None, or a tuple -/
def FrN (d : D) (free : List Nat) : Prop := (d = .non ∧ free = []) ∨ d = nT free
def R_lrow (C : Addr) : AFn := fun sds ms k _ => ∃ ds start goals free d, sds = [.d (.lst ds), .d (.int start), .d (iT goals), .d d] ∧ FrN d free ∧ ds.length ≤ 1000 ∧ goals.length ≤ 10 ∧ outR C ds start goals free fun d => k (.d d) ms
theorem ok_lrow (T : TopE K mg) (G_row_of3 : FnA P w K mg base (L2.CX P w) 3 "row_of" (R_row3 T.CP T.CT T.CN)) (G_row_of : FnA P w K mg base (L2.CX P w) 3 "row_of" (R_row K T.CP T.CT T.CN)) {f : Addr} {fd : FuncData} (F : Fun K "_law_row" "_law_row" s_law_row f fd) :
    FnOk P w K mg base CX0 4 f fd ["parcels", "start", "goals", "free"] (spA (R_lrow T.CP)) := by
  refine fnA0 F sc_law_row (fun sds ms k x h => ?_) (by decide) fun cdv A outer s H E hr => ⟨_, _, (ass_one (as_try rfl rfl takes0 (fun W pn xe tk => (ass_cons (as_if (at_cmp op_isN oa_isN (ae_v 3) ae_non (nomark _)) (ass_one (as_ret (ae_tup (aa_cons ae_str (aa_cons (ae_call G_row_of3 (hr.mono (by first | decide | omega)) (fun σ => passAt tk σ) (by rfl) (aa_cons (ae_v 0) (aa_cons (ae_v 1) (aa_cons (ae_v 2) aa_nil)))) aa_nil))))) ass_nil)
      (ass_one (as_ret (ae_tup (aa_cons ae_str (aa_cons (ae_call G_row_of (hr.mono (by first | decide | omega)) (fun σ => passAt tk σ) (by rfl) (aa_cons (ae_v 0) (aa_cons (ae_v 1) (aa_cons (ae_v 2) (aa_cons (ae_v 3) aa_nil))))) aa_nil)))))))
      (.named ⟨rfl, by decide, .inl T.x_NoRow.gC⟩ sc_law_row.nd (i := 4) rfl rfl (fun a oe cls d pn hz hf => (ass_one (as_ret (ae_tup (aa_cons ae_str (aa_cons (ae_byF (ae_v 4) (L2.pe_byLow_NoRow T.x_NoRow hz hf (AE.pe (W := W0) (ae_v 4)))) aa_nil)))))) (.named ⟨rfl, by decide, .inl T.x_TooMany.gC⟩ sc_law_row.nd (i := 4) rfl rfl (fun a oe cls d pn hz hf => (ass_one (as_ret (ae_tup (aa_cons ae_str (aa_cons (ae_byF (ae_v 4) (L2.pe_byLow_TooMany T.x_TooMany hz hf (AE.pe (W := W0) (ae_v 4)))) aa_nil)))))) .nil)))), fun sds ms k x h => ?_⟩
  · obtain ⟨a, b, c, d, e, rfl, _⟩ := h; rfl
  · obtain ⟨ds, start, goals, free, d, rfl, hfr, hdl, hg, q⟩ := h
    dsimp only [gam]
    walk_at "go"
    refine (show rSeq _ _ _ _ _ from ?_)
    walk_at "go"
    rcases hfr with ⟨rfl, rfl⟩ | rfl
    · refine s_iteT rfl ?_
      walk_at "go"
      refine ⟨ds, start, goals, rfl, hdl, hg, ?_⟩
      rcases q with ⟨h10, q⟩ | ⟨ps, rfl, hn, hp, qn, qs⟩
      · refine .inl ⟨h10, ?_⟩
        refine ⟨false, T.e_TN, ?_, ?_⟩
        · intro h; cases h
        intro _
        refine ⟨true, T.e_TT, fun _ a dd => ?_, fun h => by cases h⟩
        refine s_ret ?_
        walk_at "go"
        refine s_byF ?_
        refine s_v rfl ?_
        refine ⟨rfl, _, _, rfl, rfl, ?_⟩
        walk_at "go"
        exact Out.here q
      · refine .inr ⟨ps, rfl, hn, hp, fun hb => ?_, fun l hb => ?_⟩
        · refine ⟨true, T.e_NN, fun _ a dd => ?_, fun h => by cases h⟩
          refine s_ret ?_
          walk_at "go"
          refine s_byF ?_
          refine s_v rfl ?_
          refine ⟨rfl, _, _, rfl, rfl, ?_⟩
          walk_at "go"
          exact Out.here (qn hb)
        · walk_at "go"
          exact Out.here (qs l hb)
    · refine s_iteF rfl ?_
      walk_at "go"
      refine ⟨ds, start, goals, free, _, rfl, .inl rfl, hdl, hg, ?_⟩
      rcases q with ⟨h10, q⟩ | ⟨ps, rfl, hn, hp, qn, qs⟩
      · refine .inl ⟨h10, ?_⟩
        refine ⟨false, T.e_TN, ?_, ?_⟩
        · intro h; cases h
        intro _
        refine ⟨true, T.e_TT, fun _ a dd => ?_, fun h => by cases h⟩
        refine s_ret ?_
        walk_at "go"
        refine s_byF ?_
        refine s_v rfl ?_
        refine ⟨rfl, _, _, rfl, rfl, ?_⟩
        walk_at "go"
        exact Out.here q
      · refine .inr ⟨ps, rfl, hn, hp, fun hb => ?_, fun l hb => ?_⟩
        · refine ⟨true, T.e_NN, fun _ a dd => ?_, fun h => by cases h⟩
          refine s_ret ?_
          walk_at "go"
          refine s_byF ?_
          refine s_v rfl ?_
          refine ⟨rfl, _, _, rfl, rfl, ?_⟩
          walk_at "go"
          exact Out.here (qn hb)
        · walk_at "go"
          exact Out.here (qs l hb)
abbrev s_law_row_due : Stmt := (topS 35)
theorem sc_law_row_due : FnScope ["rows", "ways", "start", "free", "best"] ["rows", "ways", "start", "free"] (defScope s_law_row_due) := ⟨rfl, rfl, rfl, by decide +kernel, rfl, by decide +kernel, by decide +kernel⟩

def R_due : AFn := fun sds ms k _ => ∃ ps pw start goals free, sds = [.d (rowsL ps), .v (.ref pw), .d (.int start), .d (nT free)] ∧ ps.length ≤ 10 ∧ WaysOk ms pw ps [start] goals ∧
  (bestL ps free start goals = none → k (.d (.tup [.str "lost", .int start])) ms) ∧ ∀ l, bestL ps free start goals = some l → k (.d (.tup [.str "row", nT l.2.2])) ms
theorem ok_due (T : TopE K mg) (G_law_least : FnA P w K mg base CX0 1 "_law_least" R_least) {f : Addr} {fd : FuncData} (F : Fun K "_law_row_due" "_law_row_due" s_law_row_due f fd) : FnOk P w K mg base CX0 2 f fd ["rows", "ways", "start", "free"] (spA R_due) := by
  refine fnA F sc_law_row_due (fun sds ms k x h => ?_) (by decide) fun cdv A outer s H E hr => ⟨_, _, (ass_cons (as_set 4 sc_law_row_due.nd (ae_call G_law_least (hr.mono (by first | decide | omega)) (fun _ => pass0At) (by rfl) (aa_cons (ae_v 0) (aa_cons (ae_ix (u1 hr) (ae_v 1) (ae_v 2)) (aa_cons (ae_v 3) aa_nil)))))
    (ass_cons (as_if (at_cmp op_isN oa_isN (ae_v 4) ae_non (nomark _)) (ass_one (as_ret (ae_tup (aa_cons ae_str (aa_cons (ae_v 2) aa_nil))))) ass_nil)
    (ass_one (as_ret (ae_tup (aa_cons ae_str (aa_cons (ae_ix (u1 hr) (ae_v 4) ae_int) aa_nil))))))), fun sds ms k x h => ?_⟩
  · obtain ⟨a, b, c, d, e, rfl, _⟩ := h; rfl
  · obtain ⟨ps, pw, start, goals, free, rfl, hn, ⟨kw, hpw, hw⟩, qn, qs⟩ := h
    dsimp only [gam]
    walk_at "go"
    refine s_ixK hpw (hw start (by simp)) ?_
    walk_at "go"
    refine ⟨ps, waysP ps start goals, free, rfl, hn, fun w hw => ⟨Nat.le_trans (ways_ok ps start goals w hw).1 (by omega), (ways_ok ps start goals w hw).2⟩, ?_⟩
    walk_at "go"
    rw [isN_oL, Bool.false_xor]
    cases hb : bestL ps free start goals with
    | none =>
      refine s_iteT (by rw [show (waysP ps start goals).foldl (stepB ps free) none = none from hb]; rfl) ?_
      walk_at "go"
      exact Out.here (qn hb)
    | some l =>
      have e : (waysP ps start goals).foldl (stepB ps free) none = some l := hb
      rw [e]
      refine s_iteF rfl ?_
      walk_at "go"
      exact Out.here (qs l hb)
abbrev s_law_compared : Stmt := (topS 37)
theorem sc_law_compared : FnScope ["one", "two", "told", "low", "high", "due"] ["one", "two"] (defScope s_law_compared) := ⟨rfl, rfl, rfl, by decide +kernel, rfl, by decide +kernel, by decide +kernel⟩

def R_compared (C : Addr) : AFn := fun sds ms k _ => ∃ t r p t' r' p', sds = [.d (plD C t r p), .d (plD C t' r' p')] ∧ k (.d (.bl true)) ms
theorem s_own {C : Addr} {f : Int → Int → Bool} {ms : MS} {k : SD → Prop} {t r t' r' : D} {p p' : Int} (h : k (.d (.bl (f p p')))) : oOwn C (R_cmp C f) ms (.d (plD C t r p)) (.d (plD C t' r' p')) k :=
  ⟨_, _, rfl, rfl, t, r, p, t', r', p', rfl, rfl, h⟩
theorem s_ownN {C : Addr} {f : Int → Int → Bool} {ms : MS} {k : SD → Prop} {t r t' r' : D} {p p' : Int} (h : k (.d (.bl (!f p p')))) : oOwnN C (R_cmp C f) ms (.d (plD C t r p)) (.d (plD C t' r' p')) k :=
  ⟨_, _, rfl, rfl, t, r, p, t', r', p', rfl, rfl, h⟩
theorem eqv_bls (l : List Bool) (n : Nat) : fitL (l.map D.bl) n = true := R76.fitL_of fun d hd => by
  obtain ⟨i, _, rfl⟩ := List.mem_map.mp hd
  simp [D.fit]
theorem ok_compared (T : TopE K mg) (GO_lt : FnR P w K mg base CX0 1 T.gLt (spA (R_cmp T.CL fun i j => decide (i < j)))) (GO_le : FnR P w K mg base CX0 1 T.gLe (spA (R_cmp T.CL fun i j => decide (i ≤ j)))) (GO_gt : FnR P w K mg base CX0 1 T.gGt (spA (R_cmp T.CL fun i j => decide (j < i))))
    (GO_ge : FnR P w K mg base CX0 1 T.gGe (spA (R_cmp T.CL fun i j => decide (j ≤ i)))) (GO_eq : FnR P w K mg base CX0 1 T.gEq (spA (R_cmp T.CL fun i j => decide (i = j)))) (G_law_plain : FnA P w K mg base CX0 7 "_law_plain" (R_plain 6))
    {f : Addr} {fd : FuncData} (F : Fun K "_law_compared" "_law_compared" s_law_compared f fd) : FnOk P w K mg base CX0 8 f fd ["one", "two"] (spA (R_compared T.CL)) := by
  refine fnA F sc_law_compared (fun sds ms k x h => ?_) (by decide) fun cdv A outer s H E hr => ⟨_, _, (ass_cons (as_set 2 sc_law_compared.nd (ae_lst (aa_cons (ae_cmp (op_ownI (fun _ _ => rfl) T.o_lt T.of_lt GO_lt (hr.mono (by first | decide | omega)) pass0) oa_own (ae_v 0) (ae_v 1) (nomark _)) (aa_cons (ae_cmp (op_ownI (fun _ _ => rfl) T.o_le T.of_le GO_le (hr.mono (by first | decide | omega)) pass0) oa_own (ae_v 0) (ae_v 1) (nomark _)) (aa_cons (ae_cmp (op_ownI (fun _ _ => rfl) T.o_eq T.of_eq GO_eq (hr.mono (by first | decide | omega)) pass0) oa_own (ae_v 0) (ae_v 1) (nomark _)) (aa_cons (ae_cmp (op_ownN T.neC T.o_eq T.of_eq GO_eq (hr.mono (by first | decide | omega)) pass0) oa_ownN (ae_v 0) (ae_v 1) (nomark _)) (aa_cons (ae_cmp (op_ownI (fun _ _ => rfl) T.o_gt T.of_gt GO_gt (hr.mono (by first | decide | omega)) pass0) oa_own (ae_v 0) (ae_v 1) (nomark _)) (aa_cons (ae_cmp (op_ownI (fun _ _ => rfl) T.o_ge T.of_ge GO_ge (hr.mono (by first | decide | omega)) pass0) oa_own (ae_v 0) (ae_v 1) (nomark _)) aa_nil))))))))
    (ass_cons (as_set 3 sc_law_compared.nd (ae_fld T.cls_Plan T.na_price (ae_v 0)))
    (ass_cons (as_set 4 sc_law_compared.nd (ae_fld T.cls_Plan T.na_price (ae_v 1)))
    (ass_cons (as_set 5 sc_law_compared.nd (ae_lst (aa_cons (ae_cmp (op_ltA (u64 hr)) oa_lt (ae_v 3) (ae_v 4) (nomark _)) (aa_cons (ae_cmp op_le oa_le (ae_v 3) (ae_v 4) (nomark _)) (aa_cons (ae_cmp (op_eqA (u64 hr)) oa_eq (ae_v 3) (ae_v 4) (nomark _)) (aa_cons (ae_cmp (op_neA (u64 hr)) oa_ne (ae_v 3) (ae_v 4) (nomark _)) (aa_cons (ae_cmp op_gt oa_gt (ae_v 3) (ae_v 4) (nomark _)) (aa_cons (ae_cmp op_ge oa_ge (ae_v 3) (ae_v 4) (nomark _)) aa_nil))))))))
    (ass_one (as_ret (ae_cmp (op_eqA (u64 hr)) oa_eq (ae_call G_law_plain (hr.mono (by first | decide | omega)) (fun _ => pass0At) (by rfl) (aa_cons (ae_v 2) aa_nil)) (ae_call G_law_plain (hr.mono (by first | decide | omega)) (fun _ => pass0At) (by rfl) (aa_cons (ae_v 5) aa_nil)) (nomark _)))))))), fun sds ms k x h => ?_⟩
  · obtain ⟨a, b, c, d, e, g, rfl, _⟩ := h; rfl
  · obtain ⟨t, r, p, t', r', p', rfl, q⟩ := h
    dsimp only [gam]
    walk_at "go"
    refine s_own ?_
    walk_at "go"
    refine s_own ?_
    walk_at "go"
    refine s_own ?_
    walk_at "go"
    refine s_ownN ?_
    walk_at "go"
    refine s_own ?_
    walk_at "go"
    refine s_own ?_
    walk_at "go"
    refine s_fldL rfl ?_
    walk_at "go"
    refine s_fldL rfl ?_
    walk_at "go"
    have e1 : (false ^^ decide (p = p')) = decide (p = p') := Bool.false_xor _
    have e2 : (true ^^ decide (p = p')) = !decide (p = p') := Bool.true_xor _
    rw [e1, e2]
    have hd : ∀ n, dDp (n + 1) (.lst [.bl (decide (p < p')), .bl (decide (p ≤ p')), .bl (decide (p = p')), .bl (!decide (p = p')), .bl (decide (p' < p)), .bl (decide (p' ≤ p))]) := fun n => dDp_lst (by simp) fun e he => by
      simp only [List.mem_cons, List.not_mem_nil, or_false] at he
      rcases he with rfl | rfl | rfl | rfl | rfl | rfl <;> exact dDp_at (.inr (.inl ⟨_, rfl⟩))
    refine ⟨_, rfl, hd _, ?_⟩
    walk_at "go"
    refine ⟨_, rfl, hd _, ?_⟩
    refine s_eqP (fit_mono30 (by simp [D.fit, fitL])) ?_
    exact Out.here q
end
end R77

/-! ## K77x -/
set_option Elab.async false
set_option linter.all false
set_option maxRecDepth 100000
set_option maxHeartbeats 4000000
namespace R77
open PySem PySem.Spec PyProof.Rows L2 AL
open Evl (Ex)
open R76 (topS u1 u64 u65 u80 SrcAt SB R_draw plainD)
local macro_rules | `(tactic| walk_at "st") => `(tactic| first
  | (with_reducible refine' s_seq ?_) | (with_reducible refine' s_set ?_) | (with_reducible refine' s_nx ?_) | (with_reducible refine' s_ret ?_) | (with_reducible refine' s_drop ?_) | (with_reducible refine' s_asg ?_) | (with_reducible refine' s_for ?_) | (with_reducible refine' s_tt ?_) | (with_reducible refine' s_ff ?_) | (with_reducible refine' s_lcS ?_) | (with_reducible refine' s_put ?_) | (with_reducible refine' s_app ?_) | (with_reducible refine' s_ext ?_)
  | (with_reducible refine' s_gN ?_) | ((with_reducible refine' s_v ?e ?_); (case e => rfl)) | (with_reducible refine' s_asB ?_) | (with_reducible refine' s_asI ?_) | (with_reducible refine' s_asD ?_) | (with_reducible refine' s_nil ?_) | (with_reducible refine' s_cons ?_)
  | (with_reducible refine' s_addI ?_) | (with_reducible refine' s_I0 ?_) | (with_reducible refine' s_neg ?_) | (with_reducible refine' s_eqI ?_) | (with_reducible refine' s_eqS ?_) | (with_reducible refine' s_ltI ?_) | (with_reducible refine' s_isN ?_) | (with_reducible refine' s_int ?_) | (with_reducible refine' s_abs ?_)
  | ((with_reducible refine' s_len ?e ?_); (case e => first | rfl | exact seqOf_m (by assumption) | exact seqOf_m mu_same))
  | ((with_reducible refine' s_ix ?e ?e2 ?_); (case e => first | rfl | exact seqOf_m (by assumption) | exact seqOf_m mu_same); (case e2 => first | rfl | assumption | exact atI_nat (j := 0) rfl | exact atI_nat (j := 1) rfl | exact atI_nat (j := 2) rfl | exact atI_nat (j := 3) rfl))
  | ((with_reducible refine' s_putL ?e ?e2 ?_); (case e => first | assumption | exact mu_same); (case e2 => first | rfl | assumption))
  | ((with_reducible refine' s_oL ?e ?_); (case e => first | assumption | exact mu_same))
  | ((with_reducible refine' s_dat ?e ?_); (case e => rfl)) | ((with_reducible refine' s_rng ?e ?_); (case e => exact ⟨by omega, by omega⟩))
  | ((with_reducible refine' s_I ?c ?_); (case c => first | assumption | exact ⟨by omega, by omega⟩ | exact ⟨by decide, by decide, by decide⟩ | exact Or.inl ⟨by omega, by omega⟩ | exact Or.inr ⟨by omega, by omega⟩ | (show (0 : Int) < _; omega) | (show (0 : Int) ≤ _; omega)))
  | (with_reducible refine' s_slT ?_) | (with_reducible refine' s_slL ?_) | (with_reducible refine' s_gC ?_) | ((with_reducible refine' s_gT ?e ?_); (case e => rfl))
  | ((with_reducible refine' s_tup ?e ?_); (case e => first | rfl | exact seqOf_m (by assumption) | exact seqOf_m mu_same))
  | ((with_reducible refine' s_list ?e ?_); (case e => first | rfl | exact seqOf_m (by assumption) | exact seqOf_m mu_same))
  | ((with_reducible refine' s_isi ?e ?e2 ?_); (case e => rfl); (case e2 => rfl))
  | (with_reducible refine' s_max ?_)
  | ((with_reducible refine' And.intro ?r ?_); (case r => with_reducible rfl)))
local macro_rules | `(tactic| walk_at "one") => `(tactic| first | (with_reducible refine' s_if ?_) | walk_at "st")
local macro_rules | `(tactic| walk_at "up") => `(tactic| repeat walk_at "st")
local macro_rules | `(tactic| walk_at "go") => `(tactic| repeat walk_at "one")
local macro_rules | `(tactic| walk_at "all") => `(tactic| repeat' (first | walk_at "one" | (refine s_ite (fun _ => ?_) (fun _ => ?_))))

local macro_rules | `(tactic| walk_at "tg") => `(tactic| repeat (first | (with_reducible refine' s_gC ?_) | ((with_reducible refine' s_gT ?e ?_); (case e => rfl)) | (with_reducible refine' s_gN ?_) | ((with_reducible refine' And.intro ?r ?_); (case r => with_reducible rfl))))
theorem best_len {ps : List Par} {free : List Nat} {s : Int} {goals : List Int} {l : Lab} (h : bestL ps free s goals = some l) : l.2.2.length ≤ ps.length := by
  obtain ⟨j1, _, _⟩ := (foldB _ _).2 l h
  rcases j1 with j1 | ⟨w, hw, e⟩
  · cases j1
  · rw [e]; exact (ways_ok ps s goals w hw).1
theorem rowL_len (ps : List Par) (free : List Nat) (s : Int) (goals : List Int) : (rowL ps free s goals).length ≤ ps.length := by
  unfold rowL
  cases h : bestL ps free s goals with
  | none => exact Nat.zero_le _
  | some l => exact best_len h
theorem dDp_nT {n : Nat} {l : List Nat} (h : l.length ≤ 2000) : dDp (n + 1) (nT l) := dDp_tup (by rw [List.length_map]; exact h) fun e he => by
  obtain ⟨i, _, rfl⟩ := List.mem_map.mp he
  exact dDp_int
theorem dDp_rows {n : Nat} {ps : List Par} {fr : List Nat} {starts goals : List Int} (hs : starts.length ≤ 2000) (hn : ps.length ≤ 10) : dDp (n + 2) (rowsD ps fr starts goals) := dDp_tup (by rw [List.length_map]; exact hs) fun e he => by
  obtain ⟨i, _, rfl⟩ := List.mem_map.mp he
  exact dDp_nT (Nat.le_trans (rowL_len _ _ _ _) (by omega))
theorem fit_rows (ps : List Par) (fr : List Nat) (starts goals : List Int) : (rowsD ps fr starts goals).fit 10 = true := R76.fit_tup (n := 9) fun d hd => by
  obtain ⟨s, _, rfl⟩ := List.mem_map.mp hd
  exact fit_nT _ 8
theorem fit_oD (o : Option Int) (n : Nat) : (oD o).fit n = true := by cases o <;> simp [oD, D.fit]
section
variable {P : Program} {w : World} {K : PySem.W.Frag} {mg : Str → Option Value} {base : Heap}
abbrev s_law_plan_holds : Stmt := (topS 36)
theorem sc_law_plan_holds : FnScope ["told", "rows", "ways", "starts", "table", "least", "free", "k", "due", "start"] ["told", "rows", "ways", "starts", "table"] (defScope s_law_plan_holds) := ⟨rfl, rfl, rfl, by decide +kernel, rfl, by decide +kernel, by decide +kernel⟩

def R_holds (C : Addr) : AFn := fun sds ms k _ => ∃ ps pw starts goals least fr tab, sds = [.d (plD C (nT fr) (rowsD ps fr starts goals) least), .d (rowsL ps), .v (.ref pw), .d (iT starts), .d (.lst (tab.map oD))] ∧ ps.length ≤ 10 ∧ starts.length ≤ 8 ∧
  WaysOk ms pw ps starts goals ∧ PlanIs ps.length tab least fr ∧ tab.length = 2 ^ ps.length ∧ (∀ o ∈ tab, o.isSome = true) ∧ (∀ s ∈ starts, (bestL ps [] s goals).isSome = true) ∧ k (.d (.bl true)) ms
theorem ok_holds (T : TopE K mg) (G_law_numbers : FnA P w K mg base CX0 1 "_law_numbers" R_nums) (G_law_least : FnA P w K mg base CX0 1 "_law_least" R_least) (G_law_plain : FnA P w K mg base CX0 7 "_law_plain" (R_plain 6)) {f : Addr} {fd : FuncData} (F : Fun K "_law_plan_holds" "_law_plan_holds" s_law_plan_holds f fd) :
    FnOk P w K mg base CX0 8 f fd ["told", "rows", "ways", "starts", "table"] (spA (R_holds T.CL)) := by
  refine fnA F sc_law_plan_holds (fun sds ms k x h => ?_) (by decide) fun cdv A outer s H E hr => ⟨_, _, (ass_cons (as_set 5 sc_law_plan_holds.nd (ae_callB (cr_min rfl) oa_minL (by rfl) T.min (by decide +kernel) (aa_cons (ae_v 4) aa_nil)))
    (ass_cons (as_set 6 sc_law_plan_holds.nd (ae_ix (u1 hr) (ae_callB (cr_sortedT (u80 hr)) oa_sortedT (by rfl) T.sorted (by decide +kernel) (aa_cons (ae_lc (own := [("k", 7)]) rfl sc_law_plan_holds.nd (ai_range1 (by rfl) T.range (ae_callB call_len oa_len (by rfl) T.len (by decide +kernel) (aa_cons (ae_v 4) aa_nil))) (blkOk_by (own := [("k", 7)]) (N := ["told", "rows", "ways", "starts", "table", "least", "free", "k", "due", "start"]) (sc := defScope s_law_plan_holds) (by decide +kernel)) (by decide) (fun _ _ _ _ _ => (ag_name 7 sc_law_plan_holds.nd)) (fun _ _ _ _ _ => (ats_one (at_cmp (opK_eq (K := K) rfl (u64 hr)) oa_eq (ae_ixK (K := K) rfl (u1 hr) (ae_v 4) (ae_v 7)) (ae_v 5) (nomark _)))) (fun _ _ _ _ _ => (ae_call G_law_numbers (hr.mono (by first | decide | omega)) (fun _ => pass0At) (by rfl) (aa_cons (ae_v 7) (aa_cons (ae_callB (callK_len (K := K) rfl) oa_len (by rfl) T.len (by decide +kernel) (aa_cons (ae_v 1) aa_nil)) aa_nil))))) aa_nil)) ae_int))
    (ass_cons (as_set 8 sc_law_plan_holds.nd (ae_callTy call_tuple_of oa_tup (by rfl) T.tuple (by decide +kernel) (aa_cons (ae_lc (own := [("start", 9)]) rfl sc_law_plan_holds.nd (ai_seq (ae_v 3)) (blkOk_by (own := [("start", 9)]) (N := ["told", "rows", "ways", "starts", "table", "least", "free", "k", "due", "start"]) (sc := defScope s_law_plan_holds) (by decide +kernel)) (by decide) (fun _ _ _ _ _ => (ag_name 9 sc_law_plan_holds.nd)) (fun _ _ _ _ _ => ats_nil) (fun _ _ _ _ _ => (ae_ixK (K := K) rfl (u1 hr) (ae_call G_law_least (hr.mono (by first | decide | omega)) (fun _ => pass0At) (by rfl) (aa_cons (ae_v 1) (aa_cons (ae_ixK (K := K) rfl (u1 hr) (ae_v 2) (ae_v 9)) (aa_cons (ae_v 6) aa_nil)))) ae_int))) aa_nil)))
    (ass_cons (as_if (AW.at (aw_or (at_cmp (op_neA (u64 hr)) oa_ne (ae_call G_law_plain (hr.mono (by first | decide | omega)) (fun _ => pass0At) (by rfl) (aa_cons (ae_fld T.cls_Plan T.na_to_all (ae_v 0)) aa_nil)) (ae_call G_law_plain (hr.mono (by first | decide | omega)) (fun _ => pass0At) (by rfl) (aa_cons (ae_v 6) aa_nil)) (nomark _)) (aw_or1 (at_cmp (op_neA (u64 hr)) oa_ne (ae_call G_law_plain (hr.mono (by first | decide | omega)) (fun _ => pass0At) (by rfl) (aa_cons (ae_fld T.cls_Plan T.na_price (ae_v 0)) aa_nil)) (ae_call G_law_plain (hr.mono (by first | decide | omega)) (fun _ => pass0At) (by rfl) (aa_cons (ae_v 5) aa_nil)) (nomark _))))) (ass_one (as_ret ae_bl)) ass_nil)
    (ass_one (as_ret (ae_cmp (op_eqA (u64 hr)) oa_eq (ae_call G_law_plain (hr.mono (by first | decide | omega)) (fun _ => pass0At) (by rfl) (aa_cons (ae_fld T.cls_Plan T.na_rows (ae_v 0)) aa_nil)) (ae_call G_law_plain (hr.mono (by first | decide | omega)) (fun _ => pass0At) (by rfl) (aa_cons (ae_v 8) aa_nil)) (nomark _)))))))), fun sds ms k x h => ?_⟩
  · obtain ⟨a, b, c, d, e, g, i, rfl, _⟩ := h; rfl
  · obtain ⟨ps, pw, starts, goals, least, fr, tab, rfl, hn, h8, ⟨kw, hpw, hw⟩, hpl, htl, hts, hall, q⟩ := h
    obtain ⟨ns, hns⟩ : ∃ ns : List Int, tab = ns.map some := ⟨tab.map fun o => o.getD 0, by
      rw [List.map_map]
      refine (List.map_id' _).symm.trans (List.map_congr_left fun o ho => ?_)
      obtain ⟨v, hv⟩ := Option.isSome_iff_exists.mp (hts o ho)
      rw [hv]; rfl⟩
    have hnl : ns.length = 2 ^ ps.length := by rw [← htl, hns, List.length_map]
    have hz := pow10 hn
    have htd : tab.map oD = ns.map .int := by rw [hns, List.map_map]; rfl
    have hpos : 0 < 2 ^ ps.length := Nat.pow_pos (by decide)
    have hfl := hpl.lt htl
    dsimp only [gam]
    walk_at "go"
    refine ⟨ns, by rw [htd]; rfl, by omega, fun m hm hmin => ?_⟩
    have em : m = least := by
      have hl := hpl.mem
      rw [hns] at hl
      obtain ⟨z, hz, e⟩ := List.mem_map.mp hl
      cases e
      exact Int.le_antisymm (hmin _ hz) (hpl.le m (by rw [hns]; exact List.mem_map.mpr ⟨m, hm, rfl⟩))
    subst em
    walk_at "go"
    rw [List.length_map, htl]
    refine s_rng (rngOk (by omega)) ?_
    rw [Int.toNat_natCast, rngD0]
    refine lcI_fm (f := fun c : Nat => nT (numsP c ps.length)) (p := fun c => decide (tab[c]? = some (some m))) (z2000 (by rw [List.length_range]; omega)) (fun c hc acc N hz2 hN => ?_) ?_
    · have hc := List.mem_range.mp hc
      have hcl : c < ns.length := by omega
      have hcv : tab[c]? = some (some ns[c]) := by rw [hns, List.getElem?_map, List.getElem?_eq_getElem hcl]; rfl
      walk_at "go"
      rw [htd]
      refine s_ix rfl (d := .int ns[c]) (atI_nat (by rw [List.getElem?_map, List.getElem?_eq_getElem hcl]; rfl)) ?_
      walk_at "go"
      rw [Bool.false_xor]
      rw [hcv] at hN
      refine s_ite (fun e => ?_) (fun e => ?_)
      · rw [if_pos (by have := of_decide_eq_true e; rw [this]; simp)] at hN
        unfold rowsL
        walk_at "go"
        refine ⟨c, ps.length, by rw [List.length_map], by omega, ?_⟩
        walk_at "go"
        exact ⟨hz2, hN⟩
      · rw [if_neg (by have := of_decide_eq_false e; simp [this]), List.append_nil] at hN
        exact hN
    rw [show (List.map (fun c : Nat => nT (numsP c ps.length)) (List.filter (fun c => decide (tab[c]? = some (some m))) (List.range (2 ^ ps.length)))) = (freesP ps.length tab m).map nT by unfold freesP; rw [List.map_map]; rfl]
    walk_at "go"
    refine s_sortN (Nat.le_trans (frees_len _ _ _) (by omega)) ?_
    refine s_ix rfl hpl.fr ?_
    walk_at "go"
    refine lcI_map (f := fun s : Int => nT (rowL ps fr s goals)) (small_len (by omega)) (fun s1 hs1 acc N hz2 hN => ?_) ?_
    · obtain ⟨l, hl⟩ := Option.isSome_iff_exists.mp (show (bestL ps fr s1 goals).isSome = true by rw [best_free]; exact hall s1 hs1)
      walk_at "go"
      refine s_ixK hpw (hw s1 hs1) ?_
      walk_at "go"
      refine ⟨ps, waysP ps s1 goals, fr, rfl, hn, fun w hw => ⟨Nat.le_trans (ways_ok ps s1 goals w hw).1 (by omega), (ways_ok ps s1 goals w hw).2⟩, ?_⟩
      rw [show (waysP ps s1 goals).foldl (stepB ps fr) none = some l from hl]
      refine s_ix (ds := [.int l.1, .int l.2.1, nT l.2.2]) rfl (atI_nat (j := 2) rfl) ?_
      have e : rowL ps fr s1 goals = l.2.2 := by unfold rowL; rw [hl]; rfl
      rw [e] at hN
      walk_at "go"
      exact ⟨hz2, hN⟩
    walk_at "go"
    refine s_fldL rfl ?_
    refine ⟨_, rfl, dDp_nT (n := 5) (by omega), ?_⟩
    walk_at "go"
    refine ⟨_, rfl, dDp_nT (n := 5) (by omega), ?_⟩
    refine s_neP (fit_mono30 (fit_nT _ 9)) ?_
    walk_at "go"
    refine s_fldL rfl ?_
    refine ⟨_, rfl, dDp_int, ?_⟩
    walk_at "go"
    refine ⟨_, rfl, dDp_int, ?_⟩
    refine s_neP (fit_mono30 (by simp [D.fit])) ?_
    walk_at "go"
    refine s_fldL rfl ?_
    refine ⟨_, rfl, dDp_rows (n := 4) (by omega) hn, ?_⟩
    walk_at "go"
    refine ⟨_, rfl, dDp_rows (n := 4) (by omega) hn, ?_⟩
    refine s_eqP (fit_mono30 (fit_rows _ _ _ _)) ?_
    exact Out.here q
theorem sum_rev (l : List Int) : l.reverse.sum = l.sum := by
  induction l with
  | nil => rfl
  | cons a r ih => rw [List.reverse_cons, List.sum_append, ih, List.sum_cons]; simp; omega
theorem price_rev (ps : List Par) (starts goals : List Int) (free : List Nat) : priceP ps starts.reverse goals free = priceP ps starts goals free := by
  unfold priceP sumB
  have h1 : (starts.reverse.all fun s => (bestL ps free s goals).isSome) = starts.all fun s => (bestL ps free s goals).isSome := List.all_reverse
  have h2 : (starts.reverse.map fun s => ((bestL ps free s goals).map (·.1)).getD 0).sum = (starts.map fun s => ((bestL ps free s goals).map (·.1)).getD 0).sum := by
    rw [List.map_reverse]
    exact sum_rev _
  rw [h1, h2]
theorem tab_rev (ps : List Par) (starts goals : List Int) : tabP ps starts.reverse goals = tabP ps starts goals := by
  unfold tabP
  exact List.map_congr_left fun c _ => price_rev ps starts goals _
theorem tab_all {ps : List Par} {starts goals : List Int} (h : ∀ s ∈ starts, (bestL ps [] s goals).isSome = true) : ∀ o ∈ tabP ps starts goals, o.isSome = true := by
  obtain ⟨ns, e, _⟩ := tab_some h
  rw [e]
  intro o ho
  obtain ⟨v, _, rfl⟩ := List.mem_map.mp ho
  rfl
end
end R77

/-! ## K77y -/
set_option Elab.async false
set_option linter.all false
set_option maxRecDepth 100000
set_option maxHeartbeats 4000000
namespace R77
open PySem PySem.Spec PyProof.Rows L2 AL
open Evl (Ex)
open R76 (topS u1 u64 u65 u80 SrcAt SB R_draw plainD)
local macro_rules | `(tactic| walk_at "st") => `(tactic| first
  | (with_reducible refine' s_seq ?_) | (with_reducible refine' s_set ?_) | (with_reducible refine' s_nx ?_) | (with_reducible refine' s_ret ?_) | (with_reducible refine' s_drop ?_) | (with_reducible refine' s_asg ?_) | (with_reducible refine' s_for ?_) | (with_reducible refine' s_tt ?_) | (with_reducible refine' s_ff ?_) | (with_reducible refine' s_lcS ?_) | (with_reducible refine' s_put ?_) | (with_reducible refine' s_app ?_) | (with_reducible refine' s_ext ?_)
  | (with_reducible refine' s_gN ?_) | ((with_reducible refine' s_v ?e ?_); (case e => rfl)) | (with_reducible refine' s_asB ?_) | (with_reducible refine' s_asI ?_) | (with_reducible refine' s_asD ?_) | (with_reducible refine' s_nil ?_) | (with_reducible refine' s_cons ?_)
  | (with_reducible refine' s_addI ?_) | (with_reducible refine' s_I0 ?_) | (with_reducible refine' s_neg ?_) | (with_reducible refine' s_eqI ?_) | (with_reducible refine' s_eqS ?_) | (with_reducible refine' s_ltI ?_) | (with_reducible refine' s_isN ?_) | (with_reducible refine' s_int ?_) | (with_reducible refine' s_abs ?_)
  | ((with_reducible refine' s_len ?e ?_); (case e => first | rfl | exact seqOf_m (by assumption) | exact seqOf_m mu_same))
  | ((with_reducible refine' s_ix ?e ?e2 ?_); (case e => first | rfl | exact seqOf_m (by assumption) | exact seqOf_m mu_same); (case e2 => first | rfl | assumption | exact atI_nat (j := 0) rfl | exact atI_nat (j := 1) rfl | exact atI_nat (j := 2) rfl | exact atI_nat (j := 3) rfl))
  | ((with_reducible refine' s_putL ?e ?e2 ?_); (case e => first | assumption | exact mu_same); (case e2 => first | rfl | assumption))
  | ((with_reducible refine' s_oL ?e ?_); (case e => first | assumption | exact mu_same))
  | ((with_reducible refine' s_dat ?e ?_); (case e => rfl)) | ((with_reducible refine' s_rng ?e ?_); (case e => exact ⟨by omega, by omega⟩))
  | ((with_reducible refine' s_I ?c ?_); (case c => first | assumption | exact ⟨by omega, by omega⟩ | exact ⟨by decide, by decide, by decide⟩ | exact Or.inl ⟨by omega, by omega⟩ | exact Or.inr ⟨by omega, by omega⟩ | (show (0 : Int) < _; omega) | (show (0 : Int) ≤ _; omega)))
  | (with_reducible refine' s_slT ?_) | (with_reducible refine' s_slL ?_) | (with_reducible refine' s_gC ?_) | ((with_reducible refine' s_gT ?e ?_); (case e => rfl))
  | ((with_reducible refine' s_tup ?e ?_); (case e => first | rfl | exact seqOf_m (by assumption) | exact seqOf_m mu_same))
  | ((with_reducible refine' s_list ?e ?_); (case e => first | rfl | exact seqOf_m (by assumption) | exact seqOf_m mu_same))
  | ((with_reducible refine' s_isi ?e ?e2 ?_); (case e => rfl); (case e2 => rfl))
  | (with_reducible refine' s_max ?_)
  | ((with_reducible refine' And.intro ?r ?_); (case r => with_reducible rfl)))
local macro_rules | `(tactic| walk_at "one") => `(tactic| first | (with_reducible refine' s_if ?_) | walk_at "st")
local macro_rules | `(tactic| walk_at "up") => `(tactic| repeat walk_at "st")
local macro_rules | `(tactic| walk_at "go") => `(tactic| repeat walk_at "one")
local macro_rules | `(tactic| walk_at "all") => `(tactic| repeat' (first | walk_at "one" | (refine s_ite (fun _ => ?_) (fun _ => ?_))))

local macro_rules | `(tactic| walk_at "tg") => `(tactic| repeat (first | (with_reducible refine' s_gC ?_) | ((with_reducible refine' s_gT ?e ?_); (case e => rfl)) | (with_reducible refine' s_gN ?_) | ((with_reducible refine' And.intro ?r ?_); (case r => with_reducible rfl))))
theorem s_forC {rg : AGR} {rb : ASR} {d : D} {ds : List D} {A : AEnd} {Γ : Gam} {ms : MS} (h : rg (.d d) Γ ms fun Γ1 ms1 => rb { A with nx := forR rg rb ds A, ct := forR rg rb ds A, bk := A.nx } Γ1 ms1) : forR rg rb (d :: ds) A Γ ms := h
theorem s_forN {rg : AGR} {rb : ASR} {A : AEnd} {Γ : Gam} {ms : MS} (h : A.nx Γ ms) : forR rg rb [] A Γ ms := h
def lostP (ps : List Par) (starts goals : List Int) : List Int := starts.filter fun s => (waysP ps s goals).isEmpty
theorem lost_iff {ps : List Par} {s : Int} {goals : List Int} : (waysP ps s goals).isEmpty = true ↔ bestL ps [] s goals = none := by rw [best_none, List.isEmpty_iff]
theorem lost_nil {ps : List Par} {starts goals : List Int} (h : lostP ps starts goals = []) : ∀ s ∈ starts, (bestL ps [] s goals).isSome = true := fun s hs => by
  have h1 := (List.filter_eq_nil_iff.mp h) s hs
  rw [lost_iff] at h1
  cases e : bestL ps [] s goals with
  | none => exact absurd e h1
  | some l => rfl
theorem lost_head {ps : List Par} {starts goals : List Int} {s0 : Int} {r : List Int} (h : lostP ps starts goals = s0 :: r) :
    (∀ pre s post, starts = pre ++ s :: post → (∀ y ∈ pre, (bestL ps [] y goals).isSome = true) → bestL ps [] s goals = none → s = s0) ∧ ¬ (∀ s ∈ starts, (bestL ps [] s goals).isSome = true) := by
  refine ⟨fun pre s post e h1 h2 => ?_, fun hall => ?_⟩
  · have hp : pre.filter (fun s => (waysP ps s goals).isEmpty) = [] := List.filter_eq_nil_iff.mpr fun y hy q => by
      have := h1 y hy
      rw [lost_iff.mp q] at this; cases this
    unfold lostP at h
    rw [e, List.filter_append, hp, List.nil_append, List.filter_cons, if_pos (lost_iff.mpr h2)] at h
    cases h; rfl
  · have hm : s0 ∈ lostP ps starts goals := by rw [h]; simp
    obtain ⟨h1, h2⟩ := List.mem_filter.mp hm
    have := hall s0 h1
    rw [lost_iff.mp h2] at this; cases this
theorem dPar_len {C : Addr} (ps : List Par) : (ps.map (dPar C)).length = ps.length := List.length_map ..
theorem eqv_lost (s : Int) : (D.tup [.str "lost", .int s]).fit 64 = true := by simp [D.fit, fitL]; decide +kernel
section
variable {P : Program} {w : World} {K : PySem.W.Frag} {mg : Str → Option Value} {base : Heap}
abbrev s_law_plans : Stmt := (topS 38)
theorem sc_law_plans : FnScope ["parcels", "rows", "ways", "starts", "goals", "table", "lost", "start", "first", "again", "told", "turned", "alone", "few", "k"] ["parcels", "rows", "ways", "starts", "goals", "table"] (defScope s_law_plans) := ⟨rfl, rfl, rfl, by decide +kernel, rfl, by decide +kernel, by decide +kernel⟩

def R_plans (C : Addr) : AFn := fun sds ms k _ => ∃ ps pw starts goals, sds = [.d (parsD C ps), .d (rowsL ps), .v (.ref pw), .d (iT starts), .d (iT goals), .d (tabD ps starts goals)] ∧ ps.length ≤ 10 ∧ Pos ps ∧ starts.length ≤ 8 ∧ goals.length ≤ 10 ∧ (∀ s ∈ starts, (waysP ps s goals).length ≤ 1000000) ∧ WaysOk ms pw ps starts goals ∧ k (.d (.bl true)) ms
theorem ok_plans (T : TopE K mg) (G_law_planned : FnA P w K mg base CX0 6 "_law_planned" (R_planned T.CP T.CL)) (G_law_plan_holds : FnA P w K mg base CX0 8 "_law_plan_holds" (R_holds T.CL)) (G_law_price : FnA P w K mg base CX0 2 "_law_price" R_lprice) (G_law_numbers : FnA P w K mg base CX0 1 "_law_numbers" R_nums)
    (G_law_compared : FnA P w K mg base CX0 8 "_law_compared" (R_compared T.CL)) {f : Addr} {fd : FuncData} (F : Fun K "_law_plans" "_law_plans" s_law_plans f fd) :
    FnOk P w K mg base CX0 9 f fd ["parcels", "rows", "ways", "starts", "goals", "table"] (spA (R_plans T.CP)) := by
  refine fnA F sc_law_plans (fun sds ms k x h => ?_) (by decide) fun cdv A outer s H E hr => ⟨_, _, (ass_cons (as_setLc 6 (own := [("start", 7)]) rfl sc_law_plans.nd (ai_seq (ae_v 3)) (blkOk_by (own := [("start", 7)]) (N := ["parcels", "rows", "ways", "starts", "goals", "table", "lost", "start", "first", "again", "told", "turned", "alone", "few", "k"]) (sc := defScope s_law_plans) (by decide +kernel)) (by decide) (fun _ _ _ _ _ => (ag_name 7 sc_law_plans.nd)) (fun _ _ _ _ _ => (ats_one (at_cmp (opK_eq (K := K) rfl (u64 hr)) oa_eq (ae_callB (callK_len (K := K) rfl) oa_len (by rfl) T.len (by decide +kernel) (aa_cons (ae_ixK (K := K) rfl (u1 hr) (ae_v 2) (ae_v 7)) aa_nil)) ae_int (nomark _)))) (fun _ _ _ _ _ => (ae_v 7)) (sw_true rfl rfl rfl (by decide +kernel)))
    (ass_cons (as_set 8 sc_law_plans.nd (ae_call G_law_planned (hr.mono (by first | decide | omega)) (fun _ => pass0At) (by rfl) (aa_cons (ae_v 0) (aa_cons (ae_v 3) (aa_cons (ae_v 4) aa_nil)))))
    (ass_cons (as_set 9 sc_law_plans.nd (ae_v 8))
    (ass_cons (as_if (at_cmp (op_ltA (u64 hr)) oa_lt (ae_callB call_len oa_len (by rfl) T.len (by decide +kernel) (aa_cons (ae_v 1) aa_nil)) ae_int (nomark _)) (ass_one (as_set 9 sc_law_plans.nd (ae_call G_law_planned (hr.mono (by first | decide | omega)) (fun _ => pass0At) (by rfl) (aa_cons (ae_v 0) (aa_cons (ae_v 3) (aa_cons (ae_v 4) aa_nil)))))) ass_nil)
    (ass_cons (as_if (at_cmp op_gt oa_gt (ae_callB call_len oa_len (by rfl) T.len (by decide +kernel) (aa_cons (ae_v 6) aa_nil)) ae_int (nomark _)) (ass_one (as_ret (ae_and (ae_cmp (op_eqA (u64 hr)) oa_eq (ae_v 8) (ae_tup (aa_cons ae_str (aa_cons (ae_ix (u1 hr) (ae_v 6) ae_int) aa_nil))) (nomark _)) (ae_one (ae_cmp (op_eqA (u64 hr)) oa_eq (ae_v 9) (ae_tup (aa_cons ae_str (aa_cons (ae_ix (u1 hr) (ae_v 6) ae_int) aa_nil))) (nomark _)))))) ass_nil)
    (ass_cons (as_if (AW.at (aw_or (at_cmp (op_neA (u64 hr)) oa_ne (ae_ix (u1 hr) (ae_v 8) ae_int) ae_str (nomark _)) (aw_or1 (at_cmp (op_neA (u64 hr)) oa_ne (ae_ix (u1 hr) (ae_v 9) ae_int) ae_str (nomark _))))) (ass_one (as_ret ae_bl)) ass_nil)
    (ass_cons (as_for PassesOwn.never rfl (ai_seq (ae_tup (aa_cons (ae_ix (u1 hr) (ae_v 8) ae_int) (aa_cons (ae_ix (u1 hr) (ae_v 9) ae_int) aa_nil)))) (ag_name 10 sc_law_plans.nd)
      (ass_one (as_if (at_not (at_val (ae_call G_law_plan_holds (hr.mono (by first | decide | omega)) (fun _ => pass0At) (by rfl) (aa_cons (ae_v 10) (aa_cons (ae_v 1) (aa_cons (ae_v 2) (aa_cons (ae_v 3) (aa_cons (ae_v 5) aa_nil)))))))) (ass_one (as_ret ae_bl)) ass_nil)))
    (ass_cons (as_if (at_cmp (op_ltA (u64 hr)) oa_lt (ae_callB call_len oa_len (by rfl) T.len (by decide +kernel) (aa_cons (ae_v 3) aa_nil)) ae_int (nomark _)) (ass_one (as_ret ae_bl)) ass_nil)
    (ass_cons (as_set 11 sc_law_plans.nd (ae_call G_law_planned (hr.mono (by first | decide | omega)) (fun _ => pass0At) (by rfl) (aa_cons (ae_v 0) (aa_cons (ae_revT (ae_v 3)) (aa_cons (ae_v 4) aa_nil)))))
    (ass_cons (as_set 12 sc_law_plans.nd (ae_call G_law_planned (hr.mono (by first | decide | omega)) (fun _ => pass0At) (by rfl) (aa_cons (ae_v 0) (aa_cons (ae_sl (ae_v 3) ao_none (ao_some ae_int)) (aa_cons (ae_v 4) aa_nil)))))
    (ass_cons (as_if (AW.at (aw_or (at_cmp (op_neA (u64 hr)) oa_ne (ae_ix (u1 hr) (ae_v 11) ae_int) ae_str (nomark _)) (aw_or1 (at_cmp (op_neA (u64 hr)) oa_ne (ae_ix (u1 hr) (ae_v 12) ae_int) ae_str (nomark _))))) (ass_one (as_ret ae_bl)) ass_nil)
    (ass_cons (as_if (at_not (at_val (ae_call G_law_plan_holds (hr.mono (by first | decide | omega)) (fun _ => pass0At) (by rfl) (aa_cons (ae_ix (u1 hr) (ae_v 11) ae_int) (aa_cons (ae_v 1) (aa_cons (ae_v 2) (aa_cons (ae_revT (ae_v 3)) (aa_cons (ae_v 5) aa_nil)))))))) (ass_one (as_ret ae_bl)) ass_nil)
    (ass_cons (as_setLc 13 (own := [("k", 14)]) rfl sc_law_plans.nd (ai_range1 (by rfl) T.range (ae_bin op_shl oa_shl ae_int (ae_callB call_len oa_len (by rfl) T.len (by decide +kernel) (aa_cons (ae_v 1) aa_nil)))) (blkOk_by (own := [("k", 14)]) (N := ["parcels", "rows", "ways", "starts", "goals", "table", "lost", "start", "first", "again", "told", "turned", "alone", "few", "k"]) (sc := defScope s_law_plans) (by decide +kernel)) (by decide) (fun _ _ _ _ _ => (ag_name 14 sc_law_plans.nd)) (fun _ _ _ _ _ => ats_nil) (fun _ _ _ _ _ => (ae_call G_law_price (hr.mono (by first | decide | omega)) (fun _ => pass0At) (by rfl) (aa_cons (ae_v 1) (aa_cons (ae_v 2) (aa_cons (ae_slK (K := K) rfl (ae_v 3) ao_none (ao_some ae_int)) (aa_cons (ae_call G_law_numbers (hr.mono (by first | decide | omega)) (fun _ => pass0At) (by rfl) (aa_cons (ae_v 14) (aa_cons (ae_callB (callK_len (K := K) rfl) oa_len (by rfl) T.len (by decide +kernel) (aa_cons (ae_v 1) aa_nil)) aa_nil))) aa_nil)))))) (sw_true rfl rfl rfl (by decide +kernel)))
    (ass_cons (as_if (at_not (at_val (ae_call G_law_plan_holds (hr.mono (by first | decide | omega)) (fun _ => pass0At) (by rfl) (aa_cons (ae_ix (u1 hr) (ae_v 12) ae_int) (aa_cons (ae_v 1) (aa_cons (ae_v 2) (aa_cons (ae_sl (ae_v 3) ao_none (ao_some ae_int)) (aa_cons (ae_v 13) aa_nil)))))))) (ass_one (as_ret ae_bl)) ass_nil)
    (ass_cons (as_if (AW.at (aw_or (at_not (at_val (ae_call G_law_compared (hr.mono (by first | decide | omega)) (fun _ => pass0At) (by rfl) (aa_cons (ae_ix (u1 hr) (ae_v 8) ae_int) (aa_cons (ae_ix (u1 hr) (ae_v 11) ae_int) aa_nil))))) (aw_or1 (at_not (at_val (ae_call G_law_compared (hr.mono (by first | decide | omega)) (fun _ => pass0At) (by rfl) (aa_cons (ae_ix (u1 hr) (ae_v 8) ae_int) (aa_cons (ae_ix (u1 hr) (ae_v 12) ae_int) aa_nil)))))))) (ass_one (as_ret ae_bl)) ass_nil)
    (ass_one (as_ret (ae_call G_law_compared (hr.mono (by first | decide | omega)) (fun _ => pass0At) (by rfl) (aa_cons (ae_ix (u1 hr) (ae_v 12) ae_int) (aa_cons (ae_ix (u1 hr) (ae_v 8) ae_int) aa_nil)))))))))))))))))))), fun sds ms k x h => ?_⟩
  · obtain ⟨a, b, c, d, rfl, _⟩ := h; rfl
  · obtain ⟨ps, pw, starts, goals, rfl, hn, hp, h8, hg, hwl, hW, q⟩ := h
    obtain ⟨kw, hpw, hw⟩ := id hW
    have hz := pow10 hn
    dsimp only [gam]
    walk_at "go"
    refine lcI_fm (f := fun s : Int => D.int s) (p := fun s => (waysP ps s goals).isEmpty) (small_len (by omega)) (fun s hs acc N hz2 hN => ?_) ?_
    · walk_at "go"
      refine s_ixK hpw (hw s hs) ?_
      unfold waysD
      walk_at "go"
      rw [List.length_map, Bool.false_xor]
      refine s_ite (fun e => ?_) (fun e => ?_)
      · have e1 : (waysP ps s goals).length = 0 := by simpa using e
        rw [if_pos (List.isEmpty_iff.mpr (List.length_eq_zero_iff.mp e1))] at hN
        walk_at "go"
        exact ⟨hz2, hN⟩
      · have e1 : ¬ (waysP ps s goals).length = 0 := by simpa using e
        rw [if_neg (fun h => e1 (List.length_eq_zero_iff.mpr (List.isEmpty_iff.mp h))), List.append_nil] at hN
        exact hN
    rw [show (List.map (fun s : Int => D.int s) (List.filter (fun s => (waysP ps s goals).isEmpty) starts)) = (lostP ps starts goals).map .int from rfl]
    walk_at "go"
    have call : ∀ {kk : D → Prop}, (∀ s0 r, lostP ps starts goals = s0 :: r → kk (.tup [.str "lost", .int s0])) → (lostP ps starts goals = [] → ∀ least fr, PlanIs ps.length (tabP ps starts goals) least fr → kk (.tup [.str "plan", plD T.CL (nT fr) (rowsD ps fr starts goals) least])) → outP T.CP T.CL (ps.map (dPar T.CP)) starts goals kk := fun {kk} h1 h2 => by
      refine .inr (.inr ⟨ps, rfl, hn, hp, h8, fun pre s post e1 e2 e3 => ?_, fun hall least fr hpl => ?_⟩)
      · cases hl : lostP ps starts goals with
        | nil =>
          have := lost_nil hl s (by rw [e1]; simp)
          rw [e3] at this; cases this
        | cons s0 r =>
          rw [(lost_head hl).1 pre s post e1 e2 e3]
          exact h1 s0 r hl
      · cases hl : lostP ps starts goals with
        | nil => exact h2 hl least fr hpl
        | cons s0 r => exact absurd hall (lost_head hl).2
    have hlen : (ps.map (dPar T.CP)).length ≤ 1000 := by rw [dPar_len]; omega
    cases hl : lostP ps starts goals with
    | cons s0 r =>
      rw [hl] at call
      have call1 : ∀ {kk : D → Prop}, kk (.tup [.str "lost", .int s0]) → outP T.CP T.CL (ps.map (dPar T.CP)) starts goals kk := fun h => call (fun s1 r1 e => by cases e; exact h) (fun e => by cases e)
      refine ⟨_, starts, goals, rfl, hlen, by omega, by omega, call1 ?_⟩
      walk_at "up"
      refine s_cutIf (fun Γ m => m = ms ∧ Γ = [some (.d (parsD T.CP ps)), some (.d (rowsL ps)), some (.v (.ref pw)), some (.d (iT starts)), some (.d (iT goals)), some (.d (tabD ps starts goals)), some (.d (.lst ((s0 :: r).map .int))), none, some (.d (.tup [.str "lost", .int s0])), some (.d (.tup [.str "lost", .int s0])), none, none, none, none, none]) (fun N hN => ?_) (fun Γ m hP => ?_)
      · unfold rowsL at *
        walk_at "go"
        refine s_ite (fun e => ?_) (fun e => ?_)
        · walk_at "go"
          refine ⟨_, starts, goals, rfl, hlen, by omega, by omega, call1 ?_⟩
          exact hN _ _ ⟨rfl, rfl⟩
        · exact hN _ _ ⟨rfl, rfl⟩
      obtain ⟨rfl, rfl⟩ := hP
      walk_at "go"
      refine s_iteT (by simp) ?_
      walk_at "go"
      refine s_eqD (eqv_lost _) (eqv_lost _) ?_
      rw [R76.eqv_self (eqv_lost _)]
      walk_at "go"
      refine s_iteT rfl ?_
      walk_at "go"
      refine s_eqD (eqv_lost _) (eqv_lost _) ?_
      rw [R76.eqv_self (eqv_lost _)]
      exact Out.here q
    | nil =>
      have hall := lost_nil hl
      rw [hl] at call
      have call1 : ∀ {kk : D → Prop}, (∀ least fr, PlanIs ps.length (tabP ps starts goals) least fr → kk (.tup [.str "plan", plD T.CL (nT fr) (rowsD ps fr starts goals) least])) → outP T.CP T.CL (ps.map (dPar T.CP)) starts goals kk := fun h => call (fun s1 r1 e => by cases e) (fun _ => h)
      refine ⟨_, starts, goals, rfl, hlen, by omega, by omega, call1 fun least fr hpl => ?_⟩
      walk_at "up"
      refine s_cutIf (fun Γ m => m = ms ∧ ∃ least2 fr2, PlanIs ps.length (tabP ps starts goals) least2 fr2 ∧ Γ = [some (.d (parsD T.CP ps)), some (.d (rowsL ps)), some (.v (.ref pw)), some (.d (iT starts)), some (.d (iT goals)), some (.d (tabD ps starts goals)), some (.d (.lst [])), none, some (.d (.tup [.str "plan", plD T.CL (nT fr) (rowsD ps fr starts goals) least])), some (.d (.tup [.str "plan", plD T.CL (nT fr2) (rowsD ps fr2 starts goals) least2])), none, none, none, none, none]) (fun N hN => ?_) (fun Γ m hP => ?_)
      · unfold rowsL at *
        walk_at "go"
        refine s_ite (fun e => ?_) (fun e => ?_)
        · walk_at "go"
          refine ⟨_, starts, goals, rfl, hlen, by omega, by omega, call1 fun least2 fr2 hpl2 => ?_⟩
          exact hN _ _ ⟨rfl, _, _, hpl2, rfl⟩
        · exact hN _ _ ⟨rfl, _, _, hpl, rfl⟩
      obtain ⟨rfl, least2, fr2, hpl2, rfl⟩ := hP
      walk_at "go"
      refine s_iteF rfl ?_
      walk_at "go"
      refine s_iteF (by simp) ?_
      walk_at "go"
      refine s_iteF (by simp) ?_
      walk_at "go"
      have hold : ∀ {l : Int} {f : List Nat} {kk : SD → MS → Prop} {x : AX} {pl : D}, PlanIs ps.length (tabP ps starts goals) l f → pl = plD T.CL (nT f) (rowsD ps f starts goals) l → kk (.d (.bl true)) m → R_holds T.CL [.d pl, .d (rowsL ps), .v (.ref pw), .d (iT starts), .d (tabD ps starts goals)] m kk x := fun {l f kk x pl} h e hk => by
        subst e
        exact ⟨ps, pw, starts, goals, l, f, _, rfl, hn, h8, hW, h, tab_len ps starts goals, tab_all hall, hall, hk⟩
      refine s_forC ?_
      walk_at "go"
      refine hold hpl rfl ?_
      walk_at "go"
      refine s_iteF rfl ?_
      walk_at "go"
      dsimp only
      refine s_forC ?_
      walk_at "go"
      refine hold hpl2 rfl ?_
      walk_at "go"
      refine s_iteF rfl ?_
      walk_at "go"
      dsimp only
      refine s_forN ?_
      walk_at "go"
      rw [List.length_map]
      refine s_ite (fun e => ?_) (fun e => ?_)
      · walk_at "go"
        exact Out.here q
      have hs2 : 2 ≤ starts.length := by have := of_decide_eq_false e; omega
      walk_at "go"
      refine ⟨starts.map .int, rfl, ?_⟩
      rw [show (D.tup (starts.map D.int).reverse) = iT starts.reverse by unfold iT; rw [List.map_reverse]]
      walk_at "go"
      have ec : cutD (starts.map D.int) none (some 1) = (starts.take 1).map D.int := by
        have := cutD_take (starts.map D.int) 1
        rw [← List.map_take] at this
        exact this
      have hallr : ∀ s ∈ starts.reverse, (bestL ps [] s goals).isSome = true := fun s hs => hall s (List.mem_reverse.mp hs)
      have hall1 : ∀ s ∈ starts.take 1, (bestL ps [] s goals).isSome = true := fun s hs => hall s (List.mem_of_mem_take hs)
      have no : ∀ {ss : List Int}, (∀ s ∈ ss, (bestL ps [] s goals).isSome = true) → ∀ pre s post, ss = pre ++ s :: post → bestL ps [] s goals = none → False := fun h pre s post e1 e3 => by
        have := h s (by rw [e1]; simp)
        rw [e3] at this; cases this
      refine ⟨_, starts.reverse, goals, rfl, hlen, by rw [List.length_reverse]; omega, by omega, .inr (.inr ⟨ps, rfl, hn, hp, by rw [List.length_reverse]; exact h8, fun pre s post e1 _ e3 => (no hallr pre s post e1 e3).elim, fun _ l3 f3 hpl3 => ?_⟩)⟩
      walk_at "go"
      refine s_slT ?_
      rw [ec]
      walk_at "go"
      refine ⟨_, starts.take 1, goals, rfl, hlen, by rw [List.length_take]; omega, by omega, .inr (.inr ⟨ps, rfl, hn, hp, by rw [List.length_take]; omega, fun pre s post e1 _ e3 => (no hall1 pre s post e1 e3).elim, fun _ l4 f4 hpl4 => ?_⟩)⟩
      walk_at "go"
      refine s_iteF (by simp) ?_
      walk_at "go"
      refine s_iteF (by simp) ?_
      walk_at "go"
      refine ⟨starts.map .int, rfl, ?_⟩
      rw [show (D.tup (starts.map D.int).reverse) = iT starts.reverse by unfold iT; rw [List.map_reverse]]
      walk_at "go"
      have htr := tab_rev ps starts goals
      have hWr : WaysOk m pw ps starts.reverse goals := ⟨kw, hpw, fun s hs => hw s (List.mem_reverse.mp hs)⟩
      have hW1 : WaysOk m pw ps (starts.take 1) goals := ⟨kw, hpw, fun s hs => hw s (List.mem_of_mem_take hs)⟩
      refine ⟨ps, pw, starts.reverse, goals, l3, f3, tabP ps starts goals, rfl, hn, by rw [List.length_reverse]; exact h8, hWr, by rw [← htr]; exact hpl3, tab_len ps starts goals, tab_all hall, hallr, ?_⟩
      walk_at "go"
      refine s_iteF rfl ?_
      walk_at "go"
      unfold rowsL
      walk_at "go"
      rw [List.length_map]
      refine s_I (cpow1 hn) ?_
      rw [shl1]
      refine s_asI ?_
      refine s_rng (rngOk (Nat.le_trans hz (by decide))) ?_
      rw [Int.toNat_natCast, rngD0]
      refine lcI_map (f := fun c : Nat => oD (priceP ps (starts.take 1) goals (numsP c ps.length))) (z2000 (by rw [List.length_range]; exact Nat.le_trans hz (by decide))) (fun c hc acc N hz3 hN => ?_) ?_
      · walk_at "go"
        refine s_slT ?_
        rw [ec]
        walk_at "go"
        rw [List.length_map]
        refine ⟨c, ps.length, rfl, by omega, ?_⟩
        walk_at "go"
        refine ⟨ps, pw, starts.take 1, goals, numsP c ps.length, rfl, hn, by rw [List.length_take]; omega, Nat.le_trans (nums_len _ _) (by omega), fun i hi => nums_lt hi, hW1, ?_⟩
        walk_at "go"
        exact ⟨hz3, hN⟩
      rw [show (List.range (2 ^ ps.length)).map (fun c : Nat => oD (priceP ps (starts.take 1) goals (numsP c ps.length))) = (tabP ps (starts.take 1) goals).map oD by unfold tabP; rw [List.map_map]; rfl]
      walk_at "go"
      refine s_slT ?_
      rw [ec]
      walk_at "go"
      refine ⟨ps, pw, starts.take 1, goals, l4, f4, tabP ps (starts.take 1) goals, rfl, hn, by rw [List.length_take]; omega, hW1, hpl4, tab_len ps _ goals, tab_all hall1, hall1, ?_⟩
      walk_at "go"
      refine s_iteF rfl ?_
      walk_at "go"
      refine ⟨_, _, _, _, _, _, rfl, ?_⟩
      walk_at "go"
      refine s_iteF rfl ?_
      walk_at "go"
      refine ⟨_, _, _, _, _, _, rfl, ?_⟩
      walk_at "go"
      refine s_iteF rfl ?_
      walk_at "go"
      refine ⟨_, _, _, _, _, _, rfl, ?_⟩
      exact Out.here q
end
end R77

/-! ## K77z -/
set_option Elab.async false
set_option linter.all false
set_option maxRecDepth 100000
set_option maxHeartbeats 4000000
namespace R77
open PySem PySem.Spec PyProof.Rows L2 AL
open Evl (Ex)
open R76 (topS u1 u64 u65 u80 SrcAt SB R_draw plainD)
/-! ### small worlds -/
theorem pos_of {ps : List Par} (h : ∀ p ∈ ps, 1 ≤ p.words ∧ p.words ≤ 60000) : Pos ps := fun p hp => by have := (h p hp).1; omega
/-- parcels that lead from everywhere, each to a place of its own -/
structure Free (ps : List Par) : Prop where
  b : ∀ (i : Nat) p, ps[i]? = some p → p.base = none ∧ p.result = 10 + i ∧ 1 ≤ p.words
theorem Free.pos {ps : List Par} (h : Free ps) : Pos ps := fun p hp => by
  obtain ⟨i, hi⟩ := List.getElem?_of_mem hp
  have := (h.b i p hi).2.2
  omega
theorem Free.last {ps : List Par} (h : Free ps) {s : Int} {row : List Nat} {x : Int} (hs : s < 10) (hx : 10 ≤ x) (hr : run ps s row = some x) : ∃ r : List Nat, ∃ i : Nat, row = r ++ [i] ∧ x = 10 + (i : Int) := by
  have hne : row ≠ [] := fun e => by
    subst e
    cases hr
    omega
  rw [← List.dropLast_concat_getLast hne] at hr
  obtain ⟨b, p, _, h2, _, h4⟩ := run_snoc.mp hr
  exact ⟨row.dropLast, row.getLast hne, (List.dropLast_concat_getLast hne).symm, by rw [← h4, (h.b _ p h2).2.1]⟩
theorem val_one {ps : List Par} {free : List Nat} (hp : Pos ps) (r : List Nat) (i : Nat) : labLe (val ps free [i]) (val ps free (r ++ [i])) := by
  by_cases e : r = []
  · subst e; exact .refl _
  · right
    have hl : 0 < r.length := List.length_pos_iff.mpr e
    have hn := price_nn (free := free) hp r
    unfold lab val
    rw [price_append, List.length_append]
    dsimp only
    rcases Int.lt_or_eq_of_le hn with q | q
    · left; omega
    · right; refine ⟨by omega, .inl ?_⟩
      simp only [List.length_cons, List.length_nil]; omega
theorem Free.to {ps : List Par} (h : Free ps) {free : List Nat} {s : Int} {i : Nat} (hi : i < ps.length) (hs : s < 10) : bestL ps free s [10 + (i : Int)] = some (val ps free [i]) := by
  refine (best_least h.pos).uniq ⟨(fun e => by cases e), fun l e => ?_, fun l e x hx row hr => ?_⟩
  · cases e
    refine ⟨10 + (i : Int), by simp, [i], ?_, rfl⟩
    obtain ⟨h1, h2, _⟩ := h.b i _ (List.getElem?_eq_getElem hi)
    have := run_snoc (ps := ps) (a := []) (i := i) (place := s) (x := 10 + (i : Int))
    exact this.mpr ⟨s, ps[i], rfl, List.getElem?_eq_getElem hi, .inl h1, h2⟩
  · cases e
    rw [List.mem_singleton.mp hx] at hr
    obtain ⟨r, j, rfl, ej⟩ := h.last hs (by omega) hr
    have : j = i := by omega
    subst this
    exact val_one h.pos r j
theorem Free.to2 {ps : List Par} (h : Free ps) {free : List Nat} {s : Int} {i j : Nat} (hi : i < ps.length) (hj : j < ps.length) (hs : s < 10) :
    bestL ps free s [10 + (i : Int), 10 + (j : Int)] = some (if labB (val ps free [i]) (val ps free [j]) = true then val ps free [i] else val ps free [j]) := by
  have one : ∀ k, k < ps.length → run ps s [k] = some (10 + (k : Int)) := fun k hk => by
    obtain ⟨h1, h2, _⟩ := h.b k _ (List.getElem?_eq_getElem hk)
    have := run_snoc (ps := ps) (a := []) (i := k) (place := s) (x := 10 + (k : Int))
    exact this.mpr ⟨s, ps[k], rfl, List.getElem?_eq_getElem hk, .inl h1, h2⟩
  refine (best_least h.pos).uniq ⟨(fun e => by cases e), fun l e => ?_, fun l e x hx row hr => ?_⟩
  · cases e
    split
    · exact ⟨10 + (i : Int), by simp, [i], one i hi, rfl⟩
    · exact ⟨10 + (j : Int), by simp, [j], one j hj, rfl⟩
  · cases e
    have hx' : x = 10 + (i : Int) ∨ x = 10 + (j : Int) := by simpa using hx
    obtain ⟨r, k, rfl, ek⟩ := h.last hs (by omega) hr
    have hk : k = i ∨ k = j := by omega
    have h1 := val_one (free := free) h.pos r k
    refine labLe.trans ?_ h1
    split
    · rename_i hb
      rcases hk with rfl | rfl
      · exact .refl _
      · exact .inr ((labB_iff _ _).mp hb)
    · rename_i hb
      rcases hk with rfl | rfl
      · exact labLe_of fun q => hb ((labB_iff _ _).mpr q)
      · exact .refl _
theorem val1 {ps : List Par} {free : List Nat} (i : Nat) : val ps free [i] = (cost ps free i, 1, [i]) := by unfold val price; simp
/-- a table's least, and its sets -/
theorem plan_one {n : Nat} {tab : List (Option Int)} {m : Int} {c0 : Nat} (hc : c0 < 2 ^ n) (h0 : tab[c0]? = some (some m)) (hlt : ∀ c v, c ≠ c0 → tab[c]? = some (some v) → m < v) : PlanIs n tab m (numsP c0 n) := by
  refine ⟨List.mem_of_getElem? h0, fun y hy => ?_, ?_⟩
  · obtain ⟨c, hcy⟩ := List.getElem?_of_mem hy
    by_cases e : c = c0
    · subst e; rw [h0] at hcy; cases hcy; exact Int.le_refl _
    · have := hlt c y e hcy; omega
  · have e : (List.range (2 ^ n)).filter (fun c => decide (tab[c]? = some (some m))) = [c0] := by
      have e1 : (List.range (2 ^ n)).filter (fun c => decide (tab[c]? = some (some m))) = (List.range (2 ^ n)).filter fun c => decide (c = c0) := by
        refine List.filter_congr fun c _ => ?_
        by_cases h : c = c0
        · subst h; rw [h0]; simp
        · have : ¬ (tab[c]? = some (some m)) := fun q => by have := hlt c m h q; omega
          rw [decide_eq_false this, decide_eq_false h]
      rw [e1]
      have e2 : ∀ k, (List.range k).filter (fun c => decide (c = c0)) = if c0 < k then [c0] else [] := by
        intro k
        induction k with
        | zero => simp
        | succ k ih =>
          rw [List.range_succ, List.filter_append, ih]
          by_cases h : k = c0
          · subst h; simp
          · by_cases h2 : c0 < k
            · rw [if_pos h2, if_pos (by omega)]; simp [h]
            · rw [if_neg h2, if_neg (by omega)]; simp [h]
      rw [e2, if_pos hc]
    unfold freesP
    rw [e]
    show atI (sortD [nT (numsP (c0 : Nat) n)]) 0 = _
    unfold sortD
    rw [List.mergeSort_singleton]
    exact atI_nat (j := 0) rfl
theorem tab_at {ps : List Par} {starts goals : List Int} {c : Nat} (h : c < 2 ^ ps.length) : (tabP ps starts goals)[c]? = some (priceP ps starts goals (numsP c ps.length)) := by
  unfold tabP
  rw [List.getElem?_map, List.getElem?_range h]; rfl
theorem price_all {ps : List Par} {starts goals : List Int} {free : List Nat} {l : Lab} (h : ∀ s ∈ starts, bestL ps free s goals = some l) : priceP ps starts goals free = some (sumF ps free + starts.length * l.1) := by
  unfold priceP
  rw [if_pos (List.all_eq_true.mpr fun s hs => by rw [h s hs]; rfl)]
  congr 2
  unfold sumB
  rw [List.map_congr_left (g := fun _ => l.1) fun s hs => by rw [h s hs]; rfl]
  induction starts with
  | nil => simp
  | cons a r ih =>
    rw [List.map_cons, List.sum_cons, ih (fun s hs => h s (List.mem_cons_of_mem _ hs)), List.length_cons]
    rw [show ((r.length + 1 : Nat) : Int) = (r.length : Int) + 1 by omega, Int.add_mul]
    omega
/-- one parcel from everywhere to 7 -/
theorem one_best {w : Int} {free : List Nat} {s : Int} (hw : 0 ≤ w) (hs : s ≠ 7) : bestL [⟨none, 7, w⟩] free s [7] = some (cost [⟨none, 7, w⟩] free 0, 1, [0]) := by
  have hp : Pos [⟨none, 7, w⟩] := fun p hp => by rw [List.mem_singleton.mp hp]; exact hw
  rw [← val1]
  refine (best_least hp).uniq ⟨(fun e => by cases e), fun l e => ?_, fun l e x hx row hr => ?_⟩
  · cases e
    exact ⟨7, by simp, [0], rfl, rfl⟩
  · cases e
    rw [List.mem_singleton.mp hx] at hr
    have hne : row ≠ [] := fun e => by subst e; cases hr; exact hs rfl
    have hl := run_lt hr
    rw [← List.dropLast_concat_getLast hne]
    have h0 : row.getLast hne = 0 := by
      have := hl _ (List.getLast_mem hne)
      simp at this
      exact this
    rw [h0]
    exact val_one hp _ 0
theorem one_nums : numsP ((0 : Nat) : Int) 1 = [] ∧ numsP ((1 : Nat) : Int) 1 = [0] := by decide +kernel
theorem plan_eq1 {w : Int} (hw : 1 ≤ w) : PlanIs 1 (tabP [⟨none, 7, w⟩] [1, 2, 3] [7]) (2 * w) [0] := by
  have hb : ∀ free, ∀ s ∈ ([1, 2, 3] : List Int), bestL [⟨none, 7, w⟩] free s [7] = some (cost [⟨none, 7, w⟩] free 0, 1, [0]) := fun free s hs => one_best (by omega) (fun e => by subst e; revert hs; decide)
  have t0 : (tabP [⟨none, 7, w⟩] [1, 2, 3] [7])[0]? = some (some (3 * w)) := by
    rw [tab_at (by show 0 < 2 ^ 1; decide), price_all (hb _)]
    rw [show ([⟨none, 7, w⟩] : List Par).length = 1 from rfl, one_nums.1]
    simp [sumF, cost]
  have t1 : (tabP [⟨none, 7, w⟩] [1, 2, 3] [7])[1]? = some (some (2 * w)) := by
    rw [tab_at (by show 1 < 2 ^ 1; decide), price_all (hb _)]
    rw [show ([⟨none, 7, w⟩] : List Par).length = 1 from rfl, one_nums.2]
    simp [sumF, cost, wOf]
  have := plan_one (n := 1) (c0 := 1) (by decide) t1 fun c v hc h => by
    have hlt : c < 2 := by
      have := (List.getElem?_eq_some_iff.mp h).1
      rw [tab_len] at this
      exact this
    have : c = 0 := by omega
    subst this
    rw [t0] at h
    cases h
    omega
  rw [one_nums.2] at this
  exact this
theorem plan_eq2 {w : Int} (hw : 1 ≤ w) : PlanIs 1 (tabP [⟨none, 7, 2 * w⟩] [1] [7]) (2 * w) [] := by
  have hb : ∀ free, ∀ s ∈ ([1] : List Int), bestL [⟨none, 7, 2 * w⟩] free s [7] = some (cost [⟨none, 7, 2 * w⟩] free 0, 1, [0]) := fun free s hs => one_best (by omega) (fun e => by subst e; revert hs; decide)
  have t0 : (tabP [⟨none, 7, 2 * w⟩] [1] [7])[0]? = some (some (2 * w)) := by
    rw [tab_at (by show 0 < 2 ^ 1; decide), price_all (hb _)]
    rw [show ([⟨none, 7, 2 * w⟩] : List Par).length = 1 from rfl, one_nums.1]
    simp [sumF, cost]
  have t1 : (tabP [⟨none, 7, 2 * w⟩] [1] [7])[1]? = some (some (4 * w)) := by
    rw [tab_at (by show 1 < 2 ^ 1; decide), price_all (hb _)]
    rw [show ([⟨none, 7, 2 * w⟩] : List Par).length = 1 from rfl, one_nums.2]
    simp [sumF, cost, wOf]
    omega
  have := plan_one (n := 1) (c0 := 0) (by decide) t0 fun c v hc h => by
    have hlt : c < 2 := by
      have := (List.getElem?_eq_some_iff.mp h).1
      rw [tab_len] at this
      exact this
    have : c = 1 := by omega
    subst this
    rw [t1] at h
    cases h
    omega
  rw [one_nums.1] at this
  exact this
/-- six parcels, the last one to 15 -/
theorem six_nums : numsP ((32 : Nat) : Int) 6 = [5] ∧ ∀ c : Nat, c < 64 → numsP (c : Int) 6 = [5] → c = 32 := by decide +kernel
theorem nums_nodup (c : Int) (n : Nat) : (numsP c n).Nodup := List.Nodup.sublist (List.filter_sublist) List.nodup_range
theorem sum_pos {f : Nat → Int} : ∀ {l : List Nat}, (∀ i ∈ l, 0 ≤ f i) → 0 ≤ (l.map f).sum
  | [], _ => by simp
  | a :: r, h => by
    have h1 := h a (by simp)
    have h2 := sum_pos (f := f) (l := r) fun i hi => h i (List.mem_cons_of_mem _ hi)
    rw [List.map_cons, List.sum_cons]; omega
theorem sum_erase {f : Nat → Int} : ∀ {l : List Nat} {a : Nat}, a ∈ l → (l.map f).sum = f a + ((l.erase a).map f).sum
  | b :: r, a, h => by
    by_cases e : b = a
    · subst e; rw [List.erase_cons_head, List.map_cons, List.sum_cons]
    · have hr : a ∈ r := (List.mem_cons.mp h).resolve_left (fun q => e q.symm)
      rw [List.erase_cons_tail (by simpa using e), List.map_cons, List.sum_cons, List.map_cons, List.sum_cons, sum_erase hr]; omega
theorem plan_six {ps : List Par} (h : Free ps) (hn : ps.length = 6) : PlanIs 6 (tabP ps [1, 2, 3] [15]) (2 * wOf ps 5) [5] := by
  have hw : ∀ i, i < 6 → 1 ≤ wOf ps i := fun i hi => by
    have hi : i < ps.length := by omega
    rw [w_at hi]
    exact (h.b i _ (List.getElem?_eq_getElem hi)).2.2
  have hb : ∀ free, ∀ s ∈ ([1, 2, 3] : List Int), bestL ps free s [15] = some (cost ps free 5, 1, [5]) := fun free s hs => by
    have := h.to (free := free) (s := s) (i := 5) (by omega) (by revert hs; simp; omega)
    rw [val1] at this
    exact this
  have hc : ∀ free, cost ps free 5 = if 5 ∈ free then 0 else wOf ps 5 := fun free => rfl
  have tab : ∀ c : Nat, c < 64 → (tabP ps [1, 2, 3] [15])[c]? = some (some (sumF ps (numsP c 6) + 3 * cost ps (numsP c 6) 5)) := fun c hc => by
    rw [tab_at (by rw [hn]; exact hc), price_all (hb _), hn]; rfl
  have e32 : sumF ps [5] + 3 * cost ps [5] 5 = 2 * wOf ps 5 := by rw [hc]; simp [sumF]
  have := plan_one (n := 6) (c0 := 32) (m := 2 * wOf ps 5) (tab := tabP ps [1, 2, 3] [15]) (by decide) (by rw [tab 32 (by decide), six_nums.1, e32]) fun c v hne hv => by
    have hlt : c < 64 := by
      have := (List.getElem?_eq_some_iff.mp hv).1
      rw [tab_len, hn] at this
      exact this
    rw [tab c hlt] at hv
    cases hv
    have h5 := hw 5 (by decide)
    have hnn : ∀ i ∈ numsP (c : Int) 6, 0 ≤ wOf ps i := fun i hi => by have := hw i (nums_lt hi); omega
    rw [hc]
    unfold sumF
    by_cases h5m : 5 ∈ numsP (c : Int) 6
    · rw [if_pos h5m, sum_erase (f := wOf ps) h5m]
      have hnil : (numsP (c : Int) 6).erase 5 ≠ [] := fun e => by
        have hlen := List.length_erase_of_mem h5m
        rw [e] at hlen
        have h1 : (numsP (c : Int) 6).length = 1 := by
          have := List.length_pos_of_mem h5m
          simp at hlen; omega
        obtain ⟨a, ha⟩ := List.length_eq_one_iff.mp h1
        rw [ha] at h5m
        rw [← List.mem_singleton.mp h5m] at ha
        exact hne (six_nums.2 c hlt ha)
      cases q : (numsP (c : Int) 6).erase 5 with
      | nil => exact absurd q hnil
      | cons a r =>
        have ha : a ∈ numsP (c : Int) 6 := List.mem_of_mem_erase (by rw [q]; simp)
        have h1 := hw a (nums_lt ha)
        have h2 := sum_pos (f := wOf ps) (l := r) fun i hi => hnn i (List.mem_of_mem_erase (by rw [q]; simp [hi]))
        rw [List.map_cons, List.sum_cons]
        omega
    · rw [if_neg h5m]
      have := sum_pos (f := wOf ps) hnn
      omega
  rw [six_nums.1] at this
  exact this
end R77

/-! ## K77zb -/
set_option Elab.async false
set_option linter.all false
set_option maxRecDepth 100000
set_option maxHeartbeats 4000000
namespace R77
open PySem PySem.Spec PyProof.Rows L2 AL
open Evl (Ex)
open R76 (topS u1 u64 u65 u80 SrcAt SB R_draw plainD)
local macro_rules | `(tactic| walk_at "st") => `(tactic| first
  | (with_reducible refine' s_seq ?_) | (with_reducible refine' s_set ?_) | (with_reducible refine' s_nx ?_) | (with_reducible refine' s_ret ?_) | (with_reducible refine' s_drop ?_) | (with_reducible refine' s_asg ?_) | (with_reducible refine' s_for ?_) | (with_reducible refine' s_tt ?_) | (with_reducible refine' s_ff ?_) | (with_reducible refine' s_lcS ?_) | (with_reducible refine' s_put ?_) | (with_reducible refine' s_app ?_) | (with_reducible refine' s_ext ?_)
  | (with_reducible refine' s_gN ?_) | ((with_reducible refine' s_v ?e ?_); (case e => rfl)) | (with_reducible refine' s_asB ?_) | (with_reducible refine' s_asI ?_) | (with_reducible refine' s_asD ?_) | (with_reducible refine' s_nil ?_) | (with_reducible refine' s_cons ?_)
  | (with_reducible refine' s_addI ?_) | (with_reducible refine' s_I0 ?_) | (with_reducible refine' s_neg ?_) | (with_reducible refine' s_eqI ?_) | (with_reducible refine' s_eqS ?_) | (with_reducible refine' s_ltI ?_) | (with_reducible refine' s_isN ?_) | (with_reducible refine' s_int ?_) | (with_reducible refine' s_abs ?_)
  | ((with_reducible refine' s_len ?e ?_); (case e => first | rfl | exact seqOf_m (by assumption) | exact seqOf_m mu_same))
  | ((with_reducible refine' s_ix ?e ?e2 ?_); (case e => first | rfl | exact seqOf_m (by assumption) | exact seqOf_m mu_same); (case e2 => first | rfl | assumption | exact atI_nat (j := 0) rfl | exact atI_nat (j := 1) rfl | exact atI_nat (j := 2) rfl | exact atI_nat (j := 3) rfl))
  | ((with_reducible refine' s_putL ?e ?e2 ?_); (case e => first | assumption | exact mu_same); (case e2 => first | rfl | assumption))
  | ((with_reducible refine' s_oL ?e ?_); (case e => first | assumption | exact mu_same))
  | ((with_reducible refine' s_dat ?e ?_); (case e => rfl)) | ((with_reducible refine' s_rng ?e ?_); (case e => exact ⟨by omega, by omega⟩))
  | ((with_reducible refine' s_I ?c ?_); (case c => first | assumption | exact ⟨by omega, by omega⟩ | exact ⟨by decide, by decide, by decide⟩ | exact Or.inl ⟨by omega, by omega⟩ | exact Or.inr ⟨by omega, by omega⟩ | (show (0 : Int) < _; omega) | (show (0 : Int) ≤ _; omega)))
  | (with_reducible refine' s_slT ?_) | (with_reducible refine' s_slL ?_) | (with_reducible refine' s_gC ?_) | ((with_reducible refine' s_gT ?e ?_); (case e => rfl))
  | ((with_reducible refine' s_tup ?e ?_); (case e => first | rfl | exact seqOf_m (by assumption) | exact seqOf_m mu_same))
  | ((with_reducible refine' s_list ?e ?_); (case e => first | rfl | exact seqOf_m (by assumption) | exact seqOf_m mu_same))
  | ((with_reducible refine' s_isi ?e ?e2 ?_); (case e => rfl); (case e2 => rfl))
  | (with_reducible refine' s_max ?_)
  | ((with_reducible refine' And.intro ?r ?_); (case r => with_reducible rfl)))
local macro_rules | `(tactic| walk_at "one") => `(tactic| first | (with_reducible refine' s_if ?_) | walk_at "st")
local macro_rules | `(tactic| walk_at "up") => `(tactic| repeat walk_at "st")
local macro_rules | `(tactic| walk_at "go") => `(tactic| repeat walk_at "one")
local macro_rules | `(tactic| walk_at "all") => `(tactic| repeat' (first | walk_at "one" | (refine s_ite (fun _ => ?_) (fun _ => ?_))))

local macro_rules | `(tactic| walk_at "tg") => `(tactic| repeat (first | (with_reducible refine' s_gC ?_) | ((with_reducible refine' s_gT ?e ?_); (case e => rfl)) | (with_reducible refine' s_gN ?_) | ((with_reducible refine' And.intro ?r ?_); (case r => with_reducible rfl))))
def dueD (ps : List Par) (free : List Nat) (start : Int) (goals : List Int) : D := match bestL ps free start goals with
  | none => .tup [.str "lost", .int start]
  | some l => .tup [.str "row", nT l.2.2]
theorem dDp_due {n : Nat} {ps : List Par} {free : List Nat} {start : Int} {goals : List Int} (hn : ps.length ≤ 10) : dDp (n + 2) (dueD ps free start goals) := by
  unfold dueD
  cases h : bestL ps free start goals with
  | none =>
    exact dDp_tup (by simp) fun e he => by
      simp only [List.mem_cons, List.not_mem_nil, or_false] at he
      rcases he with rfl | rfl
      · exact dDp_str
      · exact dDp_int
  | some l =>
    have := best_len h
    exact dDp_tup (by simp) fun e he => by
      simp only [List.mem_cons, List.not_mem_nil, or_false] at he
      rcases he with rfl | rfl
      · exact dDp_str
      · exact dDp_nT (by omega)
theorem ok_txt : (("lost" : Str).cps.all (· < 0x110000)) = true ∧ (("row" : Str).cps.all (· < 0x110000)) = true ∧ (("many" : Str).cps.all (· < 0x110000)) = true ∧ (("table" : Str).cps.all (· < 0x110000)) = true ∧ (("plan" : Str).cps.all (· < 0x110000)) = true := by decide +kernel
theorem fit_due (ps : List Par) (free : List Nat) (start : Int) (goals : List Int) : (dueD ps free start goals).fit 10 = true := by
  unfold dueD
  cases bestL ps free start goals with
  | none =>
    exact R76.fit_tup (n := 9) fun d hd => by
      simp only [List.mem_cons, List.not_mem_nil, or_false] at hd
      rcases hd with rfl | rfl
      · simp only [D.fit]; exact ok_txt.1
      · simp [D.fit]
  | some l =>
    exact R76.fit_tup (n := 9) fun d hd => by
      simp only [List.mem_cons, List.not_mem_nil, or_false] at hd
      rcases hd with rfl | rfl
      · simp only [D.fit]; exact ok_txt.2.1
      · exact fit_nT _ 8
theorem outR_due {C : Addr} {ps : List Par} {start : Int} {goals : List Int} {free : List Nat} {kk : D → Prop} (hn : ps.length ≤ 10) (hp : Pos ps) (h : kk (dueD ps free start goals)) : outR C (ps.map (dPar C)) start goals free kk := by
  refine .inr ⟨ps, rfl, hn, hp, fun hb => ?_, fun l hb => ?_⟩
  · unfold dueD at h; rw [hb] at h; exact h
  · unfold dueD at h; rw [hb] at h; exact h
theorem src_k {ms : MS} {a p : Addr} {kvs : KvI} (h : SrcAt ms a) (hp : ms p = some (.k kvs)) : p ≠ a := fun e => by
  subst e
  obtain ⟨l, h, _⟩ := h
  rw [hp] at h; cases h
theorem WaysOk.sb {ms ms' : MS} {a p : Addr} {ps : List Par} {starts goals : List Int} (h : WaysOk ms p ps starts goals) (hS : SrcAt ms a) (hB : SB a ms ms') : WaysOk ms' p ps starts goals := by
  obtain ⟨kvs, h1, h2⟩ := h
  exact ⟨kvs, by rw [hB.2 p (src_k hS h1)]; exact h1, h2⟩
section
variable {P : Program} {w : World} {K : PySem.W.Frag} {mg : Str → Option Value} {base : Heap}
abbrev s_law_single : Stmt := (topS 39)
theorem sc_law_single : FnScope ["source", "parcels", "rows", "ways", "starts", "goals", "start", "free", "one", "due"] ["source", "parcels", "rows", "ways", "starts", "goals"] (defScope s_law_single) := ⟨rfl, rfl, rfl, by decide +kernel, rfl, by decide +kernel, by decide +kernel⟩

def R_single (C : Addr) : AFn := fun sds ms k _ => ∃ a ps pw starts goals, sds = [.v (.ref a), .d (parsD C ps), .d (rowsL ps), .v (.ref pw), .d (iT starts), .d (iT goals)] ∧ ps.length ≤ 10 ∧ Pos ps ∧ 0 < starts.length ∧ starts.length ≤ 8 ∧ goals.length ≤ 10 ∧ SrcAt ms a ∧ WaysOk ms pw ps starts goals ∧ ∀ ms', SB a ms ms' → k (.d (.bl true)) ms'
theorem ok_single (T : TopE K mg) (G_law_draw : FnA P w K mg base CX0 1 "_law_draw" R_draw) (G_law_numbers : FnA P w K mg base CX0 1 "_law_numbers" R_nums) (G_law_row_due : FnA P w K mg base CX0 2 "_law_row_due" R_due) (G_law_row : FnA P w K mg base CX0 4 "_law_row" (R_lrow T.CP)) (G_law_plain : FnA P w K mg base CX0 7 "_law_plain" (R_plain 6))
    {f : Addr} {fd : FuncData} (F : Fun K "_law_single" "_law_single" s_law_single f fd) : FnOk P w K mg base CX0 8 f fd ["source", "parcels", "rows", "ways", "starts", "goals"] (spA (R_single T.CP)) := by
  refine fnA F sc_law_single (fun sds ms k x h => ?_) (by decide) fun cdv A outer s H E hr => ⟨_, _, (ass_cons (as_set 6 sc_law_single.nd (ae_ix (u1 hr) (ae_v 4) (ae_call G_law_draw (hr.mono (by first | decide | omega)) (fun _ => pass0At) (by rfl) (aa_cons (ae_v 0) (aa_cons (ae_callB call_len oa_len (by rfl) T.len (by decide +kernel) (aa_cons (ae_v 4) aa_nil)) aa_nil)))))
    (ass_cons (as_set 7 sc_law_single.nd (ae_call G_law_numbers (hr.mono (by first | decide | omega)) (fun _ => pass0At) (by rfl) (aa_cons (ae_call G_law_draw (hr.mono (by first | decide | omega)) (fun _ => pass0At) (by rfl) (aa_cons (ae_v 0) (aa_cons (ae_bin op_shl oa_shl ae_int (ae_callB call_len oa_len (by rfl) T.len (by decide +kernel) (aa_cons (ae_v 2) aa_nil))) aa_nil))) (aa_cons (ae_callB call_len oa_len (by rfl) T.len (by decide +kernel) (aa_cons (ae_v 2) aa_nil)) aa_nil))))
    (ass_cons (as_for PassesOwn.never rfl (ai_seq (ae_tup (aa_cons ae_non (aa_cons (ae_tup aa_nil) (aa_cons (ae_v 7) (aa_cons (ae_tup aa_nil) (aa_cons ae_non aa_nil))))))) (ag_name 8 sc_law_single.nd)
      (ass_cons (as_set 9 sc_law_single.nd (ae_call G_law_row_due (hr.mono (by first | decide | omega)) (fun _ => pass0At) (by rfl) (aa_cons (ae_v 2) (aa_cons (ae_v 3) (aa_cons (ae_v 6) (aa_cons (ae_orD (ae_v 8) (ae_one (ae_tup aa_nil))) aa_nil))))))
      (ass_one (as_if (at_cmp (op_neA (u64 hr)) oa_ne (ae_call G_law_plain (hr.mono (by first | decide | omega)) (fun _ => pass0At) (by rfl) (aa_cons (ae_call G_law_row (hr.mono (by first | decide | omega)) (fun _ => pass0At) (by rfl) (aa_cons (ae_v 1) (aa_cons (ae_v 6) (aa_cons (ae_v 5) (aa_cons (ae_v 8) aa_nil))))) aa_nil)) (ae_call G_law_plain (hr.mono (by first | decide | omega)) (fun _ => pass0At) (by rfl) (aa_cons (ae_v 9) aa_nil)) (nomark _)) (ass_one (as_ret ae_bl)) ass_nil))))
    (ass_one (as_ret ae_bl))))), fun sds ms k x h => ?_⟩
  · obtain ⟨a, b, c, d, e, rfl, _⟩ := h; rfl
  · obtain ⟨a, ps, pw, starts, goals, rfl, hn, hp, h0, h8, hg, hS, hW, q⟩ := h
    have hz := pow10 hn
    dsimp only [gam]
    walk_at "go"
    rw [show (starts.map D.int).length = starts.length from List.length_map ..]
    refine dr hS (by omega) (by omega) fun v m1 h1 h2 hB1 => ?_
    obtain ⟨st, hst, hsm⟩ := R76.atI_int (l := starts) h1 h2
    refine s_ix rfl hst ?_
    walk_at "go"
    unfold rowsL
    walk_at "go"
    rw [List.length_map]
    refine s_I (cpow1 hn) ?_
    rw [shl1]
    refine dr hB1.1 (by have : 0 < 2 ^ ps.length := Nat.pow_pos (by decide); omega) (by omega) fun v2 m2 h3 h4 hB2 => ?_
    obtain ⟨c, rfl⟩ := Int.eq_ofNat_of_zero_le h3
    walk_at "go"
    rw [List.length_map]
    refine ⟨c, ps.length, rfl, by omega, ?_⟩
    have hW2 : WaysOk m2 pw ps starts goals := (hW.sb hS hB1).sb hB1.1 hB2
    have hWs : WaysOk m2 pw ps [st] goals := by
      obtain ⟨kvs, e1, e2⟩ := hW2
      exact ⟨kvs, e1, fun s hs => by rw [List.mem_singleton.mp hs]; exact e2 st hsm⟩
    have hfl : (numsP (c : Int) ps.length).length ≤ 10 := Nat.le_trans (nums_len _ _) hn
    generalize numsP (c : Int) ps.length = free at *
    walk_at "go"
    refine forR_inv (fun i Γ ms' => ms' = m2 ∧ ∃ g8 g9, Γ = [some (.v (.ref a)), some (.d (parsD T.CP ps)), some (.d (rowsL ps)), some (.v (.ref pw)), some (.d (iT starts)), some (.d (iT goals)), some (.d (.int st)), some (.d (nT free)), g8, g9]) ⟨rfl, _, _, rfl⟩ (fun i d Γ m3 hd hP N hN => ?_) fun Γ m3 hP => ?_
    · obtain ⟨rfl, g8, g9, rfl⟩ := hP
      have hdm := List.mem_of_getElem? hd
      obtain ⟨fr, hfr, hfrl, b, htr, hb1, hb2⟩ : ∃ fr : List Nat, FrN d fr ∧ fr.length ≤ 10 ∧ ∃ b, truD d = some b ∧ (b = true → d = nT fr) ∧ (b = false → fr = []) := by
        simp only [List.mem_cons, List.not_mem_nil, or_false] at hdm
        rcases hdm with rfl | rfl | rfl | rfl | rfl
        · exact ⟨[], .inl ⟨rfl, rfl⟩, by simp, false, rfl, by simp, fun _ => rfl⟩
        · exact ⟨[], .inr rfl, by simp, false, rfl, by simp, fun _ => rfl⟩
        · refine ⟨free, .inr rfl, hfl, !free.isEmpty, ?_, fun _ => rfl, fun h => ?_⟩
          · show some (!(free.map fun n : Nat => D.int n).isEmpty) = _
            rw [List.isEmpty_map]
          · simpa using h
        · exact ⟨[], .inr rfl, by simp, false, rfl, by simp, fun _ => rfl⟩
        · exact ⟨[], .inl ⟨rfl, rfl⟩, by simp, false, rfl, by simp, fun _ => rfl⟩
      walk_at "tg"
      (with_reducible refine' s_seq ?_)
      refine s_setN (fun sd ms1 => sd = .d (dueD ps fr st goals) ∧ ms1 = m3) (fun K1 hK => ?_) (fun sd ms1 h => ?_)
      · have due : ∀ x, R_due [.d (rowsL ps), .v (.ref pw), .d (.int st), .d (nT fr)] m3 K1 x := fun x => by
          refine ⟨ps, pw, st, goals, fr, rfl, hn, hWs, fun hb => ?_, fun l hb => ?_⟩
          · exact hK _ _ ⟨by unfold dueD; rw [hb], rfl⟩
          · exact hK _ _ ⟨by unfold dueD; rw [hb], rfl⟩
        walk_at "go"
        refine ⟨b, htr, ?_⟩
        cases b with
        | true =>
          rw [if_pos rfl]
          have e := hb1 rfl
          subst e
          exact due _
        | false =>
          rw [if_neg Bool.false_ne_true]
          have e := hb2 rfl
          subst e
          walk_at "go"
          exact due _
      · obtain ⟨rfl, rfl⟩ := h
        walk_at "go"
        refine ⟨_, st, goals, fr, d, rfl, hfr, by rw [dPar_len]; omega, hg, outR_due hn hp ?_⟩
        refine ⟨_, rfl, dDp_due (n := 4) hn, ?_⟩
        walk_at "go"
        refine ⟨_, rfl, dDp_due (n := 4) hn, ?_⟩
        refine s_neP (fit_mono30 (fit_due _ _ _ _)) ?_
        walk_at "go"
        exact hN _ _ ⟨rfl, _, _, rfl⟩
    · obtain ⟨rfl, g8, g9, rfl⟩ := hP
      walk_at "go"
      exact Out.here (q _ (hB1.trans hB2))
abbrev s_law_equals : Stmt := (topS 40)
theorem sc_law_equals : FnScope ["source", "words", "first", "second", "told"] ["source"] (defScope s_law_equals) := ⟨rfl, rfl, rfl, by decide +kernel, rfl, by decide +kernel, by decide +kernel⟩

def R_true : AFn := fun sds ms k _ => ∃ a, sds = [.v (.ref a)] ∧ SrcAt ms a ∧ ∀ ms', SB a ms ms' → k (.d (.bl true)) ms'
theorem md_mu {ms : MS} {p : Addr} {o : MO} (hp : ms p = none) : md (mu ms p o) p = ms := by
  funext b
  by_cases hb : b = p
  · subst hb; rw [md_same]; exact hp.symm
  · rw [md_ne hb, mu_ne hb]
theorem mk_par {C p : Addr} {ms : MS} {b r : D} {w : Int} {Kc : List (Str × D) → MS → Prop} {x : AX} (h1 : 1 ≤ w) (h2 : w ≤ 60000) (h : Kc [("base", b), ("result", r), ("words", .int w)] (mu ms p (.i C [("base", b), ("result", r), ("words", .int w)]))) :
    R_parcel C [.v (.ref p), .d b, .d r, .d (.int w)] (mu ms p (.i C [])) (fun sd ms2 => sd = .d .non ∧ ∃ fs, ms2 p = some (.i C fs) ∧ Kc fs ms2) x :=
  ⟨p, b, r, w, rfl, h1, h2, mu_same, rfl, _, mu_same, by rw [mu_mu]; exact h⟩
theorem fit_rows9 (ps : List Par) (fr : List Nat) (starts goals : List Int) : (rowsD ps fr starts goals).fit 9 = true := R76.fit_tup (n := 8) fun d hd => by
  obtain ⟨s, _, rfl⟩ := List.mem_map.mp hd
  exact fit_nT _ 7
theorem rows_one {w : Int} {fr : List Nat} {ss : List Int} (hw : 0 ≤ w) (h : ∀ s ∈ ss, s ≠ 7) : rowsD [⟨none, 7, w⟩] fr ss [7] = .tup (ss.map fun _ => .tup [.int 0]) := by
  unfold rowsD
  rw [List.map_congr_left fun s hs => by unfold rowL; rw [one_best hw (h s hs)]]
  rfl
theorem dDp_six {n : Nat} {a b c d e f : D} (h : ∀ x ∈ [a, b, c, d, e, f], dDp n x) : dDp (n + 1) (.lst [a, b, c, d, e, f]) := dDp_lst (by simp) h
theorem ok_equals (T : TopE K mg) (G_law_draw : FnA P w K mg base CX0 1 "_law_draw" R_draw) (GC_Parcel : MkA P w K mg base CX0 2 "Parcel" T.CP (R_parcel T.CP)) (G_law_planned : FnA P w K mg base CX0 6 "_law_planned" (R_planned T.CP T.CL)) (G_law_compared : FnA P w K mg base CX0 8 "_law_compared" (R_compared T.CL)) (G_law_plain : FnA P w K mg base CX0 7 "_law_plain" (R_plain 6))
    {f : Addr} {fd : FuncData} (F : Fun K "_law_equals" "_law_equals" s_law_equals f fd) : FnOk P w K mg base CX0 9 f fd ["source"] (spA R_true) := by
  refine fnA F sc_law_equals (fun sds ms k x h => ?_) (by decide) fun cdv A outer s H E hr => ⟨_, _, (ass_cons (as_set 1 sc_law_equals.nd (ae_bin op_addA oa_add ae_int (ae_call G_law_draw (hr.mono (by first | decide | omega)) (fun _ => pass0At) (by rfl) (aa_cons (ae_v 0) (aa_cons ae_int aa_nil)))))
    (ass_cons (as_set 2 sc_law_equals.nd (ae_call G_law_planned (hr.mono (by first | decide | omega)) (fun _ => pass0At) (by rfl) (aa_cons (ae_lst (aa_cons (ae_make GC_Parcel (hr.mono (by first | decide | omega)) (by rfl) (aa_cons ae_non (aa_cons ae_int (aa_cons (ae_v 1) aa_nil)))) aa_nil)) (aa_cons (ae_tup (aa_cons ae_int (aa_cons ae_int (aa_cons ae_int aa_nil)))) (aa_cons (ae_tup (aa_cons ae_int aa_nil)) aa_nil)))))
    (ass_cons (as_set 3 sc_law_equals.nd (ae_call G_law_planned (hr.mono (by first | decide | omega)) (fun _ => pass0At) (by rfl) (aa_cons (ae_lst (aa_cons (ae_make GC_Parcel (hr.mono (by first | decide | omega)) (by rfl) (aa_cons ae_non (aa_cons ae_int (aa_cons (ae_bin op_mul oa_mul ae_int (ae_v 1)) aa_nil)))) aa_nil)) (aa_cons (ae_tup (aa_cons ae_int aa_nil)) (aa_cons (ae_tup (aa_cons ae_int aa_nil)) aa_nil)))))
    (ass_cons (as_if (AW.at (aw_or (at_cmp (op_neA (u64 hr)) oa_ne (ae_ix (u1 hr) (ae_v 2) ae_int) ae_str (nomark _)) (aw_or1 (at_cmp (op_neA (u64 hr)) oa_ne (ae_ix (u1 hr) (ae_v 3) ae_int) ae_str (nomark _))))) (ass_one (as_ret ae_bl)) ass_nil)
    (ass_cons (as_set 4 sc_law_equals.nd (ae_lst (aa_cons (ae_fld T.cls_Plan T.na_to_all (ae_ix (u1 hr) (ae_v 2) ae_int)) (aa_cons (ae_fld T.cls_Plan T.na_rows (ae_ix (u1 hr) (ae_v 2) ae_int)) (aa_cons (ae_fld T.cls_Plan T.na_price (ae_ix (u1 hr) (ae_v 2) ae_int)) (aa_cons (ae_fld T.cls_Plan T.na_to_all (ae_ix (u1 hr) (ae_v 3) ae_int)) (aa_cons (ae_fld T.cls_Plan T.na_rows (ae_ix (u1 hr) (ae_v 3) ae_int)) (aa_cons (ae_fld T.cls_Plan T.na_price (ae_ix (u1 hr) (ae_v 3) ae_int)) aa_nil))))))))
    (ass_cons (as_if (at_cmp (op_neA (u64 hr)) oa_ne (ae_call G_law_plain (hr.mono (by first | decide | omega)) (fun _ => pass0At) (by rfl) (aa_cons (ae_v 4) aa_nil)) (ae_call G_law_plain (hr.mono (by first | decide | omega)) (fun _ => pass0At) (by rfl) (aa_cons (ae_lst (aa_cons (ae_tup (aa_cons ae_int aa_nil)) (aa_cons (ae_tup (aa_cons (ae_tup (aa_cons ae_int aa_nil)) (aa_cons (ae_tup (aa_cons ae_int aa_nil)) (aa_cons (ae_tup (aa_cons ae_int aa_nil)) aa_nil)))) (aa_cons (ae_bin op_mul oa_mul ae_int (ae_v 1)) (aa_cons (ae_tup aa_nil) (aa_cons (ae_tup (aa_cons (ae_tup (aa_cons ae_int aa_nil)) aa_nil)) (aa_cons (ae_bin op_mul oa_mul ae_int (ae_v 1)) aa_nil))))))) aa_nil)) (nomark _)) (ass_one (as_ret ae_bl)) ass_nil)
    (ass_one (as_ret (ae_and (ae_call G_law_compared (hr.mono (by first | decide | omega)) (fun _ => pass0At) (by rfl) (aa_cons (ae_ix (u1 hr) (ae_v 2) ae_int) (aa_cons (ae_ix (u1 hr) (ae_v 3) ae_int) aa_nil))) (ae_one (ae_call G_law_compared (hr.mono (by first | decide | omega)) (fun _ => pass0At) (by rfl) (aa_cons (ae_ix (u1 hr) (ae_v 3) ae_int) (aa_cons (ae_ix (u1 hr) (ae_v 2) ae_int) aa_nil))))))))))))), fun sds ms k x h => ?_⟩
  · obtain ⟨a, rfl, _⟩ := h; rfl
  · obtain ⟨a, rfl, hS, q⟩ := h
    dsimp only [gam]
    walk_at "go"
    refine dr hS (by decide) (by decide) fun v m1 h1 h2 hB1 => ?_
    walk_at "go"
    have hw : 1 ≤ 1 + v := by omega
    intro p hp
    refine mk_par hw (by omega) ?_
    rw [md_mu hp]
    walk_at "go"
    have hp1 : ∀ w : Int, 1 ≤ w → Pos [⟨none, 7, w⟩] := fun w h p hp => by rw [List.mem_singleton.mp hp]; dsimp only; omega
    have all : ∀ (w : Int) (ss : List Int), 0 ≤ w → (∀ s ∈ ss, s ≠ 7) → ∀ s ∈ ss, (bestL [⟨none, 7, w⟩] [] s [7]).isSome = true := fun w ss h h2 s hs => by rw [one_best h (h2 s hs)]; rfl
    have no : ∀ (w : Int) (ss : List Int), 0 ≤ w → (∀ s ∈ ss, s ≠ 7) → ∀ pre s post, ss = pre ++ s :: post → bestL [⟨none, 7, w⟩] [] s [7] = none → False := fun w ss h h2 pre s post e1 e3 => by
      have := all w ss h h2 s (by rw [e1]; simp)
      rw [e3] at this; cases this
    refine ⟨[dPar T.CP ⟨none, 7, 1 + v⟩], [1, 2, 3], [7], rfl, by simp, by simp, by simp, .inr (.inr ⟨[⟨none, 7, 1 + v⟩], rfl, by simp, hp1 _ hw, by simp, fun pre s post e1 _ e3 => (no (1 + v) [1, 2, 3] (by omega) (by decide) pre s post e1 e3).elim, fun _ l1 f1 hpl1 => ?_⟩)⟩
    obtain ⟨rfl, rfl⟩ := hpl1.uniq (plan_eq1 hw)
    walk_at "go"
    intro p2 hp2
    refine mk_par (by omega) (by omega) ?_
    rw [md_mu hp2]
    walk_at "go"
    refine ⟨[dPar T.CP ⟨none, 7, 2 * (1 + v)⟩], [1], [7], rfl, by simp, by simp, by simp, .inr (.inr ⟨[⟨none, 7, 2 * (1 + v)⟩], rfl, by simp, hp1 _ (by omega), by simp, fun pre s post e1 _ e3 => (no (2 * (1 + v)) [1] (by omega) (by decide) pre s post e1 e3).elim, fun _ l2 f2 hpl2 => ?_⟩)⟩
    obtain ⟨rfl, rfl⟩ := hpl2.uniq (plan_eq2 hw)
    walk_at "go"
    refine s_iteF (by simp) ?_
    walk_at "go"
    refine s_iteF (by simp) ?_
    walk_at "go"
    refine s_fldL rfl ?_
    walk_at "go"
    refine s_fldL rfl ?_
    walk_at "go"
    refine s_fldL rfl ?_
    walk_at "go"
    refine s_fldL rfl ?_
    walk_at "go"
    refine s_fldL rfl ?_
    walk_at "go"
    refine s_fldL rfl ?_
    walk_at "go"
    have hd : dDp 6 (.lst [nT [0], rowsD [⟨none, 7, 1 + v⟩] [0] [1, 2, 3] [7], .int (2 * (1 + v)), nT [], rowsD [⟨none, 7, 2 * (1 + v)⟩] [] [1] [7], .int (2 * (1 + v))]) := dDp_six fun e he => by
      simp only [List.mem_cons, List.not_mem_nil, or_false] at he
      rcases he with rfl | rfl | rfl | rfl | rfl | rfl
      · exact dDp_nT (by simp)
      · exact dDp_rows (by simp) (by simp)
      · exact dDp_int
      · exact dDp_nT (by simp)
      · exact dDp_rows (by simp) (by simp)
      · exact dDp_int
    have hf : (D.lst [nT [0], rowsD [⟨none, 7, 1 + v⟩] [0] [1, 2, 3] [7], .int (2 * (1 + v)), nT [], rowsD [⟨none, 7, 2 * (1 + v)⟩] [] [1] [7], .int (2 * (1 + v))]).fit 10 = true := R76.fit_lst (n := 9) fun e he => by
      simp only [List.mem_cons, List.not_mem_nil, or_false] at he
      rcases he with rfl | rfl | rfl | rfl | rfl | rfl
      · exact fit_nT _ 8
      · exact fit_rows9 _ _ _ _
      · simp [D.fit]
      · exact fit_nT _ 8
      · exact fit_rows9 _ _ _ _
      · simp [D.fit]
    have ed : (D.lst [nT [0], rowsD [⟨none, 7, 1 + v⟩] [0] [1, 2, 3] [7], .int (2 * (1 + v)), nT [], rowsD [⟨none, 7, 2 * (1 + v)⟩] [] [1] [7], .int (2 * (1 + v))]) = .lst [.tup [.int 0], .tup [.tup [.int 0], .tup [.int 0], .tup [.int 0]], .int (2 * (1 + v)), .tup [], .tup [.tup [.int 0]], .int (2 * (1 + v))] := by
      rw [rows_one (by omega) (by decide), rows_one (by omega) (by decide)]; rfl
    refine ⟨_, rfl, hd, ?_⟩
    walk_at "go"
    rw [← ed]
    refine ⟨_, rfl, hd, ?_⟩
    refine s_neP (fit_mono30 hf) ?_
    walk_at "go"
    refine ⟨_, _, _, _, _, _, rfl, ?_⟩
    walk_at "go"
    refine ⟨_, _, _, _, _, _, rfl, ?_⟩
    exact Out.here (q _ hB1)
end
end R77

/-! ## K77zc -/
set_option Elab.async false
set_option linter.all false
set_option maxRecDepth 100000
set_option maxHeartbeats 4000000
namespace R77
open PySem PySem.Spec PyProof.Rows L2 AL
open Evl (Ex)
open R76 (topS u1 u64 u65 u80 SrcAt SB R_draw R_source plainD)
local macro_rules | `(tactic| walk_at "st") => `(tactic| first
  | (with_reducible refine' s_seq ?_) | (with_reducible refine' s_set ?_) | (with_reducible refine' s_nx ?_) | (with_reducible refine' s_ret ?_) | (with_reducible refine' s_drop ?_) | (with_reducible refine' s_asg ?_) | (with_reducible refine' s_for ?_) | (with_reducible refine' s_tt ?_) | (with_reducible refine' s_ff ?_) | (with_reducible refine' s_lcS ?_) | (with_reducible refine' s_put ?_) | (with_reducible refine' s_app ?_) | (with_reducible refine' s_ext ?_)
  | (with_reducible refine' s_gN ?_) | ((with_reducible refine' s_v ?e ?_); (case e => rfl)) | (with_reducible refine' s_asB ?_) | (with_reducible refine' s_asI ?_) | (with_reducible refine' s_asD ?_) | (with_reducible refine' s_nil ?_) | (with_reducible refine' s_cons ?_)
  | (with_reducible refine' s_addI ?_) | (with_reducible refine' s_I0 ?_) | (with_reducible refine' s_neg ?_) | (with_reducible refine' s_eqI ?_) | (with_reducible refine' s_eqS ?_) | (with_reducible refine' s_ltI ?_) | (with_reducible refine' s_isN ?_) | (with_reducible refine' s_int ?_) | (with_reducible refine' s_abs ?_)
  | ((with_reducible refine' s_len ?e ?_); (case e => first | rfl | exact seqOf_m (by assumption) | exact seqOf_m mu_same))
  | ((with_reducible refine' s_ix ?e ?e2 ?_); (case e => first | rfl | exact seqOf_m (by assumption) | exact seqOf_m mu_same); (case e2 => first | rfl | assumption | exact atI_nat (j := 0) rfl | exact atI_nat (j := 1) rfl | exact atI_nat (j := 2) rfl | exact atI_nat (j := 3) rfl))
  | ((with_reducible refine' s_putL ?e ?e2 ?_); (case e => first | assumption | exact mu_same); (case e2 => first | rfl | assumption))
  | ((with_reducible refine' s_oL ?e ?_); (case e => first | assumption | exact mu_same))
  | ((with_reducible refine' s_dat ?e ?_); (case e => rfl)) | ((with_reducible refine' s_rng ?e ?_); (case e => exact ⟨by omega, by omega⟩))
  | ((with_reducible refine' s_I ?c ?_); (case c => first | assumption | exact ⟨by omega, by omega⟩ | exact ⟨by decide, by decide, by decide⟩ | exact Or.inl ⟨by omega, by omega⟩ | exact Or.inr ⟨by omega, by omega⟩ | (show (0 : Int) < _; omega) | (show (0 : Int) ≤ _; omega)))
  | (with_reducible refine' s_slT ?_) | (with_reducible refine' s_slL ?_) | (with_reducible refine' s_gC ?_) | ((with_reducible refine' s_gT ?e ?_); (case e => rfl))
  | ((with_reducible refine' s_tup ?e ?_); (case e => first | rfl | exact seqOf_m (by assumption) | exact seqOf_m mu_same))
  | ((with_reducible refine' s_list ?e ?_); (case e => first | rfl | exact seqOf_m (by assumption) | exact seqOf_m mu_same))
  | ((with_reducible refine' s_isi ?e ?e2 ?_); (case e => rfl); (case e2 => rfl))
  | (with_reducible refine' s_max ?_)
  | ((with_reducible refine' And.intro ?r ?_); (case r => with_reducible rfl)))
local macro_rules | `(tactic| walk_at "one") => `(tactic| first | (with_reducible refine' s_if ?_) | walk_at "st")
local macro_rules | `(tactic| walk_at "up") => `(tactic| repeat walk_at "st")
local macro_rules | `(tactic| walk_at "go") => `(tactic| repeat walk_at "one")
local macro_rules | `(tactic| walk_at "all") => `(tactic| repeat' (first | walk_at "one" | (refine s_ite (fun _ => ?_) (fun _ => ?_))))

local macro_rules | `(tactic| walk_at "tg") => `(tactic| repeat (first | (with_reducible refine' s_gC ?_) | ((with_reducible refine' s_gT ?e ?_); (case e => rfl)) | (with_reducible refine' s_gN ?_) | ((with_reducible refine' And.intro ?r ?_); (case r => with_reducible rfl))))
theorem rows_six {ps : List Par} (h : Free ps) (hn : ps.length = 6) : rowsD ps [5] [1, 2, 3] [15] = .tup [.tup [.int 5], .tup [.int 5], .tup [.int 5]] := by
  have hb : ∀ s ∈ ([1, 2, 3] : List Int), bestL ps [5] s [15] = some (val ps [5] [5]) := fun s hs => h.to (free := [5]) (s := s) (i := 5) (by omega) (by revert hs; simp; omega)
  unfold rowsD
  rw [List.map_congr_left fun s hs => by unfold rowL; rw [hb s hs]]
  rfl
def manyP (ws : List Int) : List Par := ws.mapIdx fun k w => ⟨none, 10 + k, w⟩
theorem many_len (ws : List Int) : (manyP ws).length = ws.length := by unfold manyP; rw [List.length_mapIdx]
theorem many_at {ws : List Int} {i : Nat} (h : i < ws.length) : (manyP ws)[i]? = some ⟨none, 10 + i, ws[i]⟩ := by
  unfold manyP
  rw [List.getElem?_mapIdx, List.getElem?_eq_getElem h]; rfl
theorem many_free {ws : List Int} (h : ∀ w ∈ ws, 1 ≤ w) (n : Nat) : Free ((manyP ws).take n) := by
  refine ⟨fun i p hp => ?_⟩
  rw [List.getElem?_take] at hp
  split at hp
  · have hi : i < ws.length := by rw [← many_len]; exact (List.getElem?_eq_some_iff.mp hp).1
    rw [many_at hi] at hp
    cases hp
    exact ⟨rfl, rfl, h _ (List.getElem_mem hi)⟩
  · cases hp
theorem many_w {ws : List Int} {n i : Nat} (hn : i < n) (h : i < ws.length) : wOf ((manyP ws).take n) i = ws[i] := by
  unfold wOf
  rw [List.getElem?_take, if_pos hn, many_at h]; rfl
theorem fit_ms (z : Str) (i : Int) (hz : (z.cps.all (· < 0x110000)) = true) (n : Nat) : (D.tup [.str z, .int i]).fit (n + 1) = true := R76.fit_tup fun d hd => by
  simp only [List.mem_cons, List.not_mem_nil, or_false] at hd
  rcases hd with rfl | rfl
  · simp only [D.fit]; exact hz
  · simp [D.fit]
theorem s_neS {ms : MS} {d : D} {k : SD → Prop} (hf : d.fit 64 = true) (h : k (.d (.bl false))) : oEq true ms (.d d) (.d d) k :=
  s_eqD hf hf (by rw [R76.eqv_self hf]; exact h)
section
variable {P : Program} {w : World} {K : PySem.W.Frag} {mg : Str → Option Value} {base : Heap}
abbrev s_law_six : Stmt := (topS 41)
theorem sc_law_six : FnScope ["parcels", "words", "told", "due"] ["parcels", "words"] (defScope s_law_six) := ⟨rfl, rfl, rfl, by decide +kernel, rfl, by decide +kernel, by decide +kernel⟩

def R_six (C : Addr) : AFn := fun sds ms k _ => ∃ ps, sds = [.d (parsD C ps), .d (.int (wOf ps 5))] ∧ Free ps ∧ ps.length = 6 ∧ k (.d (.bl true)) ms
theorem ok_six (T : TopE K mg) (G_law_planned : FnA P w K mg base CX0 6 "_law_planned" (R_planned T.CP T.CL)) (G_law_plain : FnA P w K mg base CX0 7 "_law_plain" (R_plain 6))
    {f : Addr} {fd : FuncData} (F : Fun K "_law_six" "_law_six" s_law_six f fd) : FnOk P w K mg base CX0 8 f fd ["parcels", "words"] (spA (R_six T.CP)) := by
  refine fnA F sc_law_six (fun sds ms k x h => ?_) (by decide) fun cdv A outer s H E hr => ⟨_, _, (ass_cons (as_set 2 sc_law_six.nd (ae_call G_law_planned (hr.mono (by first | decide | omega)) (fun _ => pass0At) (by rfl) (aa_cons (ae_v 0) (aa_cons (ae_tup (aa_cons ae_int (aa_cons ae_int (aa_cons ae_int aa_nil)))) (aa_cons (ae_tup (aa_cons ae_int aa_nil)) aa_nil)))))
    (ass_cons (as_if (at_cmp (op_neA (u64 hr)) oa_ne (ae_ix (u1 hr) (ae_v 2) ae_int) ae_str (nomark _)) (ass_one (as_ret ae_bl)) ass_nil)
    (ass_cons (as_set 3 sc_law_six.nd (ae_lst (aa_cons (ae_tup (aa_cons ae_int aa_nil)) (aa_cons (ae_tup (aa_cons (ae_tup (aa_cons ae_int aa_nil)) (aa_cons (ae_tup (aa_cons ae_int aa_nil)) (aa_cons (ae_tup (aa_cons ae_int aa_nil)) aa_nil)))) (aa_cons (ae_bin op_mul oa_mul ae_int (ae_v 1)) aa_nil)))))
    (ass_one (as_ret (ae_cmp (op_eqA (u64 hr)) oa_eq (ae_call G_law_plain (hr.mono (by first | decide | omega)) (fun _ => pass0At) (by rfl) (aa_cons (ae_lst (aa_cons (ae_fld T.cls_Plan T.na_to_all (ae_ix (u1 hr) (ae_v 2) ae_int)) (aa_cons (ae_fld T.cls_Plan T.na_rows (ae_ix (u1 hr) (ae_v 2) ae_int)) (aa_cons (ae_fld T.cls_Plan T.na_price (ae_ix (u1 hr) (ae_v 2) ae_int)) aa_nil)))) aa_nil)) (ae_call G_law_plain (hr.mono (by first | decide | omega)) (fun _ => pass0At) (by rfl) (aa_cons (ae_v 3) aa_nil)) (nomark _))))))), fun sds ms k x h => ?_⟩
  · obtain ⟨a, rfl, _⟩ := h; rfl
  · obtain ⟨ps, rfl, hF, hn, q⟩ := h
    dsimp only [gam]
    walk_at "go"
    have all : ∀ s ∈ ([1, 2, 3] : List Int), (bestL ps [] s [15]).isSome = true := fun s hs => by
      have := hF.to (free := []) (s := s) (i := 5) (by omega) (by revert hs; simp; omega)
      rw [show ((15 : Int)) = 10 + ((5 : Nat) : Int) from rfl, this]; rfl
    refine ⟨ps.map (dPar T.CP), [1, 2, 3], [15], rfl, by rw [dPar_len]; omega, by simp, by simp, .inr (.inr ⟨ps, rfl, by omega, hF.pos, by simp, fun pre s post e1 _ e3 => ?_, fun _ l f hpl => ?_⟩)⟩
    · have := all s (by rw [e1]; simp)
      rw [e3] at this; cases this
    rw [hn] at hpl
    obtain ⟨rfl, rfl⟩ := hpl.uniq (plan_six hF hn)
    rw [rows_six hF hn]
    walk_at "go"
    refine s_iteF (by simp) ?_
    walk_at "go"
    have hd : dDp 6 (.lst [.tup [.int 5], .tup [.tup [.int 5], .tup [.int 5], .tup [.int 5]], .int (2 * wOf ps 5)]) := dDp_lst (by simp) fun e he => by
      simp only [List.mem_cons, List.not_mem_nil, or_false] at he
      rcases he with rfl | rfl | rfl
      · exact dDp_nT (l := [5]) (by simp)
      · exact dDp_tup (by simp) fun e he => by
          simp only [List.mem_cons, List.not_mem_nil, or_false, or_self] at he
          subst he
          exact dDp_nT (l := [5]) (by simp)
      · exact dDp_int
    have hf : (D.lst [.tup [.int 5], .tup [.tup [.int 5], .tup [.int 5], .tup [.int 5]], .int (2 * wOf ps 5)]).fit 10 = true := by simp [D.fit, fitL]
    refine s_fldL rfl ?_
    walk_at "go"
    refine s_fldL rfl ?_
    walk_at "go"
    refine s_fldL rfl ?_
    walk_at "go"
    refine ⟨_, rfl, hd, ?_⟩
    walk_at "go"
    refine ⟨_, rfl, hd, ?_⟩
    refine s_eqP (fit_mono30 hf) ?_
    exact Out.here q
abbrev s_law_refuses : Stmt := (topS 42)
theorem sc_law_refuses : FnScope ["source", "goals", "words", "k", "many", "nine", "due"] ["source", "goals"] (defScope s_law_refuses) := ⟨rfl, rfl, rfl, by decide +kernel, rfl, by decide +kernel, by decide +kernel⟩

def R_refuses : AFn := fun sds ms k _ => ∃ a goals, sds = [.v (.ref a), .d (iT goals)] ∧ goals.length ≤ 2 ∧ SrcAt ms a ∧ ∀ ms', SB a ms ms' → k (.d (.bl true)) ms'
theorem ok_refuses (T : TopE K mg) (G_law_draw : FnA P w K mg base CX0 1 "_law_draw" R_draw) (GC_Parcel : MkA P w K mg base CX0 2 "Parcel" T.CP (R_parcel T.CP)) (G_law_planned : FnA P w K mg base CX0 6 "_law_planned" (R_planned T.CP T.CL)) (G_law_table : FnA P w K mg base CX0 5 "_law_table" (R_ltable T.CP))
    (G_law_row : FnA P w K mg base CX0 4 "_law_row" (R_lrow T.CP)) (G_law_six : FnA P w K mg base CX0 8 "_law_six" (R_six T.CP)) (G_law_plain : FnA P w K mg base CX0 7 "_law_plain" (R_plain 6))
    {f : Addr} {fd : FuncData} (F : Fun K "_law_refuses" "_law_refuses" s_law_refuses f fd) : FnOk P w K mg base CX0 9 f fd ["source", "goals"] (spA R_refuses) := by
  refine fnA F sc_law_refuses (fun sds ms k x h => ?_) (by decide) fun cdv A outer s H E hr => ⟨_, _, (ass_cons (as_set 2 sc_law_refuses.nd (ae_lc (own := [("k", 3)]) rfl sc_law_refuses.nd (ai_range1 (by rfl) T.range ae_int) (blkOk_by (own := [("k", 3)]) (N := ["source", "goals", "words", "k", "many", "nine", "due"]) (sc := defScope s_law_refuses) (by decide +kernel)) (by decide) (fun _ _ _ _ _ => (ag_name 3 sc_law_refuses.nd)) (fun _ _ _ _ _ => ats_nil) (fun _ _ _ _ _ => (ae_bin (opK_add (K := K) rfl) oa_add ae_int (ae_call G_law_draw (hr.mono (by first | decide | omega)) (fun _ => pass0At) (by rfl) (aa_cons (ae_v 0) (aa_cons ae_int aa_nil)))))))
    (ass_cons (as_setLc 4 (own := [("k", 3)]) rfl sc_law_refuses.nd (ai_range1 (by rfl) T.range ae_int) (blkOk_by (own := [("k", 3)]) (N := ["source", "goals", "words", "k", "many", "nine", "due"]) (sc := defScope s_law_refuses) (by decide +kernel)) (by decide) (fun _ _ _ _ _ => (ag_name 3 sc_law_refuses.nd)) (fun _ _ _ _ _ => ats_nil) (fun _ _ _ _ _ => (ae_make GC_Parcel (hr.mono (by first | decide | omega)) (by rfl) (aa_cons ae_non (aa_cons (ae_bin (opK_add (K := K) rfl) oa_add ae_int (ae_v 3)) (aa_cons (ae_ixK (K := K) rfl (u1 hr) (ae_v 2) (ae_v 3)) aa_nil))))) (sw_true rfl rfl rfl (by decide +kernel)))
    (ass_cons (as_set 5 sc_law_refuses.nd (ae_tup (aa_cons ae_int (aa_cons ae_int (aa_cons ae_int (aa_cons ae_int (aa_cons ae_int (aa_cons ae_int (aa_cons ae_int (aa_cons ae_int (aa_cons ae_int aa_nil)))))))))))
    (ass_cons (as_if (AW.at (aw_or (at_cmp (op_neA (u64 hr)) oa_ne (ae_call G_law_planned (hr.mono (by first | decide | omega)) (fun _ => pass0At) (by rfl) (aa_cons (ae_v 4) (aa_cons (ae_v 5) (aa_cons (ae_v 1) aa_nil)))) (ae_tup (aa_cons ae_str (aa_cons ae_int aa_nil))) (nomark _)) (aw_or1 (at_cmp (op_neA (u64 hr)) oa_ne (ae_call G_law_table (hr.mono (by first | decide | omega)) (fun _ => pass0At) (by rfl) (aa_cons (ae_v 4) (aa_cons (ae_v 5) (aa_cons (ae_v 1) aa_nil)))) (ae_tup (aa_cons ae_str (aa_cons ae_int aa_nil))) (nomark _))))) (ass_one (as_ret ae_bl)) ass_nil)
    (ass_cons (as_if (AW.at (aw_or (at_cmp (op_neA (u64 hr)) oa_ne (ae_call G_law_planned (hr.mono (by first | decide | omega)) (fun _ => pass0At) (by rfl) (aa_cons (ae_sl (ae_v 4) ao_none (ao_some ae_int)) (aa_cons (ae_v 5) (aa_cons (ae_v 1) aa_nil)))) (ae_tup (aa_cons ae_str (aa_cons ae_int aa_nil))) (nomark _)) (aw_or1 (at_cmp (op_neA (u64 hr)) oa_ne (ae_call G_law_table (hr.mono (by first | decide | omega)) (fun _ => pass0At) (by rfl) (aa_cons (ae_sl (ae_v 4) ao_none (ao_some ae_int)) (aa_cons (ae_v 5) (aa_cons (ae_v 1) aa_nil)))) (ae_tup (aa_cons ae_str (aa_cons ae_int aa_nil))) (nomark _))))) (ass_one (as_ret ae_bl)) ass_nil)
    (ass_cons (as_if (at_cmp (op_neA (u64 hr)) oa_ne (ae_call G_law_row (hr.mono (by first | decide | omega)) (fun _ => pass0At) (by rfl) (aa_cons (ae_v 4) (aa_cons ae_int (aa_cons (ae_tup (aa_cons ae_int aa_nil)) (aa_cons ae_non aa_nil))))) (ae_tup (aa_cons ae_str (aa_cons ae_int aa_nil))) (nomark _)) (ass_one (as_ret ae_bl)) ass_nil)
    (ass_cons (as_if (AW.at (aw_and (at_cmp (op_eqA (u64 hr)) oa_eq (ae_call G_law_draw (hr.mono (by first | decide | omega)) (fun _ => pass0At) (by rfl) (aa_cons (ae_v 0) (aa_cons ae_int aa_nil))) ae_int (nomark _)) (aw_and1 (at_not (at_val (ae_call G_law_six (hr.mono (by first | decide | omega)) (fun _ => pass0At) (by rfl) (aa_cons (ae_sl (ae_v 4) ao_none (ao_some ae_int)) (aa_cons (ae_ix (u1 hr) (ae_v 2) ae_int) aa_nil)))))))) (ass_one (as_ret ae_bl)) ass_nil)
    (ass_cons (as_set 6 sc_law_refuses.nd ae_int)
    (ass_cons (as_if (at_cmp (op_ltA (u64 hr)) oa_lt (ae_ix (u1 hr) (ae_v 2) ae_int) (ae_ix (u1 hr) (ae_v 2) ae_int) (nomark _)) (ass_one (as_set 6 sc_law_refuses.nd ae_int)) ass_nil)
    (ass_one (as_ret (ae_cmp (op_eqA (u64 hr)) oa_eq (ae_call G_law_plain (hr.mono (by first | decide | omega)) (fun _ => pass0At) (by rfl) (aa_cons (ae_call G_law_row (hr.mono (by first | decide | omega)) (fun _ => pass0At) (by rfl) (aa_cons (ae_sl (ae_v 4) ao_none (ao_some ae_int)) (aa_cons ae_int (aa_cons (ae_tup (aa_cons ae_int (aa_cons ae_int aa_nil))) (aa_cons ae_non aa_nil))))) aa_nil)) (ae_call G_law_plain (hr.mono (by first | decide | omega)) (fun _ => pass0At) (by rfl) (aa_cons (ae_tup (aa_cons ae_str (aa_cons (ae_tup (aa_cons (ae_v 6) aa_nil)) aa_nil))) aa_nil)) (nomark _))))))))))))), fun sds ms k x h => ?_⟩
  · obtain ⟨a, b, rfl, _⟩ := h; rfl
  · obtain ⟨a, goals, rfl, hg, hS, q⟩ := h
    dsimp only [gam]
    walk_at "go"
    refine lcI_inv (fun i acc ms' => SB a ms ms' ∧ ∃ ws : List Int, acc = ws.map .int ∧ ws.length = i ∧ ∀ w ∈ ws, 1 ≤ w ∧ w ≤ 9) ⟨.refl hS, [], rfl, rfl, by simp⟩ (fun i d acc m1 hd hP N hN => ?_) fun acc m1 hP => ?_
    · obtain ⟨hB, ws, rfl, hi, hw⟩ := hP
      have hlt : i < 11 := by
        have := (List.getElem?_eq_some_iff.mp hd).1
        unfold rngD at this
        simpa using this
      walk_at "go"
      refine dr hB.1 (by decide) (by decide) fun v m2 h1 h2 hB2 => ?_
      walk_at "go"
      refine ⟨small_len (by rw [List.length_map]; omega), hN _ _ ⟨hB.trans hB2, ws ++ [1 + v], by simp, by simp [hi], fun w hw2 => ?_⟩⟩
      rcases List.mem_append.mp hw2 with h | h
      · exact hw w h
      · rw [List.mem_singleton.mp h]; omega
    obtain ⟨hB, ws, rfl, hi, hw⟩ := hP
    have hi : ws.length = 11 := by rw [hi]; unfold rngD; simp
    walk_at "go"
    rw [show rngD 0 (11 : Int).toNat = (List.range 11).map fun i : Nat => D.int i from rngD0 11]
    refine lcI_map (f := fun i : Nat => dPar T.CP ⟨none, 10 + i, ws.getD i 0⟩) (small_len (by simp)) (fun i hil acc N hz hN => ?_) ?_
    · have hil := List.mem_range.mp hil
      have hi2 : i < ws.length := by omega
      have hwi := hw _ (List.getElem_mem hi2)
      have hgd : ws.getD i 0 = ws[i] := by simp [hi2]
      rw [hgd] at hN
      walk_at "go"
      refine s_ix rfl (d := .int ws[i]) (atI_nat (by rw [List.getElem?_map, List.getElem?_eq_getElem hi2]; rfl)) ?_
      walk_at "go"
      intro p hp
      refine mk_par hwi.1 (by omega) ?_
      rw [md_mu hp]
      exact ⟨hz, hN⟩
    have em : ((List.range 11).map fun i : Nat => dPar T.CP ⟨none, 10 + i, ws.getD i 0⟩) = (manyP ws).map (dPar T.CP) := by
      apply List.ext_getElem?
      intro i
      rw [List.getElem?_map, List.getElem?_map]
      by_cases h : i < 11
      · rw [List.getElem?_range h, many_at (by omega)]
        have : ws.getD i 0 = ws[i]'(by omega) := by simp [show i < ws.length by omega]
        show some (dPar T.CP ⟨none, 10 + (i : Int), ws.getD i 0⟩) = some (dPar T.CP ⟨none, 10 + (i : Int), ws[i]'(by omega)⟩)
        rw [this]
      · rw [List.getElem?_eq_none (by simp; omega), List.getElem?_eq_none (by rw [many_len]; omega)]; rfl
    rw [em]
    have hml : ((manyP ws).map (dPar T.CP)).length = 11 := by rw [List.length_map, many_len, hi]
    have hw1 : ∀ w ∈ ws, 1 ≤ w := fun w h => (hw w h).1
    have hcut : ∀ n : Nat, cutD ((manyP ws).map (dPar T.CP)) none (some (n : Int)) = ((manyP ws).take n).map (dPar T.CP) := fun n => by rw [cutD_take, List.map_take]
    have c2 : cutD ((manyP ws).map (dPar T.CP)) none (some 2) = ((manyP ws).take 2).map (dPar T.CP) := hcut 2
    have c6 : cutD ((manyP ws).map (dPar T.CP)) none (some 6) = ((manyP ws).take 6).map (dPar T.CP) := hcut 6
    have c10 : cutD ((manyP ws).map (dPar T.CP)) none (some 10) = ((manyP ws).take 10).map (dPar T.CP) := hcut 10
    have l2 : (((manyP ws).take 2).map (dPar T.CP)).length = 2 := by rw [List.length_map, List.length_take, many_len]; omega
    have l6 : ((manyP ws).take 6).length = 6 := by rw [List.length_take, many_len]; omega
    have l10 : ((manyP ws).take 10).length = 10 := by rw [List.length_take, many_len]; omega
    walk_at "go"
    refine ⟨_, [1, 2, 3, 4, 5, 6, 7, 8, 9], goals, rfl, by omega, by simp, by omega, .inl ⟨by omega, ?_⟩⟩
    walk_at "go"
    refine s_neS (fit_ms "many" 10 ok_txt.2.2.1 63) ?_
    walk_at "go"
    refine ⟨_, [1, 2, 3, 4, 5, 6, 7, 8, 9], goals, rfl, by omega, by simp, by omega, .inl ⟨by omega, ?_⟩⟩
    walk_at "go"
    refine s_neS (fit_ms "many" 10 ok_txt.2.2.1 63) ?_
    walk_at "go"
    rw [c2]
    refine ⟨_, [1, 2, 3, 4, 5, 6, 7, 8, 9], goals, rfl, by omega, by simp, by omega, .inr (.inl ⟨by omega, by simp, ?_⟩)⟩
    walk_at "go"
    refine s_neS (fit_ms "many" 8 ok_txt.2.2.1 63) ?_
    walk_at "go"
    rw [c2]
    refine ⟨_, [1, 2, 3, 4, 5, 6, 7, 8, 9], goals, rfl, by omega, by simp, by omega, .inr (.inl ⟨by omega, by simp, ?_⟩)⟩
    walk_at "go"
    refine s_neS (fit_ms "many" 8 ok_txt.2.2.1 63) ?_
    walk_at "go"
    refine ⟨_, 3, [12], [], .non, rfl, .inl ⟨rfl, rfl⟩, by omega, by simp, .inl ⟨by omega, ?_⟩⟩
    walk_at "go"
    refine s_neS (fit_ms "many" 10 ok_txt.2.2.1 63) ?_
    walk_at "go"
    refine dr hB.1 (by decide) (by decide) fun v m2 h1 h2 hB2 => ?_
    walk_at "up"
    have h57 : ∀ j : Nat, j < 11 → ∃ wj, ws[j]? = some wj ∧ atI (ws.map D.int) (j : Int) = some (.int wj) ∧ 1 ≤ wj ∧ ∀ n, j < n → wOf ((manyP ws).take n) j = wj := fun j hj => by
      have hj2 : j < ws.length := by omega
      exact ⟨ws[j], List.getElem?_eq_getElem hj2, atI_nat (by rw [List.getElem?_map, List.getElem?_eq_getElem hj2]; rfl), hw1 _ (List.getElem_mem hj2), fun n hn => many_w hn hj2⟩
    obtain ⟨w5, _, a5, _, e5⟩ := h57 5 (by decide)
    obtain ⟨w7, _, a7, p7, e7⟩ := h57 7 (by decide)
    obtain ⟨w2, _, a2, p2, e2⟩ := h57 2 (by decide)
    have a5 : atI (ws.map D.int) 5 = some (.int w5) := a5
    have a7 : atI (ws.map D.int) 7 = some (.int w7) := a7
    have a2 : atI (ws.map D.int) 2 = some (.int w2) := a2
    have hF10 := many_free hw1 10
    have hbest : bestL ((manyP ws).take 10) [] 3 [17, 12] = some (if w7 < w2 then (w7, 1, [7]) else (w2, 1, [2])) := by
      have := hF10.to2 (free := []) (s := 3) (i := 7) (j := 2) (by omega) (by omega) (by decide)
      rw [val1, val1] at this
      have k7 : cost ((manyP ws).take 10) [] 7 = w7 := e7 10 (by decide)
      have k2 : cost ((manyP ws).take 10) [] 2 = w2 := e2 10 (by decide)
      rw [k7, k2] at this
      refine Eq.trans this ?_
      congr 1
      unfold labB
      dsimp only
      by_cases h : w7 = w2
      · subst h
        simp [R76.ltL]
      · by_cases h2 : w7 < w2
        · simp [h, h2]
        · simp [h, h2]
    have hdue : ∀ j : Nat, dDp 6 (.tup [.str "row", nT [j]]) := fun j => dDp_tup (by simp) fun e he => by
      simp only [List.mem_cons, List.not_mem_nil, or_false] at he
      rcases he with rfl | rfl
      · exact dDp_str
      · exact dDp_nT (by simp)
    have hfit : ∀ j : Nat, (D.tup [.str "row", nT [j]]).fit 10 = true := fun j => R76.fit_tup (n := 9) fun d hd => by
      simp only [List.mem_cons, List.not_mem_nil, or_false] at hd
      rcases hd with rfl | rfl
      · simp only [D.fit]; exact ok_txt.2.1
      · exact fit_nT _ 8
    have hB2 := hB.trans hB2
    refine s_ite (fun e => ?_) (fun e => ?_)
    walk_at "up"
    rw [c6]
    refine ⟨(manyP ws).take 6, by rw [e5 6 (by decide)]; rfl, many_free hw1 6, l6, ?_⟩
    walk_at "up"
    refine s_iteF rfl ?_
    all_goals
      walk_at "go"
      refine s_ite (fun e => ?_) (fun e => ?_)
      · have e := of_decide_eq_true e
        rw [if_pos e] at hbest
        walk_at "go"
        rw [c10]
        refine ⟨_, 3, [17, 12], [], .non, rfl, .inl ⟨rfl, rfl⟩, by rw [List.length_map]; omega, by simp, outR_due (by omega) hF10.pos ?_⟩
        unfold dueD
        rw [hbest]
        refine ⟨_, rfl, hdue 7, ?_⟩
        walk_at "go"
        refine ⟨_, rfl, hdue 7, ?_⟩
        refine s_eqP (fit_mono30 (hfit 7)) ?_
        exact Out.here (q _ hB2)
      · have e := of_decide_eq_false e
        rw [if_neg e] at hbest
        walk_at "go"
        rw [c10]
        refine ⟨_, 3, [17, 12], [], .non, rfl, .inl ⟨rfl, rfl⟩, by rw [List.length_map]; omega, by simp, outR_due (by omega) hF10.pos ?_⟩
        unfold dueD
        rw [hbest]
        refine ⟨_, rfl, hdue 2, ?_⟩
        walk_at "go"
        refine ⟨_, rfl, hdue 2, ?_⟩
        refine s_eqP (fit_mono30 (hfit 2)) ?_
        exact Out.here (q _ hB2)
end
end R77

/-! ## K77zd -/
set_option Elab.async false
set_option linter.all false
set_option maxRecDepth 100000
set_option maxHeartbeats 4000000
namespace R77
open PySem PySem.Spec PyProof.Rows L2 AL
open Evl (Ex)
open R76 (topS u1 u64 u65 u80 SrcAt SB R_draw R_source plainD)
local macro_rules | `(tactic| walk_at "st") => `(tactic| first
  | (with_reducible refine' s_seq ?_) | (with_reducible refine' s_set ?_) | (with_reducible refine' s_nx ?_) | (with_reducible refine' s_ret ?_) | (with_reducible refine' s_drop ?_) | (with_reducible refine' s_asg ?_) | (with_reducible refine' s_for ?_) | (with_reducible refine' s_tt ?_) | (with_reducible refine' s_ff ?_) | (with_reducible refine' s_lcS ?_) | (with_reducible refine' s_put ?_) | (with_reducible refine' s_app ?_) | (with_reducible refine' s_ext ?_)
  | (with_reducible refine' s_gN ?_) | ((with_reducible refine' s_v ?e ?_); (case e => rfl)) | (with_reducible refine' s_asB ?_) | (with_reducible refine' s_asI ?_) | (with_reducible refine' s_asD ?_) | (with_reducible refine' s_nil ?_) | (with_reducible refine' s_cons ?_)
  | (with_reducible refine' s_addI ?_) | (with_reducible refine' s_I0 ?_) | (with_reducible refine' s_neg ?_) | (with_reducible refine' s_eqI ?_) | (with_reducible refine' s_eqS ?_) | (with_reducible refine' s_ltI ?_) | (with_reducible refine' s_isN ?_) | (with_reducible refine' s_int ?_) | (with_reducible refine' s_abs ?_)
  | ((with_reducible refine' s_len ?e ?_); (case e => first | rfl | exact seqOf_m (by assumption) | exact seqOf_m mu_same))
  | ((with_reducible refine' s_ix ?e ?e2 ?_); (case e => first | rfl | exact seqOf_m (by assumption) | exact seqOf_m mu_same); (case e2 => first | rfl | assumption | exact atI_nat (j := 0) rfl | exact atI_nat (j := 1) rfl | exact atI_nat (j := 2) rfl | exact atI_nat (j := 3) rfl))
  | ((with_reducible refine' s_putL ?e ?e2 ?_); (case e => first | assumption | exact mu_same); (case e2 => first | rfl | assumption))
  | ((with_reducible refine' s_oL ?e ?_); (case e => first | assumption | exact mu_same))
  | ((with_reducible refine' s_dat ?e ?_); (case e => rfl)) | ((with_reducible refine' s_rng ?e ?_); (case e => exact ⟨by omega, by omega⟩))
  | ((with_reducible refine' s_I ?c ?_); (case c => first | assumption | exact ⟨by omega, by omega⟩ | exact ⟨by decide, by decide, by decide⟩ | exact Or.inl ⟨by omega, by omega⟩ | exact Or.inr ⟨by omega, by omega⟩ | (show (0 : Int) < _; omega) | (show (0 : Int) ≤ _; omega)))
  | (with_reducible refine' s_slT ?_) | (with_reducible refine' s_slL ?_) | (with_reducible refine' s_gC ?_) | ((with_reducible refine' s_gT ?e ?_); (case e => rfl))
  | ((with_reducible refine' s_tup ?e ?_); (case e => first | rfl | exact seqOf_m (by assumption) | exact seqOf_m mu_same))
  | ((with_reducible refine' s_list ?e ?_); (case e => first | rfl | exact seqOf_m (by assumption) | exact seqOf_m mu_same))
  | ((with_reducible refine' s_isi ?e ?e2 ?_); (case e => rfl); (case e2 => rfl))
  | (with_reducible refine' s_max ?_)
  | ((with_reducible refine' And.intro ?r ?_); (case r => with_reducible rfl)))
local macro_rules | `(tactic| walk_at "one") => `(tactic| first | (with_reducible refine' s_if ?_) | walk_at "st")
local macro_rules | `(tactic| walk_at "up") => `(tactic| repeat walk_at "st")
local macro_rules | `(tactic| walk_at "go") => `(tactic| repeat walk_at "one")
local macro_rules | `(tactic| walk_at "all") => `(tactic| repeat' (first | walk_at "one" | (refine s_ite (fun _ => ?_) (fun _ => ?_))))

local macro_rules | `(tactic| walk_at "tg") => `(tactic| repeat (first | (with_reducible refine' s_gC ?_) | ((with_reducible refine' s_gT ?e ?_); (case e => rfl)) | (with_reducible refine' s_gN ?_) | ((with_reducible refine' And.intro ?r ?_); (case r => with_reducible rfl))))
theorem fit_rowD (p : Par) (n : Nat) : (rowD p).fit (n + 1) = true := R76.fit_tup fun d hd => by
  simp only [List.mem_cons, List.not_mem_nil, or_false] at hd
  rcases hd with rfl | rfl | rfl
  · exact fit_oD _ _
  · simp [D.fit]
  · simp [D.fit]
theorem dDp_rowD {n : Nat} {p : Par} : dDp (n + 1) (rowD p) := dDp_tup (by simp) fun e he => by
  simp only [List.mem_cons, List.not_mem_nil, or_false] at he
  rcases he with rfl | rfl | rfl
  · exact dDp_oD
  · exact dDp_int
  · exact dDp_int
theorem tabT_fit (ps : List Par) (starts goals : List Int) : (D.tup [.str "table", tabD ps starts goals]).fit 10 = true := R76.fit_tup (n := 9) fun d hd => by
  simp only [List.mem_cons, List.not_mem_nil, or_false] at hd
  rcases hd with rfl | rfl
  · simp only [D.fit]; exact ok_txt.2.2.2.1
  · exact R76.fit_lst (n := 8) fun e he => by
      obtain ⟨o, _, rfl⟩ := List.mem_map.mp he
      exact fit_oD _ _
theorem tabT_dp {ps : List Par} {starts goals : List Int} (hn : ps.length ≤ 10) : dDp 6 (D.tup [.str "table", tabD ps starts goals]) := dDp_tup (by simp) fun e he => by
  simp only [List.mem_cons, List.not_mem_nil, or_false] at he
  rcases he with rfl | rfl
  · exact dDp_str
  · exact dDp_lst (by rw [List.length_map, tab_len]; exact Nat.le_trans (pow10 hn) (by decide)) fun e he => by
      obtain ⟨o, _, rfl⟩ := List.mem_map.mp he
      exact dDp_oD
section
variable {P : Program} {w : World} {K : PySem.W.Frag} {mg : Str → Option Value} {base : Heap}
abbrev s_law : Stmt := (topS 43)
theorem sc_law : FnScope ["script", "source", "rows", "starts", "goals", "parcels", "row", "ways", "start", "table", "k", "kept", "parcel"] ["script"] (defScope s_law) := ⟨rfl, rfl, rfl, by decide +kernel, rfl, by decide +kernel, by decide +kernel⟩

def R_law (K : PySem.W.Frag) : AFn := fun sds ms k _ => ∃ (ns : List Int) (sd : SD), sds = [sd] ∧ Scr K sd ns ∧ ns.length ≤ 63 ∧ ∀ ms', k (.d (.bl true)) ms'
theorem ok_law (T : TopE K mg) (G_law_source : FnA P w K mg base CX0 1 "_law_source" (R_source K)) (G_law_world : FnA P w K mg base CX0 4 "_law_world" R_world) (GC_Parcel : MkA P w K mg base CX0 2 "Parcel" T.CP (R_parcel T.CP)) (G_law_ways : FnA P w K mg base CX0 1 "_law_ways" R_ways)
    (G_law_price : FnA P w K mg base CX0 2 "_law_price" R_lprice) (G_law_numbers : FnA P w K mg base CX0 1 "_law_numbers" R_nums) (G_law_table : FnA P w K mg base CX0 5 "_law_table" (R_ltable T.CP)) (G_law_plans : FnA P w K mg base CX0 9 "_law_plans" (R_plans T.CP))
    (G_law_single : FnA P w K mg base CX0 8 "_law_single" (R_single T.CP)) (G_law_refuses : FnA P w K mg base CX0 9 "_law_refuses" R_refuses) (G_law_equals : FnA P w K mg base CX0 9 "_law_equals" R_true) (G_law_plain : FnA P w K mg base CX0 7 "_law_plain" (R_plain 6))
    {f : Addr} {fd : FuncData} (F : Fun K "law" "law" s_law f fd) : FnOk P w K mg base CX0 10 f fd ["script"] (spA (R_law K)) := by
  refine fnA F sc_law (fun sds ms k x h => ?_) (by decide) fun cdv A outer s H E hr => ⟨_, _, (ass_cons (as_set 1 sc_law.nd (ae_call G_law_source (hr.mono (by first | decide | omega)) (fun _ => pass0At) (by rfl) (aa_cons (ae_v 0) aa_nil)))
    (ass_cons (as_asg (ae_call G_law_world (hr.mono (by first | decide | omega)) (fun _ => pass0At) (by rfl) (aa_cons (ae_v 1) aa_nil)) (ag_tup rfl (ags_cons (ag_name 2 sc_law.nd) (ags_cons (ag_name 3 sc_law.nd) (ags_cons (ag_name 4 sc_law.nd) ags_nil)))))
    (ass_cons (as_setLc 5 (own := [("row", 6)]) rfl sc_law.nd (ai_seq (ae_v 2)) (blkOk_by (own := [("row", 6)]) (N := ["script", "source", "rows", "starts", "goals", "parcels", "row", "ways", "start", "table", "k", "kept", "parcel"]) (sc := defScope s_law) (by decide +kernel)) (by decide) (fun _ _ _ _ _ => (ag_name 6 sc_law.nd)) (fun _ _ _ _ _ => ats_nil) (fun _ _ _ _ _ => (ae_make GC_Parcel (hr.mono (by first | decide | omega)) (by rfl) (aa_cons (ae_ixK (K := K) rfl (u1 hr) (ae_v 6) ae_int) (aa_cons (ae_ixK (K := K) rfl (u1 hr) (ae_v 6) ae_int) (aa_cons (ae_ixK (K := K) rfl (u1 hr) (ae_v 6) ae_int) aa_nil))))) (sw_true rfl rfl rfl (by decide +kernel)))
    (ass_cons (as_set 7 sc_law.nd ae_dictK)
    (ass_cons (as_for PassesOwn.never rfl (ai_seq (ae_v 3)) (ag_name 8 sc_law.nd)
      (ass_one (as_if (at_cmp (op_ninA (u65 hr)) oa_nin (ae_v 8) (ae_v 7) (by rfl)) (ass_one (as_put (u1 hr) (ae_v 7) (ae_v 8) (ae_call G_law_ways (hr.mono (by first | decide | omega)) (fun _ => pass0At) (by rfl) (aa_cons (ae_v 2) (aa_cons (ae_v 8) (aa_cons (ae_v 4) aa_nil)))))) ass_nil)))
    (ass_cons (as_setLc 9 (own := [("k", 10)]) rfl sc_law.nd (ai_range1 (by rfl) T.range (ae_bin op_shl oa_shl ae_int (ae_callB call_len oa_len (by rfl) T.len (by decide +kernel) (aa_cons (ae_v 2) aa_nil)))) (blkOk_by (own := [("k", 10)]) (N := ["script", "source", "rows", "starts", "goals", "parcels", "row", "ways", "start", "table", "k", "kept", "parcel"]) (sc := defScope s_law) (by decide +kernel)) (by decide) (fun _ _ _ _ _ => (ag_name 10 sc_law.nd)) (fun _ _ _ _ _ => ats_nil) (fun _ _ _ _ _ => (ae_call G_law_price (hr.mono (by first | decide | omega)) (fun _ => pass0At) (by rfl) (aa_cons (ae_v 2) (aa_cons (ae_v 7) (aa_cons (ae_v 3) (aa_cons (ae_call G_law_numbers (hr.mono (by first | decide | omega)) (fun _ => pass0At) (by rfl) (aa_cons (ae_v 10) (aa_cons (ae_callB (callK_len (K := K) rfl) oa_len (by rfl) T.len (by decide +kernel) (aa_cons (ae_v 2) aa_nil)) aa_nil))) aa_nil)))))) (sw_true rfl rfl rfl (by decide +kernel)))
    (ass_cons (as_if (at_cmp (op_neA (u64 hr)) oa_ne (ae_call G_law_plain (hr.mono (by first | decide | omega)) (fun _ => pass0At) (by rfl) (aa_cons (ae_call G_law_table (hr.mono (by first | decide | omega)) (fun _ => pass0At) (by rfl) (aa_cons (ae_v 5) (aa_cons (ae_v 3) (aa_cons (ae_v 4) aa_nil)))) aa_nil)) (ae_call G_law_plain (hr.mono (by first | decide | omega)) (fun _ => pass0At) (by rfl) (aa_cons (ae_tup (aa_cons ae_str (aa_cons (ae_v 9) aa_nil))) aa_nil)) (nomark _)) (ass_one (as_ret ae_bl)) ass_nil)
    (ass_cons (as_if (at_not (at_val (ae_call G_law_plans (hr.mono (by first | decide | omega)) (fun _ => pass0At) (by rfl) (aa_cons (ae_v 5) (aa_cons (ae_v 2) (aa_cons (ae_v 7) (aa_cons (ae_v 3) (aa_cons (ae_v 4) (aa_cons (ae_v 9) aa_nil))))))))) (ass_one (as_ret ae_bl)) ass_nil)
    (ass_cons (as_if (AW.at (aw_and (at_cmp op_gt oa_gt (ae_callB call_len oa_len (by rfl) T.len (by decide +kernel) (aa_cons (ae_v 3) aa_nil)) ae_int (nomark _)) (aw_and1 (at_not (at_val (ae_call G_law_single (hr.mono (by first | decide | omega)) (fun _ => pass0At) (by rfl) (aa_cons (ae_v 1) (aa_cons (ae_v 5) (aa_cons (ae_v 2) (aa_cons (ae_v 7) (aa_cons (ae_v 3) (aa_cons (ae_v 4) aa_nil)))))))))))) (ass_one (as_ret ae_bl)) ass_nil)
    (ass_cons (as_setLc 11 (own := [("parcel", 12)]) rfl sc_law.nd (ai_seq (ae_v 5)) (blkOk_by (own := [("parcel", 12)]) (N := ["script", "source", "rows", "starts", "goals", "parcels", "row", "ways", "start", "table", "k", "kept", "parcel"]) (sc := defScope s_law) (by decide +kernel)) (by decide) (fun _ _ _ _ _ => (ag_name 12 sc_law.nd)) (fun _ _ _ _ _ => ats_nil) (fun _ _ _ _ _ => (ae_tup (aa_cons (ae_fldK (K := K) rfl T.cls_Parcel T.na_base (ae_v 12)) (aa_cons (ae_fldK (K := K) rfl T.cls_Parcel T.na_result (ae_v 12)) (aa_cons (ae_fldK (K := K) rfl T.cls_Parcel T.na_words (ae_v 12)) aa_nil))))) (sw_true rfl rfl rfl (by decide +kernel)))
    (ass_one (as_ret (ae_and (ae_cmp (op_eqA (u64 hr)) oa_eq (ae_call G_law_plain (hr.mono (by first | decide | omega)) (fun _ => pass0At) (by rfl) (aa_cons (ae_v 11) aa_nil)) (ae_call G_law_plain (hr.mono (by first | decide | omega)) (fun _ => pass0At) (by rfl) (aa_cons (ae_v 2) aa_nil)) (nomark _)) (ae_and (ae_call G_law_refuses (hr.mono (by first | decide | omega)) (fun _ => pass0At) (by rfl) (aa_cons (ae_v 1) (aa_cons (ae_v 4) aa_nil))) (ae_one (ae_call G_law_equals (hr.mono (by first | decide | omega)) (fun _ => pass0At) (by rfl) (aa_cons (ae_v 1) aa_nil))))))))))))))))), fun sds ms k x h => ?_⟩
  · obtain ⟨a, b, rfl, _⟩ := h; rfl
  · obtain ⟨ns, sd, rfl, hsc, hns, q⟩ := h
    dsimp only [gam]
    walk_at "go"
    refine ⟨ns, sd, rfl, hsc, hns, fun a l ha hl => ?_⟩
    have hS : SrcAt (mu ms a (.l l)) a := ⟨l, mu_same, hl⟩
    walk_at "go"
    refine ⟨a, rfl, hS, fun ps starts goals m1 hW hB => ?_⟩
    have hn := hW.n
    have h8 := hW.st
    have hg := hW.g
    have hz := pow10 hn
    have hp := pos_of hW.w
    unfold worldD
    walk_at "go"
    refine lcI_map (f := dPar T.CP) (small_len (by omega)) (fun pt hpt acc N hz2 hN => ?_) ?_
    · have hwd := hW.w pt hpt
      walk_at "go"
      intro p hpn
      refine mk_par hwd.1 hwd.2 ?_
      rw [md_mu hpn]
      exact ⟨hz2, hN⟩
    walk_at "go"
    intro pw hpw
    have hS1 := hB.1
    have hpa : pw ≠ a := fun e => by
      subst e
      obtain ⟨_, h, _⟩ := hS1
      rw [hpw] at h; cases h
    walk_at "go"
    refine forR_inv (fun i Γ ms' => (∃ kvs : KvI, ms' = mu m1 pw (.k kvs) ∧ kvs.length ≤ i ∧ ∀ s, valD kvs (kI s) = if s ∈ starts.take i then some (waysD ps s goals) else none) ∧
      ∃ g6 g8, Γ = [some sd, some (.v (.ref a)), some (.d (rowsL ps)), some (.d (iT starts)), some (.d (iT goals)), some (.d (parsD T.CP ps)), g6, some (.v (.ref pw)), g8, none, none, none, none]) ⟨⟨[], rfl, Nat.le_refl _, fun s => by simp [valD]⟩, _, _, rfl⟩ (fun i d Γ m2 hd hP N hN => ?_) fun Γ m2 hP => ?_
    · obtain ⟨⟨kvs, rfl, hkl, hkv⟩, g6, g8, rfl⟩ := hP
      rw [List.getElem?_map] at hd
      cases hs1 : starts[i]? with
      | none => rw [hs1] at hd; cases hd
      | some s1 =>
      rw [hs1] at hd
      cases hd
      have hil : i < starts.length := (List.getElem?_eq_some_iff.mp hs1).1
      have et : starts.take (i + 1) = starts.take i ++ [s1] := by rw [List.take_add_one, hs1]; rfl
      walk_at "go"
      refine s_inK mu_same ?_
      walk_at "go"
      rw [hkv]
      by_cases hin : s1 ∈ starts.take i
      · rw [if_pos hin]
        refine s_iteF rfl ?_
        walk_at "go"
        refine hN _ _ ⟨⟨kvs, rfl, by omega, fun s => ?_⟩, _, _, rfl⟩
        rw [hkv, et]
        by_cases hs2 : s ∈ starts.take i
        · rw [if_pos hs2, if_pos (List.mem_append_left _ hs2)]
        · rw [if_neg hs2, if_neg]
          intro h
          rcases List.mem_append.mp h with h | h
          · exact hs2 h
          · rw [List.mem_singleton.mp h] at hs2; exact hs2 hin
      · rw [if_neg hin]
        refine s_iteT rfl ?_
        walk_at "go"
        refine ⟨ps, s1, goals, rfl, hn, fun s hs => hW.ln s1 s hs, ?_⟩
        walk_at "go"
        refine s_putK mu_same (Nat.lt_of_le_of_lt hkl (Nat.lt_of_lt_of_le (show _ < 1000 by omega) (by decide))) ?_
        rw [mu_mu]
        refine hN _ _ ⟨⟨_, rfl, Nat.le_trans (len_putD _ _ _) (by omega), fun s => ?_⟩, _, _, rfl⟩
        rw [val_putD, hkv, et]
        by_cases e : s1 = s
        · subst e
          rw [if_pos rfl, if_pos (List.mem_append_right _ (List.mem_singleton.mpr rfl))]
        · rw [if_neg (show ¬ (kI s1 = kI s) from fun h => e (Sum.inl.inj h))]
          by_cases hs2 : s ∈ starts.take i
          · rw [if_pos hs2, if_pos (List.mem_append_left _ hs2)]
          · rw [if_neg hs2, if_neg]
            intro h
            rcases List.mem_append.mp h with h | h
            · exact hs2 h
            · exact e (List.mem_singleton.mp h).symm
    obtain ⟨⟨kvs, rfl, hkl, hkv⟩, g6, g8, rfl⟩ := hP
    rw [List.length_map, List.take_length] at hkv
    have hWays : WaysOk (mu m1 pw (.k kvs)) pw ps starts goals := ⟨kvs, mu_same, fun s hs => by rw [hkv, if_pos hs]⟩
    have hS2 : SrcAt (mu m1 pw (.k kvs)) a := by rw [SrcAt, mu_ne hpa.symm]; exact hS1
    generalize mu m1 pw (.k kvs) = m2 at *
    walk_at "go"
    unfold rowsL
    walk_at "go"
    rw [List.length_map]
    refine s_I (cpow1 hn) ?_
    rw [shl1]
    refine s_asI ?_
    refine s_rng (rngOk (Nat.le_trans hz (by decide))) ?_
    rw [Int.toNat_natCast, rngD0]
    refine lcI_map (f := fun c : Nat => oD (priceP ps starts goals (numsP c ps.length))) (z2000 (by rw [List.length_range]; exact Nat.le_trans hz (by decide))) (fun c hc acc N hz3 hN => ?_) ?_
    · walk_at "go"
      rw [List.length_map]
      refine ⟨c, ps.length, rfl, by omega, ?_⟩
      walk_at "go"
      refine ⟨ps, pw, starts, goals, numsP c ps.length, rfl, hn, by omega, Nat.le_trans (nums_len _ _) (by omega), fun i hi => nums_lt hi, hWays, ?_⟩
      walk_at "go"
      exact ⟨hz3, hN⟩
    rw [show D.lst ((List.range (2 ^ ps.length)).map fun c : Nat => oD (priceP ps starts goals (numsP c ps.length))) = tabD ps starts goals by unfold tabD tabP; rw [List.map_map]; rfl]
    walk_at "go"
    refine ⟨_, starts, goals, rfl, by rw [dPar_len]; omega, by omega, by omega, .inr (.inr ⟨ps, rfl, hn, hp, h8, ?_⟩)⟩
    refine ⟨_, rfl, tabT_dp hn, ?_⟩
    walk_at "go"
    refine ⟨_, rfl, tabT_dp hn, ?_⟩
    refine s_neP (fit_mono30 (tabT_fit _ _ _)) ?_
    walk_at "go"
    have hwl : ∀ s ∈ starts, (waysP ps s goals).length ≤ 1000000 := fun s _ => by
      have h1 := found_len (goals := goals) (start := s) (fun t ht => hW.ln s t ht) (ps.length + 1) (by omega)
      have h2 : foundP ps s goals (ps.length + 1) = waysP ps s goals := rfl
      rw [h2] at h1
      have h3 : (ps.length + 1) * 20000 ≤ 11 * 20000 := Nat.mul_le_mul (by omega) (Nat.le_refl _)
      omega
    refine ⟨ps, pw, starts, goals, rfl, hn, hp, h8, by omega, hwl, hWays, ?_⟩
    walk_at "go"
    refine s_iteF rfl ?_
    walk_at "up"
    refine s_ifN (fun b m => b = false ∧ SrcAt m a) (fun K1 hK => ?_) (fun m3 h => by cases h.1) (fun m3 h => ?_)
    · walk_at "go"
      rw [List.length_map]
      refine s_ite (fun e => ?_) (fun e => ?_)
      · have hpos : 0 < starts.length := by have := of_decide_eq_true e; omega
        walk_at "go"
        refine ⟨a, ps, pw, starts, goals, rfl, hn, hp, hpos, h8, by omega, hS2, hWays, fun m3 hB3 => ?_⟩
        walk_at "go"
        exact hK _ _ ⟨rfl, hB3.1⟩
      · exact hK _ _ ⟨rfl, hS2⟩
    have hS3 := h.2
    walk_at "go"
    refine lcI_map (enc := dPar T.CP) (f := rowD) (xs := ps) (small_len (by omega)) (fun pt hpt acc N hz3 hN => ?_) ?_
    · walk_at "go"
      refine s_fldP rfl ?_
      walk_at "go"
      refine s_fldP rfl ?_
      walk_at "go"
      refine s_fldP rfl ?_
      walk_at "go"
      exact ⟨hz3, hN⟩
    have hd : dDp 6 (.lst (ps.map rowD)) := dDp_lst (by rw [List.length_map]; omega) fun e he => by
      obtain ⟨pt, _, rfl⟩ := List.mem_map.mp he
      exact dDp_rowD
    have hf : (D.lst (ps.map rowD)).fit 10 = true := R76.fit_lst (n := 9) fun e he => by
      obtain ⟨pt, _, rfl⟩ := List.mem_map.mp he
      exact fit_rowD pt 8
    walk_at "go"
    refine ⟨_, rfl, hd, ?_⟩
    walk_at "go"
    refine ⟨_, rfl, hd, ?_⟩
    refine s_eqP (fit_mono30 hf) ?_
    walk_at "go"
    refine ⟨a, goals, rfl, hg, hS3, fun m4 hB4 => ?_⟩
    walk_at "go"
    refine ⟨a, rfl, hB4.1, fun m5 hB5 => ?_⟩
    walk_at "go"
    exact Out.here (q _)
end
end R77

/-! ## K77ze -/
set_option Elab.async false
set_option linter.all false
set_option maxRecDepth 100000
set_option maxHeartbeats 4000000
namespace AL
open PySem PySem.Spec PyProof.Rows L2
open Evl (Ex)
section
variable {P : Program} {w : World} {K : PySem.W.Frag} {mg : Str → Option Value} {base : Heap} {CX : CXT} {k : Nat} {x : Str} {f : Addr} {fd : FuncData} {ps : List Str} {R R' : AFn}
theorem FnA.of (hm : mg x = some (.ref f)) (F : FnOk P w K mg base CX k f fd ps (spA R)) (hb : Binds K fd ps []) (hk : PySem.W.keepIn K (.ref f) = true) : FnA P w K mg base CX k x R := ⟨⟨f, hm, AL.FnOk.toR F hb, hk⟩⟩
theorem spA_imp (h : ∀ sds ms kk xx, R' sds ms kk xx → R sds ms kk xx) {vs : List V} {H : Hp} {Q : VK} {E : XK} (s : spA R' vs H Q E) : spA R vs H Q E := by
  obtain ⟨sds, G, F, ms, kk, xx, a, b, c, d, e⟩ := s
  exact ⟨sds, G, F, ms, kk, xx, a, b, h _ _ _ _ c, d, e⟩
theorem FnA.weak (F : FnA P w K mg base CX k x R) (h : ∀ sds ms kk xx, R' sds ms kk xx → R sds ms kk xx) : FnA P w K mg base CX k x R' := by
  obtain ⟨f, h1, h2, h3⟩ := F.ex
  exact ⟨⟨f, h1, h2.imp fun vs H Q E s => spA_imp h s, h3⟩⟩
theorem exm_of {K : PySem.W.Frag} {S C : Addr} {b : Bool} (h1 : PySem.W.subIn K (.ref S) (.type "BaseException") = some true) (h2 : PySem.W.isClsIn K S = true) (h3 : PySem.W.typeIn K (.ref S) = some (.type "type")) (h4 : PySem.W.subIn K (.ref C) (.ref S) = some b) :
    PySem.W.exmOne K (.ref C) (.ref S) = some b := by
  have e1 : (PySem.W.subIn K (.ref S) (.type "BaseException") == some true) = true := by rw [h1] <;> rfl
  have e2 : ((PySem.W.clsIn K S).isSome && PySem.W.typeIn K (.ref S) == some (.type "type")) = true := by
    have h2' : (PySem.W.clsIn K S).isSome = true := h2
    rw [h2', h3] <;> rfl
  show (if (PySem.W.subIn K (.ref S) (.type "BaseException") == some true) = true then (if ((PySem.W.clsIn K S).isSome && PySem.W.typeIn K (.ref S) == some (.type "type")) = true then PySem.W.subIn K (.ref C) (.ref S) else none) else none) = some b
  rw [if_pos e1, if_pos e2]
  exact h4
/-- the script, as the law's head hands it over -/
theorem scr_sp {K : PySem.W.Frag} {R : AFn} {n : Nat} {H : Hp} {a : Addr} {ns : List Int} (hl : ns.length ≤ n) (hO : Only H) (hS : SqL K H a (ns.map V.int))
    (h : ∀ sd, Scr K sd ns → ns.length ≤ n → R [sd] (fun _ => none) (fun sd' _ => sd' = .d (.bl true)) (fun _ _ _ _ => False)) : spA R [.ref a] H (fun v _ => v = .bl true) fun _ _ _ => False := by
  have good : Good H H (fun _ => none) (fun _ => none) := ⟨Ex.refl H, fun _ _ e => (by cases e), fun _ _ e => (by cases e)⟩
  have kq : KE H (fun _ => none) (fun sd' _ => sd' = .d (.bl true)) (fun v _ => v = .bl true) := fun v H2 G2 sd ms2 _ _ s e => by
    subst e
    cases s; rfl
  rcases hS with (e | ⟨o, e⟩) | e
  · rcases hO a with z | ⟨o, xs, z⟩
    · rw [e] at z; cases z
    · rw [e] at z; cases z
  · exact ⟨[.d (.frl (ns.map .int))], H, fun _ => none, fun _ => none, _, _, .cons (okd (.frl e (shw_ints H ns))) .nil, good, h _ (.inl rfl) hl, kq, fun _ _ _ _ _ _ _ _ _ _ _ _ z => z⟩
  · exact ⟨[.v (.ref a)], H, fun _ => none, fun _ => none, _, _, .cons okv .nil, good, h _ (.inr ⟨a, rfl, e⟩) hl, kq, fun _ _ _ _ _ _ _ _ _ _ _ _ z => z⟩
end
end AL
namespace R77
open PySem PySem.Spec PyProof.Rows L2 AL
open Evl (Ex)
open PySem.W
open R76 (s_law_draw s_law_source R_draw R_source ok_draw ok_source)
theorem kit_self {K : PySem.W.Frag} {C : Addr} : PySem.W.kitOne K (.ref C) (.ref C) = some true := by
  unfold PySem.W.kitOne
  simp
theorem plain_all {P : Program} {w : World} {K : PySem.W.Frag} {mg : Str → Option Value} {base : Heap} (T : R76.Blt mg) {f : Addr} {fd : FuncData} (F : Fun K "_law_plain" "_law_plain" s_law_plain f fd) (hb : Binds K fd ["thing"] []) (hm : mg "_law_plain" = some (.ref f)) (hk : PySem.W.keepIn K (.ref f) = true) :
    ∀ n, FnA P w K mg base CX0 (n + 1) "_law_plain" (R_plain n)
  | 0 => by
    have z : FnA P w K mg base CX0 0 "_law_plain" (fun sds ms k x => ∃ m, 0 = m + 1 ∧ R_plain m sds ms k x) := by
      refine ⟨⟨f, hm, ?_, hk⟩⟩
      intro A outer s H us vs Q E hr e0 r hs
      obtain ⟨sds, G, F, ms, kk, xx, a, b, ⟨m, h, _⟩, d, e⟩ := hs
      cases h
    exact FnA.of hm (ok_plain0 T 0 z F) hb hk
  | n + 1 => by
    have g := plain_all (P := P) (w := w) (base := base) T F hb hm hk n
    have z : FnA P w K mg base CX0 (n + 1) "_law_plain" (fun sds ms k x => ∃ m, n + 1 = m + 1 ∧ R_plain m sds ms k x) := g.weak fun sds ms kk xx h => by
      obtain ⟨m, h, q⟩ := h
      cases h
      exact q
    exact FnA.of hm (ok_plain0 T (n + 1) z F) hb hk

theorem all_mk {P : Program} {w : World} {K : PySem.W.Frag} {h : Heap} {mg : Str → Option Value} {fa : Addr} (X : K.In h) (G : h.Ns mainGlobals mg) (hfa : mg "law" = some (.ref fa))
    {t1 t2 t3 t4 : Tok}
    {CT fT : Addr}
    {nmT qT : Str} {NT : Addr} {bsT bmT : List Value} {snT : List Str} {subT : List Value} {abT : Bool} {colT : Option Bool} {ddT : Option Addr} {m0T m1T m2T m3T m5T : Option Value} {oeT : Value} {odeT aneT : Option Addr} {sleT : Array (Option Value)} {dceT pmeT cdeT cteT : Value}
    {CN fN : Addr}
    {nmN qN : Str} {NN : Addr} {bsN bmN : List Value} {snN : List Str} {subN : List Value} {abN : Bool} {colN : Option Bool} {ddN : Option Addr} {m0N m1N m2N m3N m5N : Option Value} {oeN : Value} {odeN aneN : Option Addr} {sleN : Array (Option Value)} {dceN pmeN cdeN cteN : Value}
    {f1 : Addr} {od1 an1 : Option Addr} {sl1 : Array (Option Value)} {oc1 kV1 dc1 pm1 cd1 ct1 : Value}
    {CP : Addr}
    {f2 : Addr} {od2 an2 : Option Addr} {sl2 : Array (Option Value)} {oc2 kV2 dc2 pm2 cd2 ct2 : Value}
    {f3 : Addr} {od3 an3 : Option Addr} {sl3 : Array (Option Value)} {oc3 kV3 dc3 pm3 cd3 ct3 : Value}
    {f4 : Addr} {od4 an4 : Option Addr} {sl4 : Array (Option Value)} {oc4 kV4 dc4 pm4 cd4 ct4 : Value}
    {f5 : Addr} {od5 an5 : Option Addr} {sl5 : Array (Option Value)} {oc5 kV5 dc5 pm5 cd5 ct5 : Value}
    {TD5 TE5 : Addr} {oDc5 : Value} {oDd5 oEd5 : Option Addr} {nD5 nE5 : Nat} {slD5 slE5 : Array (Option Value)}
    {f6 : Addr} {od6 an6 : Option Addr} {sl6 : Array (Option Value)} {oc6 kV6 dc6 pm6 cd6 ct6 : Value}
    {f7 : Addr} {od7 an7 : Option Addr} {sl7 : Array (Option Value)} {oc7 kV7 dc7 pm7 cd7 ct7 : Value}
    {f8 : Addr} {od8 an8 : Option Addr} {sl8 : Array (Option Value)} {oc8 kV8 dc8 pm8 cd8 ct8 : Value}
    {CL : Addr}
    {f9 : Addr} {od9 an9 : Option Addr} {sl9 : Array (Option Value)} {oc9 kV9 dc9 pm9 cd9 ct9 : Value}
    {f10 : Addr} {od10 an10 : Option Addr} {sl10 : Array (Option Value)} {oc10 kV10 dc10 pm10 cd10 ct10 : Value}
    {f11 : Addr} {od11 an11 : Option Addr} {sl11 : Array (Option Value)} {oc11 kV11 dc11 pm11 cd11 ct11 : Value}
    {f12 : Addr} {od12 an12 : Option Addr} {sl12 : Array (Option Value)} {oc12 kV12 dc12 pm12 cd12 ct12 : Value}
    {f13 : Addr} {od13 an13 : Option Addr} {sl13 : Array (Option Value)} {oc13 kV13 dc13 pm13 cd13 ct13 : Value}
    {f14 : Addr} {od14 an14 : Option Addr} {sl14 : Array (Option Value)} {oc14 kV14 dc14 pm14 cd14 ct14 : Value}
    {f15 : Addr} {od15 an15 : Option Addr} {sl15 : Array (Option Value)} {oc15 kV15 dc15 pm15 cd15 ct15 : Value}
    {f16 : Addr} {od16 an16 : Option Addr} {sl16 : Array (Option Value)} {oc16 kV16 dc16 pm16 cd16 ct16 : Value}
    {f17 : Addr} {od17 an17 : Option Addr} {sl17 : Array (Option Value)} {oc17 kV17 dc17 pm17 cd17 ct17 : Value}
    {f18 : Addr} {od18 an18 : Option Addr} {sl18 : Array (Option Value)} {oc18 kV18 dc18 pm18 cd18 ct18 : Value}
    {f19 : Addr} {od19 an19 : Option Addr} {sl19 : Array (Option Value)} {oc19 kV19 dc19 pm19 cd19 ct19 : Value}
    {f20 : Addr} {od20 an20 : Option Addr} {sl20 : Array (Option Value)} {oc20 kV20 dc20 pm20 cd20 ct20 : Value}
    {f21 : Addr} {od21 an21 : Option Addr} {sl21 : Array (Option Value)} {oc21 kV21 dc21 pm21 cd21 ct21 : Value}
    {f22 : Addr} {od22 an22 : Option Addr} {sl22 : Array (Option Value)} {oc22 kV22 dc22 pm22 cd22 ct22 : Value}
    {f23 : Addr} {od23 an23 : Option Addr} {sl23 : Array (Option Value)} {oc23 kV23 dc23 pm23 cd23 ct23 : Value}
    {f24 : Addr} {od24 an24 : Option Addr} {sl24 : Array (Option Value)} {oc24 kV24 dc24 pm24 cd24 ct24 : Value}
    {f25 : Addr} {od25 an25 : Option Addr} {sl25 : Array (Option Value)} {oc25 kV25 dc25 pm25 cd25 ct25 : Value}
    {f26 : Addr} {od26 an26 : Option Addr} {sl26 : Array (Option Value)} {oc26 kV26 dc26 pm26 cd26 ct26 : Value}
    {f27 : Addr} {od27 an27 : Option Addr} {sl27 : Array (Option Value)} {oc27 kV27 dc27 pm27 cd27 ct27 : Value}
    {f28 : Addr} {od28 an28 : Option Addr} {sl28 : Array (Option Value)} {oc28 kV28 dc28 pm28 cd28 ct28 : Value}
    {f29 : Addr} {od29 an29 : Option Addr} {sl29 : Array (Option Value)} {oc29 kV29 dc29 pm29 cd29 ct29 : Value}
    {f30 : Addr} {od30 an30 : Option Addr} {sl30 : Array (Option Value)} {oc30 kV30 dc30 pm30 cd30 ct30 : Value}
    {f31 : Addr} {od31 an31 : Option Addr} {sl31 : Array (Option Value)} {oc31 kV31 dc31 pm31 cd31 ct31 : Value}
    {f32 : Addr} {od32 an32 : Option Addr} {sl32 : Array (Option Value)} {oc32 kV32 dc32 pm32 cd32 ct32 : Value}
    {f33 : Addr} {od33 an33 : Option Addr} {sl33 : Array (Option Value)} {oc33 kV33 dc33 pm33 cd33 ct33 : Value}
    {f34 : Addr} {od34 an34 : Option Addr} {sl34 : Array (Option Value)} {oc34 kV34 dc34 pm34 cd34 ct34 : Value}
    {f35 : Addr} {od35 an35 : Option Addr} {sl35 : Array (Option Value)} {oc35 kV35 dc35 pm35 cd35 ct35 : Value}
    {f36 : Addr} {od36 an36 : Option Addr} {sl36 : Array (Option Value)} {oc36 kV36 dc36 pm36 cd36 ct36 : Value}
    {f37 : Addr} {od37 an37 : Option Addr} {sl37 : Array (Option Value)} {oc37 kV37 dc37 pm37 cd37 ct37 : Value}
    {f38 : Addr} {od38 an38 : Option Addr} {sl38 : Array (Option Value)} {oc38 kV38 dc38 pm38 cd38 ct38 : Value}
    (b_len : PySem.W.nsIn K mainGlobals "len" = some none)
    (b_abs : PySem.W.nsIn K mainGlobals "abs" = some none)
    (b_int : PySem.W.nsIn K mainGlobals "int" = some none)
    (b_str : PySem.W.nsIn K mainGlobals "str" = some none)
    (b_tuple : PySem.W.nsIn K mainGlobals "tuple" = some none)
    (b_list : PySem.W.nsIn K mainGlobals "list" = some none)
    (b_bool : PySem.W.nsIn K mainGlobals "bool" = some none)
    (b_sorted : PySem.W.nsIn K mainGlobals "sorted" = some none)
    (b_isinstance : PySem.W.nsIn K mainGlobals "isinstance" = some none)
    (b_range : PySem.W.nsIn K mainGlobals "range" = some none)
    (b_zip : PySem.W.nsIn K mainGlobals "zip" = some none)
    (b_max : PySem.W.nsIn K mainGlobals "max" = some none)
    (b_all : PySem.W.nsIn K mainGlobals "all" = some none)
    (b_sum : PySem.W.nsIn K mainGlobals "sum" = some none)
    (b_min : PySem.W.nsIn K mainGlobals "min" = some none)
    (b_enumerate : PySem.W.nsIn K mainGlobals "enumerate" = some none)
    (c_MOST_PARCELS : PySem.W.nsIn K mainGlobals "MOST_PARCELS" = some (some (.int 10 t1)))
    (c_MOST_STARTS : PySem.W.nsIn K mainGlobals "MOST_STARTS" = some (some (.int 8 t2)))
    (c_MOST_WORDS : PySem.W.nsIn K mainGlobals "MOST_WORDS" = some (some (.int 60000 t3)))
    (c_TIMES : PySem.W.nsIn K mainGlobals "TIMES" = some (some (.int 2 t4)))
    (eAT : PySem.W.nsIn K mainGlobals "TooMany" = some (some (.ref CT)))
    (eLT : K.lookup CT = some (excClassObj nmT qT CT NT bsT bmT true snT subT abT colT ddT m0T m1T m2T m3T m5T "ValueError.__new__"))
    (eVT : PySem.HandSPX.refsVE bmT = true)
    (eST : PySem.W.findIn K (.ref CT) "__setattr__" = some (some (.builtin "object.__setattr__")))
    (eGT : PySem.W.findIn K (.ref CT) "__getattribute__" = some (some (.builtin "BaseException.__getattribute__")))
    (eHT : PySem.W.findIn K (.ref CT) "__getattr__" = some none)
    (eNT : PySem.W.findIn K (.ref CT) "limit" = some none)
    (eIT : PySem.W.findIn K (.ref CT) "__init__" = some (some (.ref fT)))
    (eTT : PySem.W.typeIn K (.ref fT) = some (.type "function"))
    (eFT : K.lookup fT = some ⟨oeT, odeT, .func (PySem.W.fnOf "__init__" "TooMany.__init__" (PySem.X_TooMany.iA ⟨6, 17, 6, 21⟩ ⟨6, 23, 6, 28⟩) (PySem.X_TooMany.iB ⟨7, 8, 7, 12⟩ ⟨7, 8, 7, 18⟩ ⟨7, 21, 7, 26⟩ ⟨7, 8, 7, 26⟩) PySem.X_TooMany.iS .none .none dceT pmeT aneT cdeT cteT), sleT⟩)
    (eDT : PySem.W.codeIn K cdeT "TooMany.__init__" = true)
    (eKT : PySem.W.keepIn K (.ref CT) = true)
    (eBT : PySem.W.subIn K (.ref CT) (.type "BaseException") = some true)
    (eYT : PySem.W.typeIn K (.ref CT) = some (.type "type"))
    (eOT : PySem.W.hasDictIn K CT = true)
    (eCT : PySem.W.isClsIn K CT = true)
    (eXT : PySem.W.subIn K (.ref CT) (.ref CT) = some true)
    (eAN : PySem.W.nsIn K mainGlobals "NoRow" = some (some (.ref CN)))
    (eLN : K.lookup CN = some (excClassObj nmN qN CN NN bsN bmN true snN subN abN colN ddN m0N m1N m2N m3N m5N "ValueError.__new__"))
    (eVN : PySem.HandSPX.refsVE bmN = true)
    (eSN : PySem.W.findIn K (.ref CN) "__setattr__" = some (some (.builtin "object.__setattr__")))
    (eGN : PySem.W.findIn K (.ref CN) "__getattribute__" = some (some (.builtin "BaseException.__getattribute__")))
    (eHN : PySem.W.findIn K (.ref CN) "__getattr__" = some none)
    (eNN : PySem.W.findIn K (.ref CN) "start" = some none)
    (eIN : PySem.W.findIn K (.ref CN) "__init__" = some (some (.ref fN)))
    (eTN : PySem.W.typeIn K (.ref fN) = some (.type "function"))
    (eFN : K.lookup fN = some ⟨oeN, odeN, .func (PySem.W.fnOf "__init__" "NoRow.__init__" (PySem.X_NoRow.iA ⟨14, 17, 14, 21⟩ ⟨14, 23, 14, 28⟩) (PySem.X_NoRow.iB ⟨15, 8, 15, 12⟩ ⟨15, 8, 15, 18⟩ ⟨15, 21, 15, 26⟩ ⟨15, 8, 15, 26⟩) PySem.X_NoRow.iS .none .none dceN pmeN aneN cdeN cteN), sleN⟩)
    (eDN : PySem.W.codeIn K cdeN "NoRow.__init__" = true)
    (eKN : PySem.W.keepIn K (.ref CN) = true)
    (eBN : PySem.W.subIn K (.ref CN) (.type "BaseException") = some true)
    (eYN : PySem.W.typeIn K (.ref CN) = some (.type "type"))
    (eON : PySem.W.hasDictIn K CN = true)
    (eCN : PySem.W.isClsIn K CN = true)
    (eXN : PySem.W.subIn K (.ref CN) (.ref CN) = some true)
    (eXTN : PySem.W.subIn K (.ref CT) (.ref CN) = some false)
    (a_is_number : PySem.W.nsIn K mainGlobals "is_number" = some (some (.ref f1)))
    (l_is_number : K.lookup f1 = some ⟨oc1, od1, .func (PySem.W.fnOf "is_number" "is_number" (defArgs s_is_number) (defBody s_is_number) (defScope s_is_number) .none kV1 dc1 pm1 an1 cd1 ct1), sl1⟩)
    (c_is_number_ : PySem.W.codeIn K cd1 "is_number" = true)
    (k_is_number : PySem.W.keepIn K (.ref f1) = true)
    (aCP : PySem.W.nsIn K mainGlobals "Parcel" = some (some (.ref CP)))
    (pgCP : PySem.W.plainGet K CP Str.empty = true)
    (hdCP : PySem.W.hasDictIn K CP = true)
    (poCP : PySem.W.plainOver K CP = true)
    (saCP : PySem.W.findIn K (.ref CP) "__setattr__" = some (some (.builtin "object.__setattr__")))
    (naCPbase : PySem.W.findIn K (.ref CP) "base" = some none)
    (naCPresult : PySem.W.findIn K (.ref CP) "result" = some none)
    (naCPwords : PySem.W.findIn K (.ref CP) "words" = some none)
    (mkCP : PySem.W.makesIn K CP = true)
    (kCP : PySem.W.keepIn K (.ref CP) = true)
    (m_pinit : PySem.W.findIn K (.ref CP) "__init__" = some (some (.ref f2)))
    (ml_pinit : K.lookup f2 = some ⟨oc2, od2, .func (PySem.W.fnOf "__init__" "Parcel.__init__" (defArgs s_Parcel_init) (defBody s_Parcel_init) (defScope s_Parcel_init) .none kV2 dc2 pm2 an2 cd2 ct2), sl2⟩)
    (mc_pinit : PySem.W.codeIn K cd2 "Parcel.__init__" = true)
    (mf_pinit : PySem.W.isFn K (.ref f2) = true)
    (mk_pinit : PySem.W.keepIn K (.ref f2) = true)
    (a_least_labels : PySem.W.nsIn K mainGlobals "least_labels" = some (some (.ref f3)))
    (l_least_labels : K.lookup f3 = some ⟨oc3, od3, .func (PySem.W.fnOf "least_labels" "least_labels" (defArgs s_least_labels) (defBody s_least_labels) (defScope s_least_labels) .none kV3 dc3 pm3 an3 cd3 ct3), sl3⟩)
    (c_least_labels_ : PySem.W.codeIn K cd3 "least_labels" = true)
    (k_least_labels : PySem.W.keepIn K (.ref f3) = true)
    (a_least_label : PySem.W.nsIn K mainGlobals "least_label" = some (some (.ref f4)))
    (l_least_label : K.lookup f4 = some ⟨oc4, od4, .func (PySem.W.fnOf "least_label" "least_label" (defArgs s_least_label) (defBody s_least_label) (defScope s_least_label) .none kV4 dc4 pm4 an4 cd4 ct4), sl4⟩)
    (c_least_label_ : PySem.W.codeIn K cd4 "least_label" = true)
    (k_least_label : PySem.W.keepIn K (.ref f4) = true)
    (a_row_of : PySem.W.nsIn K mainGlobals "row_of" = some (some (.ref f5)))
    (l_row_of : K.lookup f5 = some ⟨oc5, od5, .func (PySem.W.fnOf "row_of" "row_of" (defArgs s_row_of) (defBody s_row_of) (defScope s_row_of) (.ref TD5) kV5 dc5 pm5 an5 cd5 ct5), sl5⟩)
    (c_row_of_ : PySem.W.codeIn K cd5 "row_of" = true)
    (k_row_of : PySem.W.keepIn K (.ref f5) = true)
    (d_row_of : K.lookup TD5 = some ⟨oDc5, oDd5, .seq #[.ref TE5] nD5, slD5⟩)
    (e_row_of : K.lookup TE5 = some ⟨.type "tuple", oEd5, .seq #[] nE5, slE5⟩)
    (a_numbers_in : PySem.W.nsIn K mainGlobals "numbers_in" = some (some (.ref f6)))
    (l_numbers_in : K.lookup f6 = some ⟨oc6, od6, .func (PySem.W.fnOf "numbers_in" "numbers_in" (defArgs s_numbers_in) (defBody s_numbers_in) (defScope s_numbers_in) .none kV6 dc6 pm6 an6 cd6 ct6), sl6⟩)
    (c_numbers_in_ : PySem.W.codeIn K cd6 "numbers_in" = true)
    (k_numbers_in : PySem.W.keepIn K (.ref f6) = true)
    (a_price_with : PySem.W.nsIn K mainGlobals "price_with" = some (some (.ref f7)))
    (l_price_with : K.lookup f7 = some ⟨oc7, od7, .func (PySem.W.fnOf "price_with" "price_with" (defArgs s_price_with) (defBody s_price_with) (defScope s_price_with) .none kV7 dc7 pm7 an7 cd7 ct7), sl7⟩)
    (c_price_with_ : PySem.W.codeIn K cd7 "price_with" = true)
    (k_price_with : PySem.W.keepIn K (.ref f7) = true)
    (a_price_table : PySem.W.nsIn K mainGlobals "price_table" = some (some (.ref f8)))
    (l_price_table : K.lookup f8 = some ⟨oc8, od8, .func (PySem.W.fnOf "price_table" "price_table" (defArgs s_price_table) (defBody s_price_table) (defScope s_price_table) .none kV8 dc8 pm8 an8 cd8 ct8), sl8⟩)
    (c_price_table_ : PySem.W.codeIn K cd8 "price_table" = true)
    (k_price_table : PySem.W.keepIn K (.ref f8) = true)
    (aCL : PySem.W.nsIn K mainGlobals "Plan" = some (some (.ref CL)))
    (pgCL : PySem.W.plainGet K CL Str.empty = true)
    (hdCL : PySem.W.hasDictIn K CL = true)
    (poCL : PySem.W.plainOver K CL = true)
    (saCL : PySem.W.findIn K (.ref CL) "__setattr__" = some (some (.builtin "object.__setattr__")))
    (naCLto_all : PySem.W.findIn K (.ref CL) "to_all" = some none)
    (naCLrows : PySem.W.findIn K (.ref CL) "rows" = some none)
    (naCLprice : PySem.W.findIn K (.ref CL) "price" = some none)
    (mkCL : PySem.W.makesIn K CL = true)
    (kCL : PySem.W.keepIn K (.ref CL) = true)
    (neCL : PySem.W.findIn K (.ref CL) "__ne__" = some (some (.builtin "object.__ne__")))
    (obCL : PySem.W.mroIn K CL (.type "object") = some true)
    (haCL : PySem.W.findIn K (.ref CL) "__class__" = some (some (.builtin "object.__class__")))
    (hnCL : PySem.W.specialIn K (.builtin "object.__class__") "__get__" = some (some (.builtin "getset_descriptor.__get__")))
    (htCL : PySem.W.takesIn K (.builtin "object.__class__") = some true)
    (m_linit : PySem.W.findIn K (.ref CL) "__init__" = some (some (.ref f9)))
    (ml_linit : K.lookup f9 = some ⟨oc9, od9, .func (PySem.W.fnOf "__init__" "Plan.__init__" (defArgs s_Plan_init) (defBody s_Plan_init) (defScope s_Plan_init) .none kV9 dc9 pm9 an9 cd9 ct9), sl9⟩)
    (mc_linit : PySem.W.codeIn K cd9 "Plan.__init__" = true)
    (mf_linit : PySem.W.isFn K (.ref f9) = true)
    (mk_linit : PySem.W.keepIn K (.ref f9) = true)
    (m_eq : PySem.W.findIn K (.ref CL) "__eq__" = some (some (.ref f10)))
    (ml_eq : K.lookup f10 = some ⟨oc10, od10, .func (PySem.W.fnOf "__eq__" "Plan.__eq__" (defArgs s_Plan_eq) (defBody s_Plan_eq) (defScope s_Plan_eq) .none kV10 dc10 pm10 an10 cd10 ct10), sl10⟩)
    (mc_eq : PySem.W.codeIn K cd10 "Plan.__eq__" = true)
    (mf_eq : PySem.W.isFn K (.ref f10) = true)
    (mk_eq : PySem.W.keepIn K (.ref f10) = true)
    (m_lt : PySem.W.findIn K (.ref CL) "__lt__" = some (some (.ref f11)))
    (ml_lt : K.lookup f11 = some ⟨oc11, od11, .func (PySem.W.fnOf "__lt__" "Plan.__lt__" (defArgs s_Plan_lt) (defBody s_Plan_lt) (defScope s_Plan_lt) .none kV11 dc11 pm11 an11 cd11 ct11), sl11⟩)
    (mc_lt : PySem.W.codeIn K cd11 "Plan.__lt__" = true)
    (mf_lt : PySem.W.isFn K (.ref f11) = true)
    (mk_lt : PySem.W.keepIn K (.ref f11) = true)
    (m_le : PySem.W.findIn K (.ref CL) "__le__" = some (some (.ref f12)))
    (ml_le : K.lookup f12 = some ⟨oc12, od12, .func (PySem.W.fnOf "__le__" "Plan.__le__" (defArgs s_Plan_le) (defBody s_Plan_le) (defScope s_Plan_le) .none kV12 dc12 pm12 an12 cd12 ct12), sl12⟩)
    (mc_le : PySem.W.codeIn K cd12 "Plan.__le__" = true)
    (mf_le : PySem.W.isFn K (.ref f12) = true)
    (mk_le : PySem.W.keepIn K (.ref f12) = true)
    (m_gt : PySem.W.findIn K (.ref CL) "__gt__" = some (some (.ref f13)))
    (ml_gt : K.lookup f13 = some ⟨oc13, od13, .func (PySem.W.fnOf "__gt__" "Plan.__gt__" (defArgs s_Plan_gt) (defBody s_Plan_gt) (defScope s_Plan_gt) .none kV13 dc13 pm13 an13 cd13 ct13), sl13⟩)
    (mc_gt : PySem.W.codeIn K cd13 "Plan.__gt__" = true)
    (mf_gt : PySem.W.isFn K (.ref f13) = true)
    (mk_gt : PySem.W.keepIn K (.ref f13) = true)
    (m_ge : PySem.W.findIn K (.ref CL) "__ge__" = some (some (.ref f14)))
    (ml_ge : K.lookup f14 = some ⟨oc14, od14, .func (PySem.W.fnOf "__ge__" "Plan.__ge__" (defArgs s_Plan_ge) (defBody s_Plan_ge) (defScope s_Plan_ge) .none kV14 dc14 pm14 an14 cd14 ct14), sl14⟩)
    (mc_ge : PySem.W.codeIn K cd14 "Plan.__ge__" = true)
    (mf_ge : PySem.W.isFn K (.ref f14) = true)
    (mk_ge : PySem.W.keepIn K (.ref f14) = true)
    (a_plan : PySem.W.nsIn K mainGlobals "plan" = some (some (.ref f15)))
    (l_plan : K.lookup f15 = some ⟨oc15, od15, .func (PySem.W.fnOf "plan" "plan" (defArgs s_plan) (defBody s_plan) (defScope s_plan) .none kV15 dc15 pm15 an15 cd15 ct15), sl15⟩)
    (c_plan_ : PySem.W.codeIn K cd15 "plan" = true)
    (k_plan : PySem.W.keepIn K (.ref f15) = true)
    (a_law_source : PySem.W.nsIn K mainGlobals "_law_source" = some (some (.ref f16)))
    (l_law_source : K.lookup f16 = some ⟨oc16, od16, .func (PySem.W.fnOf "_law_source" "_law_source" (defArgs s_law_source) (defBody s_law_source) (defScope s_law_source) .none kV16 dc16 pm16 an16 cd16 ct16), sl16⟩)
    (c_law_source_ : PySem.W.codeIn K cd16 "_law_source" = true)
    (k_law_source : PySem.W.keepIn K (.ref f16) = true)
    (a_law_draw : PySem.W.nsIn K mainGlobals "_law_draw" = some (some (.ref f17)))
    (l_law_draw : K.lookup f17 = some ⟨oc17, od17, .func (PySem.W.fnOf "_law_draw" "_law_draw" (defArgs s_law_draw) (defBody s_law_draw) (defScope s_law_draw) .none kV17 dc17 pm17 an17 cd17 ct17), sl17⟩)
    (c_law_draw_ : PySem.W.codeIn K cd17 "_law_draw" = true)
    (k_law_draw : PySem.W.keepIn K (.ref f17) = true)
    (a_law_plain : PySem.W.nsIn K mainGlobals "_law_plain" = some (some (.ref f18)))
    (l_law_plain : K.lookup f18 = some ⟨oc18, od18, .func (PySem.W.fnOf "_law_plain" "_law_plain" (defArgs s_law_plain) (defBody s_law_plain) (defScope s_law_plain) .none kV18 dc18 pm18 an18 cd18 ct18), sl18⟩)
    (c_law_plain_ : PySem.W.codeIn K cd18 "_law_plain" = true)
    (k_law_plain : PySem.W.keepIn K (.ref f18) = true)
    (a_law_words : PySem.W.nsIn K mainGlobals "_law_words" = some (some (.ref f19)))
    (l_law_words : K.lookup f19 = some ⟨oc19, od19, .func (PySem.W.fnOf "_law_words" "_law_words" (defArgs s_law_words) (defBody s_law_words) (defScope s_law_words) .none kV19 dc19 pm19 an19 cd19 ct19), sl19⟩)
    (c_law_words_ : PySem.W.codeIn K cd19 "_law_words" = true)
    (k_law_words : PySem.W.keepIn K (.ref f19) = true)
    (a_law_chain : PySem.W.nsIn K mainGlobals "_law_chain" = some (some (.ref f20)))
    (l_law_chain : K.lookup f20 = some ⟨oc20, od20, .func (PySem.W.fnOf "_law_chain" "_law_chain" (defArgs s_law_chain) (defBody s_law_chain) (defScope s_law_chain) .none kV20 dc20 pm20 an20 cd20 ct20), sl20⟩)
    (c_law_chain_ : PySem.W.codeIn K cd20 "_law_chain" = true)
    (k_law_chain : PySem.W.keepIn K (.ref f20) = true)
    (a_law_parcel : PySem.W.nsIn K mainGlobals "_law_parcel" = some (some (.ref f21)))
    (l_law_parcel : K.lookup f21 = some ⟨oc21, od21, .func (PySem.W.fnOf "_law_parcel" "_law_parcel" (defArgs s_law_parcel) (defBody s_law_parcel) (defScope s_law_parcel) .none kV21 dc21 pm21 an21 cd21 ct21), sl21⟩)
    (c_law_parcel_ : PySem.W.codeIn K cd21 "_law_parcel" = true)
    (k_law_parcel : PySem.W.keepIn K (.ref f21) = true)
    (a_law_world : PySem.W.nsIn K mainGlobals "_law_world" = some (some (.ref f22)))
    (l_law_world : K.lookup f22 = some ⟨oc22, od22, .func (PySem.W.fnOf "_law_world" "_law_world" (defArgs s_law_world) (defBody s_law_world) (defScope s_law_world) .none kV22 dc22 pm22 an22 cd22 ct22), sl22⟩)
    (c_law_world_ : PySem.W.codeIn K cd22 "_law_world" = true)
    (k_law_world : PySem.W.keepIn K (.ref f22) = true)
    (a_law_ways : PySem.W.nsIn K mainGlobals "_law_ways" = some (some (.ref f23)))
    (l_law_ways : K.lookup f23 = some ⟨oc23, od23, .func (PySem.W.fnOf "_law_ways" "_law_ways" (defArgs s_law_ways) (defBody s_law_ways) (defScope s_law_ways) .none kV23 dc23 pm23 an23 cd23 ct23), sl23⟩)
    (c_law_ways_ : PySem.W.codeIn K cd23 "_law_ways" = true)
    (k_law_ways : PySem.W.keepIn K (.ref f23) = true)
    (a_law_least : PySem.W.nsIn K mainGlobals "_law_least" = some (some (.ref f24)))
    (l_law_least : K.lookup f24 = some ⟨oc24, od24, .func (PySem.W.fnOf "_law_least" "_law_least" (defArgs s_law_least) (defBody s_law_least) (defScope s_law_least) .none kV24 dc24 pm24 an24 cd24 ct24), sl24⟩)
    (c_law_least_ : PySem.W.codeIn K cd24 "_law_least" = true)
    (k_law_least : PySem.W.keepIn K (.ref f24) = true)
    (a_law_numbers : PySem.W.nsIn K mainGlobals "_law_numbers" = some (some (.ref f25)))
    (l_law_numbers : K.lookup f25 = some ⟨oc25, od25, .func (PySem.W.fnOf "_law_numbers" "_law_numbers" (defArgs s_law_numbers) (defBody s_law_numbers) (defScope s_law_numbers) .none kV25 dc25 pm25 an25 cd25 ct25), sl25⟩)
    (c_law_numbers_ : PySem.W.codeIn K cd25 "_law_numbers" = true)
    (k_law_numbers : PySem.W.keepIn K (.ref f25) = true)
    (a_law_price : PySem.W.nsIn K mainGlobals "_law_price" = some (some (.ref f26)))
    (l_law_price : K.lookup f26 = some ⟨oc26, od26, .func (PySem.W.fnOf "_law_price" "_law_price" (defArgs s_law_price) (defBody s_law_price) (defScope s_law_price) .none kV26 dc26 pm26 an26 cd26 ct26), sl26⟩)
    (c_law_price_ : PySem.W.codeIn K cd26 "_law_price" = true)
    (k_law_price : PySem.W.keepIn K (.ref f26) = true)
    (a_law_planned : PySem.W.nsIn K mainGlobals "_law_planned" = some (some (.ref f27)))
    (l_law_planned : K.lookup f27 = some ⟨oc27, od27, .func (PySem.W.fnOf "_law_planned" "_law_planned" (defArgs s_law_planned) (defBody s_law_planned) (defScope s_law_planned) .none kV27 dc27 pm27 an27 cd27 ct27), sl27⟩)
    (c_law_planned_ : PySem.W.codeIn K cd27 "_law_planned" = true)
    (k_law_planned : PySem.W.keepIn K (.ref f27) = true)
    (a_law_table : PySem.W.nsIn K mainGlobals "_law_table" = some (some (.ref f28)))
    (l_law_table : K.lookup f28 = some ⟨oc28, od28, .func (PySem.W.fnOf "_law_table" "_law_table" (defArgs s_law_table) (defBody s_law_table) (defScope s_law_table) .none kV28 dc28 pm28 an28 cd28 ct28), sl28⟩)
    (c_law_table_ : PySem.W.codeIn K cd28 "_law_table" = true)
    (k_law_table : PySem.W.keepIn K (.ref f28) = true)
    (a_law_row : PySem.W.nsIn K mainGlobals "_law_row" = some (some (.ref f29)))
    (l_law_row : K.lookup f29 = some ⟨oc29, od29, .func (PySem.W.fnOf "_law_row" "_law_row" (defArgs s_law_row) (defBody s_law_row) (defScope s_law_row) .none kV29 dc29 pm29 an29 cd29 ct29), sl29⟩)
    (c_law_row_ : PySem.W.codeIn K cd29 "_law_row" = true)
    (k_law_row : PySem.W.keepIn K (.ref f29) = true)
    (a_law_row_due : PySem.W.nsIn K mainGlobals "_law_row_due" = some (some (.ref f30)))
    (l_law_row_due : K.lookup f30 = some ⟨oc30, od30, .func (PySem.W.fnOf "_law_row_due" "_law_row_due" (defArgs s_law_row_due) (defBody s_law_row_due) (defScope s_law_row_due) .none kV30 dc30 pm30 an30 cd30 ct30), sl30⟩)
    (c_law_row_due_ : PySem.W.codeIn K cd30 "_law_row_due" = true)
    (k_law_row_due : PySem.W.keepIn K (.ref f30) = true)
    (a_law_plan_holds : PySem.W.nsIn K mainGlobals "_law_plan_holds" = some (some (.ref f31)))
    (l_law_plan_holds : K.lookup f31 = some ⟨oc31, od31, .func (PySem.W.fnOf "_law_plan_holds" "_law_plan_holds" (defArgs s_law_plan_holds) (defBody s_law_plan_holds) (defScope s_law_plan_holds) .none kV31 dc31 pm31 an31 cd31 ct31), sl31⟩)
    (c_law_plan_holds_ : PySem.W.codeIn K cd31 "_law_plan_holds" = true)
    (k_law_plan_holds : PySem.W.keepIn K (.ref f31) = true)
    (a_law_compared : PySem.W.nsIn K mainGlobals "_law_compared" = some (some (.ref f32)))
    (l_law_compared : K.lookup f32 = some ⟨oc32, od32, .func (PySem.W.fnOf "_law_compared" "_law_compared" (defArgs s_law_compared) (defBody s_law_compared) (defScope s_law_compared) .none kV32 dc32 pm32 an32 cd32 ct32), sl32⟩)
    (c_law_compared_ : PySem.W.codeIn K cd32 "_law_compared" = true)
    (k_law_compared : PySem.W.keepIn K (.ref f32) = true)
    (a_law_plans : PySem.W.nsIn K mainGlobals "_law_plans" = some (some (.ref f33)))
    (l_law_plans : K.lookup f33 = some ⟨oc33, od33, .func (PySem.W.fnOf "_law_plans" "_law_plans" (defArgs s_law_plans) (defBody s_law_plans) (defScope s_law_plans) .none kV33 dc33 pm33 an33 cd33 ct33), sl33⟩)
    (c_law_plans_ : PySem.W.codeIn K cd33 "_law_plans" = true)
    (k_law_plans : PySem.W.keepIn K (.ref f33) = true)
    (a_law_single : PySem.W.nsIn K mainGlobals "_law_single" = some (some (.ref f34)))
    (l_law_single : K.lookup f34 = some ⟨oc34, od34, .func (PySem.W.fnOf "_law_single" "_law_single" (defArgs s_law_single) (defBody s_law_single) (defScope s_law_single) .none kV34 dc34 pm34 an34 cd34 ct34), sl34⟩)
    (c_law_single_ : PySem.W.codeIn K cd34 "_law_single" = true)
    (k_law_single : PySem.W.keepIn K (.ref f34) = true)
    (a_law_equals : PySem.W.nsIn K mainGlobals "_law_equals" = some (some (.ref f35)))
    (l_law_equals : K.lookup f35 = some ⟨oc35, od35, .func (PySem.W.fnOf "_law_equals" "_law_equals" (defArgs s_law_equals) (defBody s_law_equals) (defScope s_law_equals) .none kV35 dc35 pm35 an35 cd35 ct35), sl35⟩)
    (c_law_equals_ : PySem.W.codeIn K cd35 "_law_equals" = true)
    (k_law_equals : PySem.W.keepIn K (.ref f35) = true)
    (a_law_six : PySem.W.nsIn K mainGlobals "_law_six" = some (some (.ref f36)))
    (l_law_six : K.lookup f36 = some ⟨oc36, od36, .func (PySem.W.fnOf "_law_six" "_law_six" (defArgs s_law_six) (defBody s_law_six) (defScope s_law_six) .none kV36 dc36 pm36 an36 cd36 ct36), sl36⟩)
    (c_law_six_ : PySem.W.codeIn K cd36 "_law_six" = true)
    (k_law_six : PySem.W.keepIn K (.ref f36) = true)
    (a_law_refuses : PySem.W.nsIn K mainGlobals "_law_refuses" = some (some (.ref f37)))
    (l_law_refuses : K.lookup f37 = some ⟨oc37, od37, .func (PySem.W.fnOf "_law_refuses" "_law_refuses" (defArgs s_law_refuses) (defBody s_law_refuses) (defScope s_law_refuses) .none kV37 dc37 pm37 an37 cd37 ct37), sl37⟩)
    (c_law_refuses_ : PySem.W.codeIn K cd37 "_law_refuses" = true)
    (k_law_refuses : PySem.W.keepIn K (.ref f37) = true)
    (a_law : PySem.W.nsIn K mainGlobals "law" = some (some (.ref f38)))
    (l_law : K.lookup f38 = some ⟨oc38, od38, .func (PySem.W.fnOf "law" "law" (defArgs s_law) (defBody s_law) (defScope s_law) .none kV38 dc38 pm38 an38 cd38 ct38), sl38⟩)
    (c_law_ : PySem.W.codeIn K cd38 "law" = true)
    (k_law : PySem.W.keepIn K (.ref f38) = true)
    : ∃ fd : FuncData, (∀ (s : Shared) (v : Value), BindsTo s fd ⟨[v], []⟩ [("script", v)]) ∧ ∀ base : Heap, K.In base → base.Ns mainGlobals mg → FnOk P w K mg base CX0 10 fa fd ["script"] (spA (R_law K)) := by
  have e := hfa.symm.trans (PySem.W.mg_of X G a_law)
  cases e
  let T : TopE K mg := { len := PySem.W.mg_none_of X G b_len, abs := PySem.W.mg_none_of X G b_abs, int := PySem.W.mg_none_of X G b_int, str := PySem.W.mg_none_of X G b_str, tuple := PySem.W.mg_none_of X G b_tuple, list := PySem.W.mg_none_of X G b_list, bool := PySem.W.mg_none_of X G b_bool, sorted := PySem.W.mg_none_of X G b_sorted, isinstance := PySem.W.mg_none_of X G b_isinstance, range := PySem.W.mg_none_of X G b_range, zip := PySem.W.mg_none_of X G b_zip, max := PySem.W.mg_none_of X G b_max, all := PySem.W.mg_none_of X G b_all, sum := PySem.W.mg_none_of X G b_sum, min := PySem.W.mg_none_of X G b_min, enumerate := PySem.W.mg_none_of X G b_enumerate, c_MOST_PARCELS := PySem.W.mg_of X G c_MOST_PARCELS, c_MOST_STARTS := PySem.W.mg_of X G c_MOST_STARTS, c_MOST_WORDS := PySem.W.mg_of X G c_MOST_WORDS, c_TIMES := PySem.W.mg_of X G c_TIMES, CP := CP, cls_Parcel := ⟨pgCP, hdCP, poCP, saCP⟩, na_base := naCPbase, na_result := naCPresult, na_words := naCPwords, CL := CL, cls_Plan := ⟨pgCL, hdCL, poCL, saCL⟩, na_to_all := naCLto_all, na_rows := naCLrows, na_price := naCLprice, CT := CT, fT := fT, x_TooMany := { gC := PySem.W.mg_of X G eAT, cls := ⟨_, _, _, _, _, _, _, _, _, _, _, _, _, _, _, eLT, eVT⟩, sa := eST, ga := eGT, gg := eHT, noN := eNT, iC := eIT, tC := eTT, kC := eKT, exC := eBT, tyC := eYT, hdC := eOT, te := exm_of eBT eCT eYT eXT, fn := ⟨_, _, _, _, _, _, _, _, _, _, _, _, _, _, eFT, eDT⟩ }, CN := CN, fN := fN, x_NoRow := { gC := PySem.W.mg_of X G eAN, cls := ⟨_, _, _, _, _, _, _, _, _, _, _, _, _, _, _, eLN, eVN⟩, sa := eSN, ga := eGN, gg := eHN, noN := eNN, iC := eIN, tC := eTN, kC := eKN, exC := eBN, tyC := eYN, hdC := eON, te := exm_of eBN eCN eYN eXN, fn := ⟨_, _, _, _, _, _, _, _, _, _, _, _, _, _, eFN, eDN⟩ }, t1 := t1, t2 := t2, t3 := t3, t4 := t4, gLt := f11, o_lt := m_lt, of_lt := mf_lt, gLe := f12, o_le := m_le, of_le := mf_le, gGt := f13, o_gt := m_gt, of_gt := mf_gt, gGe := f14, o_ge := m_ge, of_ge := mf_ge, gEq := f10, o_eq := m_eq, of_eq := mf_eq, neC := ⟨neCL, obCL⟩, isi_Plan := ⟨⟨pgCL, hdCL, poCL, saCL⟩, haCL, hnCL, htCL, obCL, kit_self⟩, g_Plan := PySem.W.mg_of X G aCL, e_TN := exm_of eBN eCN eYN eXTN, e_TT := exm_of eBT eCT eYT eXT, e_NN := exm_of eBN eCN eYN eXN }
  have F_is_number := fun_mk (st := s_is_number) l_is_number c_is_number_ k_is_number
  have B_is_number := F_is_number.binds (ps := ["thing"]) fun _ _ _ _ _ _ us hl => match us, hl with | [_], _ => rfl
  have FM_pinit := fun_mk (st := s_Parcel_init) ml_pinit mc_pinit mk_pinit
  have BM_pinit := FM_pinit.binds (ps := ["self", "base", "result", "words"]) fun _ _ _ _ _ _ us hl => match us, hl with | [_, _, _, _], _ => rfl
  have F_least_labels := fun_mk (st := s_least_labels) l_least_labels c_least_labels_ k_least_labels
  have B_least_labels := F_least_labels.binds (ps := ["parcels", "start", "free"]) fun _ _ _ _ _ _ us hl => match us, hl with | [_, _, _], _ => rfl
  have F_least_label := fun_mk (st := s_least_label) l_least_label c_least_label_ k_least_label
  have B_least_label := F_least_label.binds (ps := ["parcels", "start", "goals", "free"]) fun _ _ _ _ _ _ us hl => match us, hl with | [_, _, _, _], _ => rfl
  have F_row_of : FunD K "row_of" "row_of" (defArgs s_row_of) (defBody s_row_of) (defScope s_row_of) [.ref TE5] [] _ _ := ⟨⟨_, _, _, _, _, _, _, _, _, _, rfl, l_row_of, c_row_of_, .inr ⟨by simp, _, _, [.ref TE5], _, rfl, d_row_of, rfl, .cons rfl .nil⟩, .inl rfl⟩, k_row_of⟩
  have B0_row_of := F_row_of.binds1 (ps := ["parcels", "start", "goals", "free"]) 4 1 (by simp) rfl fun _ _ _ _ _ _ _ us its hl hi => match us, its, hl, hi with | [_, _, _, _], [_], _, _ => ⟨_, rfl, rfl⟩
  have B1_row_of := F_row_of.binds1 (ps := ["parcels", "start", "goals", "free"]) 3 0 (by simp) rfl fun _ _ _ _ _ _ _ us its hl hi => match us, its, hl, hi with | [_, _, _], [_], _, _ => ⟨_, rfl, rfl⟩
  have F_numbers_in := fun_mk (st := s_numbers_in) l_numbers_in c_numbers_in_ k_numbers_in
  have B_numbers_in := F_numbers_in.binds (ps := ["chosen", "count"]) fun _ _ _ _ _ _ us hl => match us, hl with | [_, _], _ => rfl
  have F_price_with := fun_mk (st := s_price_with) l_price_with c_price_with_ k_price_with
  have B_price_with := F_price_with.binds (ps := ["parcels", "starts", "goals", "free"]) fun _ _ _ _ _ _ us hl => match us, hl with | [_, _, _, _], _ => rfl
  have F_price_table := fun_mk (st := s_price_table) l_price_table c_price_table_ k_price_table
  have B_price_table := F_price_table.binds (ps := ["parcels", "starts", "goals"]) fun _ _ _ _ _ _ us hl => match us, hl with | [_, _, _], _ => rfl
  have FM_linit := fun_mk (st := s_Plan_init) ml_linit mc_linit mk_linit
  have BM_linit := FM_linit.binds (ps := ["self", "to_all", "rows", "price"]) fun _ _ _ _ _ _ us hl => match us, hl with | [_, _, _, _], _ => rfl
  have FM_eq := fun_mk (st := s_Plan_eq) ml_eq mc_eq mk_eq
  have BM_eq := FM_eq.binds (ps := ["self", "other"]) fun _ _ _ _ _ _ us hl => match us, hl with | [_, _], _ => rfl
  have FM_lt := fun_mk (st := s_Plan_lt) ml_lt mc_lt mk_lt
  have BM_lt := FM_lt.binds (ps := ["self", "other"]) fun _ _ _ _ _ _ us hl => match us, hl with | [_, _], _ => rfl
  have FM_le := fun_mk (st := s_Plan_le) ml_le mc_le mk_le
  have BM_le := FM_le.binds (ps := ["self", "other"]) fun _ _ _ _ _ _ us hl => match us, hl with | [_, _], _ => rfl
  have FM_gt := fun_mk (st := s_Plan_gt) ml_gt mc_gt mk_gt
  have BM_gt := FM_gt.binds (ps := ["self", "other"]) fun _ _ _ _ _ _ us hl => match us, hl with | [_, _], _ => rfl
  have FM_ge := fun_mk (st := s_Plan_ge) ml_ge mc_ge mk_ge
  have BM_ge := FM_ge.binds (ps := ["self", "other"]) fun _ _ _ _ _ _ us hl => match us, hl with | [_, _], _ => rfl
  have F_plan := fun_mk (st := s_plan) l_plan c_plan_ k_plan
  have B_plan := F_plan.binds (ps := ["parcels", "starts", "goals"]) fun _ _ _ _ _ _ us hl => match us, hl with | [_, _, _], _ => rfl
  have F_law_source := fun_mk (st := s_law_source) l_law_source c_law_source_ k_law_source
  have B_law_source := F_law_source.binds (ps := ["script"]) fun _ _ _ _ _ _ us hl => match us, hl with | [_], _ => rfl
  have F_law_draw := fun_mk (st := s_law_draw) l_law_draw c_law_draw_ k_law_draw
  have B_law_draw := F_law_draw.binds (ps := ["source", "below"]) fun _ _ _ _ _ _ us hl => match us, hl with | [_, _], _ => rfl
  have F_law_plain := fun_mk (st := s_law_plain) l_law_plain c_law_plain_ k_law_plain
  have B_law_plain := F_law_plain.binds (ps := ["thing"]) fun _ _ _ _ _ _ us hl => match us, hl with | [_], _ => rfl
  have F_law_words := fun_mk (st := s_law_words) l_law_words c_law_words_ k_law_words
  have B_law_words := F_law_words.binds (ps := ["source"]) fun _ _ _ _ _ _ us hl => match us, hl with | [_], _ => rfl
  have F_law_chain := fun_mk (st := s_law_chain) l_law_chain c_law_chain_ k_law_chain
  have B_law_chain := F_law_chain.binds (ps := ["source"]) fun _ _ _ _ _ _ us hl => match us, hl with | [_], _ => rfl
  have F_law_parcel := fun_mk (st := s_law_parcel) l_law_parcel c_law_parcel_ k_law_parcel
  have B_law_parcel := F_law_parcel.binds (ps := ["source", "numbers"]) fun _ _ _ _ _ _ us hl => match us, hl with | [_, _], _ => rfl
  have F_law_world := fun_mk (st := s_law_world) l_law_world c_law_world_ k_law_world
  have B_law_world := F_law_world.binds (ps := ["source"]) fun _ _ _ _ _ _ us hl => match us, hl with | [_], _ => rfl
  have F_law_ways := fun_mk (st := s_law_ways) l_law_ways c_law_ways_ k_law_ways
  have B_law_ways := F_law_ways.binds (ps := ["rows", "start", "goals"]) fun _ _ _ _ _ _ us hl => match us, hl with | [_, _, _], _ => rfl
  have F_law_least := fun_mk (st := s_law_least) l_law_least c_law_least_ k_law_least
  have B_law_least := F_law_least.binds (ps := ["rows", "ways", "free"]) fun _ _ _ _ _ _ us hl => match us, hl with | [_, _, _], _ => rfl
  have F_law_numbers := fun_mk (st := s_law_numbers) l_law_numbers c_law_numbers_ k_law_numbers
  have B_law_numbers := F_law_numbers.binds (ps := ["chosen", "count"]) fun _ _ _ _ _ _ us hl => match us, hl with | [_, _], _ => rfl
  have F_law_price := fun_mk (st := s_law_price) l_law_price c_law_price_ k_law_price
  have B_law_price := F_law_price.binds (ps := ["rows", "ways", "starts", "free"]) fun _ _ _ _ _ _ us hl => match us, hl with | [_, _, _, _], _ => rfl
  have F_law_planned := fun_mk (st := s_law_planned) l_law_planned c_law_planned_ k_law_planned
  have B_law_planned := F_law_planned.binds (ps := ["parcels", "starts", "goals"]) fun _ _ _ _ _ _ us hl => match us, hl with | [_, _, _], _ => rfl
  have F_law_table := fun_mk (st := s_law_table) l_law_table c_law_table_ k_law_table
  have B_law_table := F_law_table.binds (ps := ["parcels", "starts", "goals"]) fun _ _ _ _ _ _ us hl => match us, hl with | [_, _, _], _ => rfl
  have F_law_row := fun_mk (st := s_law_row) l_law_row c_law_row_ k_law_row
  have B_law_row := F_law_row.binds (ps := ["parcels", "start", "goals", "free"]) fun _ _ _ _ _ _ us hl => match us, hl with | [_, _, _, _], _ => rfl
  have F_law_row_due := fun_mk (st := s_law_row_due) l_law_row_due c_law_row_due_ k_law_row_due
  have B_law_row_due := F_law_row_due.binds (ps := ["rows", "ways", "start", "free"]) fun _ _ _ _ _ _ us hl => match us, hl with | [_, _, _, _], _ => rfl
  have F_law_plan_holds := fun_mk (st := s_law_plan_holds) l_law_plan_holds c_law_plan_holds_ k_law_plan_holds
  have B_law_plan_holds := F_law_plan_holds.binds (ps := ["told", "rows", "ways", "starts", "table"]) fun _ _ _ _ _ _ us hl => match us, hl with | [_, _, _, _, _], _ => rfl
  have F_law_compared := fun_mk (st := s_law_compared) l_law_compared c_law_compared_ k_law_compared
  have B_law_compared := F_law_compared.binds (ps := ["one", "two"]) fun _ _ _ _ _ _ us hl => match us, hl with | [_, _], _ => rfl
  have F_law_plans := fun_mk (st := s_law_plans) l_law_plans c_law_plans_ k_law_plans
  have B_law_plans := F_law_plans.binds (ps := ["parcels", "rows", "ways", "starts", "goals", "table"]) fun _ _ _ _ _ _ us hl => match us, hl with | [_, _, _, _, _, _], _ => rfl
  have F_law_single := fun_mk (st := s_law_single) l_law_single c_law_single_ k_law_single
  have B_law_single := F_law_single.binds (ps := ["source", "parcels", "rows", "ways", "starts", "goals"]) fun _ _ _ _ _ _ us hl => match us, hl with | [_, _, _, _, _, _], _ => rfl
  have F_law_equals := fun_mk (st := s_law_equals) l_law_equals c_law_equals_ k_law_equals
  have B_law_equals := F_law_equals.binds (ps := ["source"]) fun _ _ _ _ _ _ us hl => match us, hl with | [_], _ => rfl
  have F_law_six := fun_mk (st := s_law_six) l_law_six c_law_six_ k_law_six
  have B_law_six := F_law_six.binds (ps := ["parcels", "words"]) fun _ _ _ _ _ _ us hl => match us, hl with | [_, _], _ => rfl
  have F_law_refuses := fun_mk (st := s_law_refuses) l_law_refuses c_law_refuses_ k_law_refuses
  have B_law_refuses := F_law_refuses.binds (ps := ["source", "goals"]) fun _ _ _ _ _ _ us hl => match us, hl with | [_, _], _ => rfl
  have F_law := fun_mk (st := s_law) l_law c_law_ k_law
  refine ⟨PySem.W.fnOf "law" "law" (defArgs s_law) (defBody s_law) (defScope s_law) .none kV38 dc38 pm38 an38 cd38 ct38, fun s v => .of_eq rfl, fun base _ _ => ?_⟩
  have G_is_number := FnA.of (P := P) (w := w) (base := base) (PySem.W.mg_of X G a_is_number) (ok_isnum T.toBlt F_is_number) B_is_number k_is_number
  have GC_Parcel : MkA P w K mg base CX0 2 "Parcel" T.CP (R_parcel T.CP) := ⟨⟨_, PySem.W.mg_of X G aCP, ⟨mkCP, m_pinit, mf_pinit, kCP⟩, AL.FnOk.toR (ok_parcel T.toTopP G_is_number FM_pinit) BM_pinit⟩⟩
  have G_least_labels := FnA.of (P := P) (w := w) (base := base) (PySem.W.mg_of X G a_least_labels) (ok_labels T.toTopP F_least_labels) B_least_labels k_least_labels
  have G_least_label := FnA.of (P := P) (w := w) (base := base) (PySem.W.mg_of X G a_least_label) (ok_label T.toTopP G_least_labels F_least_label) B_least_label k_least_label
  obtain ⟨ds0, v0, B0⟩ := B0_row_of
  cases v0
  obtain ⟨ds1, v1, B1⟩ := B1_row_of
  have okR := ok_row (P := P) (w := w) (base := base) T.toTopX G_least_label F_row_of
  have G_row_of : FnA P w K mg base (L2.CX P w) 3 "row_of" (R_row K T.CP T.CT T.CN) := FnA.of (PySem.W.mg_of X G a_row_of) okR B0 k_row_of
  have G_row_of3 : FnA P w K mg base (L2.CX P w) 3 "row_of" (R_row3 T.CP T.CT T.CN) := FnA.weak ⟨⟨_, PySem.W.mg_of X G a_row_of, FnR.lack (AL.FnOk.toRD okR B1 v1), k_row_of⟩⟩ fun sds ms kk xx h => row3_of (K := K) ⟨_, _, e_row_of, rfl, rfl⟩ h
  have G_numbers_in := FnA.of (P := P) (w := w) (base := base) (PySem.W.mg_of X G a_numbers_in) (ok_nums T.toBlt F_numbers_in) B_numbers_in k_numbers_in
  have G_price_with := FnA.of (P := P) (w := w) (base := base) (PySem.W.mg_of X G a_price_with) (ok_pricew T.toTopP G_least_label F_price_with) B_price_with k_price_with
  have G_price_table := FnA.of (P := P) (w := w) (base := base) (PySem.W.mg_of X G a_price_table) (ok_table T.toTopX G_numbers_in G_price_with F_price_table) B_price_table k_price_table
  have GC_Plan : MkA P w K mg base CX0 1 "Plan" T.CL (R_planI T.CL) := ⟨⟨_, PySem.W.mg_of X G aCL, ⟨mkCL, m_linit, mf_linit, kCL⟩, AL.FnOk.toR (ok_planI T.toTopP FM_linit) BM_linit⟩⟩
  have GO_lt := AL.FnOk.toR (P := P) (w := w) (base := base) (ok_lt T.toTopO FM_lt) BM_lt
  have GO_le := AL.FnOk.toR (P := P) (w := w) (base := base) (ok_le T.toTopO FM_le) BM_le
  have GO_gt := AL.FnOk.toR (P := P) (w := w) (base := base) (ok_gt T.toTopO FM_gt) BM_gt
  have GO_ge := AL.FnOk.toR (P := P) (w := w) (base := base) (ok_ge T.toTopO FM_ge) BM_ge
  have GO_eq := AL.FnOk.toR (P := P) (w := w) (base := base) (ok_eq T.toTopO FM_eq) BM_eq
  have G_plan := FnA.of (P := P) (w := w) (base := base) (PySem.W.mg_of X G a_plan) (ok_plan T.toTopX G_price_table G_row_of3 G_row_of G_numbers_in GC_Plan F_plan) B_plan k_plan
  have G_law_source := FnA.of (P := P) (w := w) (base := base) (PySem.W.mg_of X G a_law_source) (ok_source T.toBlt F_law_source) B_law_source k_law_source
  have G_law_draw := FnA.of (P := P) (w := w) (base := base) (PySem.W.mg_of X G a_law_draw) (ok_draw T.toBlt F_law_draw) B_law_draw k_law_draw
  have G_law_plain := plain_all T.toBlt F_law_plain B_law_plain (PySem.W.mg_of X G a_law_plain) k_law_plain (base := base) (P := P) (w := w) 6
  have G_law_words := FnA.of (P := P) (w := w) (base := base) (PySem.W.mg_of X G a_law_words) (ok_words T.toBlt G_law_draw F_law_words) B_law_words k_law_words
  have G_law_chain := FnA.of (P := P) (w := w) (base := base) (PySem.W.mg_of X G a_law_chain) (ok_chain T.toBlt G_law_draw G_law_words F_law_chain) B_law_chain k_law_chain
  have G_law_parcel := FnA.of (P := P) (w := w) (base := base) (PySem.W.mg_of X G a_law_parcel) (ok_lparcel T.toBlt77 G_law_draw G_law_words F_law_parcel) B_law_parcel k_law_parcel
  have G_law_world := FnA.of (P := P) (w := w) (base := base) (PySem.W.mg_of X G a_law_world) (ok_world T.toBlt G_law_draw G_law_words G_law_chain G_law_parcel F_law_world) B_law_world k_law_world
  have G_law_ways := FnA.of (P := P) (w := w) (base := base) (PySem.W.mg_of X G a_law_ways) (ok_ways T.toBlt F_law_ways) B_law_ways k_law_ways
  have G_law_least := FnA.of (P := P) (w := w) (base := base) (PySem.W.mg_of X G a_law_least) (ok_least T.toBlt77 F_law_least) B_law_least k_law_least
  have G_law_numbers := FnA.of (P := P) (w := w) (base := base) (PySem.W.mg_of X G a_law_numbers) (ok_lnums T.toBlt F_law_numbers) B_law_numbers k_law_numbers
  have G_law_price := FnA.of (P := P) (w := w) (base := base) (PySem.W.mg_of X G a_law_price) (ok_lprice T.toBlt77 G_law_least F_law_price) B_law_price k_law_price
  have G_law_planned := FnA.of (P := P) (w := w) (base := base) (PySem.W.mg_of X G a_law_planned) (ok_planned T G_plan F_law_planned) B_law_planned k_law_planned
  have G_law_table := FnA.of (P := P) (w := w) (base := base) (PySem.W.mg_of X G a_law_table) (ok_ltable T G_price_table F_law_table) B_law_table k_law_table
  have G_law_row := FnA.of (P := P) (w := w) (base := base) (PySem.W.mg_of X G a_law_row) (ok_lrow T G_row_of3 G_row_of F_law_row) B_law_row k_law_row
  have G_law_row_due := FnA.of (P := P) (w := w) (base := base) (PySem.W.mg_of X G a_law_row_due) (ok_due T G_law_least F_law_row_due) B_law_row_due k_law_row_due
  have G_law_plan_holds := FnA.of (P := P) (w := w) (base := base) (PySem.W.mg_of X G a_law_plan_holds) (ok_holds T G_law_numbers G_law_least G_law_plain F_law_plan_holds) B_law_plan_holds k_law_plan_holds
  have G_law_compared := FnA.of (P := P) (w := w) (base := base) (PySem.W.mg_of X G a_law_compared) (ok_compared T GO_lt GO_le GO_gt GO_ge GO_eq G_law_plain F_law_compared) B_law_compared k_law_compared
  have G_law_plans := FnA.of (P := P) (w := w) (base := base) (PySem.W.mg_of X G a_law_plans) (ok_plans T G_law_planned G_law_plan_holds G_law_price G_law_numbers G_law_compared F_law_plans) B_law_plans k_law_plans
  have G_law_single := FnA.of (P := P) (w := w) (base := base) (PySem.W.mg_of X G a_law_single) (ok_single T G_law_draw G_law_numbers G_law_row_due G_law_row G_law_plain F_law_single) B_law_single k_law_single
  have G_law_equals := FnA.of (P := P) (w := w) (base := base) (PySem.W.mg_of X G a_law_equals) (ok_equals T G_law_draw GC_Parcel G_law_planned G_law_compared G_law_plain F_law_equals) B_law_equals k_law_equals
  have G_law_six := FnA.of (P := P) (w := w) (base := base) (PySem.W.mg_of X G a_law_six) (ok_six T G_law_planned G_law_plain F_law_six) B_law_six k_law_six
  have G_law_refuses := FnA.of (P := P) (w := w) (base := base) (PySem.W.mg_of X G a_law_refuses) (ok_refuses T G_law_draw GC_Parcel G_law_planned G_law_table G_law_row G_law_six G_law_plain F_law_refuses) B_law_refuses k_law_refuses
  exact ok_law T G_law_source G_law_world GC_Parcel G_law_ways G_law_price G_law_numbers G_law_table G_law_plans G_law_single G_law_refuses G_law_equals G_law_plain F_law
end R77

/-! ## K77zf -/
open PySem PySem.W PyProof.Rows
set_option Elab.async false
set_option maxRecDepth 100000
set_option maxHeartbeats 0
theorem PySem.Challenge.cw_romwright_k77_whole_cheapest_plan_holds : PySem.Challenge.rw_romwright_k77_whole_cheapest_plan.Holds := by
  w_on; o_law; k_head; (case hw => w_witness2)
  k_fill
  refine L2.walk_of (l := PySem.Challenge.rw_romwright_k77_whole_cheapest_plan) (n := 63) (k := 10) (x := "script") (CX := fun _ => L2.CX0) (sp := fun w => AL.spA (R77.R_law _)) rfl (by decide) rfl ⟨rfl, by decide, by decide⟩ (fun w h Y => PySem.W.kIn_of Y) ?F (fun _ _ a ns hl hO hS => AL.scr_sp hl hO hS fun sd h1 h2 => ⟨ns, sd, rfl, h1, h2, fun _ => rfl⟩) (fun _ _ _ _ _ z => z)
  case F =>
    intro w mg fa h KX G hmg
    refine' R77.all_mk KX G hmg ?b_len ?b_abs ?b_int ?b_str ?b_tuple ?b_list ?b_bool ?b_sorted ?b_isinstance ?b_range ?b_zip ?b_max ?b_all ?b_sum ?b_min ?b_enumerate ?c_MOST_PARCELS ?c_MOST_STARTS ?c_MOST_WORDS ?c_TIMES ?eAT ?eLT ?eVT ?eST ?eGT ?eHT ?eNT ?eIT ?eTT ?eFT ?eDT ?eKT ?eBT ?eYT ?eOT ?eCT ?eXT ?eAN ?eLN ?eVN ?eSN ?eGN ?eHN ?eNN ?eIN ?eTN ?eFN ?eDN ?eKN ?eBN ?eYN ?eON ?eCN ?eXN ?eXTN ?a_is_number ?l_is_number ?c_is_number_ ?k_is_number ?aCP ?pgCP ?hdCP ?poCP ?saCP ?naCPbase ?naCPresult ?naCPwords ?mkCP ?kCP ?m_pinit ?ml_pinit ?mc_pinit ?mf_pinit ?mk_pinit ?a_least_labels ?l_least_labels ?c_least_labels_ ?k_least_labels ?a_least_label ?l_least_label ?c_least_label_ ?k_least_label ?a_row_of ?l_row_of ?c_row_of_ ?k_row_of ?d_row_of ?e_row_of ?a_numbers_in ?l_numbers_in ?c_numbers_in_ ?k_numbers_in ?a_price_with ?l_price_with ?c_price_with_ ?k_price_with ?a_price_table ?l_price_table ?c_price_table_ ?k_price_table ?aCL ?pgCL ?hdCL ?poCL ?saCL ?naCLto_all ?naCLrows ?naCLprice ?mkCL ?kCL ?neCL ?obCL ?haCL ?hnCL ?htCL ?m_linit ?ml_linit ?mc_linit ?mf_linit ?mk_linit ?m_eq ?ml_eq ?mc_eq ?mf_eq ?mk_eq ?m_lt ?ml_lt ?mc_lt ?mf_lt ?mk_lt ?m_le ?ml_le ?mc_le ?mf_le ?mk_le ?m_gt ?ml_gt ?mc_gt ?mf_gt ?mk_gt ?m_ge ?ml_ge ?mc_ge ?mf_ge ?mk_ge ?a_plan ?l_plan ?c_plan_ ?k_plan ?a_law_source ?l_law_source ?c_law_source_ ?k_law_source ?a_law_draw ?l_law_draw ?c_law_draw_ ?k_law_draw ?a_law_plain ?l_law_plain ?c_law_plain_ ?k_law_plain ?a_law_words ?l_law_words ?c_law_words_ ?k_law_words ?a_law_chain ?l_law_chain ?c_law_chain_ ?k_law_chain ?a_law_parcel ?l_law_parcel ?c_law_parcel_ ?k_law_parcel ?a_law_world ?l_law_world ?c_law_world_ ?k_law_world ?a_law_ways ?l_law_ways ?c_law_ways_ ?k_law_ways ?a_law_least ?l_law_least ?c_law_least_ ?k_law_least ?a_law_numbers ?l_law_numbers ?c_law_numbers_ ?k_law_numbers ?a_law_price ?l_law_price ?c_law_price_ ?k_law_price ?a_law_planned ?l_law_planned ?c_law_planned_ ?k_law_planned ?a_law_table ?l_law_table ?c_law_table_ ?k_law_table ?a_law_row ?l_law_row ?c_law_row_ ?k_law_row ?a_law_row_due ?l_law_row_due ?c_law_row_due_ ?k_law_row_due ?a_law_plan_holds ?l_law_plan_holds ?c_law_plan_holds_ ?k_law_plan_holds ?a_law_compared ?l_law_compared ?c_law_compared_ ?k_law_compared ?a_law_plans ?l_law_plans ?c_law_plans_ ?k_law_plans ?a_law_single ?l_law_single ?c_law_single_ ?k_law_single ?a_law_equals ?l_law_equals ?c_law_equals_ ?k_law_equals ?a_law_six ?l_law_six ?c_law_six_ ?k_law_six ?a_law_refuses ?l_law_refuses ?c_law_refuses_ ?k_law_refuses ?a_law ?l_law ?c_law_ ?k_law
    (case b_len => k_is); (case b_abs => k_is); (case b_int => k_is); (case b_str => k_is); (case b_tuple => k_is); (case b_list => k_is)
    (case b_bool => k_is); (case b_sorted => k_is); (case b_isinstance => k_is); (case b_range => k_is); (case b_zip => k_is); (case b_max => k_is)
    (case b_all => k_is); (case b_sum => k_is); (case b_min => k_is); (case b_enumerate => k_is); (case c_MOST_PARCELS => k_is); (case c_MOST_STARTS => k_is)
    (case c_MOST_WORDS => k_is); (case c_TIMES => k_is); (case eAT => k_is); (case eLT => k_is); (case eVT => first | rfl | k_is | decide +kernel); (case eST => k_is)
    (case eGT => k_is); (case eHT => k_is); (case eNT => k_is); (case eIT => k_is); (case eTT => k_is); (case eFT => k_is)
    (case eDT => k_is); (case eKT => k_is); (case eBT => k_is); (case eYT => k_is); (case eOT => k_is); (case eCT => k_is)
    (case eXT => first | rfl | k_is | decide +kernel); (case eAN => k_is); (case eLN => k_is); (case eVN => first | rfl | k_is | decide +kernel); (case eSN => k_is); (case eGN => k_is)
    (case eHN => k_is); (case eNN => k_is); (case eIN => k_is); (case eTN => k_is); (case eFN => k_is); (case eDN => k_is)
    (case eKN => k_is); (case eBN => k_is); (case eYN => k_is); (case eON => k_is); (case eCN => k_is); (case eXN => first | rfl | k_is | decide +kernel)
    (case eXTN => first | rfl | k_is | decide +kernel); (case a_is_number => k_is); (case l_is_number => k_is); (case c_is_number_ => k_is); (case k_is_number => k_is); (case aCP => k_is)
    (case pgCP => k_is); (case hdCP => k_is); (case poCP => k_is); (case saCP => k_is); (case naCPbase => k_is); (case naCPresult => k_is)
    (case naCPwords => k_is); (case mkCP => k_is); (case kCP => k_is); (case m_pinit => k_is); (case ml_pinit => k_is); (case mc_pinit => k_is)
    (case mf_pinit => k_is); (case mk_pinit => k_is); (case a_least_labels => k_is); (case l_least_labels => k_is); (case c_least_labels_ => k_is); (case k_least_labels => k_is)
    (case a_least_label => k_is); (case l_least_label => k_is); (case c_least_label_ => k_is); (case k_least_label => k_is); (case a_row_of => k_is); (case l_row_of => k_is)
    (case c_row_of_ => k_is); (case k_row_of => k_is); (case d_row_of => k_is); (case e_row_of => k_is); (case a_numbers_in => k_is); (case l_numbers_in => k_is)
    (case c_numbers_in_ => k_is); (case k_numbers_in => k_is); (case a_price_with => k_is); (case l_price_with => k_is); (case c_price_with_ => k_is); (case k_price_with => k_is)
    (case a_price_table => k_is); (case l_price_table => k_is); (case c_price_table_ => k_is); (case k_price_table => k_is); (case aCL => k_is); (case pgCL => k_is)
    (case hdCL => k_is); (case poCL => k_is); (case saCL => k_is); (case naCLto_all => k_is); (case naCLrows => k_is); (case naCLprice => k_is)
    (case mkCL => k_is); (case kCL => k_is); (case neCL => k_is); (case obCL => k_is); (case haCL => k_is); (case hnCL => k_is)
    (case htCL => k_is); (case m_linit => k_is); (case ml_linit => k_is); (case mc_linit => k_is); (case mf_linit => k_is); (case mk_linit => k_is)
    (case m_eq => k_is); (case ml_eq => k_is); (case mc_eq => k_is); (case mf_eq => k_is); (case mk_eq => k_is); (case m_lt => k_is)
    (case ml_lt => k_is); (case mc_lt => k_is); (case mf_lt => k_is); (case mk_lt => k_is); (case m_le => k_is); (case ml_le => k_is)
    (case mc_le => k_is); (case mf_le => k_is); (case mk_le => k_is); (case m_gt => k_is); (case ml_gt => k_is); (case mc_gt => k_is)
    (case mf_gt => k_is); (case mk_gt => k_is); (case m_ge => k_is); (case ml_ge => k_is); (case mc_ge => k_is); (case mf_ge => k_is)
    (case mk_ge => k_is); (case a_plan => k_is); (case l_plan => k_is); (case c_plan_ => k_is); (case k_plan => k_is); (case a_law_source => k_is)
    (case l_law_source => k_is); (case c_law_source_ => k_is); (case k_law_source => k_is); (case a_law_draw => k_is); (case l_law_draw => k_is); (case c_law_draw_ => k_is)
    (case k_law_draw => k_is); (case a_law_plain => k_is); (case l_law_plain => k_is); (case c_law_plain_ => k_is); (case k_law_plain => k_is); (case a_law_words => k_is)
    (case l_law_words => k_is); (case c_law_words_ => k_is); (case k_law_words => k_is); (case a_law_chain => k_is); (case l_law_chain => k_is); (case c_law_chain_ => k_is)
    (case k_law_chain => k_is); (case a_law_parcel => k_is); (case l_law_parcel => k_is); (case c_law_parcel_ => k_is); (case k_law_parcel => k_is); (case a_law_world => k_is)
    (case l_law_world => k_is); (case c_law_world_ => k_is); (case k_law_world => k_is); (case a_law_ways => k_is); (case l_law_ways => k_is); (case c_law_ways_ => k_is)
    (case k_law_ways => k_is); (case a_law_least => k_is); (case l_law_least => k_is); (case c_law_least_ => k_is); (case k_law_least => k_is); (case a_law_numbers => k_is)
    (case l_law_numbers => k_is); (case c_law_numbers_ => k_is); (case k_law_numbers => k_is); (case a_law_price => k_is); (case l_law_price => k_is); (case c_law_price_ => k_is)
    (case k_law_price => k_is); (case a_law_planned => k_is); (case l_law_planned => k_is); (case c_law_planned_ => k_is); (case k_law_planned => k_is); (case a_law_table => k_is)
    (case l_law_table => k_is); (case c_law_table_ => k_is); (case k_law_table => k_is); (case a_law_row => k_is); (case l_law_row => k_is); (case c_law_row_ => k_is)
    (case k_law_row => k_is); (case a_law_row_due => k_is); (case l_law_row_due => k_is); (case c_law_row_due_ => k_is); (case k_law_row_due => k_is); (case a_law_plan_holds => k_is)
    (case l_law_plan_holds => k_is); (case c_law_plan_holds_ => k_is); (case k_law_plan_holds => k_is); (case a_law_compared => k_is); (case l_law_compared => k_is); (case c_law_compared_ => k_is)
    (case k_law_compared => k_is); (case a_law_plans => k_is); (case l_law_plans => k_is); (case c_law_plans_ => k_is); (case k_law_plans => k_is); (case a_law_single => k_is)
    (case l_law_single => k_is); (case c_law_single_ => k_is); (case k_law_single => k_is); (case a_law_equals => k_is); (case l_law_equals => k_is); (case c_law_equals_ => k_is)
    (case k_law_equals => k_is); (case a_law_six => k_is); (case l_law_six => k_is); (case c_law_six_ => k_is); (case k_law_six => k_is); (case a_law_refuses => k_is)
    (case l_law_refuses => k_is); (case c_law_refuses_ => k_is); (case k_law_refuses => k_is); (case a_law => k_is); (case l_law => k_is); (case c_law_ => k_is)
    (case k_law => k_is)
#print axioms PySem.Challenge.cw_romwright_k77_whole_cheapest_plan_holds
