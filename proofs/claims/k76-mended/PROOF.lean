import PyProof.Rows.All
import Wide.All
import OpenK.AllK
import Wide.FinOn
import PyProof.EqAt
import PyProof.EqKinds
import PyProof.TupleCall
import HandS.ForMost
import HandS.ForExc
import HandS.Deep
import HandS.TupAny
import HandS.Star
import HandS.IsInst
import HandS.TryMany
import HandS.Evl
import HandS.Conv
import KE.SortData
import KE.LtData
import HandS.Zip
import KE.GoesNew
import KE.GoesEnum
import HandS.ForSpec
import PySem.Challenge.RW_romwright_k76_mended
import HandS.Codes
/-! ## AbsA -/
set_option Elab.async false
set_option linter.all false
set_option maxRecDepth 100000
set_option maxHeartbeats 2000000
/-! An own layer over HandS: data as trees (D), a store of the objects that change (MS), readings over them. -/
namespace AL
open PySem PySem.Spec PyProof.Rows L2
open Evl (Ex)

/-- data by value: what does not change any more -/
inductive D where
  | non | bl (b : Bool) | int (i : Int) | str (x : Str)
  | tup (l : List D) | lst (l : List D)
  /-- a list that is locked (the script) -/
  | frl (l : List D)
  | ins (C : Addr) (fs : List (Str × D))

mutual
/-- the value shows the datum, in the part of the heap that stands -/
inductive Shw (G : Hp) : V → D → Prop
  | non : Shw G .non .non
  | bl (b : Bool) : Shw G (.bl b) (.bl b)
  | int (i : Int) : Shw G (.int i) (.int i)
  | str (x : Str) : Shw G (.str x) (.str x)
  | tup {a : Addr} {vs : List V} {ds : List D} : G a = some (.tup vs) → ShwL G vs ds → Shw G (.ref a) (.tup ds)
  | lst {a : Addr} {vs : List V} {ds : List D} : G a = some (.lst vs) → ShwL G vs ds → Shw G (.ref a) (.lst ds)
  | frl {a : Addr} {o : Obj} {vs : List V} {ds : List D} : G a = some (.frz o (.lst vs)) → ShwL G vs ds → Shw G (.ref a) (.frl ds)
  | ins {a C dx : Addr} {fv : List (Str × V)} {fs : List (Str × D)} : G a = some (.ins C dx fv) → ShwF G fv fs → Shw G (.ref a) (.ins C fs)
inductive ShwL (G : Hp) : List V → List D → Prop
  | nil : ShwL G [] []
  | cons {v : V} {vs : List V} {d : D} {ds : List D} : Shw G v d → ShwL G vs ds → ShwL G (v :: vs) (d :: ds)
inductive ShwF (G : Hp) : List (Str × V) → List (Str × D) → Prop
  | nil : ShwF G [] []
  | cons {f : Str} {v : V} {vs : List (Str × V)} {d : D} {ds : List (Str × D)} : Shw G v d → ShwF G vs ds → ShwF G ((f, v) :: vs) ((f, d) :: ds)
end

mutual
theorem Shw.mono {G G' : Hp} (e : Ex G G') : ∀ {v : V} {d : D}, Shw G v d → Shw G' v d
  | _, _, .non => .non
  | _, _, .bl b => .bl b
  | _, _, .int i => .int i
  | _, _, .str x => .str x
  | _, _, .tup h t => .tup (e _ _ h) (ShwL.mono e t)
  | _, _, .lst h t => .lst (e _ _ h) (ShwL.mono e t)
  | _, _, .frl h t => .frl (e _ _ h) (ShwL.mono e t)
  | _, _, .ins h t => .ins (e _ _ h) (ShwF.mono e t)
theorem ShwL.mono {G G' : Hp} (e : Ex G G') : ∀ {v : List V} {d : List D}, ShwL G v d → ShwL G' v d
  | _, _, .nil => .nil
  | _, _, .cons h t => .cons (Shw.mono e h) (ShwL.mono e t)
theorem ShwF.mono {G G' : Hp} (e : Ex G G') : ∀ {v : List (Str × V)} {d : List (Str × D)}, ShwF G v d → ShwF G' v d
  | _, _, .nil => .nil
  | _, _, .cons h t => .cons (Shw.mono e h) (ShwF.mono e t)
end
theorem ShwL.length {G : Hp} : ∀ {vs : List V} {ds : List D}, ShwL G vs ds → vs.length = ds.length
  | _, _, .nil => rfl
  | _, _, .cons _ t => congrArg (· + 1) (ShwL.length t)
theorem ShwL.append {G : Hp} : ∀ {vs ws : List V} {ds es : List D}, ShwL G vs ds → ShwL G ws es → ShwL G (vs ++ ws) (ds ++ es)
  | _, _, _, _, .nil, h => h
  | _, _, _, _, .cons h t, h2 => .cons h (ShwL.append t h2)
theorem ShwL.get {G : Hp} : ∀ {vs : List V} {ds : List D} {i : Nat} {d : D}, ShwL G vs ds → ds[i]? = some d → ∃ v, vs[i]? = some v ∧ Shw G v d
  | _, _, _, _, .nil, e => by simp at e
  | _, _, 0, _, .cons h _, e => by simp at e; subst e; exact ⟨_, rfl, h⟩
  | _, _, i + 1, d, .cons _ t, e => by
    obtain ⟨v, h1, h2⟩ := ShwL.get (i := i) (d := d) t (by simpa using e)
    exact ⟨v, by simpa using h1, h2⟩
theorem ShwL.getV {G : Hp} : ∀ {vs : List V} {ds : List D} {i : Nat} {v : V}, ShwL G vs ds → vs[i]? = some v → ∃ d, ds[i]? = some d ∧ Shw G v d
  | _, _, _, _, .nil, e => by simp at e
  | _, _, 0, _, .cons h _, e => by simp at e; subst e; exact ⟨_, rfl, h⟩
  | _, _, i + 1, d, .cons _ t, e => by
    obtain ⟨v, h1, h2⟩ := ShwL.getV (i := i) (v := d) t (by simpa using e)
    exact ⟨v, by simpa using h1, h2⟩
theorem ShwL.take {G : Hp} : ∀ {vs : List V} {ds : List D} (n : Nat), ShwL G vs ds → ShwL G (vs.take n) (ds.take n)
  | _, _, 0, _ => .nil
  | _, _, _ + 1, .nil => .nil
  | _, _, n + 1, .cons h t => .cons h (ShwL.take n t)
theorem ShwL.drop {G : Hp} : ∀ {vs : List V} {ds : List D} (n : Nat), ShwL G vs ds → ShwL G (vs.drop n) (ds.drop n)
  | _, _, 0, h => h
  | _, _, _ + 1, .nil => .nil
  | _, _, n + 1, .cons _ t => ShwL.drop n t
theorem ShwL.set {G : Hp} {x : V} {d : D} (h : Shw G x d) : ∀ {vs : List V} {ds : List D} (i : Nat), ShwL G vs ds → ShwL G (vs.set i x) (ds.set i d)
  | _, _, _, .nil => .nil
  | _, _, 0, .cons _ t => .cons h t
  | _, _, i + 1, .cons q t => .cons q (ShwL.set h i t)
theorem ShwL.dropLast {G : Hp} : ∀ {vs : List V} {ds : List D}, ShwL G vs ds → ShwL G vs.dropLast ds.dropLast := fun {vs ds} h => by
  rw [List.dropLast_eq_take, List.dropLast_eq_take, h.length]
  exact h.take _
theorem ShwF.lookup {G : Hp} {f : Str} : ∀ {vs : List (Str × V)} {ds : List (Str × D)} {d : D}, ShwF G vs ds → ds.lookup f = some d → ∃ v, vs.lookup f = some v ∧ Shw G v d
  | _, _, _, .nil, e => by simp at e
  | _, _, d, .cons (f := g) h t, e => by
    rw [List.lookup_cons] at e ⊢
    cases q : f == g with
    | true => rw [q] at e; simp at e; subst e; exact ⟨_, rfl, h⟩
    | false => rw [q] at e; exact ShwF.lookup t e
theorem ShwF.none {G : Hp} {f : Str} : ∀ {vs : List (Str × V)} {ds : List (Str × D)}, ShwF G vs ds → ds.lookup f = none → vs.lookup f = none
  | _, _, .nil, _ => rfl
  | _, _, .cons (f := g) h t, e => by
    rw [List.lookup_cons] at e ⊢
    cases q : f == g with
    | true => rw [q] at e; simp at e
    | false => rw [q] at e; exact ShwF.none t e
theorem ShwF.length {G : Hp} : ∀ {vs : List (Str × V)} {ds : List (Str × D)}, ShwF G vs ds → vs.length = ds.length
  | _, _, .nil => rfl
  | _, _, .cons _ t => congrArg (· + 1) (ShwF.length t)
def putD (f : Str) (v : D) : List (Str × D) → List (Str × D)
  | [] => [(f, v)]
  | (g, x) :: r => if g = f then (g, v) :: r else (g, x) :: putD f v r
theorem ShwF.put {G : Hp} {f : Str} {v : V} {d : D} (h : Shw G v d) : ∀ {vs : List (Str × V)} {ds : List (Str × D)}, ShwF G vs ds → ShwF G (putF f v vs) (putD f d ds)
  | _, _, .nil => .cons h .nil
  | _, _, .cons (f := g) q t => by
    unfold putF putD
    by_cases e : g = f
    · rw [if_pos e, if_pos e]; exact .cons h t
    · rw [if_neg e, if_neg e]; exact .cons q (ShwF.put h t)

/-- what an expression gives: a datum, or a bare value (an object of the store, a class) -/
inductive SD where
  | d (d : D) | v (v : V)
  /-- a caught exception: at a, of the class at C, its dict at dd holds the field f -/
  | e (a C dd : Addr) (f : Str) (dv : D)
def SOk (G : Hp) (u : V) : SD → Prop
  | .d d => Shw G u d
  | .v v => u = v
  | .e a _ dd f dv => u = .ref a ∧ ∃ w, G dd = some (.xd [(f, w)]) ∧ Shw G w dv
theorem SOk.mono {G G' : Hp} (e : Ex G G') {u : V} : ∀ {sd : SD}, SOk G u sd → SOk G' u sd
  | .d _, h => Shw.mono e h
  | .v _, h => h
  | .e _ _ _ _ _, ⟨h, w, h1, h2⟩ => ⟨h, w, e _ _ h1, h2.mono e⟩

/-- an object that may change -/
inductive MO where
  | l (ds : List D) | t (kvs : List (List Key × D)) | k (kvs : List (Key × D)) | i (C : Addr) (fs : List (Str × D))
def KvS (κ : Type) (G : Hp) : List (κ × V) → List (κ × D) → Prop := Paired fun p q => p.1 = q.1 ∧ Shw G p.2 q.2
def MOk (G H : Hp) (a : Addr) : MO → Prop
  | .l ds => ∃ vs, H a = some (.lst vs) ∧ ShwL G vs ds
  | .t kvs => ∃ us, H a = some (.dT us) ∧ KvS _ G us kvs
  | .k kvs => ∃ us, H a = some (.dK us) ∧ KvS _ G us kvs
  | .i C fs => ∃ dx fv, H a = some (.ins C dx fv) ∧ ShwF G fv fs
abbrev MS := Addr → Option MO
def mu (ms : MS) (a : Addr) (o : MO) : MS := fun b => if b = a then some o else ms b
def md (ms : MS) (a : Addr) : MS := fun b => if b = a then none else ms b
theorem mu_same {ms : MS} {a : Addr} {o : MO} : mu ms a o a = some o := if_pos rfl
theorem mu_ne {ms : MS} {a b : Addr} {o : MO} (h : b ≠ a) : mu ms a o b = ms b := if_neg h
theorem mu_mu {ms : MS} {a : Addr} {o p : MO} : mu (mu ms a o) a p = mu ms a p := by
  funext b; unfold mu; split <;> rfl
theorem mu_comm {ms : MS} {a b : Addr} {o p : MO} (h : a ≠ b) : mu (mu ms a o) b p = mu (mu ms b p) a o := by
  funext c; unfold mu; split
  · rename_i e; subst e; rw [if_neg (Ne.symm h)]
  · rfl
theorem mu_id {ms : MS} {a : Addr} {o : MO} (h : ms a = some o) : mu ms a o = ms := by
  funext b; unfold mu; split
  · rename_i e; rw [e, h]
  · rfl
def Sub (ms ms' : MS) : Prop := ∀ a o, ms a = some o → ms' a = some o
theorem Sub.refl (ms : MS) : Sub ms ms := fun _ _ h => h
theorem Sub.mu {ms : MS} {a : Addr} {o : MO} (h : ms a = none) : Sub ms (mu ms a o) := fun b u e => by
  rw [mu_ne (fun z => by rw [z, h] at e; cases e)]; exact e
theorem Sub.mumu {ms ms' : MS} {a : Addr} {o : MO} (h : Sub ms ms') : Sub (AL.mu ms a o) (AL.mu ms' a o) := fun b u e => by
  unfold AL.mu at *
  split
  · rename_i z; rw [if_pos z] at e; exact e
  · rename_i z; rw [if_neg z] at e; exact h _ _ e
theorem Sub.trans {a b c : MS} (h : Sub a b) (g : Sub b c) : Sub a c := fun x o e => g x o (h x o e)

theorem KvS.mono {κ : Type} {G G' : Hp} (e : Ex G G') {us : List (κ × V)} {ks : List (κ × D)} (h : KvS κ G us ks) : KvS κ G' us ks := Paired.mapP h fun _ _ q => ⟨q.1, q.2.mono e⟩
theorem MOk.mono {G G' H H' : Hp} (e : Ex G G') {a : Addr} (h : H' a = H a) : ∀ {o : MO}, MOk G H a o → MOk G' H' a o
  | .l _, ⟨vs, h1, h2⟩ => ⟨vs, h.trans h1, h2.mono e⟩
  | .t _, ⟨vs, h1, h2⟩ => ⟨vs, h.trans h1, h2.mono e⟩
  | .k _, ⟨vs, h1, h2⟩ => ⟨vs, h.trans h1, h2.mono e⟩
  | .i _ _, ⟨dx, vs, h1, h2⟩ => ⟨dx, vs, h.trans h1, h2.mono e⟩
theorem MOk.some {G H : Hp} {a : Addr} : ∀ {o : MO}, MOk G H a o → ∃ u, H a = some u
  | .l _, ⟨_, h, _⟩ => ⟨_, h⟩
  | .t _, ⟨_, h, _⟩ => ⟨_, h⟩
  | .k _, ⟨_, h, _⟩ => ⟨_, h⟩
  | .i _ _, ⟨_, _, h, _⟩ => ⟨_, h⟩

/-- the heap H: what stands (G), what is put aside (F), the store (ms) -/
structure Good (H G F : Hp) (ms : MS) : Prop where
  ex : Ex G H
  fr : ∀ a o, F a = some o → H a = some o ∧ G a = none ∧ ms a = none
  ok : ∀ a o, ms a = some o → G a = none ∧ MOk G H a o
section
variable {H G F : Hp} {ms ms' : MS} {a p : Addr} {o : HO} {m m' : MO}
theorem Ex.new' (h : H p = none) (g : Ex G H) : Ex G (upd G p o) := Ex.new (Evl.fresh_back g h)
/-- a new object that stands -/
theorem Good.new (g : Good H G F ms) (h : H p = none) : Good (upd H p o) (upd G p o) F ms where
  ex := fun b u e => by
    by_cases z : b = p
    · subst z; rw [upd_same] at e ⊢; exact e
    · rw [upd_ne z] at e ⊢; exact g.ex b u e
  fr := fun b u e => by
    obtain ⟨h1, h2, h3⟩ := g.fr b u e
    have z : b ≠ p := ne_of_none h1 h
    exact ⟨by rw [upd_ne z]; exact h1, by rw [upd_ne z]; exact h2, h3⟩
  ok := fun b u e => by
    obtain ⟨h1, h2⟩ := g.ok b u e
    obtain ⟨w, hw⟩ := h2.some
    have z : b ≠ p := ne_of_none hw h
    exact ⟨by rw [upd_ne z]; exact h1, h2.mono (Ex.new' h g.ex) (upd_ne z)⟩
theorem Good.exn (g : Good H G F ms) (h : H p = none) : Ex G (upd G p o) := Ex.new' h g.ex
/-- an object of the store changes -/
theorem Good.mut (g : Good H G F ms) (h : ms a = some m) (h' : MOk G (upd H a o) a m') : Good (upd H a o) G F (mu ms a m') where
  ex := fun b u e => by
    rw [upd_ne (ne_of_none e (g.ok a m h).1)]; exact g.ex b u e
  fr := fun b u e => by
    obtain ⟨h1, h2, h3⟩ := g.fr b u e
    have z : b ≠ a := fun z => by rw [z, h] at h3; cases h3
    exact ⟨by rw [upd_ne z]; exact h1, h2, by rw [mu_ne z]; exact h3⟩
  ok := fun b u e => by
    by_cases z : b = a
    · subst z; rw [mu_same] at e; cases e; exact ⟨(g.ok _ _ h).1, h'⟩
    · rw [mu_ne z] at e
      exact ⟨(g.ok b u e).1, (g.ok b u e).2.mono (Ex.refl G) (upd_ne z)⟩
/-- a new object of the store -/
theorem Good.newM (g : Good H G F ms) (h : H p = none) (h' : MOk G (upd H p o) p m') : Good (upd H p o) G F (mu ms p m') where
  ex := fun b u e => by
    rw [upd_ne (ne_of_none (g.ex b u e) h)]; exact g.ex b u e
  fr := fun b u e => by
    obtain ⟨h1, h2, h3⟩ := g.fr b u e
    have z : b ≠ p := ne_of_none h1 h
    exact ⟨by rw [upd_ne z]; exact h1, h2, by rw [mu_ne z]; exact h3⟩
  ok := fun b u e => by
    by_cases z : b = p
    · subst z; rw [mu_same] at e; cases e; exact ⟨Evl.fresh_back g.ex h, h'⟩
    · rw [mu_ne z] at e
      exact ⟨(g.ok b u e).1, (g.ok b u e).2.mono (Ex.refl G) (upd_ne z)⟩
theorem Good.fresh (g : Good H G F ms) (h : H p = none) : ms p = none ∧ G p = none ∧ F p = none := by
  refine ⟨?_, Evl.fresh_back g.ex h, ?_⟩
  · cases e : ms p with
    | none => rfl
    | some m =>
      obtain ⟨u, hu⟩ := (g.ok p m e).2.some
      rw [h] at hu; cases hu
  · cases e : F p with
    | none => rfl
    | some m => rw [(g.fr p m e).1] at h; cases h
theorem Good.drop (g : Good H G F ms) (s : Sub ms' ms) : Good H G F ms' where
  ex := g.ex
  fr := fun b u e => ⟨(g.fr b u e).1, (g.fr b u e).2.1, by
    cases q : ms' b with
    | none => rfl
    | some m => have := s b m q; rw [(g.fr b u e).2.2] at this; cases this⟩
  ok := fun b u e => g.ok b u (s b u e)
/-- an object of the store is put aside -/
theorem Good.aside (g : Good H G F ms) (h : ms a = some m) (ho : H a = some o) : Good H G (upd F a o) (md ms a) where
  ex := g.ex
  fr := fun b u e => by
    by_cases z : b = a
    · subst z; rw [upd_same] at e; cases e; exact ⟨ho, (g.ok _ _ h).1, if_pos rfl⟩
    · rw [upd_ne z] at e
      exact ⟨(g.fr b u e).1, (g.fr b u e).2.1, (if_neg z).trans (g.fr b u e).2.2⟩
  ok := fun b u e => by
    by_cases z : b = a
    · subst z; rw [show md ms b b = none from if_pos rfl] at e; cases e
    · rw [show md ms a b = ms b from if_neg z] at e; exact g.ok b u e
/-- an object is put aside that none knows -/
theorem Good.asideN (g : Good H G F ms) (h : H p = none) : Good (upd H p o) G (upd F p o) ms where
  ex := fun b u e => by rw [upd_ne (ne_of_none (g.ex b u e) h)]; exact g.ex b u e
  fr := fun b u e => by
    by_cases z : b = p
    · subst z; rw [upd_same] at e; cases e; exact ⟨upd_same, (g.fresh h).2.1, (g.fresh h).1⟩
    · rw [upd_ne z] at e ⊢
      exact g.fr b u e
  ok := fun b u e => by
    have z : b ≠ p := fun z => by rw [z, (g.fresh h).1] at e; cases e
    exact ⟨(g.ok b u e).1, (g.ok b u e).2.mono (Ex.refl G) (upd_ne z)⟩
/-- what was put aside changes -/
theorem Good.asideW (g : Good H G (upd F p o) ms) {o' : HO} : Good (upd H p o') G (upd F p o') ms where
  ex := fun b u e => by
    have h := g.fr p o upd_same
    rw [upd_ne (ne_of_none e h.2.1)]; exact g.ex b u e
  fr := fun b u e => by
    have h := g.fr p o upd_same
    by_cases z : b = p
    · subst z; rw [upd_same] at e; cases e; exact ⟨upd_same, h.2⟩
    · rw [upd_ne z] at e ⊢
      exact g.fr b u (by rw [upd_ne z]; exact e)
  ok := fun b u e => by
    have h := g.fr p o upd_same
    have z : b ≠ p := fun z => by rw [z, h.2.2] at e; cases e
    exact ⟨(g.ok b u e).1, (g.ok b u e).2.mono (Ex.refl G) (upd_ne z)⟩
/-- what was put aside stands -/
theorem Good.back (g : Good H G (upd F p o) ms) (hF : F p = none) : Good H (upd G p o) F ms ∧ Ex G (upd G p o) := by
  have h := g.fr p o upd_same
  have ex : Ex G (upd G p o) := Ex.new h.2.1
  refine ⟨⟨fun b u e => ?_, fun b u e => ?_, fun b u e => ?_⟩, ex⟩
  · by_cases z : b = p
    · subst z; rw [upd_same] at e; cases e; exact h.1
    · rw [upd_ne z] at e; exact g.ex b u e
  · have z : b ≠ p := fun z => by rw [z, hF] at e; cases e
    obtain ⟨h1, h2, h3⟩ := g.fr b u (by rw [upd_ne z]; exact e)
    exact ⟨h1, by rw [upd_ne z]; exact h2, h3⟩
  · have z : b ≠ p := fun z => by rw [z, h.2.2] at e; cases e
    exact ⟨by rw [upd_ne z]; exact (g.ok b u e).1, (g.ok b u e).2.mono ex rfl⟩
theorem Good.forget (g : Good H G (upd F p o) ms) (hF : F p = none) : Good H G F ms where
  ex := g.ex
  fr := fun b u e => g.fr b u (by rw [upd_ne (fun z => by rw [z, hF] at e; cases e)]; exact e)
  ok := g.ok
/-- a list of the store that stands from now on -/
theorem Good.freezeL (g : Good H G F ms) {ds : List D} (h : ms a = some (.l ds)) : ∃ G', Ex G G' ∧ Good H G' F (md ms a) ∧ Shw G' (.ref a) (.lst ds) := by
  obtain ⟨hg, vs, hv, hs⟩ := g.ok a _ h
  have ex : Ex G (upd G a (.lst vs)) := Ex.new hg
  refine ⟨_, ex, ⟨fun b u e => ?_, fun b u e => ?_, fun b u e => ?_⟩, .lst upd_same (hs.mono ex)⟩
  · by_cases z : b = a
    · subst z; rw [upd_same] at e; cases e; exact hv
    · rw [upd_ne z] at e; exact g.ex b u e
  · obtain ⟨h1, h2, h3⟩ := g.fr b u e
    have z : b ≠ a := fun z => by rw [z, h] at h3; cases h3
    exact ⟨h1, by rw [upd_ne z]; exact h2, (if_neg z).trans h3⟩
  · by_cases z : b = a
    · subst z; rw [show md ms b b = none from if_pos rfl] at e; cases e
    · rw [show md ms a b = ms b from if_neg z] at e
      exact ⟨by rw [upd_ne z]; exact (g.ok b u e).1, (g.ok b u e).2.mono ex rfl⟩
theorem Good.freezeI (g : Good H G F ms) {C : Addr} {fs : List (Str × D)} (h : ms a = some (.i C fs)) : ∃ G', Ex G G' ∧ Good H G' F (md ms a) ∧ Shw G' (.ref a) (.ins C fs) := by
  obtain ⟨hg, dx, vs, hv, hs⟩ := g.ok a _ h
  have ex : Ex G (upd G a (.ins C dx vs)) := Ex.new hg
  refine ⟨_, ex, ⟨fun b u e => ?_, fun b u e => ?_, fun b u e => ?_⟩, .ins upd_same (hs.mono ex)⟩
  · by_cases z : b = a
    · subst z; rw [upd_same] at e; cases e; exact hv
    · rw [upd_ne z] at e; exact g.ex b u e
  · obtain ⟨h1, h2, h3⟩ := g.fr b u e
    have z : b ≠ a := fun z => by rw [z, h] at h3; cases h3
    exact ⟨h1, by rw [upd_ne z]; exact h2, (if_neg z).trans h3⟩
  · by_cases z : b = a
    · subst z; rw [show md ms b b = none from if_pos rfl] at e; cases e
    · rw [show md ms a b = ms b from if_neg z] at e
      exact ⟨by rw [upd_ne z]; exact (g.ok b u e).1, (g.ok b u e).2.mono ex rfl⟩
end
end AL

/-! ## AbsB -/
set_option Elab.async false
set_option linter.all false
set_option maxRecDepth 100000
set_option maxHeartbeats 2000000
namespace AL
open PySem PySem.Spec PyProof.Rows L2
open Evl (Ex)

theorem okd {G : Hp} {v : V} {d : D} (h : Shw G v d) : SOk G v (.d d) := h
theorem okv {G : Hp} {v : V} : SOk G v (.v v) := rfl

/-! ### slots -/
abbrev Gam := List (Option SD)
def EOk (G : Hp) (σ : L2.St) (Γ : Gam) : Prop := σ.length = Γ.length ∧ ∀ (i : Nat) (sd : SD), Γ[i]? = some (some sd) → ∃ v, σ[i]? = some (some v) ∧ SOk G v sd
theorem EOk.mono {G G' : Hp} {σ : L2.St} {Γ : Gam} (e : Ex G G') (h : EOk G σ Γ) : EOk G' σ Γ :=
  ⟨h.1, fun i sd q => let ⟨v, a, b⟩ := h.2 i sd q; ⟨v, a, b.mono e⟩⟩
theorem EOk.set {G : Hp} {σ : L2.St} {Γ : Gam} {v : V} {sd : SD} (h : EOk G σ Γ) (s : SOk G v sd) (i : Nat) : EOk G (σ.set i (some v)) (Γ.set i (some sd)) := by
  refine ⟨by rw [List.length_set, List.length_set]; exact h.1, fun j t q => ?_⟩
  rw [List.getElem?_set] at q ⊢
  by_cases e : i = j
  · rw [if_pos e] at q ⊢
    rw [h.1]
    split at q
    · rename_i z; rw [if_pos z]; cases q; exact ⟨v, rfl, s⟩
    · cases q
  · rw [if_neg e] at q ⊢; exact h.2 j t q
def wipeG (Γ : Gam) : List Nat → Gam
  | [] => Γ
  | v :: vs => (wipeG Γ vs).set v none
theorem EOk.forget {G : Hp} {σ : L2.St} {Γ : Gam} (h : EOk G σ Γ) (i : Nat) : EOk G (σ.set i none) (Γ.set i none) := by
  refine ⟨by rw [List.length_set, List.length_set]; exact h.1, fun j t q => ?_⟩
  rw [List.getElem?_set] at q ⊢
  by_cases e : i = j
  · rw [if_pos e] at q
    split at q
    · cases q
    · cases q
  · rw [if_neg e] at q ⊢; exact h.2 j t q
theorem EOk.wipe {G : Hp} {σ : L2.St} {Γ : Gam} (h : EOk G σ Γ) : ∀ vs : List Nat, EOk G (L2.wipe σ vs) (wipeG Γ vs)
  | [] => h
  | v :: vs => (EOk.wipe h vs).forget v
/-- a slot's knowledge dropped -/
def GSub (Γ Γ' : Gam) : Prop := Γ.length = Γ'.length ∧ ∀ (i : Nat) (sd : SD), Γ[i]? = some (some sd) → Γ'[i]? = some (some sd)
theorem EOk.sub {G : Hp} {σ : L2.St} {Γ Γ' : Gam} (h : EOk G σ Γ') (s : GSub Γ Γ') : EOk G σ Γ := ⟨h.1.trans s.1.symm, fun i sd q => h.2 i sd (s.2 i sd q)⟩

abbrev SOkL (G : Hp) : List V → List SD → Prop := Paired (SOk G)
theorem SOkL.mono {G G' : Hp} (e : Ex G G') {vs : List V} {sds : List SD} (h : SOkL G vs sds) : SOkL G' vs sds := Paired.mapP h fun _ _ q => q.mono e

/-! ### what is wanted -/
abbrev AX := Addr → Str → D → MS → Prop
def KE (G F : Hp) (k : SD → MS → Prop) (Q : VK) : Prop := ∀ v H2 G2 sd ms2, Ex G G2 → Good H2 G2 F ms2 → SOk G2 v sd → k sd ms2 → Q v H2
def KT (G F : Hp) (k : Bool → MS → Prop) (Q : Bool → Hp → Prop) : Prop := ∀ b H2 G2 ms2, Ex G G2 → Good H2 G2 F ms2 → k b ms2 → Q b H2
def KA (n : Nat) (G F : Hp) (k : List SD → MS → Prop) (Q : List V → Hp → Prop) : Prop := ∀ vs H2 G2 sds ms2, Ex G G2 → Good H2 G2 F ms2 → SOkL G2 vs sds → sds.length = n → k sds ms2 → Q vs H2
def XW (W : WX) (G F : Hp) (σ : L2.St) (x : AX) : Prop := ∀ C d f u dv H2 G2 ms2, Ex G G2 → Good H2 G2 F ms2 → G2 d = some (.xd [(f, u)]) → Shw G2 u dv → x C f dv ms2 → W (.ref C) (some d) σ H2
theorem KE.mono {G G1 F : Hp} {k : SD → MS → Prop} {Q : VK} (e : Ex G G1) (h : KE G F k Q) : KE G1 F k Q := fun v H2 G2 sd ms2 e2 => h v H2 G2 sd ms2 (e.trans e2)
theorem KT.mono {G G1 F : Hp} {k : Bool → MS → Prop} {Q : Bool → Hp → Prop} (e : Ex G G1) (h : KT G F k Q) : KT G1 F k Q := fun v H2 G2 ms2 e2 => h v H2 G2 ms2 (e.trans e2)
theorem KA.mono {n : Nat} {G G1 F : Hp} {k : List SD → MS → Prop} {Q : List V → Hp → Prop} (e : Ex G G1) (h : KA n G F k Q) : KA n G1 F k Q := fun v H2 G2 sd ms2 e2 => h v H2 G2 sd ms2 (e.trans e2)
theorem XW.mono {W : WX} {G G1 F : Hp} {σ : L2.St} {x : AX} (e : Ex G G1) (h : XW W G F σ x) : XW W G1 F σ x := fun C d f u dv H2 G2 ms2 e2 => h C d f u dv H2 G2 ms2 (e.trans e2)

/-! ### judgements -/
abbrev AER := Gam → MS → (SD → MS → Prop) → AX → Prop
abbrev ATR := Gam → MS → (Bool → MS → Prop) → AX → Prop
abbrev AAR := Gam → MS → (List SD → MS → Prop) → AX → Prop
structure AE (X : Cx) (W : WX) (e : Expr) (t : TE) (r : AER) : Prop where
  pe : PE X e t
  ok : ∀ Γ ms k x, r Γ ms k x → ∀ σ H G F Q, EOk G σ Γ → Good H G F ms → KE G F k Q → XW W G F σ x → t σ H Q
structure AT (X : Cx) (W : WX) (e : Expr) (t : TT) (r : ATR) : Prop where
  pe : PT X e t
  ok : ∀ Γ ms k x, r Γ ms k x → ∀ σ H G F Q, EOk G σ Γ → Good H G F ms → KT G F k Q → XW W G F σ x → t σ H Q
structure AW (X : Cx) (W : WX) (e : Expr) (t : TT) (r : ATR) : Prop where
  pe : PW X e t
  ok : ∀ Γ ms k x, r Γ ms k x → ∀ σ H G F Q, EOk G σ Γ → Good H G F ms → KT G F k Q → XW W G F σ x → t σ H Q
structure AA (X : Cx) (W : WX) (es : List Expr) (t : TA) (r : AAR) : Prop where
  pe : PA X es t
  ok : ∀ Γ ms k x, r Γ ms k x → ∀ σ H G F Q, EOk G σ Γ → Good H G F ms → KA es.length G F k Q → XW W G F σ x → t σ H Q

/-! ### what operations on values ask -/
def KZ (G F : Hp) (ms : MS) (k : SD → Prop) (Q : VK) : Prop := ∀ z H2 G2 sd, Ex G G2 → Good H2 G2 F ms → SOk G2 z sd → k sd → Q z H2
section
variable {H G F : Hp} {ms : MS} {k : SD → Prop} {Q : VK}
theorem KZ.here (h : KZ G F ms k Q) (g : Good H G F ms) {z : V} {sd : SD} (s : SOk G z sd) (q : k sd) : Q z H := h z H G sd (Ex.refl G) g s q
theorem KZ.tup (h : KZ G F ms k Q) (g : Good H G F ms) {vs : List V} {ds : List D} (s : ShwL G vs ds) (q : k (.d (.tup ds))) : ∀ p, H p = none → Q (.ref p) (upd H p (.tup vs)) := fun p hp =>
  h _ _ _ _ (g.exn hp) (g.new hp) (okd (.tup upd_same (s.mono (g.exn hp)))) q
theorem KZ.lst (h : KZ G F ms k Q) (g : Good H G F ms) {vs : List V} {ds : List D} (s : ShwL G vs ds) (q : k (.d (.lst ds))) : ∀ p, H p = none → Q (.ref p) (upd H p (.lst vs)) := fun p hp =>
  h _ _ _ _ (g.exn hp) (g.new hp) (okd (.lst upd_same (s.mono (g.exn hp)))) q
end
abbrev AO2 := MS → SD → SD → (SD → Prop) → Prop
abbrev AO1 := MS → SD → (SD → Prop) → Prop
abbrev AOL := MS → List SD → (SD → Prop) → Prop
def OpA (r : R2) (o : AO2) : Prop := ∀ ms x y k, o ms x y k → ∀ v u H G F Q, Good H G F ms → SOk G v x → SOk G u y → KZ G F ms k Q → r v u H Q
def UnA (r : V → Hp → VK → Prop) (o : AO1) : Prop := ∀ ms x k, o ms x k → ∀ v H G F Q, Good H G F ms → SOk G v x → KZ G F ms k Q → r v H Q
def ClA (r : List V → Hp → VK → Prop) (o : AOL) : Prop := ∀ ms xs k, o ms xs k → ∀ vs H G F Q, Good H G F ms → SOkL G vs xs → KZ G F ms k Q → r vs H Q
/-- a list or tuple, wherever it stands -/
def seqOf (ms : MS) : SD → Option (List D)
  | .d (.lst ds) => some ds
  | .d (.tup ds) => some ds
  | .d (.frl ds) => some ds
  | .v (.ref p) => match ms p with
    | some (.l ds) => some ds
    | _ => none
  | _ => none
theorem seqOf_ok2 {K : PySem.W.Frag} {H G F : Hp} {ms : MS} (g : Good H G F ms) {u : V} : ∀ {sd : SD} {ds : List D}, SOk G u sd → seqOf ms sd = some ds → ∃ a vs, u = .ref a ∧ ((sd = .d (.tup ds) ∧ SqT K H a vs) ∨ SqL K H a vs) ∧ ShwL G vs ds
  | .d (.lst _), _, s, e => by cases e; cases s with | lst h t => exact ⟨_, _, rfl, .inr (Evl.sq_of (g.ex _ _ h)), t⟩
  | .d (.frl _), _, s, e => by cases e; cases s with | frl h t => exact ⟨_, _, rfl, .inr (.inl (.inr ⟨_, g.ex _ _ h⟩)), t⟩
  | .d (.tup _), _, s, e => by cases e; cases s with | tup h t => exact ⟨_, _, rfl, .inl ⟨rfl, Evl.st_of (g.ex _ _ h)⟩, t⟩
  | .v (.ref p), ds, s, e => by
    have e : (match ms p with | some (.l ds) => some ds | _ => none) = some ds := e
    split at e
    · rename_i q
      cases e
      obtain ⟨_, vs, h1, h2⟩ := g.ok p _ q
      exact ⟨p, vs, s, .inr (Evl.sq_of h1), h2⟩
    · cases e
  | .d .non, _, _, e => by cases e
  | .d (.bl _), _, _, e => by cases e
  | .d (.int _), _, _, e => by cases e
  | .d (.str _), _, _, e => by cases e
  | .d (.ins _ _), _, _, e => by cases e
  | .v .non, _, _, e => by cases e
  | .v (.bl _), _, _, e => by cases e
  | .v (.int _), _, _, e => by cases e
  | .v (.str _), _, _, e => by cases e
  | .v (.byt _), _, _, e => by cases e
  | .v (.flt _), _, _, e => by cases e
  | .v (.ty _), _, _, e => by cases e
  | .e _ _ _ _ _, _, _, e => by cases e
theorem seqOf_ok {K : PySem.W.Frag} {H G F : Hp} {ms : MS} (g : Good H G F ms) {u : V} {sd : SD} {ds : List D} (s : SOk G u sd) (e : seqOf ms sd = some ds) : ∃ a vs, u = .ref a ∧ (SqL K H a vs ∨ SqT K H a vs) ∧ ShwL G vs ds := by
  obtain ⟨a, vs, h1, h2, h3⟩ := seqOf_ok2 (K := K) g s e
  exact ⟨a, vs, h1, h2.elim (fun h => .inr h.2) .inl, h3⟩

/-! ### names, constants -/
section
variable {X : Cx} {W : WX} {pos : Pos}
theorem ae_of {e : Expr} {v : V} {d : D} (h : PE X e (tC v)) (s : ∀ G, Shw G v d) : AE X W e (tC v) (fun _ ms k _ => k (.d d) ms) :=
  ⟨h, fun _ _ _ _ q _ H G _ _ _ g kk _ => kk v H G _ _ (Ex.refl G) g (okd (s G)) q⟩
theorem ae_int {i : Int} {j} : AE X W (.Constant (.int i) j pos) (tC (.int i)) (fun _ ms k _ => k (.d (.int i)) ms) := ae_of pe_int fun _ => .int i
theorem ae_bl {b : Bool} {j} : AE X W (.Constant (.bool b) j pos) (tC (.bl b)) (fun _ ms k _ => k (.d (.bl b)) ms) := ae_of pe_bl fun _ => .bl b
theorem ae_non {j} : AE X W (.Constant .none j pos) (tC .non) (fun _ ms k _ => k (.d .non) ms) := ae_of pe_non fun _ => .non
theorem ae_str {x : Str} {j} : AE X W (.Constant (.str x) j pos) (tC (.str x)) (fun _ ms k _ => k (.d (.str x)) ms) := ae_of pe_str fun _ => .str x
/-- the i-th slot -/
def rV (i : Nat) : AER := fun Γ ms k _ => match Γ[i]? with
  | some (some sd) => k sd ms
  | _ => False
theorem ae_v (i : Nat) {x : Str} (hN : X.N[i]? = some x := by rfl) (hv : Vis X.env.scope x := by first | exact Or.inl rfl | exact Or.inr (Or.inl rfl) | exact Or.inr (Or.inr rfl)) (hd : (x == ("__debug__" : Str)) = false := by decide)
    (hcd : (x == ("__classdict__" : Str)) = false := by decide) : AE X W (.Name x pos) (tVar i) (rV i) := by
  refine ⟨pe_var hN hv hd hcd, fun Γ ms k x h σ H G F Q ev g kk _ => ?_⟩
  unfold rV at h
  split at h
  · rename_i sd e
    obtain ⟨v, h1, h2⟩ := ev.2 i sd e
    exact ⟨v, h1, kk v H G sd ms (Ex.refl G) g h2 h⟩
  · exact h.elim
/-- a constant of the module -/
theorem ae_gint {x : Str} {i : Int} {t : Tok} (hg : Gl X x) (hm : X.mg x = some (.int i t)) (hd : (x == ("__debug__" : Str)) = false := by decide) : AE X W (.Name x pos) (tC (.int i)) (fun _ ms k _ => k (.d (.int i)) ms) := ae_of (pe_glob hg hm (v := .int i) ⟨t, rfl⟩ hd) fun _ => .int i
theorem ae_gstr {x y : Str} {t : Tok} (hg : Gl X x) (hm : X.mg x = some (.str y t)) (hd : (x == ("__debug__" : Str)) = false := by decide) : AE X W (.Name x pos) (tC (.str y)) (fun _ ms k _ => k (.d (.str y)) ms) := ae_of (pe_glob hg hm (v := .str y) ⟨t, rfl⟩ hd) fun _ => .str y

/-! ### arguments, displays -/
theorem aa_nil : AA X W [] tNil (fun _ ms k _ => k [] ms) := ⟨pa_nil, fun _ _ _ _ h _ H G _ _ _ g kk _ => kk [] H G [] _ (Ex.refl G) g .nil rfl h⟩
theorem aa_cons {e : Expr} {es : List Expr} {ra : AER} {rr : AAR} {ta : TE} {tr : TA} (ha : AE X W e ta ra) (hr : AA X W es tr rr) (hs : starEach (e :: es) X.env = (false, eval e X.env) :: starEach es X.env := by rfl) :
    AA X W (e :: es) (tCons ta tr) (fun Γ ms k x => ra Γ ms (fun a ms1 => rr Γ ms1 (fun as ms2 => k (a :: as) ms2) x) x) := by
  have p1 := ha.pe
  have h1 := ha.ok
  have p2 := hr.pe
  have h2 := hr.ok
  refine ⟨pa_cons p1 p2 hs, fun Γ ms k x h σ H G F Q ev g kk xw => ?_⟩
  refine h1 Γ ms _ x h σ H G F _ ev g (fun v H1 G1 sd ms1 e1 g1 s1 q1 => ?_) xw
  refine h2 Γ ms1 _ x q1 σ H1 G1 F _ (ev.mono e1) g1 (fun vs H2 G2 sds ms2 e2 g2 s2 l2 q2 => ?_) (xw.mono e1)
  exact kk _ H2 G2 _ ms2 (e1.trans e2) g2 (.cons (s1.mono e2) s2) (by rw [List.length_cons, l2]; rfl) q2
/-- values that are data -/
def asDs : List SD → (List D → Prop) → Prop
  | [], k => k []
  | .d d :: r, k => asDs r fun ds => k (d :: ds)
  | _ :: _, _ => False
theorem asDs_ok {G : Hp} : ∀ {sds : List SD} {vs : List V} {k : List D → Prop}, SOkL G vs sds → asDs sds k → ∃ ds, ShwL G vs ds ∧ k ds
  | [], _, _, .nil, h => ⟨[], .nil, h⟩
  | .d d :: r, _, k, .cons s t, h => by
    obtain ⟨ds, a, b⟩ := asDs_ok (sds := r) t h
    exact ⟨d :: ds, .cons s a, b⟩
  | .v _ :: _, _, _, .cons _ _, h => h.elim
  | .e _ _ _ _ _ :: _, _, _, .cons _ _, h => h.elim
theorem small_len {n : Nat} (h : n ≤ 1000) : n ≤ sizeLine := Nat.le_trans h (by decide)
theorem ae_tup {es : List Expr} {r : AAR} {t : TA} {x1} (h : AA X W es t r) (hl : es.length ≤ 1000 := by decide) : AE X W (.Tuple es x1 pos) (tTup t) (fun Γ ms k x => r Γ ms (fun sds ms1 => asDs sds fun ds => k (.d (.tup ds)) ms1) x) := by
  have p := h.pe
  have h1 := h.ok
  refine ⟨pe_tup p, fun Γ ms k x h σ H G F Q ev g kk xw => ?_⟩
  refine h1 Γ ms _ x h σ H G F _ ev g (fun vs H1 G1 sds ms1 e1 g1 s1 l1 q1 => ?_) xw
  obtain ⟨ds, sd, q⟩ := asDs_ok s1 q1
  exact ⟨small_len (by rw [s1.length, l1]; exact hl), fun p hp => kk _ _ _ _ _ (e1.trans (g1.exn hp)) (g1.new hp) (okd (.tup upd_same (sd.mono (g1.exn hp)))) q⟩
/-- a list of which nothing is changed later -/
theorem ae_lst {es : List Expr} {r : AAR} {t : TA} (h : AA X W es t r) (hl : es.length ≤ 1000 := by decide) : AE X W (.List es pos) (tLst t) (fun Γ ms k x => r Γ ms (fun sds ms1 => asDs sds fun ds => k (.d (.lst ds)) ms1) x) := by
  have p := h.pe
  have h1 := h.ok
  refine ⟨pe_lst p, fun Γ ms k x h σ H G F Q ev g kk xw => ?_⟩
  refine h1 Γ ms _ x h σ H G F _ ev g (fun vs H1 G1 sds ms1 e1 g1 s1 l1 q1 => ?_) xw
  obtain ⟨ds, sd, q⟩ := asDs_ok s1 q1
  exact ⟨small_len (by rw [s1.length, l1]; exact hl), fun p hp => kk _ _ _ _ _ (e1.trans (g1.exn hp)) (g1.new hp) (okd (.lst upd_same (sd.mono (g1.exn hp)))) q⟩
/-- a list that is changed later: an object of the store -/
theorem ae_lstM {es : List Expr} {r : AAR} {t : TA} (h : AA X W es t r) (hl : es.length ≤ 1000 := by decide) : AE X W (.List es pos) (tLst t) (fun Γ ms k x => r Γ ms (fun sds ms1 => asDs sds fun ds => ∀ p, ms1 p = none → k (.v (.ref p)) (mu ms1 p (.l ds))) x) := by
  have p := h.pe
  have h1 := h.ok
  refine ⟨pe_lst p, fun Γ ms k x h σ H G F Q ev g kk xw => ?_⟩
  refine h1 Γ ms _ x h σ H G F _ ev g (fun vs H1 G1 sds ms1 e1 g1 s1 l1 q1 => ?_) xw
  obtain ⟨ds, sd, q⟩ := asDs_ok s1 q1
  refine ⟨small_len (by rw [s1.length, l1]; exact hl), fun p hp => kk _ _ _ _ _ e1 (g1.newM (m' := .l ds) hp ⟨vs, upd_same, sd⟩) okv (q p (g1.fresh hp).1)⟩
/-- {}: keys that are tuples; ints and texts -/
theorem ae_dictT : AE X W (.Dict [] [] pos) tDNewT (fun _ ms k _ => ∀ p, ms p = none → k (.v (.ref p)) (mu ms p (.t []))) :=
  ⟨pe_dnewT, fun _ _ _ _ h _ _ G _ _ _ g kk _ p hp => kk _ _ _ _ _ (Ex.refl G) (g.newM (m' := .t []) hp ⟨[], upd_same, .nil⟩) okv (h p (g.fresh hp).1)⟩
theorem ae_dictK : AE X W (.Dict [] [] pos) tDNewK (fun _ ms k _ => ∀ p, ms p = none → k (.v (.ref p)) (mu ms p (.k []))) :=
  ⟨pe_dnewK, fun _ _ _ _ h _ _ G _ _ _ g kk _ p hp => kk _ _ _ _ _ (Ex.refl G) (g.newM (m' := .k []) hp ⟨[], upd_same, .nil⟩) okv (h p (g.fresh hp).1)⟩

/-! ### operators -/
variable {a b c : Expr} {ra rb rc : AER} {ta tb tc : TE}
theorem ae_bin {op : Operator} {r : R2} {o : AO2} (ho : OpR X (binaryOp op) r) (oa : OpA r o) (ha : AE X W a ta ra) (hb : AE X W b tb rb) :
    AE X W (.BinOp a op b pos) (tOp r ta tb) (fun Γ ms k x => ra Γ ms (fun u ms1 => rb Γ ms1 (fun v ms2 => o ms2 u v fun z => k z ms2) x) x) := by
  have p1 := ha.pe
  have h1 := ha.ok
  have p2 := hb.pe
  have h2 := hb.ok
  refine ⟨pe_op ho p1 p2, fun Γ ms k x h σ H G F Q ev g kk xw => ?_⟩
  refine h1 Γ ms _ x h σ H G F _ ev g (fun v H1 G1 sd ms1 e1 g1 s1 q1 => ?_) xw
  refine h2 Γ ms1 _ x q1 σ H1 G1 F _ (ev.mono e1) g1 (fun u H2 G2 sd2 ms2 e2 g2 s2 q2 => ?_) (xw.mono e1)
  exact oa ms2 _ _ _ q2 v u H2 G2 F Q g2 (s1.mono e2) s2 fun z H3 G3 sd3 e3 g3 s3 q3 => kk z H3 G3 sd3 ms2 ((e1.trans e2).trans e3) g3 s3 q3
theorem ae_un {op : UnaryOp} {r : V → Hp → VK → Prop} {o : AO1} (ho : UnR X (unaryOp op) r) (oa : UnA r o) (ha : AE X W a ta ra) : AE X W (.UnaryOp op a pos) (tUn r ta) (fun Γ ms k x => ra Γ ms (fun u ms1 => o ms1 u fun z => k z ms1) x) := by
  have p1 := ha.pe
  have h1 := ha.ok
  refine ⟨pe_un ho p1, fun Γ ms k x h σ H G F Q ev g kk xw => ?_⟩
  refine h1 Γ ms _ x h σ H G F _ ev g (fun v H1 G1 sd ms1 e1 g1 s1 q1 => ?_) xw
  exact oa ms1 _ _ q1 v H1 G1 F Q g1 s1 fun z H3 G3 sd3 e3 g3 s3 q3 => kk z H3 G3 sd3 ms1 (e1.trans e3) g3 s3 q3
theorem ae_cmp {op : CmpOp} {r : R2} {o : AO2} (ho : OpR X (compareOp op) r) (oa : OpA r o) (ha : AE X W a ta ra) (hb : AE X W b tb rb) (hm : behindInMarks op b = false) :
    AE X W (.Compare a [op] [b] pos) (tOp r ta tb) (fun Γ ms k x => ra Γ ms (fun u ms1 => rb Γ ms1 (fun v ms2 => o ms2 u v fun z => k z ms2) x) x) := by
  have p1 := ha.pe
  have h1 := ha.ok
  have p2 := hb.pe
  have h2 := hb.ok
  refine ⟨pe_cmpR ho p1 p2 hm, fun Γ ms k x h σ H G F Q ev g kk xw => ?_⟩
  refine h1 Γ ms _ x h σ H G F _ ev g (fun v H1 G1 sd ms1 e1 g1 s1 q1 => ?_) xw
  refine h2 Γ ms1 _ x q1 σ H1 G1 F _ (ev.mono e1) g1 (fun u H2 G2 sd2 ms2 e2 g2 s2 q2 => ?_) (xw.mono e1)
  exact oa ms2 _ _ _ q2 v u H2 G2 F Q g2 (s1.mono e2) s2 fun z H3 G3 sd3 e3 g3 s3 q3 => kk z H3 G3 sd3 ms2 ((e1.trans e2).trans e3) g3 s3 q3
/-- a value that is a truth -/
def asB (k : Bool → Prop) : SD → Prop
  | .d (.bl b) => k b
  | _ => False
theorem asB_ok {G : Hp} {v : V} {k : Bool → Prop} : ∀ {sd : SD}, SOk G v sd → asB k sd → ∃ b, v = .bl b ∧ k b
  | .d (.bl b), s, h => by cases s; exact ⟨b, rfl, h⟩
  | .d .non, _, h => h.elim
  | .d (.int _), _, h => h.elim
  | .d (.str _), _, h => h.elim
  | .d (.tup _), _, h => h.elim
  | .d (.lst _), _, h => h.elim
  | .d (.frl _), _, h => h.elim
  | .d (.ins _ _), _, h => h.elim
  | .v _, _, h => h.elim
  | .e _ _ _ _ _, _, h => h.elim
theorem at_cmp {op : CmpOp} {r : R2} {o : AO2} (ho : OpR X (compareOp op) r) (oa : OpA r o) (ha : AE X W a ta ra) (hb : AE X W b tb rb) (hm : behindInMarks op b = false) :
    AT X W (.Compare a [op] [b] pos) (tTest (tOp r ta tb)) (fun Γ ms k x => ra Γ ms (fun u ms1 => rb Γ ms1 (fun v ms2 => o ms2 u v (asB fun z => k z ms2)) x) x) := by
  have p1 := ha.pe
  have h1 := ha.ok
  have p2 := hb.pe
  have h2 := hb.ok
  refine ⟨pt_cmpR ho p1 p2 hm, fun Γ ms k x h σ H G F Q ev g kk xw => ?_⟩
  refine h1 Γ ms _ x h σ H G F _ ev g (fun v H1 G1 sd ms1 e1 g1 s1 q1 => ?_) xw
  refine h2 Γ ms1 _ x q1 σ H1 G1 F _ (ev.mono e1) g1 (fun u H2 G2 sd2 ms2 e2 g2 s2 q2 => ?_) (xw.mono e1)
  refine oa ms2 _ _ _ q2 v u H2 G2 F _ g2 (s1.mono e2) s2 fun z H3 G3 sd3 e3 g3 s3 q3 => ?_
  obtain ⟨b, eb, q⟩ := asB_ok s3 q3
  exact ⟨b, eb, kk b H3 G3 ms2 ((e1.trans e2).trans e3) g3 q⟩
/-- a op1 b op2 c -/
theorem at_chain {op op' : CmpOp} {r r' : R2} {o o' : AO2} (ho : OpR X (compareOp op) r) (oa : OpA r o) (ho' : OpR X (compareOp op') r') (oa' : OpA r' o') (ha : AE X W a ta ra) (hb : AE X W b tb rb) (hc : AE X W c tc rc)
    (hp : ∀ {ta tb tc : TE}, PE X a ta → PE X b tb → PE X c tc → PT X (.Compare a [op, op'] [b, c] pos) (tTest (tChain r r' ta tb tc))) :
    AT X W (.Compare a [op, op'] [b, c] pos) (tTest (tChain r r' ta tb tc)) (fun Γ ms k x => ra Γ ms (fun u ms1 => rb Γ ms1 (fun v ms2 => o ms2 u v (asB fun z => if z = true then rc Γ ms2 (fun w ms3 => o' ms3 v w (asB fun z => k z ms3)) x else k false ms2)) x) x) := by
  have p1 := ha.pe
  have h1 := ha.ok
  have p2 := hb.pe
  have h2 := hb.ok
  have p3 := hc.pe
  have h3 := hc.ok
  refine ⟨hp p1 p2 p3, fun Γ ms k x h σ H G F Q ev g kk xw => ?_⟩
  refine h1 Γ ms _ x h σ H G F _ ev g (fun v H1 G1 sd ms1 e1 g1 s1 q1 => ?_) xw
  refine h2 Γ ms1 _ x q1 σ H1 G1 F _ (ev.mono e1) g1 (fun u H2 G2 sd2 ms2 e2 g2 s2 q2 => ?_) (xw.mono e1)
  refine oa ms2 _ _ _ q2 v u H2 G2 F _ g2 (s1.mono e2) s2 fun z H3 G3 sd3 e3 g3 s3 q3 => ?_
  obtain ⟨b, eb, q⟩ := asB_ok s3 q3
  refine ⟨b, eb, ?_⟩
  cases b with
  | false =>
    rw [if_neg Bool.false_ne_true] at q ⊢
    exact ⟨false, rfl, kk false H3 G3 ms2 ((e1.trans e2).trans e3) g3 q⟩
  | true =>
    rw [if_pos rfl] at q ⊢
    have e4 := (e1.trans e2).trans e3
    refine h3 Γ ms2 _ x q σ H3 G3 F _ (ev.mono e4) g3 (fun y H5 G5 sd5 ms5 e5 g5 s5 q5 => ?_) (xw.mono e4)
    refine oa' ms5 _ _ _ q5 u y H5 G5 F _ g5 ((s2.mono e3).mono e5) s5 fun z H6 G6 sd6 e6 g6 s6 q6 => ?_
    obtain ⟨b, eb, q⟩ := asB_ok s6 q6
    exact ⟨b, eb, kk b H6 G6 ms5 ((e4.trans e5).trans e6) g6 q⟩
/-- an expression that gives a truth -/
theorem at_val {e : Expr} {r : AER} {t : TE} (h : AE X W e t r) (he : ∀ whole, isTrue e X.env whole = (do let v ← whole; standAt e.pos; holding [v] (truthy v)) := by intro _; rfl) : AT X W e (tB t) (fun Γ ms k x => r Γ ms (fun sd ms1 => asB (fun b => k b ms1) sd) x) := by
  have p1 := h.pe
  have h1 := h.ok
  refine ⟨pt_val p1 he, fun Γ ms k x h σ H G F Q ev g kk xw => ?_⟩
  refine h1 Γ ms _ x h σ H G F _ ev g (fun v H1 G1 sd ms1 e1 g1 s1 q1 => ?_) xw
  obtain ⟨b, eb, q⟩ := asB_ok s1 q1
  exact ⟨b, eb, kk b H1 G1 ms1 e1 g1 q⟩
variable {sa sb : ATR} {ua ub : TT} {rest : List Expr}
theorem AW.at (h : AW X W a ua sa) : AT X W a ua sa := ⟨h.pe.pt, h.ok⟩
theorem aw_and1 (h : AT X W a ua sa) : AW X W (.BoolOp .And [a] pos) ua sa := ⟨pw_and1 h.pe, h.ok⟩
theorem aw_or1 (h : AT X W a ua sa) : AW X W (.BoolOp .Or [a] pos) ua sa := ⟨pw_or1 h.pe, h.ok⟩
theorem aw_and (ha : AT X W a ua sa) (hb : AW X W (.BoolOp .And (b :: rest) pos) ub sb) : AW X W (.BoolOp .And (a :: b :: rest) pos) (tAnd ua ub) (fun Γ ms k x => sa Γ ms (fun z ms1 => if z = true then sb Γ ms1 k x else k false ms1) x) := by
  have p1 := ha.pe
  have h1 := ha.ok
  have p2 := hb.pe
  have h2 := hb.ok
  refine ⟨pw_and p1 p2, fun Γ ms k x h σ H G F Q ev g kk xw => ?_⟩
  refine h1 Γ ms _ x h σ H G F _ ev g (fun v H1 G1 ms1 e1 g1 q1 => ?_) xw
  cases v with
  | false => rw [if_neg Bool.false_ne_true] at q1 ⊢; exact kk _ _ _ _ e1 g1 q1
  | true => rw [if_pos rfl] at q1 ⊢; exact h2 Γ ms1 k x q1 σ H1 G1 F Q (ev.mono e1) g1 (kk.mono e1) (xw.mono e1)
theorem aw_or (ha : AT X W a ua sa) (hb : AW X W (.BoolOp .Or (b :: rest) pos) ub sb) : AW X W (.BoolOp .Or (a :: b :: rest) pos) (tOr ua ub) (fun Γ ms k x => sa Γ ms (fun z ms1 => if z = true then k true ms1 else sb Γ ms1 k x) x) := by
  have p1 := ha.pe
  have h1 := ha.ok
  have p2 := hb.pe
  have h2 := hb.ok
  refine ⟨pw_or p1 p2, fun Γ ms k x h σ H G F Q ev g kk xw => ?_⟩
  refine h1 Γ ms _ x h σ H G F _ ev g (fun v H1 G1 ms1 e1 g1 q1 => ?_) xw
  cases v with
  | true => rw [if_pos rfl] at q1 ⊢; exact kk _ _ _ _ e1 g1 q1
  | false => rw [if_neg Bool.false_ne_true] at q1 ⊢; exact h2 Γ ms1 k x q1 σ H1 G1 F Q (ev.mono e1) g1 (kk.mono e1) (xw.mono e1)
theorem at_not (ha : AT X W a ua sa) : AT X W (.UnaryOp .Not a pos) (tNot ua) (fun Γ ms k x => sa Γ ms (fun z ms1 => k (!z) ms1) x) := by
  have p1 := ha.pe
  have h1 := ha.ok
  refine ⟨pt_not p1, fun Γ ms k x h σ H G F Q ev g kk xw => ?_⟩
  exact h1 Γ ms _ x h σ H G F _ ev g (fun v H1 G1 ms1 e1 g1 q1 => kk _ _ _ _ e1 g1 q1) xw
/-- as values -/
theorem ae_one {op} (h : AE X W a ta ra) : AE X W (.BoolOp op [a] pos) ta ra := ⟨pe_one h.pe, h.ok⟩
theorem ae_and (ha : AE X W a ta ra) (hb : AE X W (.BoolOp .And (b :: rest) pos) tb rb) : AE X W (.BoolOp .And (a :: b :: rest) pos) (tAndV ta tb) (fun Γ ms k x => ra Γ ms (fun u ms1 => asB (fun z => if z = true then rb Γ ms1 k x else k (.d (.bl false)) ms1) u) x) := by
  have p1 := ha.pe
  have h1 := ha.ok
  have p2 := hb.pe
  have h2 := hb.ok
  refine ⟨pe_and p1 p2, fun Γ ms k x h σ H G F Q ev g kk xw => ?_⟩
  refine h1 Γ ms _ x h σ H G F _ ev g (fun v H1 G1 sd ms1 e1 g1 s1 q1 => ?_) xw
  obtain ⟨b, eb, q⟩ := asB_ok s1 q1
  refine ⟨b, eb, ?_⟩
  cases b with
  | false => rw [if_neg Bool.false_ne_true] at q ⊢; exact kk _ _ _ _ _ e1 g1 (okd (.bl false)) q
  | true => rw [if_pos rfl] at q ⊢; exact h2 Γ ms1 k x q σ H1 G1 F Q (ev.mono e1) g1 (kk.mono e1) (xw.mono e1)
theorem ae_or (ha : AE X W a ta ra) (hb : AE X W (.BoolOp .Or (b :: rest) pos) tb rb) : AE X W (.BoolOp .Or (a :: b :: rest) pos) (tOrV ta tb) (fun Γ ms k x => ra Γ ms (fun u ms1 => asB (fun z => if z = true then k (.d (.bl true)) ms1 else rb Γ ms1 k x) u) x) := by
  have p1 := ha.pe
  have h1 := ha.ok
  have p2 := hb.pe
  have h2 := hb.ok
  refine ⟨pe_or p1 p2, fun Γ ms k x h σ H G F Q ev g kk xw => ?_⟩
  refine h1 Γ ms _ x h σ H G F _ ev g (fun v H1 G1 sd ms1 e1 g1 s1 q1 => ?_) xw
  obtain ⟨b, eb, q⟩ := asB_ok s1 q1
  refine ⟨b, eb, ?_⟩
  cases b with
  | true => rw [if_pos rfl] at q ⊢; exact kk _ _ _ _ _ e1 g1 (okd (.bl true)) q
  | false => rw [if_neg Bool.false_ne_true] at q ⊢; exact h2 Γ ms1 k x q σ H1 G1 F Q (ev.mono e1) g1 (kk.mono e1) (xw.mono e1)
theorem ae_not (ha : AE X W a ta ra) : AE X W (.UnaryOp .Not a pos) (tNotV ta) (fun Γ ms k x => ra Γ ms (fun u ms1 => asB (fun z => k (.d (.bl (!z))) ms1) u) x) := by
  have p1 := ha.pe
  have h1 := ha.ok
  refine ⟨pe_not p1, fun Γ ms k x h σ H G F Q ev g kk xw => ?_⟩
  refine h1 Γ ms _ x h σ H G F _ ev g (fun v H1 G1 sd ms1 e1 g1 s1 q1 => ?_) xw
  obtain ⟨b, eb, q⟩ := asB_ok s1 q1
  exact ⟨b, eb, kk _ _ _ _ _ e1 g1 (okd (.bl _)) q⟩
theorem ae_ifE (hc : AT X W c ua sa) (ha : AE X W a ta ra) (hb : AE X W b tb rb) : AE X W (.IfExp c a b pos) (tIf ua ta tb) (fun Γ ms k x => sa Γ ms (fun z ms1 => if z = true then ra Γ ms1 k x else rb Γ ms1 k x) x) := by
  have p0 := hc.pe
  have h0 := hc.ok
  have p1 := ha.pe
  have h1 := ha.ok
  have p2 := hb.pe
  have h2 := hb.ok
  refine ⟨pe_ifExp p0 p1 p2, fun Γ ms k x h σ H G F Q ev g kk xw => ?_⟩
  refine h0 Γ ms _ x h σ H G F _ ev g (fun v H1 G1 ms1 e1 g1 q1 => ?_) xw
  cases v with
  | true => rw [if_pos rfl] at q1 ⊢; exact h1 Γ ms1 k x q1 σ H1 G1 F Q (ev.mono e1) g1 (kk.mono e1) (xw.mono e1)
  | false => rw [if_neg Bool.false_ne_true] at q1 ⊢; exact h2 Γ ms1 k x q1 σ H1 G1 F Q (ev.mono e1) g1 (kk.mono e1) (xw.mono e1)
end
end AL

/-! ## AbsC -/
set_option Elab.async false
set_option linter.all false
set_option maxRecDepth 100000
set_option maxHeartbeats 2000000
namespace AL
open PySem PySem.Spec PyProof.Rows L2
open Evl (Ex)

/-! ### data as the library has them -/
mutual
def D.py : D → PyData
  | .non => .none
  | .bl b => .bool b
  | .int i => .int i
  | .str x => .str x
  | .tup l => .tuple (pyL l)
  | .lst l => .list (pyL l)
  | .frl l => .list (pyL l)
  | .ins _ _ => .none
def pyL : List D → List PyData
  | [] => []
  | d :: r => d.py :: pyL r
end
theorem pyL_map : ∀ l : List D, pyL l = l.map D.py
  | [] => by simp [pyL]
  | d :: r => by simp [pyL, pyL_map r]
mutual
/-- no instance within, at most so deep, the texts' signs are signs -/
def D.fit : D → Nat → Bool
  | .non, _ => true
  | .bl _, _ => true
  | .int _, _ => true
  | .str x, _ => x.cps.all (· < 0x110000)
  | .tup l, n => match n with
    | 0 => false
    | m + 1 => fitL l m
  | .lst l, n => match n with
    | 0 => false
    | m + 1 => fitL l m
  | .frl l, n => match n with
    | 0 => false
    | m + 1 => fitL l m
  | .ins _ _, _ => false
def fitL : List D → Nat → Bool
  | [], _ => true
  | d :: r, n => d.fit n && fitL r n
end
theorem fitL_all : ∀ (l : List D) (n : Nat), fitL l n = l.all fun d => d.fit n
  | [], _ => by simp [fitL]
  | d :: r, n => by simp [fitL, fitL_all r n]
mutual
theorem D.fit_lay : ∀ (d : D) (n : Nat), d.fit n = true → d.py.canLay0 = true ∧ d.py.depth ≤ n
  | .non, n, _ => by simp [D.py, PyData.canLay0, PyData.depth]
  | .bl _, n, _ => by simp [D.py, PyData.canLay0, PyData.depth]
  | .int _, n, _ => by simp [D.py, PyData.canLay0, PyData.depth]
  | .str x, n, h => by
    simp only [D.fit] at h
    simp [D.py, PyData.canLay0, PyData.depth, PyData.strOk, h]
  | .tup l, 0, h => by simp [D.fit] at h
  | .lst l, 0, h => by simp [D.fit] at h
  | .frl l, 0, h => by simp [D.fit] at h
  | .tup l, m + 1, h => by
    simp only [D.fit] at h
    have := fitL_lay l m h
    simp only [D.py, PyData.canLay0, PyData.depth]
    exact ⟨this.1, by omega⟩
  | .lst l, m + 1, h => by
    simp only [D.fit] at h
    have := fitL_lay l m h
    simp only [D.py, PyData.canLay0, PyData.depth]
    exact ⟨this.1, by omega⟩
  | .frl l, m + 1, h => by
    simp only [D.fit] at h
    have := fitL_lay l m h
    simp only [D.py, PyData.canLay0, PyData.depth]
    exact ⟨this.1, by omega⟩
  | .ins _ _, n, h => by simp [D.fit] at h
theorem fitL_lay : ∀ (l : List D) (n : Nat), fitL l n = true → PyData.canLayAll0 (pyL l) = true ∧ PyData.depthAll (pyL l) ≤ n
  | [], n, _ => by simp [pyL, PyData.canLayAll0, PyData.depthAll]
  | d :: r, n, h => by
    simp only [fitL, Bool.and_eq_true] at h
    have h1 := D.fit_lay d n h.1
    have h2 := fitL_lay r n h.2
    simp only [pyL, PyData.canLayAll0, PyData.depthAll, h1.1, h2.1, Bool.and_self, true_and]
    omega
end
theorem D.fit_shaped {d : D} (h : d.fit 64 = true) : SeqAt.shaped d.py = true := by
  obtain ⟨h1, h2⟩ := D.fit_lay d 64 h
  unfold SeqAt.shaped
  rw [h1, decide_eq_true h2]; rfl
mutual
theorem Shw.dp {K : PySem.W.Frag} {G H : Hp} (e : Ex G H) : ∀ {d : D} {v : V} {n : Nat}, Shw G v d → d.fit n = true → Dp K H v d.py
  | .non, _, _, h, _ => by cases h; simp only [D.py]; exact .non
  | .bl _, _, _, h, _ => by cases h; simp only [D.py]; exact .bl _
  | .int _, _, _, h, _ => by cases h; simp only [D.py]; exact .int _
  | .str _, _, _, h, _ => by cases h; simp only [D.py]; exact .str _
  | .tup l, _, n, h, f => by
    cases h with
    | tup a b =>
      simp only [D.py]
      cases n with
      | zero => simp [D.fit] at f
      | succ n => exact .tup (Evl.st_of (e _ _ a)) (ShwL.dp e b (n := n) (by simpa only [D.fit] using f))
  | .lst l, _, n, h, f => by
    cases h with
    | lst a b =>
      simp only [D.py]
      cases n with
      | zero => simp [D.fit] at f
      | succ n => exact .lst (Evl.sq_of (e _ _ a)) (ShwL.dp e b (n := n) (by simpa only [D.fit] using f))
  | .frl l, _, n, h, f => by
    cases h with
    | frl a b =>
      simp only [D.py]
      cases n with
      | zero => simp [D.fit] at f
      | succ n => exact .lst (.inl (.inr ⟨_, e _ _ a⟩)) (ShwL.dp e b (n := n) (by simpa only [D.fit] using f))
  | .ins _ _, _, _, _, f => by simp [D.fit] at f
theorem ShwL.dp {K : PySem.W.Frag} {G H : Hp} (e : Ex G H) : ∀ {l : List D} {v : List V} {n : Nat}, ShwL G v l → fitL l n = true → DpAll K H v (pyL l)
  | [], _, _, h, _ => by cases h; simp only [pyL]; exact .nil
  | d :: r, _, n, h, f => by
    cases h with
    | cons a b =>
      simp only [pyL]
      simp only [fitL, Bool.and_eq_true] at f
      exact .cons (Shw.dp e a f.1) (ShwL.dp e b f.2)
end
def D.eqv (a b : D) : Bool := PyData.eqv a.py b.py
theorem eqv_int (i j : Int) : D.eqv (.int i) (.int j) = decide (i = j) := by
  simp only [D.eqv, D.py, PyData.eqv]
  exact Bool.beq_eq_decide_eq i j
theorem eqv_str (i j : Str) : D.eqv (.str i) (.str j) = decide (i = j) := by
  simp [D.eqv, D.py, PyData.eqv]
  by_cases h : i = j
  · subst h; simp
  · simp [h]

/-! ### arithmetic -/
def lstOf (ms : MS) : SD → Option (List D)
  | .d (.lst ds) => some ds
  | .v (.ref p) => match ms p with
    | some (.l ds) => some ds
    | _ => none
  | _ => none
theorem lstOf_ok {H G F : Hp} {ms : MS} (g : Good H G F ms) {u : V} {sd : SD} {ds : List D} (s : SOk G u sd) (e : lstOf ms sd = some ds) : ∃ a vs, u = .ref a ∧ H a = some (.lst vs) ∧ ShwL G vs ds := by
  unfold lstOf at e
  split at e
  · cases e
    cases s with
    | lst h t => exact ⟨_, _, rfl, g.ex _ _ h, t⟩
  · split at e
    · rename_i p _ _ q
      cases e
      obtain ⟨_, vs, h1, h2⟩ := g.ok p _ q
      exact ⟨p, vs, s, h1, h2⟩
    · cases e
  · cases e
def oAdd : AO2 := fun ms x y k => match x, y with
  | .d (.int i), .d (.int j) => k (.d (.int (i + j)))
  | .d (.str a), .d (.str b) => a.length + b.length ≤ sizeLine ∧ k (.d (.str (a ++ b)))
  | .d (.tup a), .d (.tup b) => a.length + b.length ≤ sizeLine ∧ k (.d (.tup (a ++ b)))
  | x, y => ∃ a b, lstOf ms x = some a ∧ lstOf ms y = some b ∧ a.length + b.length ≤ sizeLine ∧ k (.d (.lst (a ++ b)))
abbrev rAddA (K : PySem.W.Frag) : R2 := fun x y H Q => rI0 (fun i j => .int (i + j)) x y H Q ∨ (∃ i j, x = .str i ∧ y = .str j ∧ i.length + j.length ≤ sizeLine ∧ Q (.str (i ++ j)) H) ∨ rCatA K x y H Q ∨ rCat x y H Q
theorem op_addA {X : Cx} : OpR X (binaryOp .Add) (rAddA X.K) := op_add.or (op_add_str.or (op_catA.or op_cat))
theorem oa_add {K : PySem.W.Frag} : OpA (rAddA K) oAdd := by
  intro ms x y k h v u H G F Q g sx sy kz
  unfold oAdd at h
  split at h
  · cases sx; cases sy
    exact .inl ⟨_, _, rfl, rfl, kz.here g (okd (.int _)) h⟩
  · cases sx; cases sy
    exact .inr (.inl ⟨_, _, rfl, rfl, h.1, kz.here g (okd (.str _)) h.2⟩)
  · cases sx with
    | tup a1 a2 =>
    cases sy with
    | tup b1 b2 =>
    have l1 := a2.length
    have l2 := b2.length
    refine .inr (.inr (.inl ⟨_, _, _, _, rfl, rfl, Evl.st_of (g.ex _ _ a1), Evl.st_of (g.ex _ _ b1), by rw [l1, l2]; exact h.1, fun e => ?_, fun _ e => ?_, fun _ _ => kz.tup g (a2.append b2) h.2⟩))
    · subst e; cases a2; exact kz.here g (okd (.tup b1 b2)) h.2
    · subst e; cases b2; exact kz.here g (okd (.tup a1 a2)) (by have := h.2; rw [List.append_nil] at this; exact this)
  · obtain ⟨a, b, ea, eb, hz, q⟩ := h
    obtain ⟨p, vs, rfl, h1, h2⟩ := lstOf_ok g sx ea
    obtain ⟨p2, vs2, rfl, h3, h4⟩ := lstOf_ok g sy eb
    exact .inr (.inr (.inr ⟨_, _, _, _, rfl, rfl, h1, h3, by rw [h2.length, h4.length]; exact hz, kz.lst g (h2.append h4) q⟩))
/-- two ints -/
def oI (C : Int → Int → Prop) (f : Int → Int → D) : AO2 := fun _ x y k => match x, y with
  | .d (.int i), .d (.int j) => C i j ∧ k (.d (f i j))
  | _, _ => False
def oI0 (f : Int → Int → D) : AO2 := fun _ x y k => match x, y with
  | .d (.int i), .d (.int j) => k (.d (f i j))
  | _, _ => False
theorem oa_I {C : Int → Int → Prop} {f : Int → Int → V} {f' : Int → Int → D} (hf : ∀ G i j, Shw G (f i j) (f' i j)) : OpA (rI C f) (oI C f') := by
  intro ms x y k h v u H G F Q g sx sy kz
  unfold oI at h
  split at h
  · cases sx; cases sy
    exact ⟨_, _, rfl, rfl, h.1, kz.here g (okd (hf _ _ _)) h.2⟩
  · exact h.elim
theorem oa_I0 {f : Int → Int → V} {f' : Int → Int → D} (hf : ∀ G i j, Shw G (f i j) (f' i j)) : OpA (rI0 f) (oI0 f') := by
  intro ms x y k h v u H G F Q g sx sy kz
  unfold oI0 at h
  split at h
  · cases sx; cases sy
    exact ⟨_, _, rfl, rfl, kz.here g (okd (hf _ _ _)) h⟩
  · exact h.elim
abbrev oSub : AO2 := oI0 fun i j => .int (i - j)
abbrev oMul : AO2 := oI CMul fun i j => .int (i * j)
abbrev oDiv : AO2 := oI CDiv fun i j => .int (i / j)
abbrev oMod : AO2 := oI (fun _ j => 0 < j) fun i j => .int (i % j)
abbrev oPow : AO2 := oI CPow fun i j => .int (i ^ j.toNat)
abbrev oShl : AO2 := oI CPow fun i j => .int (i * 2 ^ j.toNat)
abbrev oShr : AO2 := oI (fun _ j => 0 ≤ j) fun i j => .int (i / 2 ^ j.toNat)
abbrev oAnd : AO2 := oI0 fun i j => .int (Builtin.bitAnd i j)
abbrev oGt : AO2 := oI0 fun i j => .bl (decide (j < i))
abbrev oLe : AO2 := oI0 fun i j => .bl (decide (i ≤ j))
abbrev oGe : AO2 := oI0 fun i j => .bl (decide (j ≤ i))
theorem oa_sub : OpA (rI0 fun i j => .int (i - j)) oSub := oa_I0 fun _ _ _ => .int _
theorem oa_mul : OpA (rI CMul fun i j => .int (i * j)) oMul := oa_I fun _ _ _ => .int _
theorem oa_div : OpA (rI CDiv fun i j => .int (i / j)) oDiv := oa_I fun _ _ _ => .int _
theorem oa_mod : OpA (rI (fun _ j => 0 < j) fun i j => .int (i % j)) oMod := oa_I fun _ _ _ => .int _
theorem oa_pow : OpA (rI CPow fun i j => .int (i ^ j.toNat)) oPow := oa_I fun _ _ _ => .int _
theorem oa_shl : OpA (rI CPow fun i j => .int (i * 2 ^ j.toNat)) oShl := oa_I fun _ _ _ => .int _
theorem oa_shr : OpA (rI (fun _ j => 0 ≤ j) fun i j => .int (i / 2 ^ j.toNat)) oShr := oa_I fun _ _ _ => .int _
theorem oa_and : OpA (rI0 fun i j => .int (Builtin.bitAnd i j)) oAnd := oa_I0 fun _ _ _ => .int _
theorem oa_gt : OpA (rI0 fun i j => .bl (decide (j < i))) oGt := oa_I0 fun _ _ _ => .bl _
theorem oa_le : OpA (rI0 fun i j => .bl (decide (i ≤ j))) oLe := oa_I0 fun _ _ _ => .bl _
theorem oa_ge : OpA (rI0 fun i j => .bl (decide (j ≤ i))) oGe := oa_I0 fun _ _ _ => .bl _
def oNeg : AO1 := fun _ x k => match x with
  | .d (.int i) => k (.d (.int (-i)))
  | _ => False
theorem oa_neg : UnA (rU fun i => .int (-i)) oNeg := by
  intro ms x k h v H G F Q g sx kz
  unfold oNeg at h
  split at h
  · cases sx; exact ⟨_, rfl, kz.here g (okd (.int _)) h⟩
  · exact h.elim

/-! ### comparisons -/
theorem scal_int (i j : Int) : scal (.int i) (.int j) = true := rfl
def oEq (neg : Bool) : AO2 := fun _ x y k => match x, y with
  | .d (.int i), .d (.int j) => k (.d (.bl (neg ^^ decide (i = j))))
  | .d (.str i), .d (.str j) => k (.d (.bl (neg ^^ decide (i = j))))
  | .d a, .d b => a.fit 64 = true ∧ b.fit 64 = true ∧ k (.d (.bl (neg ^^ a.eqv b)))
  | _, _ => False
theorem oEq_deep {neg : Bool} {ms : MS} {a b : D} {k : SD → Prop} (ha : a.fit 64 = true) (hb : b.fit 64 = true) (h : k (.d (.bl (neg ^^ a.eqv b)))) : oEq neg ms (.d a) (.d b) k := by
  unfold oEq
  split
  · rename_i e1 e2; cases e1; cases e2; rw [eqv_int] at h; exact h
  · rename_i e1 e2; cases e1; cases e2; rw [eqv_str] at h; exact h
  · rename_i e1 e2; cases e1; cases e2; exact ⟨ha, hb, h⟩
  · rename_i h1 h2 h3; exact h3 _ _ rfl rfl
abbrev rEqA (K : PySem.W.Frag) : R2 := fun x y H Q => rEq x y H Q ∨ rEqD K x y H Q
abbrev rNeA (K : PySem.W.Frag) : R2 := fun x y H Q => rNe x y H Q ∨ rNeD K x y H Q
theorem op_eqA {X : Cx} (hu : X.A.units + 64 < cLine) : OpR X (compareOp .Eq) (rEqA X.K) := op_eq.or (op_eqD hu)
theorem op_neA {X : Cx} (hu : X.A.units + 64 < cLine) : OpR X (compareOp .NotEq) (rNeA X.K) := op_ne.or (op_neD hu)
theorem dec_vint (i j : Int) : decide (V.int i = V.int j) = decide (i = j) := by simp
theorem dec_vstr (i j : Str) : decide (V.str i = V.str j) = decide (i = j) := by simp
theorem oa_eq {K : PySem.W.Frag} : OpA (rEqA K) (oEq false) := by
  intro ms x y k h v u H G F Q g sx sy kz
  unfold oEq at h
  split at h
  · cases sx; cases sy
    exact .inl ⟨rfl, by rw [dec_vint]; exact kz.here g (okd (.bl _)) (by rw [Bool.false_xor] at h; exact h)⟩
  · cases sx; cases sy
    exact .inl ⟨rfl, by rw [dec_vstr]; exact kz.here g (okd (.bl _)) (by rw [Bool.false_xor] at h; exact h)⟩
  · exact .inr ⟨_, _, Shw.dp g.ex sx h.1, Shw.dp g.ex sy h.2.1, D.fit_shaped h.1, D.fit_shaped h.2.1, kz.here g (okd (.bl _)) (by have := h.2.2; rw [Bool.false_xor] at this; exact this)⟩
  · exact h.elim
theorem oa_ne {K : PySem.W.Frag} : OpA (rNeA K) (oEq true) := by
  intro ms x y k h v u H G F Q g sx sy kz
  unfold oEq at h
  split at h
  · cases sx; cases sy
    exact .inl ⟨rfl, by rw [dec_vint]; exact kz.here g (okd (.bl _)) (by rw [Bool.true_xor] at h; exact h)⟩
  · cases sx; cases sy
    exact .inl ⟨rfl, by rw [dec_vstr]; exact kz.here g (okd (.bl _)) (by rw [Bool.true_xor] at h; exact h)⟩
  · exact .inr ⟨_, _, Shw.dp g.ex sx h.1, Shw.dp g.ex sy h.2.1, D.fit_shaped h.1, D.fit_shaped h.2.1, kz.here g (okd (.bl _)) (by have := h.2.2; rw [Bool.true_xor] at this; exact this)⟩
  · exact h.elim
/-- < of data of one shape -/
def D.lt (a b : D) : Bool := PySem.W.dataLt a.py b.py
def oLt : AO2 := fun _ x y k => match x, y with
  | .d (.int i), .d (.int j) => k (.d (.bl (decide (i < j))))
  | .d a, .d b => a.fit 64 = true ∧ b.fit 64 = true ∧ PySem.W.alike a.py b.py = true ∧ a.py ≠ .none ∧ k (.d (.bl (a.lt b)))
  | _, _ => False
def rLtD (K : PySem.W.Frag) : R2 := fun x y H Q => ∃ d e, Dp K H x d ∧ Dp K H y e ∧ SeqAt.shaped d = true ∧ SeqAt.shaped e = true ∧ PySem.W.alike d e = true ∧ d ≠ .none ∧ Q (.bl (PySem.W.dataLt d e)) H
theorem op_ltD {X : Cx} (hu : X.A.units + 64 < cLine) : OpR X (compareOp .Lt) (rLtD X.K) := by
  intro pins s σ H x y v u Q I rx ry h
  obtain ⟨d, e, hd, he, sd, se, al, hn, q⟩ := h
  obtain ⟨as, r1⟩ := Dp.reads I d x v hd rx
  obtain ⟨bs, r2⟩ := Dp.reads I e y u he ry
  exact PySem.W.rcLt_alike d e X.A s v u as bs r1 r2 al hn (SeqAt.room_of_shaped sd hu) X.prog X.w X.xe _ ⟨.bl _, H, I, rfl, q⟩
abbrev rLtA (K : PySem.W.Frag) : R2 := fun x y H Q => rI0 (fun i j => .bl (decide (i < j))) x y H Q ∨ rLtD K x y H Q
theorem op_ltA {X : Cx} (hu : X.A.units + 64 < cLine) : OpR X (compareOp .Lt) (rLtA X.K) := op_lt.or (op_ltD hu)
theorem oa_lt {K : PySem.W.Frag} : OpA (rLtA K) oLt := by
  intro ms x y k h v u H G F Q g sx sy kz
  unfold oLt at h
  split at h
  · cases sx; cases sy
    exact .inl ⟨_, _, rfl, rfl, kz.here g (okd (.bl _)) h⟩
  · exact .inr ⟨_, _, Shw.dp g.ex sx h.1, Shw.dp g.ex sy h.2.1, D.fit_shaped h.1, D.fit_shaped h.2.1, h.2.2.1, h.2.2.2.1, kz.here g (okd (.bl _)) h.2.2.2.2⟩
  · exact h.elim
/-- is None, is not None -/
def D.isNon : D → Bool
  | .non => true
  | _ => false
def SD.isNon : SD → Bool
  | .d q => q.isNon
  | .v q => decide (q = .non)
  | .e _ _ _ _ _ => false
theorem isNon_ok {G : Hp} {v : V} : ∀ {sd : SD}, SOk G v sd → decide (v = .non) = sd.isNon
  | .d _, s => by cases s <;> rfl
  | .v _, s => by cases s; rfl
  | .e _ _ _ _ _, s => by obtain ⟨e, _⟩ := s; subst e; rfl
def oIsN (neg : Bool) : AO2 := fun _ x y k => match y with
  | .d .non => k (.d (.bl (neg ^^ x.isNon)))
  | _ => False
theorem oa_isN : OpA (fun x y H Q => y = .non ∧ Q (.bl (decide (x = .non))) H) (oIsN false) := by
  intro ms x y k h v u H G F Q g sx sy kz
  unfold oIsN at h
  split at h
  · cases sy
    refine ⟨rfl, ?_⟩
    rw [isNon_ok sx]
    exact kz.here g (okd (.bl _)) (by rw [Bool.false_xor] at h; exact h)
  · exact h.elim
theorem oa_notN : OpA (fun x y H Q => y = .non ∧ Q (.bl (!decide (x = .non))) H) (oIsN true) := by
  intro ms x y k h v u H G F Q g sx sy kz
  unfold oIsN at h
  split at h
  · cases sy
    refine ⟨rfl, ?_⟩
    rw [isNon_ok sx]
    exact kz.here g (okd (.bl _)) (by rw [Bool.true_xor] at h; exact h)
  · exact h.elim

/-! ### keys of dicts -/
def D.key1 : D → Option Key
  | .int i => some (.inl i)
  | .str x => some (.inr x)
  | _ => none
def keysOf : List D → Option (List Key)
  | [] => some []
  | d :: r => match d.key1, keysOf r with
    | some k, some ks => some (k :: ks)
    | _, _ => none
theorem key1_ok {G : Hp} {v : V} : ∀ {d : D} {k : Key}, Shw G v d → d.key1 = some k → v = kV k
  | .int _, _, s, e => by cases s; cases e; rfl
  | .str _, _, s, e => by cases s; cases e; rfl
  | .non, _, _, e => by cases e
  | .bl _, _, _, e => by cases e
  | .tup _, _, _, e => by cases e
  | .lst _, _, _, e => by cases e
  | .frl _, _, _, e => by cases e
  | .ins _ _, _, _, e => by cases e
theorem keysOf_ok {G : Hp} : ∀ {ds : List D} {vs : List V} {ks : List Key}, ShwL G vs ds → keysOf ds = some ks → vs = ks.map kV
  | [], _, _, s, e => by cases s; cases e; rfl
  | d :: r, _, _, s, e => by
    cases s with
    | cons a b =>
      unfold keysOf at e
      split at e
      · rename_i k ks e1 e2
        cases e
        rw [key1_ok a e1, keysOf_ok b e2]; rfl
      · cases e
def valD {κ : Type} [DecidableEq κ] (kvs : List (κ × D)) (k : κ) : Option D := (kvs.find? fun kv => decide (kv.1 = k)).map (·.2)
def putKD {κ : Type} [DecidableEq κ] (kvs : List (κ × D)) (k : κ) (v : D) : List (κ × D) :=
  if (kvs.any fun kv => decide (kv.1 = k)) = true then kvs.map (fun kv => if kv.1 = k then (kv.1, v) else kv) else kvs ++ [(k, v)]
section
variable {κ : Type} [DecidableEq κ]
theorem KvS.val {G : Hp} {k : κ} : ∀ {us : List (κ × V)} {ks : List (κ × D)}, KvS κ G us ks → (valD ks k = none → valV us k = none) ∧ ∀ d, valD ks k = some d → ∃ v, valV us k = some v ∧ Shw G v d
  | [], _, .nil => ⟨fun _ => rfl, fun d e => by simp [valD] at e⟩
  | (q, v) :: us, (q', d') :: ks, .cons r t => by
    obtain ⟨e, s⟩ := r
    have e : q = q' := e
    subst e
    have ih := KvS.val (k := k) t
    unfold valD valV at *
    rw [List.find?_cons, List.find?_cons]
    by_cases h : q = k
    · simp only [h, decide_true, Option.map_some]
      exact ⟨fun z => (by cases z), fun d e => (by cases e; exact ⟨_, rfl, s⟩)⟩
    · simp only [h, decide_false]
      exact ih
theorem KvS.any {G : Hp} {k : κ} : ∀ {us : List (κ × V)} {ks : List (κ × D)}, KvS κ G us ks → (us.any fun kv => decide (kv.1 = k)) = ks.any fun kv => decide (kv.1 = k)
  | [], _, .nil => rfl
  | (q, v) :: us, (q', d') :: ks, .cons r t => by
    have e : q = q' := r.1
    subst e
    simp only [List.any_cons, KvS.any t]
theorem KvS.mapPut {G : Hp} {k : κ} {v : V} {d : D} (s : Shw G v d) : ∀ {us : List (κ × V)} {ks : List (κ × D)}, KvS κ G us ks → KvS κ G (us.map fun kv => if kv.1 = k then (kv.1, v) else kv) (ks.map fun kv => if kv.1 = k then (kv.1, d) else kv)
  | [], _, .nil => .nil
  | (q, v') :: us, (q', d') :: ks, .cons r t => by
    have e : q = q' := r.1
    subst e
    refine .cons ?_ (KvS.mapPut s t)
    show _ ∧ _
    dsimp only
    by_cases h : q = k
    · rw [if_pos h, if_pos h]; exact ⟨rfl, s⟩
    · rw [if_neg h, if_neg h]; exact r
theorem KvS.snoc {G : Hp} {k : κ} {v : V} {d : D} (s : Shw G v d) : ∀ {us : List (κ × V)} {ks : List (κ × D)}, KvS κ G us ks → KvS κ G (us ++ [(k, v)]) (ks ++ [(k, d)])
  | [], _, .nil => .cons ⟨rfl, s⟩ .nil
  | _ :: _, _ :: _, .cons r t => .cons r (KvS.snoc s t)
theorem KvS.put {G : Hp} {k : κ} {v : V} {d : D} (s : Shw G v d) {us : List (κ × V)} {ks : List (κ × D)} (h : KvS κ G us ks) : KvS κ G (putK us k v) (putKD ks k d) := by
  unfold putK putKD
  rw [h.any]
  split
  · exact h.mapPut s
  · exact h.snoc s
end
/-- what a dict of the store holds under a datum: none: no dict, or no key -/
def dLook (ms : MS) (x : SD) (y : SD) : Option (Option D) := match x, y with
  | .v (.ref p), .d (.tup ds) => match ms p, keysOf ds with
    | some (.t kvs), some ks => some (valD kvs ks)
    | _, _ => none
  | .v (.ref p), .d d => match ms p, d.key1 with
    | some (.k kvs), some k => some (valD kvs k)
    | _, _ => none
  | _, _ => none
theorem dLook_ok {H G F : Hp} {ms : MS} (g : Good H G F ms) {x y : SD} {v u : V} {o : Option D} (sx : SOk G v x) (sy : SOk G u y) (e : dLook ms x y = some o) : ∃ a ov, v = .ref a ∧ DGet H a u ov ∧ (o = none → ov = none) ∧ ∀ d, o = some d → ∃ w, ov = some w ∧ Shw G w d := by
  unfold dLook at e
  split at e
  · rename_i p ds
    split at e
    · rename_i kvs ks e1 e2
      cases e
      obtain ⟨_, us, h1, h2⟩ := g.ok p _ e1
      cases sy with
      | tup b1 b2 =>
        have ek := keysOf_ok b2 e2
        subst ek
        exact ⟨p, _, sx, DGet.t h1 (g.ex _ _ b1), (h2.val (k := ks)).1, (h2.val (k := ks)).2⟩
    · cases e
  · rename_i p d hn
    split at e
    · rename_i kvs k e1 e2
      cases e
      obtain ⟨_, us, h1, h2⟩ := g.ok p _ e1
      rw [key1_ok sy e2]
      exact ⟨p, _, sx, DGet.k h1, (h2.val (k := k)).1, (h2.val (k := k)).2⟩
    · cases e
  · cases e

/-! ### in -/
def oIn (neg : Bool) : AO2 := fun ms x y k =>
  (∃ ds a, seqOf ms y = some ds ∧ x = .d a ∧ a.fit 64 = true ∧ fitL ds 63 = true ∧ k (.d (.bl (neg ^^ ds.any fun z => z.eqv a)))) ∨
  (∃ c z, x = .d (.str ⟨#[c]⟩) ∧ y = .d (.str z) ∧ k (.d (.bl (neg ^^ decide (c ∈ z.cps.toList))))) ∨
  (∃ o, dLook ms y x = some o ∧ k (.d (.bl (neg ^^ o.isSome))))
def rInT (K : PySem.W.Frag) (neg : Bool) : R2 := fun x y H Q => ∃ d ds, Dp K H x d ∧ Dp K H y (.tuple ds) ∧ SeqAt.shaped d = true ∧ SeqAt.shaped (.tuple ds) = true ∧ Q (.bl (neg ^^ ds.any fun z => PyData.eqv z d)) H
theorem op_inT {X : Cx} (hu : X.A.units + 65 < cLine) : OpR X (compareOp .In) (rInT X.K false) := by
  intro pins s σ H x y v u Q I rx ry h
  obtain ⟨d, ds, hd, he, sd, se, q⟩ := h
  obtain ⟨as, r1⟩ := Dp.reads I d x v hd rx
  obtain ⟨bs, r2⟩ := Dp.reads I (.tuple ds) y u he ry
  exact SeqAt.in_tuple_reads r2 r1 (SeqAt.canLay_of_shaped se) (SeqAt.canLay_of_shaped sd) (room_in_shaped sd hu) ⟨.bl _, H, I, rfl, by rw [Bool.false_xor] at q; exact q⟩
theorem op_notInT {X : Cx} (hu : X.A.units + 65 < cLine) : OpR X (compareOp .NotIn) (rInT X.K true) := by
  intro pins s σ H x y v u Q I rx ry h
  obtain ⟨d, ds, hd, he, sd, se, q⟩ := h
  obtain ⟨as, r1⟩ := Dp.reads I d x v hd rx
  obtain ⟨bs, r2⟩ := Dp.reads I (.tuple ds) y u he ry
  exact SeqAt.notIn_tuple_reads r2 r1 (SeqAt.canLay_of_shaped se) (SeqAt.canLay_of_shaped sd) (room_in_shaped sd hu) ⟨.bl _, H, I, rfl, by rw [Bool.true_xor] at q; exact q⟩
def rInDict (neg : Bool) : R2 := fun x y H Q => ∃ a o, y = .ref a ∧ DGet H a x o ∧ Q (.bl (neg ^^ o.isSome)) H
theorem op_inDict {X : Cx} (hu : X.A.units + 1 < cLine) : OpR X (compareOp .In) (rInDict false) := by
  intro pins s σ H x y v u Q I rx ry h
  obtain ⟨a, o, rfl, g, q⟩ := h
  obtain rfl : u = Value.ref a := ry
  exact d_in hu I g rx fun s3 I3 => ⟨.bl o.isSome, H, I3, rfl, by rw [Bool.false_xor] at q; exact q⟩
theorem op_notInDict {X : Cx} (hu : X.A.units + 1 < cLine) : OpR X (compareOp .NotIn) (rInDict true) := by
  intro pins s σ H x y v u Q I rx ry h
  obtain ⟨a, o, rfl, g, q⟩ := h
  obtain rfl : u = Value.ref a := ry
  exact d_notIn hu I g rx fun s3 I3 => ⟨.bl (!o.isSome), H, I3, rfl, by rw [Bool.true_xor] at q; exact q⟩
abbrev rInA (K : PySem.W.Frag) : R2 := fun x y H Q => rInD K x y H Q ∨ rInT K false x y H Q ∨ (∃ (c : Nat) (z : Str), x = .str ⟨#[c]⟩ ∧ y = .str z ∧ Q (.bl (decide (c ∈ z.cps.toList))) H) ∨ rInDict false x y H Q
abbrev rNinA (K : PySem.W.Frag) : R2 := fun x y H Q => rNotInD K x y H Q ∨ rInT K true x y H Q ∨ (∃ (c : Nat) (z : Str), x = .str ⟨#[c]⟩ ∧ y = .str z ∧ Q (.bl (!decide (c ∈ z.cps.toList))) H) ∨ rInDict true x y H Q
theorem op_inA {X : Cx} (hu : X.A.units + 65 < cLine) : OpR X (compareOp .In) (rInA X.K) := (op_inD hu).or ((op_inT hu).or (op_in_sign.or (op_inDict (by omega))))
theorem op_ninA {X : Cx} (hu : X.A.units + 65 < cLine) : OpR X (compareOp .NotIn) (rNinA X.K) := (op_notInD hu).or ((op_notInT hu).or (op_notIn_sign.or (op_notInDict (by omega))))
theorem any_py (l : List D) (a : D) : ((pyL l).any fun z => PyData.eqv z a.py) = l.any fun z => z.eqv a := by
  rw [pyL_map, List.any_map]; rfl
theorem seq_dp {K : PySem.W.Frag} {H G F : Hp} {ms : MS} (g : Good H G F ms) {u : V} {sd : SD} {ds : List D} (s : SOk G u sd) (e : seqOf ms sd = some ds) (f : fitL ds 63 = true) : Dp K H u (.list (pyL ds)) ∨ Dp K H u (.tuple (pyL ds)) := by
  obtain ⟨a, vs, rfl, h1, h2⟩ := seqOf_ok (K := K) g s e
  rcases h1 with h1 | h1
  · exact .inl (.lst h1 (h2.dp g.ex f))
  · exact .inr (.tup h1 (h2.dp g.ex f))
theorem shaped_seq {ds : List D} (f : fitL ds 63 = true) : SeqAt.shaped (.list (pyL ds)) = true ∧ SeqAt.shaped (.tuple (pyL ds)) = true := by
  obtain ⟨h1, h2⟩ := fitL_lay ds 63 f
  unfold SeqAt.shaped
  simp only [PyData.canLay0, PyData.depth, h1, Bool.true_and]
  exact ⟨decide_eq_true (by omega), decide_eq_true (by omega)⟩
theorem oa_in {K : PySem.W.Frag} : OpA (rInA K) (oIn false) := by
  intro ms x y k h v u H G F Q g sx sy kz
  rcases h with ⟨ds, a, e, rfl, fa, fd, q⟩ | ⟨c, z, rfl, rfl, q⟩ | ⟨o, e, q⟩
  · have q' := kz.here g (okd (.bl _)) q
    rcases seq_dp (K := K) g sy e fd with h | h
    · exact .inl ⟨_, _, Shw.dp g.ex sx fa, h, D.fit_shaped fa, (shaped_seq fd).1, by rw [any_py, ← Bool.false_xor (ds.any _)]; exact q'⟩
    · exact .inr (.inl ⟨_, _, Shw.dp g.ex sx fa, h, D.fit_shaped fa, (shaped_seq fd).2, by rw [any_py]; exact q'⟩)
  · cases sx; cases sy
    exact .inr (.inr (.inl ⟨c, z, rfl, rfl, kz.here g (okd (.bl _)) (by rw [Bool.false_xor] at q; exact q)⟩))
  · obtain ⟨a, ov, rfl, dg, h0, h1⟩ := dLook_ok g sy sx e
    refine .inr (.inr (.inr ⟨a, ov, rfl, dg, ?_⟩))
    have eo : ov.isSome = o.isSome := by
      cases o with
      | none => rw [h0 rfl]; rfl
      | some d => obtain ⟨w, e, _⟩ := h1 d rfl; rw [e]; rfl
    rw [eo]
    exact kz.here g (okd (.bl _)) q
theorem oa_nin {K : PySem.W.Frag} : OpA (rNinA K) (oIn true) := by
  intro ms x y k h v u H G F Q g sx sy kz
  rcases h with ⟨ds, a, e, rfl, fa, fd, q⟩ | ⟨c, z, rfl, rfl, q⟩ | ⟨o, e, q⟩
  · have q' := kz.here g (okd (.bl _)) q
    rcases seq_dp (K := K) g sy e fd with h | h
    · exact .inl ⟨_, _, Shw.dp g.ex sx fa, h, D.fit_shaped fa, (shaped_seq fd).1, by rw [any_py, ← Bool.true_xor (ds.any _)]; exact q'⟩
    · exact .inr (.inl ⟨_, _, Shw.dp g.ex sx fa, h, D.fit_shaped fa, (shaped_seq fd).2, by rw [any_py]; exact q'⟩)
  · cases sx; cases sy
    exact .inr (.inr (.inl ⟨c, z, rfl, rfl, kz.here g (okd (.bl _)) (by rw [Bool.true_xor] at q; exact q)⟩))
  · obtain ⟨a, ov, rfl, dg, h0, h1⟩ := dLook_ok g sy sx e
    refine .inr (.inr (.inr ⟨a, ov, rfl, dg, ?_⟩))
    have eo : ov.isSome = o.isSome := by
      cases o with
      | none => rw [h0 rfl]; rfl
      | some d => obtain ⟨w, e, _⟩ := h1 d rfl; rw [e]; rfl
    rw [eo]
    exact kz.here g (okd (.bl _)) q

/-! ### subscripts, slices -/
def rIxD : R2 := fun x y H Q => ∃ a v, x = .ref a ∧ DGet H a y (some v) ∧ Q v H
theorem ix_dict {X : Cx} (hu : X.A.units + 1 < cLine) : IxR X rIxD := by
  intro value slice pins s σ H x y v u Q I rx ry h hs
  obtain ⟨a, w, rfl, g, q⟩ := h
  obtain rfl : v = Value.ref a := rx
  exact tail_any (dict_typeIs I g) PySem.F.slot_dict_getitem.lookup (d_getItem hu I g ry fun w' s3 I3 rw' => ⟨w, H, I3, rw', q⟩) hs
abbrev rIxA (K : PySem.W.Frag) : R2 := fun x y H Q => rIx K x y H Q ∨ rIxD x y H Q
theorem ix_any {X : Cx} (hu : X.A.units + 1 < cLine) : IxR X (rIxA X.K) := ix_seq.or (ix_dict hu)
def oIx : AO2 := fun ms x y k =>
  (∃ ds i d, seqOf ms x = some ds ∧ y = .d (.int i) ∧ atI ds i = some d ∧ k (.d d)) ∨
  (∃ z i c, x = .d (.str z) ∧ y = .d (.int i) ∧ z.length ≤ sizeLine ∧ atI z.cps.toList i = some c ∧ k (.d (.str ⟨#[c]⟩))) ∨
  (∃ d, dLook ms x y = some (some d) ∧ k (.d d))
theorem oIx_seq {ms : MS} {x : SD} {ds : List D} {i : Int} {d : D} {k : SD → Prop} (h1 : seqOf ms x = some ds) (h2 : atI ds i = some d) (h : k (.d d)) : oIx ms x (.d (.int i)) k := .inl ⟨ds, i, d, h1, rfl, h2, h⟩
theorem atI_show {G : Hp} {vs : List V} {ds : List D} {i : Int} {d : D} (s : ShwL G vs ds) (h : atI ds i = some d) : ∃ v, atI vs i = some v ∧ Shw G v d := by
  unfold atI at *
  rw [s.length]
  cases e : ixN ds.length i with
  | none => rw [e] at h; cases h
  | some j =>
    rw [e] at h
    exact s.get h
theorem oa_ix {K : PySem.W.Frag} : OpA (rIxA K) oIx := by
  intro ms x y k h v u H G F Q g sx sy kz
  rcases h with ⟨ds, i, d, e, rfl, ha, q⟩ | ⟨z, i, c, rfl, rfl, hz, ha, q⟩ | ⟨d, e, q⟩
  · obtain ⟨a, vs, rfl, h1, h2⟩ := seqOf_ok (K := K) g sx e
    obtain ⟨w, h3, h4⟩ := atI_show h2 ha
    cases sy
    rcases h1 with h1 | h1
    · exact .inl (.inl ⟨a, vs, i, w, rfl, rfl, h1, h3, kz.here g (okd h4) q⟩)
    · exact .inl (.inr (.inl ⟨a, vs, i, w, rfl, rfl, h1, h3, kz.here g (okd h4) q⟩))
  · cases sx; cases sy
    exact .inl (.inr (.inr ⟨z, i, c, rfl, rfl, hz, ha, kz.here g (okd (.str _)) q⟩))
  · obtain ⟨a, ov, rfl, dg, h0, h1⟩ := dLook_ok g sx sy e
    obtain ⟨w, rfl, s⟩ := h1 d rfl
    exact .inr ⟨a, w, rfl, dg, kz.here g (okd s) q⟩
section
variable {X : Cx} {W : WX} {pos : Pos} {a b : Expr} {ra rb : AER} {ta tb : TE}
theorem ae_ix (hu : X.A.units + 1 < cLine) (ha : AE X W a ta ra) (hb : AE X W b tb rb) (hs : PlainIx b := by exact fun _ _ => rfl) :
    AE X W (.Subscript a b pos) (tOp (rIxA X.K) ta tb) (fun Γ ms k x => ra Γ ms (fun u ms1 => rb Γ ms1 (fun v ms2 => oIx ms2 u v fun z => k z ms2) x) x) := by
  have p1 := ha.pe
  have h1 := ha.ok
  have p2 := hb.pe
  have h2 := hb.ok
  refine ⟨pe_ix (ix_any hu) p1 p2 hs, fun Γ ms k x h σ H G F Q ev g kk xw => ?_⟩
  refine h1 Γ ms _ x h σ H G F _ ev g (fun v H1 G1 sd ms1 e1 g1 s1 q1 => ?_) xw
  refine h2 Γ ms1 _ x q1 σ H1 G1 F _ (ev.mono e1) g1 (fun u H2 G2 sd2 ms2 e2 g2 s2 q2 => ?_) (xw.mono e1)
  exact oa_ix ms2 _ _ _ q2 v u H2 G2 F Q g2 (s1.mono e2) s2 fun z H3 G3 sd3 e3 g3 s3 q3 => kk z H3 G3 sd3 ms2 ((e1.trans e2).trans e3) g3 s3 q3
end
def cutD (xs : List D) (lo hi : Option Int) : List D := (xs.drop (HT.sIx xs.length 0 lo)).take (HT.sIx xs.length xs.length hi - HT.sIx xs.length 0 lo)
theorem cut_show {G : Hp} {vs : List V} {ds : List D} {lo hi : Option Int} (s : ShwL G vs ds) : ShwL G (cutV vs lo hi) (cutD ds lo hi) := by
  unfold cutV cutD
  rw [s.length]
  exact (s.drop _).take _
def oSl (lo hi : Option Int) : AO1 := fun ms x k => match x with
  | .d (.str z) => z.length ≤ sizeLine ∧ k (.d (.str (cutS z lo hi)))
  | .d (.tup ds) => k (.d (.tup (cutD ds lo hi)))
  | x => ∃ ds, lstOf ms x = some ds ∧ k (.d (.lst (cutD ds lo hi)))
abbrev rSlAny (K : PySem.W.Frag) : V → Option Int → Option Int → Hp → VK → Prop := fun x lo hi H Q => rSlS x lo hi H Q ∨ rSlA K x lo hi H Q ∨ rSlL K x lo hi H Q
theorem SlR.or {X : Cx} {r r' : V → Option Int → Option Int → Hp → VK → Prop} (h : SlR X r) (h' : SlR X r') : SlR X (fun x lo hi H Q => r x lo hi H Q ∨ r' x lo hi H Q) := by
  intro pins s σ H x v vl vu lo hi sl Q I rx hs pl pu q
  rcases q with q | q
  · exact h pins s σ H x v vl vu lo hi sl Q I rx hs pl pu q
  · exact h' pins s σ H x v vl vu lo hi sl Q I rx hs pl pu q
theorem sl_any {X : Cx} : SlR X (rSlAny X.K) := SlR.or sl_str (SlR.or sl_tupA sl_list)
theorem oa_sl {K : PySem.W.Frag} (lo hi : Option Int) : UnA (fun x H Q => rSlAny K x lo hi H Q) (oSl lo hi) := by
  intro ms x k h v H G F Q g sx kz
  unfold oSl at h
  split at h
  · cases sx
    exact .inl ⟨_, rfl, h.1, kz.here g (okd (.str _)) h.2⟩
  · cases sx with
    | tup a1 a2 =>
      refine .inr (.inl ⟨_, _, rfl, Evl.st_of (g.ex _ _ a1), fun e => ?_, fun _ => kz.tup g (cut_show a2) h⟩)
      refine kz.here g (okd (.tup a1 a2)) ?_
      rw [a2.length] at e
      have ec : ∀ ds : List D, HT.sIx ds.length 0 lo = 0 ∧ HT.sIx ds.length ds.length hi = ds.length → cutD ds lo hi = ds := fun ds e => by
        unfold cutD; rw [e.1, e.2, List.drop_zero, Nat.sub_zero, List.take_length]
      rw [ec _ e] at h
      exact h
  · obtain ⟨ds, e, q⟩ := h
    obtain ⟨p, vs, rfl, h1, h2⟩ := lstOf_ok g sx e
    exact .inr (.inr ⟨p, vs, rfl, Evl.sq_of h1, kz.lst g (cut_show h2) q⟩)
abbrev AOR := Gam → MS → (Option Int → MS → Prop) → AX → Prop
def KO (G F : Hp) (k : Option Int → MS → Prop) (Q : Option Int → Hp → Prop) : Prop := ∀ b H2 G2 ms2, Ex G G2 → Good H2 G2 F ms2 → k b ms2 → Q b H2
structure AO (X : Cx) (W : WX) (e : Option Expr) (t : TO) (r : AOR) : Prop where
  pe : PO X e t
  ok : ∀ Γ ms k x, r Γ ms k x → ∀ σ H G F Q, EOk G σ Γ → Good H G F ms → KO G F k Q → XW W G F σ x → t σ H Q
section
variable {X : Cx} {W : WX} {pos p2 : Pos} {a b : Expr} {ra rb : AER} {ta tb : TE} {tl th : TO} {lo hi : Option Expr} {rl rh : AOR}
theorem ao_none : AO X W none tNoPart (fun _ ms k _ => k none ms) := ⟨po_none, fun _ _ _ _ h _ H G _ _ _ g kk _ => kk none H G _ (Ex.refl G) g h⟩
def asI (k : Int → Prop) : SD → Prop
  | .d (.int i) => k i
  | _ => False
theorem asI_ok {G : Hp} {v : V} {k : Int → Prop} {sd : SD} (s : SOk G v sd) (h : asI k sd) : ∃ i, v = .int i ∧ k i := by
  unfold asI at h
  split at h
  · cases s; exact ⟨_, rfl, h⟩
  · exact h.elim
theorem ao_some (h : AE X W a ta ra) : AO X W (some a) (tPart ta) (fun Γ ms k x => ra Γ ms (fun u ms1 => asI (fun i => k (some i) ms1) u) x) := by
  have p1 := h.pe
  have h1 := h.ok
  refine ⟨po_some p1, fun Γ ms k x h σ H G F Q ev g kk xw => ?_⟩
  refine h1 Γ ms _ x h σ H G F _ ev g (fun v H1 G1 sd ms1 e1 g1 s1 q1 => ?_) xw
  obtain ⟨i, rfl, q⟩ := asI_ok s1 q1
  exact ⟨i, rfl, kk _ _ _ _ e1 g1 q⟩
theorem ae_sl (ha : AE X W a ta ra) (hl : AO X W lo tl rl) (hh : AO X W hi th rh) :
    AE X W (.Subscript a (.Slice lo hi none p2) pos) (tSl (rSlAny X.K) ta tl th) (fun Γ ms k x => ra Γ ms (fun u ms1 => rl Γ ms1 (fun l ms2 => rh Γ ms2 (fun h ms3 => oSl l h ms3 u fun z => k z ms3) x) x) x) := by
  have p1 := ha.pe
  have h1 := ha.ok
  have p2 := hl.pe
  have h2 := hl.ok
  have p3 := hh.pe
  have h3 := hh.ok
  refine ⟨pe_slice sl_any p1 p2 p3, fun Γ ms k x h σ H G F Q ev g kk xw => ?_⟩
  refine h1 Γ ms _ x h σ H G F _ ev g (fun v H1 G1 sd ms1 e1 g1 s1 q1 => ?_) xw
  refine h2 Γ ms1 _ x q1 σ H1 G1 F _ (ev.mono e1) g1 (fun l H2 G2 ms2 e2 g2 q2 => ?_) (xw.mono e1)
  refine h3 Γ ms2 _ x q2 σ H2 G2 F _ ((ev.mono e1).mono e2) g2 (fun r H3 G3 ms3 e3 g3 q3 => ?_) ((xw.mono e1).mono e2)
  exact oa_sl l r ms3 _ _ q3 v H3 G3 F Q g3 ((s1.mono e2).mono e3) fun z H4 G4 sd4 e4 g4 s4 q4 => kk z H4 G4 sd4 ms3 (((e1.trans e2).trans e3).trans e4) g4 s4 q4
end
end AL

/-! ## AbsD -/
set_option Elab.async false
set_option linter.all false
set_option maxRecDepth 100000
set_option maxHeartbeats 2000000
namespace AL
open PySem PySem.Spec PyProof.Rows L2
open Evl (Ex)

/-! ### calls of built-ins -/
section
variable {X : Cx} {W : WX} {pos p : Pos} {x : Str} {e : Expr} {es : List Expr} {ra : AAR} {ta : TA}
theorem ae_callB {id : String} {r : List V → Hp → VK → Prop} {o : AOL} (hc : CallR X (.builtin id) r) (oa : ClA r o) (hg : Gl X x) (hm : X.mg x = none) (hv : bootBuiltins x = some (.builtin id)) (ha : AA X W (e :: es) ta ra) (hn : x ≠ "__name__" := by decide) (hdb : (x == ("__debug__" : Str)) = false := by decide)
    (he : starEach (e :: es) X.env = (false, eval e X.env) :: starEach es X.env := by rfl) (hpl : (backTo pos (starEach es X.env)).any (·.1) = false := by rfl) :
    AE X W (.Call (.Name x p) (e :: es) [] pos) (tCB r ta) (fun Γ ms k x => ra Γ ms (fun sds ms1 => o ms1 sds fun z => k z ms1) x) := by
  refine ⟨pe_callB hc hg hm hv ha.pe hn hdb he hpl, fun Γ ms k x h σ H G F Q ev g kk xw => ?_⟩
  refine ha.ok Γ ms _ x h σ H G F _ ev g (fun vs H1 G1 sds ms1 e1 g1 s1 _ q1 => ?_) xw
  exact oa ms1 _ _ q1 vs H1 G1 F Q g1 s1 fun z H3 G3 sd3 e3 g3 s3 q3 => kk z H3 G3 sd3 ms1 (e1.trans e3) g3 s3 q3
theorem ae_callTy {T : String} {r : List V → Hp → VK → Prop} {o : AOL} (hc : CallR X (.type T) r) (oa : ClA r o) (hg : Gl X x) (hm : X.mg x = none) (hv : bootBuiltins x = some (.type T)) (ha : AA X W (e :: es) ta ra) (hn : x ≠ "__name__" := by decide) (hdb : (x == ("__debug__" : Str)) = false := by decide)
    (he : starEach (e :: es) X.env = (false, eval e X.env) :: starEach es X.env := by rfl) (hpl : (backTo pos (starEach es X.env)).any (·.1) = false := by rfl) :
    AE X W (.Call (.Name x p) (e :: es) [] pos) (tCB r ta) (fun Γ ms k x => ra Γ ms (fun sds ms1 => o ms1 sds fun z => k z ms1) x) := by
  refine ⟨pe_callTy hc hg hm hv ha.pe hn hdb he hpl, fun Γ ms k x h σ H G F Q ev g kk xw => ?_⟩
  refine ha.ok Γ ms _ x h σ H G F _ ev g (fun vs H1 G1 sds ms1 e1 g1 s1 _ q1 => ?_) xw
  exact oa ms1 _ _ q1 vs H1 G1 F Q g1 s1 fun z H3 G3 sd3 e3 g3 s3 q3 => kk z H3 G3 sd3 ms1 (e1.trans e3) g3 s3 q3
/-- a built-in class as a value -/
theorem ae_bty {T : String} (hg : Gl X x) (hm : X.mg x = none) (hv : bootBuiltins x = some (.type T)) (hn : x ≠ "__name__" := by decide) (hd : (x == ("__debug__" : Str)) = false := by decide) : AE X W (.Name x pos) (tC (.ty T)) (fun _ ms k _ => k (.v (.ty T)) ms) :=
  ⟨pe_bltn hg hm hv (v := .ty T) rfl hn hd, fun _ _ _ _ q _ H G _ _ _ g kk _ => kk _ H G _ _ (Ex.refl G) g okv q⟩
end
theorem one_of {G : Hp} {vs : List V} {sd : SD} (s : SOkL G vs [sd]) : ∃ v, vs = [v] ∧ SOk G v sd := by
  cases s with
  | cons a b => cases b; exact ⟨_, rfl, a⟩
theorem two_of {G : Hp} {vs : List V} {sd sd2 : SD} (s : SOkL G vs [sd, sd2]) : ∃ v w, vs = [v, w] ∧ SOk G v sd ∧ SOk G w sd2 := by
  cases s with
  | cons a b =>
    obtain ⟨w, rfl, h⟩ := one_of b
    exact ⟨_, _, rfl, a, h⟩
def oLen : AOL := fun ms xs k => match xs with
  | [.d (.str z)] => z.length ≤ sizeLine ∧ k (.d (.int z.length))
  | [x] => ∃ ds, seqOf ms x = some ds ∧ k (.d (.int ds.length))
  | _ => False
theorem oa_len {K : PySem.W.Frag} : ClA (fun xs H Q => ∃ x n, xs = [x] ∧ LenV K x H n ∧ Q (.int n) H) oLen := by
  intro ms xs k h vs H G F Q g s kz
  unfold oLen at h
  split at h
  · obtain ⟨v, ev, sv⟩ := one_of s
    subst ev
    cases sv
    exact ⟨_, _, rfl, show LenV _ (.str _) _ _ from ⟨h.1, rfl⟩, kz.here g (okd (.int _)) h.2⟩
  · obtain ⟨v, ev, sv⟩ := one_of s
    subst ev
    obtain ⟨ds, e, q⟩ := h
    obtain ⟨a, ws, rfl, h1, h2⟩ := seqOf_ok (K := K) g sv e
    refine ⟨_, ds.length, rfl, ?_, kz.here g (okd (.int _)) q⟩
    rcases h1 with h1 | h1
    · exact .inl ⟨ws, h1, h2.length.symm⟩
    · exact .inr ⟨ws, h1, h2.length.symm⟩
  · exact h.elim
def oInt : AOL := fun _ xs k => match xs with
  | [.d (.int i)] => k (.d (.int i))
  | _ => False
theorem oa_int : ClA (fun xs H Q => (∃ i, xs = [.int i] ∧ Q (.int i) H) ∨ ∃ k, xs = [.bl k] ∧ Q (.int (if k then 1 else 0)) H) oInt := by
  intro ms xs k h vs H G F Q g s kz
  unfold oInt at h
  split at h
  · obtain ⟨v, ev, sv⟩ := one_of s
    subst ev
    cases sv
    exact .inl ⟨_, rfl, kz.here g (okd (.int _)) h⟩
  · exact h.elim
def oAbs : AOL := fun _ xs k => match xs with
  | [.d (.int i)] => k (.d (.int i.natAbs))
  | _ => False
theorem oa_abs : ClA (fun xs H Q => ∃ i, xs = [.int i] ∧ Q (.int (if i < 0 then -i else i)) H) oAbs := by
  intro ms xs k h vs H G F Q g s kz
  unfold oAbs at h
  split at h
  · obtain ⟨v, ev, sv⟩ := one_of s
    subst ev
    cases sv
    rename_i i
    refine ⟨_, rfl, ?_⟩
    have e : (if i < 0 then -i else i) = (i.natAbs : Int) := by split <;> omega
    rw [e]
    exact kz.here g (okd (.int _)) h
  · exact h.elim
def oMax2 : AOL := fun _ xs k => match xs with
  | [.d (.int i), .d (.int j)] => k (.d (.int (if j > i then j else i)))
  | _ => False
theorem oa_max2 : ClA (fun xs H Q => ∃ i j, xs = [.int i, .int j] ∧ Q (.int (if j > i then j else i)) H) oMax2 := by
  intro ms xs k h vs H G F Q g s kz
  unfold oMax2 at h
  split at h
  · obtain ⟨v, w, ev, sv, sw⟩ := two_of s
    subst ev
    cases sv; cases sw
    exact ⟨_, _, rfl, kz.here g (okd (.int _)) h⟩
  · exact h.elim
def oMin2 : AOL := fun _ xs k => match xs with
  | [.d (.int i), .d (.int j)] => k (.d (.int (if j < i then j else i)))
  | _ => False
theorem oa_min2 : ClA (fun xs H Q => ∃ i j, xs = [.int i, .int j] ∧ Q (.int (if j < i then j else i)) H) oMin2 := by
  intro ms xs k h vs H G F Q g s kz
  unfold oMin2 at h
  split at h
  · obtain ⟨v, w, ev, sv, sw⟩ := two_of s
    subst ev
    cases sv; cases sw
    exact ⟨_, _, rfl, kz.here g (okd (.int _)) h⟩
  · exact h.elim
def oStr : AOL := fun _ xs k => match xs with
  | [.d (.int i)] => i.natAbs.log2 < 1920 ∧ k (.d (.str (toString i)))
  | _ => False
theorem oa_str : ClA (fun xs H Q => ∃ i, xs = [.int i] ∧ i.natAbs.log2 < 1920 ∧ Q (.str (toString i)) H) oStr := by
  intro ms xs k h vs H G F Q g s kz
  unfold oStr at h
  split at h
  · obtain ⟨v, ev, sv⟩ := one_of s
    subst ev
    cases sv
    exact ⟨_, rfl, h.1, kz.here g (okd (.str _)) h.2⟩
  · exact h.elim
/-- tuple(x), list(x) -/
def oTup : AOL := fun ms xs k => match xs with
  | [x] => ∃ ds, seqOf ms x = some ds ∧ k (.d (.tup ds))
  | _ => False
theorem oa_tup {K : PySem.W.Frag} : ClA (fun xs H Q => ∃ p ys, xs = [.ref p] ∧ ((SqL K H p ys ∧ ∀ l, H l = none → Q (.ref l) (upd H l (.tup ys))) ∨ (SqT K H p ys ∧ Q (.ref p) H))) oTup := by
  intro ms xs k h vs H G F Q g s kz
  unfold oTup at h
  split at h
  · rename_i x
    obtain ⟨v, ev, sv⟩ := one_of s
    subst ev
    obtain ⟨ds, e, q⟩ := h
    obtain ⟨a, ws, rfl, h1, h2⟩ := seqOf_ok2 (K := K) g sv e
    rcases h1 with ⟨ex, h1⟩ | h1
    · subst ex
      exact ⟨a, ws, rfl, .inr ⟨h1, kz.here g sv q⟩⟩
    · exact ⟨a, ws, rfl, .inl ⟨h1, kz.tup g h2 q⟩⟩
  · exact h.elim
def oList : AOL := fun ms xs k => match xs with
  | [x] => ∃ ds, seqOf ms x = some ds ∧ k (.d (.lst ds))
  | _ => False
theorem oa_list {K : PySem.W.Frag} : ClA (fun xs H Q => ∃ p ys, xs = [.ref p] ∧ (SqL K H p ys ∨ SqT K H p ys) ∧ ∀ l, H l = none → Q (.ref l) (upd H l (.lst ys))) oList := by
  intro ms xs k h vs H G F Q g s kz
  unfold oList at h
  split at h
  · rename_i x
    obtain ⟨v, ev, sv⟩ := one_of s
    subst ev
    obtain ⟨ds, e, q⟩ := h
    obtain ⟨a, ws, rfl, h1, h2⟩ := seqOf_ok (K := K) g sv e
    exact ⟨a, ws, rfl, h1, kz.lst g h2 q⟩
  · exact h.elim
/-- all(x), x a list of truths -/
def blsOf : List D → Option (List Bool)
  | [] => some []
  | .bl b :: r => (blsOf r).map (b :: ·)
  | _ :: _ => none
theorem blsOf_ok {G : Hp} : ∀ {ds : List D} {vs : List V} {bs : List Bool}, ShwL G vs ds → blsOf ds = some bs → vs = bs.map V.bl
  | [], _, _, s, e => by cases s; cases e; rfl
  | d :: r, _, bs, s, e => by
    cases s with
    | cons a b =>
      cases d with
      | bl c =>
        cases a
        simp only [blsOf] at e
        cases q : blsOf r with
        | none => rw [q] at e; cases e
        | some cs =>
          rw [q] at e
          cases e
          rw [blsOf_ok b q]; rfl
      | _ => cases e
def oAll : AOL := fun ms xs k => match xs with
  | [.d (.lst ds)] => ∃ bs, blsOf ds = some bs ∧ k (.d (.bl (bs.all id)))
  | _ => False
theorem oa_all {K : PySem.W.Frag} : ClA (rAll K) oAll := by
  intro ms xs k h vs H G F Q g s kz
  unfold oAll at h
  split at h
  · obtain ⟨v, ev, sv⟩ := one_of s
    subst ev
    obtain ⟨bs, e, q⟩ := h
    cases sv with
    | lst a b =>
      rw [blsOf_ok b e] at a
      exact ⟨_, bs, rfl, Evl.sq_of (g.ex _ _ a), kz.here g (okd (.bl _)) q⟩
  · exact h.elim

/-! ### isinstance -/
def D.ty : D → Option String
  | .non => some "NoneType"
  | .bl _ => some "bool"
  | .int _ => some "int"
  | .str _ => some "str"
  | .tup _ => some "tuple"
  | .lst _ => some "list"
  | .frl _ => some "list"
  | .ins _ _ => none
theorem ty_ok {K : PySem.W.Frag} {G H : Hp} (e : Ex G H) {v : V} : ∀ {d : D} {T : String}, Shw G v d → d.ty = some T → TyX K H v (.type T)
  | .non, _, s, h => by cases s; cases h; exact .base .non
  | .bl _, _, s, h => by cases s; cases h; exact .base (.bl _)
  | .int _, _, s, h => by cases s; cases h; exact .base (.int _)
  | .str _, _, s, h => by cases s; cases h; exact .base (.str _)
  | .tup _, _, s, h => by cases s with | tup a b => cases h; exact .base (.tup (e _ _ a))
  | .lst _, _, s, h => by cases s with | lst a b => cases h; exact .base (.lst (e _ _ a))
  | .frl _, _, s, h => by cases s with | frl a b => cases h; exact .base (.frz (e _ _ a))
/-- isinstance(x, T) -/
def oIsi : AOL := fun _ xs k => match xs with
  | [.d d, .v (.ty T)] => ∃ t b, d.ty = some t ∧ kitB t T = some b ∧ k (.d (.bl b))
  | _ => False
theorem oa_isi {K : PySem.W.Frag} : ClA (rIsi K) oIsi := by
  intro ms xs k h vs H G F Q g s kz
  unfold oIsi at h
  split at h
  · obtain ⟨v, w, ev, sv, sw⟩ := two_of s
    subst ev
    obtain ⟨t, b, h1, h2, q⟩ := h
    cases sw
    exact ⟨v, _, _, _, b, rfl, .ty _, ty_ok g.ex sv h1, kit_ty h2, kz.here g (okd (.bl _)) q⟩
  · exact h.elim
section
variable {X : Cx} {W : WX} {pos p p1 p2 p3 : Pos} {x1 : Nat} {e : Expr} {ra : AER} {ta : TE}
/-- isinstance(e, (T, U)) -/
theorem ae_isi2 {x y z T U : Str} {T' U' : String} (ha : AE X W e ta ra) (hg : Gl X x) (hm : X.mg x = none) (hv : bootBuiltins x = some (.builtin "isinstance")) (hg1 : Gl X y) (hm1 : X.mg y = none) (hv1 : bootBuiltins y = some (.type T')) (hg2 : Gl X z) (hm2 : X.mg z = none) (hv2 : bootBuiltins z = some (.type U'))
    (hn : x ≠ "__name__" := by decide) (hd : (x == ("__debug__" : Str)) = false := by decide) (hn1 : y ≠ "__name__" := by decide) (hd1 : (y == ("__debug__" : Str)) = false := by decide) (hn2 : z ≠ "__name__" := by decide) (hd2 : (z == ("__debug__" : Str)) = false := by decide)
    (he : starEach (e :: [.Tuple [.Name y p1, .Name z p2] x1 p3]) X.env = (false, eval e X.env) :: starEach [.Tuple [.Name y p1, .Name z p2] x1 p3] X.env := by rfl) (hpl : (backTo pos (starEach [.Tuple [.Name y p1, .Name z p2] x1 p3] X.env)).any (·.1) = false := by rfl)
    (hs1 : starEach [.Tuple [.Name y p1, .Name z p2] x1 p3] X.env = (false, eval (.Tuple [.Name y p1, .Name z p2] x1 p3) X.env) :: starEach [] X.env := by rfl)
    (hs2 : starEach [.Name y p1, .Name z p2] X.env = (false, eval (.Name y p1) X.env) :: starEach [.Name z p2] X.env := by rfl) (hs3 : starEach [.Name z p2] X.env = (false, eval (.Name z p2) X.env) :: starEach [] X.env := by rfl) :
    AE X W (.Call (.Name x p) [e, .Tuple [.Name y p1, .Name z p2] x1 p3] [] pos) (tCB (rIsiT X.K) (tCons ta (tCons (tTup (tCons (tC (.ty T')) (tCons (tC (.ty U')) tNil))) tNil)))
      (fun Γ ms k x => ra Γ ms (fun u ms1 => match u with
        | .d d => ∃ t b c, d.ty = some t ∧ kitB t T' = some b ∧ kitB t U' = some c ∧ k (.d (.bl (b || c))) ms1
        | _ => False) x) := by
  refine ⟨pe_callB call_isiT hg hm hv (pa_cons ha.pe (pa_cons (pe_tup (pa_cons (pe_bltn hg1 hm1 hv1 (v := .ty T') rfl hn1 hd1) (pa_cons (pe_bltn hg2 hm2 hv2 (v := .ty U') rfl hn2 hd2) pa_nil hs3) hs2)) pa_nil hs1) he) hn hd he hpl, fun Γ ms k x h σ H G F Q ev g kk xw => ?_⟩
  refine ha.ok Γ ms _ x h σ H G F _ ev g (fun v H1 G1 sd ms1 e1 g1 s1 q1 => ?_) xw
  refine ⟨by show 2 ≤ sizeLine; decide, fun p hp => ?_⟩
  dsimp only at q1
  split at q1
  · obtain ⟨t, b, c, h1, h2, h3, q⟩ := q1
    refine ⟨v, p, [.ty T', .ty U'], _, [.type T', .type U'], b || c, rfl, upd_same, .cons (.ty _) (.cons (.ty _) .nil), ty_ok (fun a o z => (g1.new hp).ex a o (g1.exn hp a o z)) s1 h1, ?_, ?_⟩
    · refine kitAny_cons (kit_ty h2) (fun eb => ?_) (fun eb => by rw [eb]; rfl)
      rw [eb, Bool.false_or]
      exact kitAny_cons (kit_ty h3) (fun ec => by rw [ec]; exact kitAny_nil) (fun ec => ec)
    · exact kk _ _ _ _ _ (e1.trans (g1.exn hp)) (g1.new hp) (okd (.bl _)) q
  · exact q1.elim
end

/-! ### sorted -/
def leD (a b : D) : Bool := PySem.W.dataLe false D.py a b
def sortD (ds : List D) : List D := ds.mergeSort leD
def oSorted : AOL := fun ms xs k => match xs with
  | [x] => ∃ ds, lstOf ms x = some ds ∧ fitL ds 63 = true ∧ PySem.W.AllAlike (ds.map D.py) ∧ PySem.W.Sortable (ds.map D.py) ∧ ds.length ≤ sizeLine ∧ k (.d (.lst (sortD ds)))
  | _ => False
def rSortedD (K : PySem.W.Frag) : List V → Hp → VK → Prop := fun vs H Q => ∃ (a : Addr) (xs : List V) (G : Hp) (ds : List D), vs = [.ref a] ∧ H a = some (.lst xs) ∧ Ex G H ∧ ShwL G xs ds ∧ fitL ds 63 = true ∧ PySem.W.AllAlike (ds.map D.py) ∧ PySem.W.Sortable (ds.map D.py) ∧ ds.length ≤ sizeLine ∧
  ∀ (ys : List V) (p : Addr), ShwL G ys (sortD ds) → H p = none → Q (.ref p) (upd H p (.lst ys))
theorem each_of {G H : Hp} {X : Cx} {pins : List (Addr × Obj)} {σ : L2.St} {s : Shared} (I : Inv X pins σ H s) (e : Ex G H) : ∀ {ds : List D} {xs : List V} {us : List Value}, ShwL G xs ds → Vals xs us → fitL ds 63 = true →
    PySem.W.EachIs (fun u d => ∃ x, RelV x u ∧ Shw G x d) us ds ∧ PySem.W.EachIs (fun u d => ∃ as, Reads s.heap u (D.py d) as) us ds
  | [], _, _, s, r, _ => by cases s; cases r; exact ⟨.nil, .nil⟩
  | d :: ds, _, _, s, r, f => by
    cases s with
    | cons a b =>
      cases r with
      | cons r1 r2 =>
        simp only [fitL, Bool.and_eq_true] at f
        obtain ⟨h1, h2⟩ := each_of I e b r2 f.2
        exact ⟨.cons ⟨_, r1, a⟩ h1, .cons (Dp.reads I _ _ _ (Shw.dp e a f.1) r1) h2⟩
theorem each_back {G : Hp} : ∀ {ds : List D} {us : List Value}, PySem.W.EachIs (fun u d => ∃ x, RelV x u ∧ Shw G x d) us ds → ∃ ys, Vals ys us ∧ ShwL G ys ds
  | _, _, .nil => ⟨[], .nil, .nil⟩
  | _, _, .cons ⟨x, r, s⟩ t => by
    obtain ⟨ys, a, b⟩ := each_back t
    exact ⟨x :: ys, .cons r a, .cons s b⟩
theorem cr_sortedD {X : Cx} (hu : X.A.units + 80 < cLine) : CallR X (.builtin "sorted") (rSortedD X.K) := by
  intro pins s σ H vs us Q I r h
  obtain ⟨a, xs, G, ds, rfl, hs, eG, sh, ft, al, so, hl, q⟩ := h
  obtain ⟨its, rv, hL, _⟩ := I.list (Evl.sq_of (K := X.K) hs)
  rw [Vals.ref1 r]
  obtain ⟨e1, e2⟩ := each_of I eG sh rv ft
  refine PySem.W.sorted_data (enc := D.py) hL.isList e1 e2 al so hl (fun d hd => ?_) fun out ho ho2 => ?_
  · rw [fitL_all] at ft
    have := (D.fit_lay d 63 (List.all_eq_true.mp ft d hd)).2
    omega
  · obtain ⟨ys, v1, v2⟩ := each_back ho2
    obtain ⟨ep, he'⟩ := PyProof.Rows.sortedAll_at s.heap its out.toArray
    have hlen : ys.length ≤ sizeLine := by rw [v2.length, List.length_mergeSort]; exact hl
    exact ⟨.ref _, upd H (s.heap.objs.size + 1) (.lst ys), I.laid (t' := s.toks) (fun _ _ => PyProof.Rows.sortedAll_old) (Nat.le_succ _) ⟨hlen, out, ep, v1, he'⟩, rfl, q ys _ v2 (I.hok.fresh (Nat.le_succ _))⟩
theorem oa_sorted {K : PySem.W.Frag} : ClA (rSortedD K) oSorted := by
  intro ms xs k h vs H G F Q g s kz
  unfold oSorted at h
  split at h
  · obtain ⟨v, ev, sv⟩ := one_of s
    subst ev
    obtain ⟨ds, e, f, a1, a2, hl, q⟩ := h
    obtain ⟨a, ws, rfl, h1, h2⟩ := lstOf_ok g sv e
    exact ⟨a, ws, G, ds, rfl, h1, g.ex, h2, f, a1, a2, hl, fun ys p sy hp => kz.lst g sy q p hp⟩
  · exact h.elim
end AL

/-! ## AbsE -/
set_option Elab.async false
set_option linter.all false
set_option maxRecDepth 100000
set_option maxHeartbeats 2000000
namespace AL
open PySem PySem.Spec PyProof.Rows L2
open Evl (Ex)
open StX (tMakeR pe_makeR)

/-! ### what a def promises, over data and the store -/
abbrev AFn := List SD → MS → (SD → MS → Prop) → AX → Prop
def XE' (G F : Hp) (x : AX) (E : XK) : Prop := ∀ C d f u dv H2 G2 ms2, Ex G G2 → Good H2 G2 F ms2 → G2 d = some (.xd [(f, u)]) → Shw G2 u dv → x C f dv ms2 → E (.ref C) (some d) H2
def spA (R : AFn) : Sp := fun vs H Q E => ∃ sds G F ms k x, SOkL G vs sds ∧ Good H G F ms ∧ R sds ms k x ∧ KE G F k Q ∧ XE' G F x E
section
variable {P : Program} {w : World} {K : PySem.W.Frag} {mg : Str → Option Value} {base : Heap} {CX : CXT} {k : Nat} {f : Addr} {fd : FuncData} {ps : List Str} {sp : Sp}
theorem FnOk.toR (F : FnOk P w K mg base CX k f fd ps sp) (hb : Binds K fd ps []) : FnR P w K mg base CX k f sp := fun A outer s H us vs Q E hr e0 r hs => by
  have hl : us.length = ps.length := by rw [← r.length]; exact F.len _ _ _ _ hs
  have b := hb s us (e0.mod.kin.keeps fun b o e => (e0.bs b o e).1) (by rw [List.append_nil]; exact hl)
  rw [List.append_nil] at b
  exact F.run A outer s H ⟨us, []⟩ us vs Q E hr e0 b r hs
/-- the def that the module's name x holds -/
structure FnA (P : Program) (w : World) (K : PySem.W.Frag) (mg : Str → Option Value) (base : Heap) (CX : CXT) (k : Nat) (x : Str) (R : AFn) : Prop where
  ex : ∃ f, mg x = some (.ref f) ∧ FnR P w K mg base CX k f (spA R) ∧ PySem.W.keepIn K (.ref f) = true
/-- the method m of the class at C -/
structure MtA (P : Program) (w : World) (K : PySem.W.Frag) (mg : Str → Option Value) (base : Heap) (CX : CXT) (k : Nat) (C : Addr) (m : Str) (R : AFn) : Prop where
  ex : ∃ f, Meth K C m f ∧ FnR P w K mg base CX k f (spA R)
  cls : Cls K C
/-- the class that the module's name x holds, by its __init__ -/
structure MkA (P : Program) (w : World) (K : PySem.W.Frag) (mg : Str → Option Value) (base : Heap) (CX : CXT) (k : Nat) (x : Str) (C : Addr) (R : AFn) : Prop where
  ex : ∃ f, mg x = some (.ref C) ∧ Mk K C f ∧ FnR P w K mg base CX k f (spA R)
end
theorem pass0At {X : Cx} {σ : L2.St} {E : XK} : PassesAt CX0 X σ E := fun _ _ _ _ _ _ h => h.elim
section
variable {X : Cx} {CX : CXT} {W : WX} {k : Nat} {f C : Addr} {sp : Sp} {E : L2.St → XK} {x m : Str} {p pos apos : Pos} {e o : Expr} {es : List Expr} {te : TE} {t : TA} {R : AFn} {re : AER} {ra : AAR}
theorem run_fnRS {pins : List (Addr × Obj)} {σ : L2.St} {H : Hp} {s : Shared} {Q : VK} {us : List Value} {vs : List V} (F : FnR X.prog X.w X.K X.mg X.base CX k f sp) (hr : Room k X.A) (hx : PassesAt CX X σ (E σ))
    (I : Inv X pins σ H s) (r : Vals vs us) (h : sp vs H Q (E σ)) : wpAny (model X.prog X.w) X.A (call (.ref f) us) (EP X pins σ Q) X.xe s := by
  refine wpAny_call (codeAny_mono (F X.A X.stack s H us vs Q (E σ) hr I.env0 r h) fun r s' hq => ?_)
  cases r with
  | error e => exact hx pins H s e s' I hq
  | ok fl =>
    cases fl with
    | ret u => exact I.after hq
    | next => exact False.elim hq
    | brk => exact False.elim hq
    | cont => exact False.elim hq
theorem pe_callRS (F : FnR X.prog X.w X.K X.mg X.base CX k f sp) (hr : Room k X.A) (hg : Gl X x) (hm : X.mg x = some (.ref f)) (hk : PySem.W.keepIn X.K (.ref f) = true) (hx : ∀ σ, PassesAt CX X σ (E σ))
    (ha : PA X (e :: es) t) (hdb : (x == ("__debug__" : Str)) = false := by decide) (he : starEach (e :: es) X.env = (false, eval e X.env) :: starEach es X.env := by rfl) (hpl : (backTo pos (starEach es X.env)).any (·.1) = false := by rfl) :
    PE X (.Call (.Name x p) (e :: es) [] pos) (tCallS sp E t) := by
  refine ⟨fun pins s σ H Q I h => ?_⟩
  refine wpAny_Call_Name_kw (ld_glob I hg hm ?_ hdb)
  refine PySem.W.callWith_K (h₀ := X.base) I.ok.mod.kin hk (thn (ha.run pos pins s σ H _ I h) fun us s1 ⟨vs, H1, I1, r, q⟩ => ⟨I1.kIn, ?_⟩) he hpl
  exact run_fnRS F hr (hx σ) I1 r q
def tMethRS (C : Addr) (m : Str) (sp : Sp) (E : L2.St → XK) (ta : TE) (t : TA) : TE := fun σ H Q => ta σ H fun x H1 => ∃ a dx fs, x = .ref a ∧ H1 a = some (.ins C dx fs) ∧ fs.lookup m = none ∧ t σ H1 fun vs H2 => sp (x :: vs) H2 Q (E σ)
theorem pe_methRS {pl : Sem Bool} (he : PE X o te) (c : Cls X.K C) (hm : Meth X.K C m f)
    (F : FnR X.prog X.w X.K X.mg X.base CX k f sp) (hr : Room k X.A) (hx : ∀ σ, PassesAt CX X σ (E σ)) (ha : PA X (e :: es) t)
    (hst : starEach (e :: es) X.env = (false, eval e X.env) :: starEach es X.env := by rfl) (hpl : (backTo pos (starEach es X.env)).any (·.1) = false := by rfl)
    (ht : eval (.Call (.Attribute o m apos) (e :: es) [] pos) X.env = (do
      let ov ← eval o X.env
      standAt apos.atName
      let (f, first) ← holding [ov] (getMethod ov m pl)
      callWith pos f first (backTo pos (starEach (e :: es) X.env)) (backToKw pos (keywordEach [] X.env))) := by rfl) :
    PE X (.Call (.Attribute o m apos) (e :: es) [] pos) (tMethRS C m sp E te t) := by
  refine ⟨fun pins s σ H Q I h => ?_⟩
  refine PySem.W.methodCall_KW (pl := pl) (thn (he.run pins s σ H _ I h) fun u s1 ⟨x, H1, I1, rx, a, dx, fs, ex, ea, l, q⟩ => ?_) ht
  subst ex
  obtain rfl : u = Value.ref a := rx
  refine getmeth_ok I1 ea c hm l ?_
  refine PySem.W.callWith_K (first := [.ref a]) (h₀ := X.base) I.ok.mod.kin hm.kp (thn (ha.run pos pins s1 σ H1 _ I1 q) fun us s2 ⟨vs, H2, I2, r, q2⟩ => ⟨I2.kIn, ?_⟩) hst hpl
  exact run_fnRS (us := .ref a :: us) (vs := .ref a :: vs) F hr (hx σ) I2 (.cons rfl r) q2
theorem pe_meth0RS {pl : Sem Bool} (he : PE X o te) (c : Cls X.K C) (hm : Meth X.K C m f) (F : FnR X.prog X.w X.K X.mg X.base CX k f sp) (hr : Room k X.A) (hx : ∀ σ, PassesAt CX X σ (E σ))
    (ht : eval (.Call (.Attribute o m apos) [] [] pos) X.env = (do
      let ov ← eval o X.env
      standAt apos.atName
      let (f, first) ← holding [ov] (getMethod ov m pl)
      callWith pos f first (backTo pos (starEach [] X.env)) (backToKw pos (keywordEach [] X.env))) := by rfl) :
    PE X (.Call (.Attribute o m apos) [] [] pos) (tMethRS C m sp E te tNil) := by
  refine ⟨fun pins s σ H Q I h => ?_⟩
  refine PySem.W.methodCall_KW (pl := pl) (thn (he.run pins s σ H _ I h) fun u s1 ⟨x, H1, I1, rx, a, dx, fs, ex, ea, l, q⟩ => ?_) ht
  subst ex
  obtain rfl : u = Value.ref a := rx
  refine getmeth_ok I1 ea c hm l ?_
  exact PySem.W.callWith_K0 (first := [.ref a]) I1.kIn hm.kp (run_fnRS (us := [.ref a]) (vs := [.ref a]) F hr (hx σ) I1 (.cons rfl .nil) q)

/-! ### calls -/
theorem sp_mk {vs : List V} {H G F : Hp} {sds : List SD} {ms : MS} {kk : SD → MS → Prop} {xx : AX} {Q : VK} {σ : L2.St} (s : SOkL G vs sds) (g : Good H G F ms) (h : R sds ms kk xx) (kq : KE G F kk Q) (xw : XW W G F σ xx) : spA R vs H Q (WE W σ) :=
  ⟨sds, G, F, ms, kk, xx, s, g, h, kq, fun C d f u dv H2 G2 ms2 e g h1 h2 h3 => xw C d f u dv H2 G2 ms2 e g h1 h2 h3⟩
theorem ae_call (F : FnA X.prog X.w X.K X.mg X.base CX k x R) (hr : Room k X.A) (hx : ∀ σ, PassesAt CX X σ (WE W σ)) (hg : Gl X x) (ha : AA X W (e :: es) t ra)
    (hdb : (x == ("__debug__" : Str)) = false := by decide) (he : starEach (e :: es) X.env = (false, eval e X.env) :: starEach es X.env := by rfl) (hpl : (backTo pos (starEach es X.env)).any (·.1) = false := by rfl) :
    AE X W (.Call (.Name x p) (e :: es) [] pos) (tCallS (spA R) (WE W) t) (fun Γ ms k x => ra Γ ms (fun sds ms1 => R sds ms1 k x) x) := by
  obtain ⟨f, hm, hF, hk⟩ := F.ex
  refine ⟨pe_callRS hF hr hg hm hk hx ha.pe hdb he hpl, fun Γ ms k x h σ H G F Q ev g kk xw => ?_⟩
  refine ha.ok Γ ms _ x h σ H G F _ ev g (fun vs H1 G1 sds ms1 e1 g1 s1 _ q1 => ?_) xw
  exact sp_mk s1 g1 q1 (kk.mono e1) (xw.mono e1)
/-- an instance of the class at C that has no field m -/
def insOf (C : Addr) (m : Str) (ms : MS) : SD → Prop
  | .d (.ins C' fs) => C' = C ∧ fs.lookup m = none
  | .v (.ref p) => ∃ fs, ms p = some (.i C fs) ∧ fs.lookup m = none
  | _ => False
theorem insOf_ok {H G F : Hp} {ms : MS} (g : Good H G F ms) {u : V} {sd : SD} (s : SOk G u sd) (h : insOf C m ms sd) : ∃ a dx fs, u = .ref a ∧ H a = some (.ins C dx fs) ∧ fs.lookup m = none := by
  unfold insOf at h
  split at h
  · obtain ⟨rfl, h⟩ := h
    cases s with
    | ins a b => exact ⟨_, _, _, rfl, g.ex _ _ a, b.none h⟩
  · obtain ⟨fs, h1, h2⟩ := h
    obtain ⟨_, dx, fv, h3, h4⟩ := g.ok _ _ h1
    exact ⟨_, dx, fv, s, h3, h4.none h2⟩
  · exact h.elim
theorem ae_meth {pl : Sem Bool} (ho : AE X W o te re) (M : MtA X.prog X.w X.K X.mg X.base CX k C m R) (hr : Room k X.A) (hx : ∀ σ, PassesAt CX X σ (WE W σ)) (ha : AA X W (e :: es) t ra)
    (hst : starEach (e :: es) X.env = (false, eval e X.env) :: starEach es X.env := by rfl) (hpl : (backTo pos (starEach es X.env)).any (·.1) = false := by rfl)
    (ht : eval (.Call (.Attribute o m apos) (e :: es) [] pos) X.env = (do
      let ov ← eval o X.env
      standAt apos.atName
      let (f, first) ← holding [ov] (getMethod ov m pl)
      callWith pos f first (backTo pos (starEach (e :: es) X.env)) (backToKw pos (keywordEach [] X.env))) := by rfl) :
    AE X W (.Call (.Attribute o m apos) (e :: es) [] pos) (tMethRS C m (spA R) (WE W) te t) (fun Γ ms k x => re Γ ms (fun u ms1 => insOf C m ms1 u ∧ ra Γ ms1 (fun sds ms2 => R (u :: sds) ms2 k x) x) x) := by
  obtain ⟨f, hm, hF⟩ := M.ex
  refine ⟨pe_methRS ho.pe M.cls hm hF hr hx ha.pe hst hpl ht, fun Γ ms k x h σ H G F Q ev g kk xw => ?_⟩
  refine ho.ok Γ ms _ x h σ H G F _ ev g (fun v H1 G1 sd ms1 e1 g1 s1 q1 => ?_) xw
  obtain ⟨qi, q1⟩ := q1
  obtain ⟨a, dx, fs, rfl, h1, h2⟩ := insOf_ok g1 s1 qi
  refine ⟨a, dx, fs, rfl, h1, h2, ?_⟩
  refine ha.ok Γ ms1 _ x q1 σ H1 G1 F _ (ev.mono e1) g1 (fun vs H2 G2 sds ms2 e2 g2 s2 _ q2 => ?_) (xw.mono e1)
  exact sp_mk (.cons (s1.mono e2) s2) g2 q2 ((kk.mono e1).mono e2) ((xw.mono e1).mono e2)
theorem ae_meth0 {pl : Sem Bool} (ho : AE X W o te re) (M : MtA X.prog X.w X.K X.mg X.base CX k C m R) (hr : Room k X.A) (hx : ∀ σ, PassesAt CX X σ (WE W σ))
    (ht : eval (.Call (.Attribute o m apos) [] [] pos) X.env = (do
      let ov ← eval o X.env
      standAt apos.atName
      let (f, first) ← holding [ov] (getMethod ov m pl)
      callWith pos f first (backTo pos (starEach [] X.env)) (backToKw pos (keywordEach [] X.env))) := by rfl) :
    AE X W (.Call (.Attribute o m apos) [] [] pos) (tMethRS C m (spA R) (WE W) te tNil) (fun Γ ms k x => re Γ ms (fun u ms1 => insOf C m ms1 u ∧ R [u] ms1 k x) x) := by
  obtain ⟨f, hm, hF⟩ := M.ex
  refine ⟨pe_meth0RS ho.pe M.cls hm hF hr hx ht, fun Γ ms k x h σ H G F Q ev g kk xw => ?_⟩
  refine ho.ok Γ ms _ x h σ H G F _ ev g (fun v H1 G1 sd ms1 e1 g1 s1 q1 => ?_) xw
  obtain ⟨qi, q1⟩ := q1
  obtain ⟨a, dx, fs, rfl, h1, h2⟩ := insOf_ok g1 s1 qi
  exact ⟨a, dx, fs, rfl, h1, h2, sp_mk (.cons s1 .nil) g1 q1 (kk.mono e1) (xw.mono e1)⟩
/-- a new instance -/
theorem ae_make (M : MkA X.prog X.w X.K X.mg X.base CX0 k x C R) (hr : Room (k + 1) X.A) (hg : Gl X x) (ha : AA X W (e :: es) t ra) (hdb : (x == ("__debug__" : Str)) = false := by decide)
    (he : starEach (e :: es) X.env = (false, eval e X.env) :: starEach es X.env := by rfl) (hpl : (backTo pos (starEach es X.env)).any (·.1) = false := by rfl) :
    AE X W (.Call (.Name x p) (e :: es) [] pos) (tMakeR C (spA R) E0 t) (fun Γ ms k x => ra Γ ms (fun sds ms1 => ∀ p, ms1 p = none → R (.v (.ref p) :: sds) (mu ms1 p (.i C [])) (fun sd ms2 => sd = .d .non ∧ ∃ fs, ms2 p = some (.i C fs) ∧ k (.d (.ins C fs)) (md ms2 p)) (fun _ _ _ _ => False)) x) := by
  obtain ⟨f, hm, hM, hF⟩ := M.ex
  refine ⟨pe_makeR hM hF hr hg hm pass0 ha.pe hdb he hpl, fun Γ ms k x h σ H G F Q ev g kk xw => ?_⟩
  refine ha.ok Γ ms _ x h σ H G F _ ev g (fun vs H1 G1 sds ms1 e1 g1 s1 _ q1 => ?_) xw
  intro a dx na ndx nex
  have g2 : Good (upd H1 dx (.own a)) (upd G1 dx (.own a)) F ms1 := g1.new ndx
  have na2 : upd H1 dx (.own a) a = none := by rw [upd_ne (Ne.symm nex)]; exact na
  have g3 : Good (upd (upd H1 dx (.own a)) a (.ins C dx [])) (upd G1 dx (.own a)) F (mu ms1 a (.i C [])) := g2.newM (m' := .i C []) na2 ⟨dx, [], upd_same, .nil⟩
  refine ⟨_, _, F, _, _, _, .cons okv (s1.mono (g1.exn ndx)), g3, q1 a (g1.fresh na).1, fun v H4 G4 sd ms4 e4 g4 s4 q4 => ?_, fun _ _ _ _ _ _ _ _ _ _ _ _ z => z.elim⟩
  obtain ⟨rfl, fs, hfs, q4⟩ := q4
  cases s4
  obtain ⟨G5, e5, g5, s5⟩ := g4.freezeI hfs
  exact ⟨rfl, kk _ _ _ _ _ ((e1.trans (g1.exn ndx)).trans (e4.trans e5)) g5 (okd s5) q4⟩
/-- a field of an instance of the class at C -/
def oFld (C : Addr) (f : Str) : AO1 := fun ms x k => match x with
  | .d (.ins C' fs) => C' = C ∧ ∃ d, fs.lookup f = some d ∧ k (.d d)
  | .v (.ref p) => ∃ fs d, ms p = some (.i C fs) ∧ fs.lookup f = some d ∧ k (.d d)
  | _ => False
theorem ae_fld {f : Str} (c : Cls X.K C) (n : NoAttr X.K C f) (ho : AE X W o te re) (hb : attributeBase o f X.env (eval o X.env) = eval o X.env := by rfl) :
    AE X W (.Attribute o f pos) (tFld X.K te f) (fun Γ ms k x => re Γ ms (fun u ms1 => oFld C f ms1 u fun z => k z ms1) x) := by
  refine ⟨pe_fld ho.pe hb, fun Γ ms k x h σ H G F Q ev g kk xw => ?_⟩
  refine ho.ok Γ ms _ x h σ H G F _ ev g (fun v H1 G1 sd ms1 e1 g1 s1 q1 => ?_) xw
  unfold oFld at q1
  dsimp only at q1
  split at q1
  · obtain ⟨rfl, d, hd, q⟩ := q1
    cases s1 with
    | ins a b =>
      obtain ⟨u, h1, h2⟩ := b.lookup hd
      exact ⟨_, _, _, _, _, rfl, g1.ex _ _ a, c, n, h1, kk _ _ _ _ _ e1 g1 (okd h2) q⟩
  · obtain ⟨fs, d, h1, hd, q⟩ := q1
    obtain ⟨_, dx, fv, h3, h4⟩ := g1.ok _ _ h1
    obtain ⟨u, h5, h6⟩ := h4.lookup hd
    exact ⟨_, _, _, _, _, s1, h3, c, n, h5, kk _ _ _ _ _ e1 g1 (okd h6) q⟩
  · exact q1.elim
end

/-! ### methods of lists and texts -/
def oL (ms : MS) (u : SD) (K : Addr → Prop) : Prop := ∃ p ds, u = .v (.ref p) ∧ ms p = some (.l ds) ∧ K p
def oApp (ms : MS) (p : Addr) (v : SD) (k : SD → MS → Prop) : Prop := ∃ d ds2, v = .d d ∧ ms p = some (.l ds2) ∧ ds2.length < sizeLine ∧ k (.d .non) (mu ms p (.l (ds2 ++ [d])))
def oExt (ms : MS) (p : Addr) (v : SD) (k : SD → MS → Prop) : Prop := ∃ es ds2, lstOf ms v = some es ∧ ms p = some (.l ds2) ∧ ds2.length + es.length ≤ sizeLine ∧ k (.d .non) (mu ms p (.l (ds2 ++ es)))
def oPop (ms : MS) (u : SD) (k : SD → MS → Prop) : Prop := ∃ p ds d, u = .v (.ref p) ∧ ms p = some (.l (ds ++ [d])) ∧ k (.d d) (mu ms p (.l ds))
def rApp (ro re : AER) : AER := fun Γ ms k x => ro Γ ms (fun u ms1 => oL ms1 u fun p => re Γ ms1 (fun v ms2 => oApp ms2 p v k) x) x
def rExt (ro re : AER) : AER := fun Γ ms k x => ro Γ ms (fun u ms1 => oL ms1 u fun p => re Γ ms1 (fun v ms2 => oExt ms2 p v k) x) x
section
variable {X : Cx} {W : WX} {pos apos : Pos} {e o : Expr} {te to : TE} {re ro : AER}
theorem ae_append (ho : AE X W o to ro) (he : AE X W e te re)
    (hbase : attributeBase o "append" X.env (eval o X.env) = eval o X.env := by rfl)
    (hfew : ((backTo pos (starEach [e] X.env)).all (fun x => !x.1) && (backToKw pos (keywordEach [] X.env)).all (fun x => x.1.isSome)
      && decide (([e] : List Expr).length + ([] : List Keyword).length + (if ([] : List Keyword).isEmpty then 0 else 1) < 30)) = true := by rfl)
    (hline : (apos.endLine == pos.line) = true := by rfl) (hs : starEach [e] X.env = (false, eval e X.env) :: starEach [] X.env := by rfl) :
    AE X W (.Call (.Attribute o "append" apos) [e] [] pos) (tBM X.K "list" rAppend to (tCons te tNil)) (rApp ro re) := by
  refine ⟨pe_bm PySem.F.plainAttrs_list PySem.F.slot_list_append PySem.F.type_list_append mt_append ho.pe (pa_cons he.pe pa_nil hs) hbase hfew hline hs rfl, fun Γ ms k x h σ H G F Q ev g kk xw => ?_⟩
  refine ho.ok Γ ms _ x h σ H G F _ ev g (fun v H1 G1 sd ms1 e1 g1 s1 q1 => ?_) xw
  obtain ⟨p, ds, rfl, hp, q1⟩ := q1
  obtain ⟨_, vs, hv, _⟩ := g1.ok _ _ hp
  have ev1 : v = .ref p := s1
  subst ev1
  refine ⟨.inl ⟨rfl, vs, Evl.sq_of hv⟩, ?_⟩
  refine he.ok Γ ms1 _ x q1 σ H1 G1 F _ (ev.mono e1) g1 (fun u H2 G2 sd2 ms2 e2 g2 s2 q2 => ?_) (xw.mono e1)
  obtain ⟨d, ds2, rfl, hp2, hl, q⟩ := q2
  obtain ⟨_, vs2, hv2, hs2⟩ := g2.ok _ _ hp2
  refine ⟨p, vs2, u, rfl, rfl, hv2, by rw [hs2.length]; exact hl, ?_⟩
  exact kk _ _ _ _ _ (e1.trans e2) (g2.mut (m' := .l (ds2 ++ [d])) hp2 ⟨_, upd_same, hs2.append (.cons s2 .nil)⟩) (okd .non) q
theorem ae_extend (ho : AE X W o to ro) (he : AE X W e te re)
    (hbase : attributeBase o "extend" X.env (eval o X.env) = eval o X.env := by rfl)
    (hfew : ((backTo pos (starEach [e] X.env)).all (fun x => !x.1) && (backToKw pos (keywordEach [] X.env)).all (fun x => x.1.isSome)
      && decide (([e] : List Expr).length + ([] : List Keyword).length + (if ([] : List Keyword).isEmpty then 0 else 1) < 30)) = true := by rfl)
    (hline : (apos.endLine == pos.line) = true := by rfl) (hs : starEach [e] X.env = (false, eval e X.env) :: starEach [] X.env := by rfl) :
    AE X W (.Call (.Attribute o "extend" apos) [e] [] pos) (tBM X.K "list" rExtend to (tCons te tNil)) (rExt ro re) := by
  refine ⟨pe_bm PySem.F.plainAttrs_list PySem.F.slot_list_extend PySem.F.type_list_extend mt_extend ho.pe (pa_cons he.pe pa_nil hs) hbase hfew hline hs rfl, fun Γ ms k x h σ H G F Q ev g kk xw => ?_⟩
  refine ho.ok Γ ms _ x h σ H G F _ ev g (fun v H1 G1 sd ms1 e1 g1 s1 q1 => ?_) xw
  obtain ⟨p, ds, rfl, hp, q1⟩ := q1
  obtain ⟨_, vs, hv, _⟩ := g1.ok _ _ hp
  have ev1 : v = .ref p := s1
  subst ev1
  refine ⟨.inl ⟨rfl, vs, Evl.sq_of hv⟩, ?_⟩
  refine he.ok Γ ms1 _ x q1 σ H1 G1 F _ (ev.mono e1) g1 (fun u H2 G2 sd2 ms2 e2 g2 s2 q2 => ?_) (xw.mono e1)
  obtain ⟨es, ds2, he2, hp2, hl, q⟩ := q2
  obtain ⟨_, vs2, hv2, hs2⟩ := g2.ok _ _ hp2
  obtain ⟨b, ws, rfl, hb, hws⟩ := lstOf_ok g2 s2 he2
  refine ⟨p, b, vs2, ws, rfl, rfl, hv2, hb, by rw [hs2.length, hws.length]; exact hl, ?_⟩
  exact kk _ _ _ _ _ (e1.trans e2) (g2.mut (m' := .l (ds2 ++ es)) hp2 ⟨_, upd_same, hs2.append hws⟩) (okd .non) q
theorem ae_pop (ho : AE X W o to ro)
    (hbase : attributeBase o "pop" X.env (eval o X.env) = eval o X.env := by rfl) (hline : (apos.endLine == pos.line) = true := by rfl) :
    AE X W (.Call (.Attribute o "pop" apos) [] [] pos) (tBM0 X.K "list" rPop to) (fun Γ ms k x => ro Γ ms (fun u ms1 => oPop ms1 u k) x) := by
  refine ⟨pe_bm0 PySem.F.plainAttrs_list PySem.F.slot_list_pop PySem.F.type_list_pop mt_pop ho.pe hbase hline, fun Γ ms k x h σ H G F Q ev g kk xw => ?_⟩
  refine ho.ok Γ ms _ x h σ H G F _ ev g (fun v H1 G1 sd ms1 e1 g1 s1 q1 => ?_) xw
  obtain ⟨p, ds, d, rfl, hp, q1⟩ := q1
  obtain ⟨_, vs, hv, hs⟩ := g1.ok _ _ hp
  have ev1 : v = .ref p := s1
  subst ev1
  refine ⟨.inl ⟨rfl, vs, Evl.sq_of hv⟩, ?_⟩
  have hl : vs.length = ds.length + 1 := by rw [hs.length, List.length_append]; rfl
  obtain ⟨y, hy, sy⟩ := hs.get (i := vs.length - 1) (d := d) (by rw [hl, Nat.add_sub_cancel]; simp)
  refine ⟨p, vs, y, rfl, rfl, hv, hy, ?_⟩
  have hd := hs.dropLast
  rw [List.dropLast_concat] at hd
  exact kk _ _ _ _ _ e1 (g1.mut (m' := .l ds) hp ⟨_, upd_same, hd⟩) (okd sy) q1
/-- texts of a list -/
def strsOf : List D → Option (List Str)
  | [] => some []
  | .str b :: r => (strsOf r).map (b :: ·)
  | _ :: _ => none
theorem strsOf_ok {G : Hp} : ∀ {ds : List D} {vs : List V} {bs : List Str}, ShwL G vs ds → strsOf ds = some bs → vs = bs.map V.str
  | [], _, _, s, e => by cases s; cases e; rfl
  | d :: r, _, bs, s, e => by
    cases s with
    | cons a b =>
      cases d with
      | str c =>
        cases a
        simp only [strsOf] at e
        cases q : strsOf r with
        | none => rw [q] at e; cases e
        | some cs =>
          rw [q] at e
          cases e
          rw [strsOf_ok b q]; rfl
      | _ => cases e
theorem strsOf_map (l : List Str) : strsOf (l.map D.str) = some l := by
  induction l with
  | nil => rfl
  | cons a r ih => show (strsOf (r.map D.str)).map (a :: ·) = _; rw [ih]; rfl
theorem ae_join (ho : AE X W o to ro) (he : AE X W e te re) (hs : starEach [e] X.env = [(false, eval e X.env)] := by rfl) (hbase : attributeBase o "join" X.env (eval o X.env) = eval o X.env := by rfl) (hline : (apos.endLine == pos.line) = true := by rfl) :
    AE X W (.Call (.Attribute o "join" apos) [e] [] pos) (tM1 (fun x xs H Q => ∃ a p, ∃ ys : List Str, x = .str a ∧ xs = [.ref p] ∧ (SqL X.K H p (ys.map V.str) ∨ SqT X.K H p (ys.map V.str)) ∧
      (ys.map (·.length)).sum + ys.length * a.length ≤ 16777216 ∧ Q (.str (Txt.join a ys)) H) to te)
      (fun Γ ms k x => ro Γ ms (fun u ms1 => ∃ a, u = .d (.str a) ∧ re Γ ms1 (fun v ms2 => ∃ ds ys, seqOf ms2 v = some ds ∧ strsOf ds = some ys ∧ (ys.map (·.length)).sum + ys.length * a.length ≤ 16777216 ∧ k (.d (.str (Txt.join a ys))) ms2) x) x) := by
  refine ⟨pe_join ho.pe he.pe hs hbase hline, fun Γ ms k x h σ H G F Q ev g kk xw => ?_⟩
  refine ho.ok Γ ms _ x h σ H G F _ ev g (fun v H1 G1 sd ms1 e1 g1 s1 q1 => ?_) xw
  obtain ⟨a, rfl, q1⟩ := q1
  cases s1
  refine ⟨⟨a, rfl⟩, ?_⟩
  refine he.ok Γ ms1 _ x q1 σ H1 G1 F _ (ev.mono e1) g1 (fun u H2 G2 sd2 ms2 e2 g2 s2 q2 => ?_) (xw.mono e1)
  obtain ⟨ds, ys, e3, e4, hz, q⟩ := q2
  obtain ⟨p, vs, rfl, h1, h2⟩ := seqOf_ok (K := X.K) g2 s2 e3
  rw [strsOf_ok h2 e4] at h1
  exact ⟨a, p, ys, rfl, rfl, h1, hz, kk _ _ _ _ _ (e1.trans e2) g2 (okd (.str _)) q⟩
end

/-! ### targets -/
def KS (sl : List Nat) (σ : L2.St) (G F : Hp) (k : Gam → MS → Prop) (Q : L2.St → Hp → Prop) : Prop := ∀ σ' H' G' Γ' ms', Ex G G' → EOk G' σ' Γ' → Good H' G' F ms' → (σ'.length = σ.length ∧ ∀ j, j ∉ sl → σ'[j]? = σ[j]?) → k Γ' ms' → Q σ' H'
abbrev AGR := SD → Gam → MS → (Gam → MS → Prop) → Prop
abbrev AGRs := List D → Gam → MS → (Gam → MS → Prop) → Prop
structure AG (X : Cx) (tg : Expr) (sl : List Nat) (g : TG) (r : AGR) : Prop where
  pe : PG X tg g
  ok : ∀ sd Γ ms k, r sd Γ ms k → ∀ v σ H G F Q, SOk G v sd → EOk G σ Γ → Good H G F ms → KS sl σ G F k Q → g v σ H Q
structure AGs (X : Cx) (ts : List Expr) (sl : List Nat) (g : TGs) (r : AGRs) : Prop where
  pe : PGs X ts g
  ok : ∀ ds Γ ms k, r ds Γ ms k → ∀ vs σ H G F Q, ShwL G vs ds → EOk G σ Γ → Good H G F ms → KS sl σ G F k Q → g vs σ H Q
section
variable {X : Cx} {pos : Pos} {x : Str}
def gN (i : Nat) : AGR := fun sd Γ ms k => k (Γ.set i (some sd)) ms
theorem ag_name (i : Nat) (hN : X.N.Nodup) (hi : X.N[i]? = some x := by rfl) (hx : Loc X.env.scope x := by first | exact Or.inl rfl | exact Or.inr rfl) (hf : X.fn x = true ∨ X.env.scope.names.lookup x = some .local := by first | exact .inl rfl | exact .inr rfl) : AG X (.Name x pos) [i] (gName i) (gN i) := by
  refine ⟨pg_name hN hi hx hf, fun sd Γ ms k h v σ H G F Q s ev g kk => ?_⟩
  exact kk _ _ G _ _ (Ex.refl G) (ev.set s i) g ⟨List.length_set, fun j hj => List.getElem?_set_ne (fun e => hj (by simp [e]))⟩ h
theorem ags_nil : AGs X [] [] gNil (fun ds Γ ms k => ds = [] ∧ k Γ ms) :=
  ⟨pgs_nil, fun ds Γ ms k h vs σ H G F Q s ev g kk => by
    obtain ⟨rfl, h⟩ := h
    cases s
    exact ⟨rfl, kk _ _ G _ _ (Ex.refl G) ev g ⟨rfl, fun _ _ => rfl⟩ h⟩⟩
def gC (r : AGR) (rs : AGRs) : AGRs := fun ds Γ ms k => match ds with
  | d :: ds' => r (.d d) Γ ms fun Γ' ms' => rs ds' Γ' ms' k
  | [] => False
theorem ags_cons {e : Expr} {es : List Expr} {sl sl2 : List Nat} {g : TG} {gs : TGs} {r : AGR} {rs : AGRs} (h : AG X e sl g r) (hs : AGs X es sl2 gs rs) (hst : (assignEach (e :: es) X.env).map (·.2) = assign e X.env :: (assignEach es X.env).map (·.2) := by rfl) :
    AGs X (e :: es) (sl ++ sl2) (gCons g gs) (gC r rs) := by
  refine ⟨pgs_cons h.pe hs.pe hst, fun ds Γ ms k hh vs σ H G F Q s ev gd kk => ?_⟩
  cases s with
  | nil => exact hh.elim
  | cons a b =>
    refine ⟨_, _, rfl, ?_⟩
    refine h.ok _ Γ ms _ hh _ σ H G F _ (okd a) ev gd fun σ' H' G' Γ' ms' e' ev' g' n' q' => ?_
    refine hs.ok _ Γ' ms' k q' _ σ' H' G' F Q (b.mono e') ev' g' fun σ2 H2 G2 Γ2 ms2 e2 ev2 g2 n2 q2 => ?_
    refine kk σ2 H2 G2 Γ2 ms2 (e'.trans e2) ev2 g2 ⟨n2.1.trans n'.1, fun j hj => ?_⟩ q2
    rw [List.mem_append] at hj
    rw [n2.2 j (fun z => hj (.inr z)), n'.2 j (fun z => hj (.inl z))]
def gT (n : Nat) (rs : AGRs) : AGR := fun sd Γ ms k => match sd with
  | .d (.tup ds) => ds.length = n ∧ rs ds Γ ms k
  | _ => False
theorem ag_tup {es : List Expr} {kk0 : Nat} {sl : List Nat} {gs : TGs} {rs : AGRs} (hc : X.calm = true) (h : AGs X es sl gs rs) (hn : (assignEach es X.env).length = es.length := by rfl) (hst : (assignEach es X.env).findIdx? (·.1) = none := by rfl) :
    AG X (.Tuple es kk0 pos) sl (gTup X.K es.length gs) (gT es.length rs) := by
  refine ⟨pg_tup hc h.pe hn hst, fun sd Γ ms k hh v σ H G F Q s ev gd kk => ?_⟩
  unfold gT at hh
  split at hh
  · cases s with
    | tup a b => exact ⟨_, _, rfl, Evl.st_of (gd.ex _ _ a), by rw [b.length]; exact hh.1, h.ok _ Γ ms k hh.2 _ σ H G F Q b ev gd kk⟩
  · exact hh.elim
end

/-! ### what is walked -/
def Walks (J : It) (ds : List D) (G1 : Hp) : Prop := ∀ i H' G' F' ms', Ex G1 G' → Good H' G' F' ms' → (ds.length ≤ i → J.stop i H') ∧ ∀ d, ds[i]? = some d → J.go i H' ∧ ∀ x H'', J.yld i H' x H'' → ∃ G'', Ex G' G'' ∧ Good H'' G'' F' ms' ∧ Shw G'' x d
def KI (G F : Hp) (k : List D → MS → Prop) (R : It → Hp → Prop) : Prop := ∀ J H1 G1 ds ms1, Ex G G1 → Good H1 G1 F ms1 → k ds ms1 → Walks J ds G1 → R J H1
abbrev AIR := Gam → MS → (List D → MS → Prop) → AX → Prop
structure AI (X : Cx) (W : WX) (tg iter : Expr) (wi : TI) (r : AIR) : Prop where
  pe : PI X tg iter wi
  ok : ∀ Γ ms k x, r Γ ms k x → ∀ σ H G F R, EOk G σ Γ → Good H G F ms → KI G F k R → XW W G F σ x → wi σ H R
section
variable {X : Cx} {W : WX} {tg e e2 : Expr} {te : TE} {re : AER} {pos p tpos : Pos}
/-- a list or a tuple, walked -/
def iSeq (K : PySem.W.Frag) (tl : TE) : TI := fun σ H R => tl σ H fun x H1 => ∃ a, x = .ref a ∧ (((∃ xs, SqL K H1 a xs) ∧ R (Itl K a) H1) ∨ ((∃ xs, SqT K H1 a xs) ∧ R (Itt K a) H1))
def iSeq3 (K : PySem.W.Frag) (tl : TE) : TI := fun σ H R => tl σ H fun x H1 => (∃ a, x = .ref a ∧ (((∃ xs, SqL K H1 a xs) ∧ R (Itl K a) H1) ∨ ((∃ xs, SqT K H1 a xs) ∧ R (Itt K a) H1))) ∨ ∃ z, x = .str z ∧ R (Its z) H1
theorem pi_seq {l : Expr} {tl : TE} (hl : PE X l tl) : PI X tg l (iSeq3 X.K tl) := by
  refine ⟨fun pins s σ H R I h => ?_⟩
  refine thn (hl.run pins s σ H _ I h) fun v s1 ⟨x, H1, I1, r1, q1⟩ => ?_
  rcases q1 with ⟨a, ea, ⟨⟨xs, hq⟩, q⟩ | ⟨⟨xs, hq⟩, q⟩⟩ | ⟨z, ez, q⟩
  · subst ea
    cases r1
    obtain ⟨its, rv, pl, hz⟩ := I1.list hq
    refine wpAny_pyIter_list pl.isList ?_
    refine ⟨s1.heap.objs.size, [s1.heap.objs.size], _, _, H1, rfl, I1.kept (t' := s1.toks) fun b o e => Heap.get?_push_of_some _ e, turn_list a _, ⟨_, Heap.get?_push_size _ rfl, rfl, rfl⟩, fun b hb => ?_, q⟩
    obtain rfl : b = s1.heap.objs.size := by simpa using hb
    exact I1.fpOk (Nat.le_refl _) (I1.hok.fresh (Nat.le_refl _))
  · subst ea
    cases r1
    obtain ⟨its, rv, pt, hz⟩ := I1.tuple hq
    refine wpAny_pyIter_tuple (items := its.toArray) pt ?_
    refine ⟨s1.heap.objs.size, [s1.heap.objs.size], _, _, H1, rfl, I1.kept (t' := s1.toks) fun b o e => Heap.get?_push_of_some _ e, turn_tuple a _, ⟨_, Heap.get?_push_size _ rfl, rfl, rfl⟩, fun b hb => ?_, q⟩
    obtain rfl : b = s1.heap.objs.size := by simpa using hb
    exact I1.fpOk (Nat.le_refl _) (I1.hok.fresh (Nat.le_refl _))
  · subst ez
    obtain ⟨t, rfl⟩ := r1
    cases ha : z.cps.all (· < 128) with
    | false => exact wpAny_pyIter_wide ha (pi_one (tk := s1.toks) I1 _ (turn_str _ z t "str_iterator" (.inr rfl)) ⟨_, Heap.get?_push_size _ rfl, rfl, rfl⟩ q)
    | true => exact wpAny_pyIter_ascii ha (pi_one (tk := s1.toks) I1 _ (turn_str _ z t "str_ascii_iterator" (.inl rfl)) ⟨_, Heap.get?_push_size _ rfl, rfl, rfl⟩ q)
def signsD (z : Str) : List D := z.cps.toList.map fun c => D.str ⟨#[c]⟩
theorem walks_str (z : Str) (G1 : Hp) : Walks (Its z) (signsD z) G1 := fun i H' G' F' ms' e' g' => by
  have hl : (signsD z).length = z.cps.size := by unfold signsD; rw [List.length_map, Array.length_toList]
  refine ⟨fun hi => by rw [hl] at hi; exact hi, fun d hd => ?_⟩
  have hi : i < z.cps.size := by rw [← hl]; exact (List.getElem?_eq_some_iff.mp hd).1
  refine ⟨hi, fun x H'' hy => ?_⟩
  obtain ⟨rfl, c, hc, rfl⟩ := hy
  refine ⟨G', Ex.refl G', g', ?_⟩
  unfold signsD at hd
  rw [List.getElem?_map, Array.getElem?_toList, hc] at hd
  cases hd
  exact .str _
/-- a list or tuple that stands -/
def datOf : SD → Option (List D)
  | .d (.lst ds) => some ds
  | .d (.tup ds) => some ds
  | .d (.frl ds) => some ds
  | .d (.str z) => some (signsD z)
  | _ => none
def oDat (u : SD) (k : List D → Prop) : Prop := ∃ ds, datOf u = some ds ∧ k ds
theorem ai_seq (he : AE X W e te re) : AI X W tg e (iSeq3 X.K te) (fun Γ ms k x => re Γ ms (fun u ms1 => oDat u fun ds => k ds ms1) x) := by
  refine ⟨pi_seq he.pe, fun Γ ms k x h σ H G F R ev g kk xw => ?_⟩
  refine he.ok Γ ms _ x h σ H G F _ ev g (fun v H1 G1 sd ms1 e1 g1 s1 q1 => ?_) xw
  obtain ⟨ds, ed, q⟩ := q1
  have wl : ∀ (a : Addr) (vs : List V), ShwL G1 vs ds → (∀ G' H', Ex G1 G' → Ex G' H' → SqL X.K H' a vs) → Walks (Itl X.K a) ds G1 := fun a vs sh hs i H' G' F' ms' e' g' => by
    have h1 := hs G' H' e' g'.ex
    refine ⟨fun hi => ⟨vs, h1, by rw [sh.length]; exact hi⟩, fun d hd => ?_⟩
    obtain ⟨w, hw, sw⟩ := sh.get hd
    refine ⟨⟨vs, w, h1, hw⟩, fun x H'' hy => ?_⟩
    obtain ⟨rfl, hy⟩ := hy
    have ex : x = w := Option.some.inj ((hy vs h1).symm.trans hw)
    subst ex
    exact ⟨G', Ex.refl G', g', sw.mono e'⟩
  have wt : ∀ (a : Addr) (vs : List V), ShwL G1 vs ds → (∀ G' H', Ex G1 G' → Ex G' H' → SqT X.K H' a vs) → Walks (Itt X.K a) ds G1 := fun a vs sh hs i H' G' F' ms' e' g' => by
    have h1 := hs G' H' e' g'.ex
    refine ⟨fun hi => ⟨vs, h1, by rw [sh.length]; exact hi⟩, fun d hd => ?_⟩
    obtain ⟨w, hw, sw⟩ := sh.get hd
    refine ⟨⟨vs, w, h1, hw⟩, fun x H'' hy => ?_⟩
    obtain ⟨rfl, hy⟩ := hy
    have ex : x = w := Option.some.inj ((hy vs h1).symm.trans hw)
    subst ex
    exact ⟨G', Ex.refl G', g', sw.mono e'⟩
  unfold datOf at ed
  split at ed
  · cases ed
    cases s1 with
    | lst a b => exact .inl ⟨_, rfl, .inl ⟨⟨_, Evl.sq_of (g1.ex _ _ a)⟩, kk _ _ _ _ _ e1 g1 q (wl _ _ b fun G' H' e1 e2 => Evl.sq_of (e2 _ _ (e1 _ _ a)))⟩⟩
  · cases ed
    cases s1 with
    | tup a b => exact .inl ⟨_, rfl, .inr ⟨⟨_, Evl.st_of (g1.ex _ _ a)⟩, kk _ _ _ _ _ e1 g1 q (wt _ _ b fun G' H' e1 e2 => Evl.st_of (e2 _ _ (e1 _ _ a)))⟩⟩
  · cases ed
    cases s1 with
    | frl a b => exact .inl ⟨_, rfl, .inl ⟨⟨_, .inl (.inr ⟨_, g1.ex _ _ a⟩)⟩, kk _ _ _ _ _ e1 g1 q (wl _ _ b fun G' H' e1 e2 => .inl (.inr ⟨_, e2 _ _ (e1 _ _ a)⟩))⟩⟩
  · cases ed
    cases s1
    exact .inr ⟨_, rfl, kk _ _ _ _ _ e1 g1 q (walks_str _ _)⟩
  · cases ed
/-- lo, lo + 1, .. -/
def rngD (lo : Int) (n : Nat) : List D := (List.range n).map fun (i : Nat) => D.int (lo + (i : Int))
theorem walks_rng (lo : Int) (n : Nat) (G1 : Hp) : Walks (Itr lo n) (rngD lo n) G1 := fun i H' G' F' ms' e' g' => by
  have hl : (rngD lo n).length = n := by unfold rngD; rw [List.length_map, List.length_range]
  refine ⟨fun hi => by rw [hl] at hi; exact hi, fun d hd => ?_⟩
  have hi : i < n := by rw [← hl]; exact (List.getElem?_eq_some_iff.mp hd).1
  refine ⟨hi, fun x H'' hy => ?_⟩
  obtain ⟨rfl, rfl⟩ := hy
  refine ⟨G', Ex.refl G', g', ?_⟩
  unfold rngD at hd
  rw [List.getElem?_map, List.getElem?_range hi] at hd
  cases hd
  exact .int _
def oRng1 (j : Int) (k : List D → Prop) : Prop := -(2 ^ 62) ≤ j ∧ j < 2 ^ 62 ∧ k (rngD 0 j.toNat)
theorem ai_range1 (hg : Gl X "range") (hm : X.mg "range" = none) (he : AE X W e te re) (hs : starEach [e] X.env = [(false, eval e X.env)] := by rfl) (hs1 : starEach [e] X.env = (false, eval e X.env) :: starEach [] X.env := by rfl) :
    AI X W tg (.Call (.Name "range" p) [e] [] pos) (iRng1 (tCons te tNil)) (fun Γ ms k x => re Γ ms (fun u ms1 => asI (fun j => oRng1 j fun ds => k ds ms1) u) x) := by
  refine ⟨pi_range1 hg hm (pa_cons he.pe pa_nil hs1) hs, fun Γ ms k x h σ H G F R ev g kk xw => ?_⟩
  refine he.ok Γ ms _ x h σ H G F _ ev g (fun v H1 G1 sd ms1 e1 g1 s1 q1 => ?_) xw
  obtain ⟨j, rfl, h1, h2, q⟩ := asI_ok s1 q1
  exact ⟨j, rfl, h1, h2, kk _ _ _ _ _ e1 g1 q (walks_rng 0 _ _)⟩
theorem ai_range2 {te2 : TE} {re2 : AER} (hg : Gl X "range") (hm : X.mg "range" = none) (he : AE X W e te re) (he2 : AE X W e2 te2 re2) (hs : starEach [e, e2] X.env = [(false, eval e X.env), (false, eval e2 X.env)] := by rfl) (hs2 : starEach [e2] X.env = [(false, eval e2 X.env)] := by rfl)
    (hs3 : starEach [e, e2] X.env = (false, eval e X.env) :: starEach [e2] X.env := by rfl) (hs1 : starEach [e2] X.env = (false, eval e2 X.env) :: starEach [] X.env := by rfl) :
    AI X W tg (.Call (.Name "range" p) [e, e2] [] pos) (iRng2 (tCons te (tCons te2 tNil))) (fun Γ ms k x => re Γ ms (fun u ms1 => re2 Γ ms1 (fun v ms2 => asI (fun i => asI (fun j => (-(2 ^ 62) ≤ i ∧ i < 2 ^ 62 ∧ -(2 ^ 62) ≤ j ∧ j < 2 ^ 62) ∧ k (rngD i (j - i).toNat) ms2) v) u) x) x) := by
  refine ⟨pi_range2 hg hm (pa_cons he.pe (pa_cons he2.pe pa_nil hs1) hs3) hs hs2, fun Γ ms k x h σ H G F R ev g kk xw => ?_⟩
  refine he.ok Γ ms _ x h σ H G F _ ev g (fun v H1 G1 sd ms1 e1 g1 s1 q1 => ?_) xw
  refine he2.ok Γ ms1 _ x q1 σ H1 G1 F _ (ev.mono e1) g1 (fun u H2 G2 sd2 ms2 e2 g2 s2 q2 => ?_) (xw.mono e1)
  obtain ⟨i, rfl, q3⟩ := asI_ok s1 q2
  obtain ⟨j, rfl, h1, q⟩ := asI_ok s2 q3
  exact ⟨i, j, rfl, h1, kk _ _ _ _ _ (e1.trans e2) g2 q (walks_rng i _ _)⟩
/-- zip of two tuples -/
theorem ai_zip {te2 : TE} {re2 : AER} {elts : List Expr} {kk0 : Nat} (hg : Gl X "zip") (hm : X.mg "zip" = none) (he : AE X W e te re) (he2 : AE X W e2 te2 re2) (hs : starEach [e, e2] X.env = (false, eval e X.env) :: starEach [e2] X.env := by rfl) (hpl : (backTo pos (starEach [e2] X.env)).any (·.1) = false := by rfl)
    (hs1 : starEach [e2] X.env = (false, eval e2 X.env) :: starEach [] X.env := by rfl) :
    AI X W (.Tuple elts kk0 tpos) (.Call (.Name "zip" p) [e, e2] [] pos) (RZ.iZipA X.K (tCons te (tCons te2 tNil))) (fun Γ ms k x => re Γ ms (fun u ms1 => re2 Γ ms1 (fun v ms2 => ∃ as bs, u = .d (.tup as) ∧ v = .d (.tup bs) ∧ k (List.zipWith (fun a b => D.tup [a, b]) as bs) ms2) x) x) := by
  refine ⟨RZ.pi_zipA hg hm (pa_cons he.pe (pa_cons he2.pe pa_nil hs1) hs) hs hpl, fun Γ ms k x h σ H G F R ev g kk xw => ?_⟩
  refine he.ok Γ ms _ x h σ H G F _ ev g (fun v H1 G1 sd ms1 e1 g1 s1 q1 => ?_) xw
  refine he2.ok Γ ms1 _ x q1 σ H1 G1 F _ (ev.mono e1) g1 (fun u H2 G2 sd2 ms2 e2 g2 s2 q2 => ?_) (xw.mono e1)
  obtain ⟨as, bs, rfl, rfl, q⟩ := q2
  have s1' := s1.mono e2
  cases s1' with
  | tup a1 b1 =>
  cases s2 with
  | tup a2 b2 =>
  refine ⟨_, _, _, _, rfl, .inr ⟨Evl.st_of (g2.ex _ _ a1), Evl.st_of (g2.ex _ _ a2), kk _ _ _ _ _ (e1.trans e2) g2 q fun i H' G' F' ms' e' g' => ?_⟩⟩
  have t1 := Evl.st_of (K := X.K) (g'.ex _ _ (e' _ _ a1))
  have t2 := Evl.st_of (K := X.K) (g'.ex _ _ (e' _ _ a2))
  refine ⟨fun hi => ⟨_, _, t1, t2, ?_⟩, fun d hd => ?_⟩
  · rw [List.length_zipWith] at hi
    rw [b1.length, b2.length]
    omega
  · rw [List.getElem?_zipWith] at hd
    cases h1 : as[i]? with
    | none => rw [h1] at hd; simp at hd
    | some x1 =>
      cases h2 : bs[i]? with
      | none => rw [h1, h2] at hd; simp at hd
      | some x2 =>
        rw [h1, h2] at hd
        simp only [Option.some.injEq] at hd
        subst hd
        obtain ⟨w1, hw1, sw1⟩ := b1.get h1
        obtain ⟨w2, hw2, sw2⟩ := b2.get h2
        refine ⟨⟨_, _, w1, w2, t1, t2, hw1, hw2⟩, fun y H'' hy => ?_⟩
        obtain ⟨T, y1, y2, rfl, nT, rfl, f1, f2⟩ := hy
        have ey1 : y1 = w1 := Option.some.inj ((f1 _ t1).symm.trans hw1)
        have ey2 : y2 = w2 := Option.some.inj ((f2 _ t2).symm.trans hw2)
        subst ey1 ey2
        exact ⟨_, g'.exn nT, g'.new nT, .tup upd_same (.cons ((sw1.mono e').mono (g'.exn nT)) (.cons ((sw2.mono e').mono (g'.exn nT)) .nil))⟩
end
end AL

/-! ## AbsF -/
set_option Elab.async false
set_option linter.all false
set_option maxRecDepth 100000
set_option maxHeartbeats 2000000
namespace AL
open PySem PySem.Spec PyProof.Rows L2
open Evl (Ex)

/-! ### comprehensions -/
theorem wipe_get (σ : L2.St) (j : Nat) : ∀ vs : List Nat, (L2.wipe σ vs)[j]? = if j ∈ vs ∧ j < σ.length then some none else σ[j]?
  | [] => by simp [L2.wipe]
  | v :: vs => by
    unfold L2.wipe
    rw [List.getElem?_set, wipe_length, wipe_get σ j vs]
    by_cases h : v = j
    · subst h
      by_cases h2 : v < σ.length
      · simp [h2]
      · simp only [h2, and_false, if_false, if_true]
        rw [List.getElem?_eq_none (by omega)]
    · have e : (j ∈ v :: vs) ↔ j ∈ vs := by
        simp only [List.mem_cons]
        exact ⟨fun z => z.elim (fun z => absurd z.symm h) id, .inr⟩
      simp only [h, if_false, e]
theorem wipe_eq {σ σ2 : L2.St} {vs sl : List Nat} (hl : σ2.length = (L2.wipe σ vs).length) (h : ∀ j, j ∉ sl → σ2[j]? = (L2.wipe σ vs)[j]?) (hs : ∀ j ∈ sl, j ∈ vs) : L2.wipe σ2 vs = L2.wipe σ vs := by
  rw [wipe_length] at hl
  apply List.ext_getElem?
  intro j
  rw [wipe_get, wipe_get, hl]
  by_cases hj : j ∈ vs ∧ j < σ.length
  · rw [if_pos hj, if_pos hj]
  · rw [if_neg hj, if_neg hj]
    by_cases hv : j ∈ vs
    · have : σ.length ≤ j := by
        rcases Nat.lt_or_ge j σ.length with z | z
        · exact absurd ⟨hv, z⟩ hj
        · exact z
      rw [List.getElem?_eq_none this, List.getElem?_eq_none (by omega)]
    · rw [h j (fun z => hv (hs j z)), wipe_get, if_neg hj]
def asD (k : D → Prop) : SD → Prop
  | .d d => k d
  | _ => False
theorem asD_ok {G : Hp} {v : V} {k : D → Prop} {sd : SD} (s : SOk G v sd) (h : asD k sd) : ∃ d, Shw G v d ∧ k d := by
  unfold asD at h
  split at h
  · exact ⟨_, s, h⟩
  · exact h.elim
abbrev noX : AX := fun _ _ _ _ => False
theorem xw_no {W : WX} {G F : Hp} {σ : L2.St} : XW W G F σ noX := fun _ _ _ _ _ _ _ _ _ _ _ _ h => h.elim
abbrev W0 : WX := fun _ _ _ _ => True
structure ATs (X : Cx) (W : WX) (ifs : List Expr) (t : TT) (r : ATR) : Prop where
  pe : PTs X ifs t
  ok : ∀ Γ ms k x, r Γ ms k x → ∀ σ H G F Q, EOk G σ Γ → Good H G F ms → KT G F k Q → XW W G F σ x → t σ H Q
theorem ats_nil {X : Cx} {W : WX} : ATs X W [] tYes (fun _ ms k _ => k true ms) := ⟨pts_nil, fun _ _ _ _ h _ H G _ _ _ g kk _ => kk true H G _ (Ex.refl G) g h⟩
theorem ats_one {X : Cx} {W : WX} {c : Expr} {t : TT} {r : ATR} (h : AT X W c t r) : ATs X W [c] t r := ⟨pts_one h.pe, h.ok⟩
/-- the turns of a comprehension: acc what is made so far -/
def lcI (rg : AGR) (rt : ATR) (re : AER) (Γ0 : Gam) : List D → List D → MS → (List D → MS → Prop) → Prop
  | [], acc, ms, kk => kk acc ms
  | d :: ds, acc, ms, kk => rg (.d d) Γ0 ms fun Γ1 ms1 => rt Γ1 ms1 (fun b ms2 => if b = true then re Γ1 ms2 (fun sd ms3 => asD (fun dv => acc.length < sizeLine ∧ lcI rg rt re Γ0 ds (acc ++ [dv]) ms3 kk) sd) noX else lcI rg rt re Γ0 ds acc ms2 kk) noX
section
variable {X : Cx} {W : WX} {elt tg iter : Expr} {ifs : List Expr} {scope : Scope} {own : List (Str × Nat)} {pos : Pos} {wi : TI} {g : TG} {tt : TT} {te : TE} {ri : AIR} {rg : AGR} {rt : ATR} {re : AER} {sl : List Nat}
theorem lc_sound (hs : ∀ j ∈ sl, j ∈ own.map (·.2)) (hi : ∀ Γ ms k x, ri Γ ms k x → ∀ σ H G F R, EOk G σ Γ → Good H G F ms → KI G F k R → XW W G F σ x → wi σ H R)
    (hg : ∀ sd Γ ms k, rg sd Γ ms k → ∀ v σ H G F Q, SOk G v sd → EOk G σ Γ → Good H G F ms → KS sl σ G F k Q → g v σ H Q)
    (ht : ∀ Γ ms k x, rt Γ ms k x → ∀ σ H G F Q, EOk G σ Γ → Good H G F ms → KT G F k Q → XW W0 G F σ x → tt σ H Q)
    (he : ∀ Γ ms k x, re Γ ms k x → ∀ σ H G F Q, EOk G σ Γ → Good H G F ms → KE G F k Q → XW W0 G F σ x → te σ H Q)
    {Γ : Gam} {ms : MS} {k : SD → MS → Prop} {x : AX} (h : ri Γ ms (fun ds ms1 => lcI rg rt re (wipeG Γ (own.map (·.2))) ds [] ms1 fun acc ms2 => k (.d (.lst acc)) ms2) x)
    {σ : L2.St} {H G F : Hp} {Q : VK} (ev : EOk G σ Γ) (gd : Good H G F ms) (kk : KE G F k Q) (xw : XW W G F σ x) : tLc wi g tt te (own.map (·.2)) σ H Q := by
  refine hi Γ ms _ x h σ H G F _ ev gd (fun J H1 G1 ds ms1 e1 g1 q1 wk => ?_) xw
  intro D hD
  have fD := (g1.fresh hD).2.2
  refine ⟨fun i m H' => ∃ G' acc accV ms', Ex G1 G' ∧ Good H' G' (upd F D (.lst accV)) ms' ∧ ShwL G' accV acc ∧ i ≤ ds.length ∧ m = ds.length - i ∧ lcI rg rt re (wipeG Γ (own.map (·.2))) (ds.drop i) acc ms' fun acc ms2 => k (.d (.lst acc)) ms2,
    ⟨ds.length, G1, [], [], ms1, Ex.refl G1, g1.asideN hD, .nil, Nat.zero_le _, rfl, q1⟩, ?_⟩
  rintro i m H' ⟨G', acc, accV, ms', e', g', sA, hi', rfl, q'⟩
  obtain ⟨w1, w2⟩ := wk i H' G' _ ms' e' g'
  by_cases hlt : i < ds.length
  · right
    obtain ⟨go, yl⟩ := w2 ds[i] (List.getElem?_eq_getElem hlt)
    rw [List.drop_eq_getElem_cons hlt] at q'
    refine ⟨go, fun H2 => ∃ G' acc accV ms', Ex G1 G' ∧ Good H2 G' (upd F D (.lst accV)) ms' ∧ ShwL G' accV acc ∧ i + 1 ≤ ds.length ∧ lcI rg rt re (wipeG Γ (own.map (·.2))) (ds.drop (i + 1)) acc ms' fun acc ms2 => k (.d (.lst acc)) ms2, fun H2 hN => ?_, fun v H2 hy => ?_⟩
    · obtain ⟨G2, acc2, accV2, ms2, a1, a2, a3, a4, a5⟩ := hN
      exact ⟨ds.length - (i + 1), by omega, G2, acc2, accV2, ms2, a1, a2, a3, a4, rfl, a5⟩
    · obtain ⟨G2, e2, g2, sv⟩ := yl v H2 hy
      refine hg _ _ _ _ q' v _ H2 G2 _ _ (okd sv) ((ev.mono ((e1.trans e').trans e2)).wipe _) g2 fun σ3 H3 G3 Γ3 ms3 e3 ev3 g3 n3 q3 => ?_
      refine ⟨wipe_eq n3.1 n3.2 hs, ?_⟩
      refine ht _ _ _ _ q3 σ3 H3 G3 _ _ ev3 g3 (fun b H4 G4 ms4 e4 g4 q4 => ?_) xw_no
      have e14 := (e'.trans e2).trans (e3.trans e4)
      cases b with
      | false =>
        rw [if_neg Bool.false_ne_true] at q4 ⊢
        exact ⟨G4, acc, accV, ms4, e14, g4, sA.mono (e2.trans (e3.trans e4)), hlt, q4⟩
      | true =>
        rw [if_pos rfl] at q4 ⊢
        refine he _ _ _ _ q4 σ3 H4 G4 _ _ (ev3.mono e4) g4 (fun y H5 G5 sd ms5 e5 g5 s5 q5 => ?_) xw_no
        obtain ⟨dv, sdv, hz, q5⟩ := asD_ok s5 q5
        have sA5 := sA.mono (e2.trans (e3.trans (e4.trans e5)))
        exact ⟨accV, (g5.fr D _ upd_same).1, by rw [sA.length]; exact hz, G5, acc ++ [dv], accV ++ [y], ms5, e14.trans e5, g5.asideW, sA5.append (.cons sdv .nil), hlt, q5⟩
  · left
    have ei : i = ds.length := by omega
    refine ⟨w1 (by omega), ?_⟩
    rw [List.drop_eq_nil_of_le (by omega)] at q'
    obtain ⟨g6, e6⟩ := g'.back fD
    exact kk _ _ _ _ _ ((e1.trans e').trans e6) g6 (okd (.lst upd_same (sA.mono e6))) q'
theorem ae_lc (hc : X.calm = true) (hN : X.N.Nodup) (hi : AI X W tg iter wi ri) (ok : BlkOk X.N X.env.scope scope own) (hs : ∀ j ∈ sl, j ∈ own.map (·.2))
    (hg : ∀ (s : Shared) (H : Hp) (C : Addr) (cl : List (Str × Addr)) (fp : List Addr), AG (X.blk s H scope (compEnvC scope cl C X.env) fp) tg sl g rg) (ht : ∀ (s : Shared) (H : Hp) (C : Addr) (cl : List (Str × Addr)) (fp : List Addr), ATs (X.blk s H scope (compEnvC scope cl C X.env) fp) W0 ifs tt rt)
    (he : ∀ (s : Shared) (H : Hp) (C : Addr) (cl : List (Str × Addr)) (fp : List Addr), AE (X.blk s H scope (compEnvC scope cl C X.env) fp) W0 elt te re) (hf : ∀ x, foldedSetIterable iter X.env x = pure x := by intro _; rfl) :
    AE X W (.ListComp elt [⟨tg, iter, ifs, 0⟩] scope pos) (tLc wi g tt te (own.map (·.2))) (fun Γ ms k x => ri Γ ms (fun ds ms1 => lcI rg rt re (wipeG Γ (own.map (·.2))) ds [] ms1 fun acc ms2 => k (.d (.lst acc)) ms2) x) :=
  ⟨pe_lc hc hN hi.pe ok (fun a b c d e => (hg a b c d e).pe) (fun a b c d e => (ht a b c d e).pe) (fun a b c d e => (he a b c d e).pe) hf,
    fun _ _ _ _ h σ H G F Q ev gd kk xw => lc_sound hs hi.ok (hg X.s_0 X.H_0 0 [] []).ok (ht X.s_0 X.H_0 0 [] []).ok (he X.s_0 X.H_0 0 [] []).ok h ev gd kk xw⟩
end

/-! ### statements -/
structure AEnd where
  nx : Gam → MS → Prop
  rt : SD → MS → Prop
  bk : Gam → MS → Prop
  ct : Gam → MS → Prop
  x : Gam → AX
abbrev ASR := AEnd → Gam → MS → Prop
structure Fin' (W : WX) (G F : Hp) (A : AEnd) (D : Ends) : Prop where
  nx : ∀ σ' H' G' Γ' ms', Ex G G' → EOk G' σ' Γ' → Good H' G' F ms' → A.nx Γ' ms' → D.nx σ' H'
  rt : KE G F A.rt D.rt
  bk : ∀ σ' H' G' Γ' ms', Ex G G' → EOk G' σ' Γ' → Good H' G' F ms' → A.bk Γ' ms' → D.bk σ' H'
  ct : ∀ σ' H' G' Γ' ms', Ex G G' → EOk G' σ' Γ' → Good H' G' F ms' → A.ct Γ' ms' → D.ct σ' H'
  x : ∀ σ' Γ' G', Ex G G' → EOk G' σ' Γ' → XW W G' F σ' (A.x Γ')
theorem Fin'.mono {W : WX} {G G1 F : Hp} {A : AEnd} {D : Ends} (e : Ex G G1) (f : Fin' W G F A D) : Fin' W G1 F A D :=
  ⟨fun a b c d e2 h => f.nx a b c d e2 (e.trans h), f.rt.mono e, fun a b c d e2 h => f.bk a b c d e2 (e.trans h), fun a b c d e2 h => f.ct a b c d e2 (e.trans h), fun a b c h => f.x a b c (e.trans h)⟩
structure AS (X : Cx) (W : WX) (st : Stmt) (t : TS) (r : ASR) : Prop where
  pe : PS X st t
  ok : ∀ A Γ ms, r A Γ ms → ∀ σ H G F D, EOk G σ Γ → Good H G F ms → Fin' W G F A D → t D σ H
structure ASs (X : Cx) (W : WX) (st : List Stmt) (t : TS) (r : ASR) : Prop where
  pe : PSs X st t
  ok : ∀ A Γ ms, r A Γ ms → ∀ σ H G F D, EOk G σ Γ → Good H G F ms → Fin' W G F A D → t D σ H
section
variable {X : Cx} {W : WX} {pos pos' apos : Pos} {st : Stmt} {rest body orelse : List Stmt} {t u : TS} {r s : ASR} {e o i : Expr} {te to ti : TE} {re ro ri : AER} {x : Str} {tg : Expr} {g : TG} {rg : AGR} {sl : List Nat}
def rNx : ASR := fun A Γ ms => A.nx Γ ms
def rSeq (r s : ASR) : ASR := fun A Γ ms => r { A with nx := s A } Γ ms
theorem ass_nil : ASs X W [] tNext rNx := ⟨pss_nil, fun _ _ _ h σ H G _ _ ev g f => f.nx σ H G _ _ (Ex.refl G) ev g h⟩
theorem ass_cons (h1 : AS X W st t r) (h2 : ASs X W rest u s) : ASs X W (st :: rest) (tSeq t u) (rSeq r s) :=
  ⟨pss_cons h1.pe h2.pe, fun A Γ ms h σ H G F D ev g f => h1.ok { A with nx := s A } Γ ms h σ H G F _ ev g
    ⟨fun σ' H' G' Γ' ms' e' ev' g' q => h2.ok A Γ' ms' q σ' H' G' F D ev' g' (f.mono e'), f.rt, f.bk, f.ct, f.x⟩⟩
theorem ass_one (h : AS X W st t r) : ASs X W [st] t r := ⟨pss_one h.pe, h.ok⟩
theorem as_pass : AS X W (.Pass pos) tNext rNx := ⟨ps_pass, fun _ _ _ h σ H G _ _ ev g f => f.nx σ H G _ _ (Ex.refl G) ev g h⟩
def rBk : ASR := fun A Γ ms => A.bk Γ ms
def rCt : ASR := fun A Γ ms => A.ct Γ ms
theorem as_break : AS X W (.Break pos) tBreak rBk := ⟨ps_break, fun _ _ _ h σ H G _ _ ev g f => f.bk σ H G _ _ (Ex.refl G) ev g h⟩
theorem as_cont : AS X W (.Continue pos) tCont rCt := ⟨ps_continue, fun _ _ _ h σ H G _ _ ev g f => f.ct σ H G _ _ (Ex.refl G) ev g h⟩
def rRet (re : AER) : ASR := fun A Γ ms => re Γ ms A.rt (A.x Γ)
theorem as_ret (he : AE X W e te re) : AS X W (.Return (some e) pos) (tRet te) (rRet re) :=
  ⟨ps_ret he.pe, fun A Γ ms h σ H G F D ev g f => he.ok Γ ms _ _ h σ H G F _ ev g f.rt (f.x σ Γ G (Ex.refl G) ev)⟩
def rRetN : ASR := fun A _ ms => A.rt (.d .non) ms
theorem as_retN : AS X W (.Return none pos) tRetN rRetN := ⟨ps_retN, fun _ _ _ h _ H G _ _ _ g f => f.rt _ H G _ _ (Ex.refl G) g (okd .non) h⟩
def rDrop (re : AER) : ASR := fun A Γ ms => re Γ ms (fun _ ms1 => A.nx Γ ms1) (A.x Γ)
theorem as_expr (he : AE X W e te re) (hs : swapsWith e none pos.line X.env = pure false := by rfl) : AS X W (.Expr e pos) (tDrop te) (rDrop re) :=
  ⟨ps_expr he.pe hs, fun A Γ ms h σ H G F D ev g f => he.ok Γ ms _ _ h σ H G F _ ev g (fun _ H2 G2 _ ms2 e2 g2 _ q => f.nx σ H2 G2 Γ ms2 e2 (ev.mono e2) g2 q) (f.x σ Γ G (Ex.refl G) ev)⟩
theorem as_never : AS X W st tNever (fun _ _ _ => False) := ⟨ps_never, fun _ _ _ h => h.elim⟩
def rIf (rc : ATR) (r s : ASR) : ASR := fun A Γ ms => rc Γ ms (fun b ms1 => if b = true then r A Γ ms1 else s A Γ ms1) (A.x Γ)
theorem as_if {c : Expr} {tc : TT} {rc : ATR} (hc : AT X W c tc rc) (ha : ASs X W body t r) (hb : ASs X W orelse u s) : AS X W (.If c body orelse pos) (tIfS tc t u) (rIf rc r s) :=
  ⟨ps_if hc.pe ha.pe hb.pe, fun A Γ ms h σ H G F D ev g f => hc.ok Γ ms _ _ h σ H G F _ ev g (fun b H2 G2 ms2 e2 g2 q => by
    cases b with
    | true => rw [if_pos rfl] at q ⊢; exact ha.ok A Γ ms2 q σ H2 G2 F D (ev.mono e2) g2 (f.mono e2)
    | false => rw [if_neg Bool.false_ne_true] at q ⊢; exact hb.ok A Γ ms2 q σ H2 G2 F D (ev.mono e2) g2 (f.mono e2)) (f.x σ Γ G (Ex.refl G) ev)⟩
/-- target = value -/
def rAsg (re : AER) (rg : AGR) : ASR := fun A Γ ms => re Γ ms (fun sd ms1 => rg sd Γ ms1 A.nx) (A.x Γ)
theorem as_asg (he : AE X W e te re) (hg : AG X tg sl g rg) (hs : swapsWithSole [tg] e pos.line X.env = pure false := by rfl) (hw : swappedStores [tg] e X.env = pure none := by rfl)
    (h1 : (assignEach [tg] X.env).map (·.2) = [assign tg X.env] := by rfl) : AS X W (.Assign [tg] e pos) (tAsg te g) (rAsg re rg) :=
  ⟨ps_asg he.pe hg.pe hs hw h1, fun A Γ ms h σ H G F D ev g' f => he.ok Γ ms _ _ h σ H G F _ ev g' (fun v H2 G2 sd ms2 e2 g2 s2 q => hg.ok sd Γ ms2 _ q v σ H2 G2 F _ s2 (ev.mono e2) g2 fun σ3 H3 G3 Γ3 ms3 e3 ev3 g3 _ q3 => f.nx σ3 H3 G3 Γ3 ms3 (e2.trans e3) ev3 g3 q3) (f.x σ Γ G (Ex.refl G) ev)⟩
/-- name = value -/
def rSet (i : Nat) (re : AER) : ASR := fun A Γ ms => re Γ ms (fun sd ms1 => A.nx (Γ.set i (some sd)) ms1) (A.x Γ)
theorem as_set (i : Nat) (hN : X.N.Nodup) (he : AE X W e te re) (hi : X.N[i]? = some x := by rfl) (hx : Loc X.env.scope x := by first | exact Or.inl rfl | exact Or.inr rfl) (hs : swapsWith e (some (.Name x pos')) pos.line X.env = pure false := by rfl) (hf : X.fn x = true ∨ X.env.scope.names.lookup x = some .local := by first | exact .inl rfl | exact .inr rfl) :
    AS X W (.Assign [.Name x pos'] e pos) (tAsg te (gName i)) (rSet i re) :=
  ⟨ps_set hN hi hx he.pe hs hf, fun A Γ ms h σ H G F D ev g f => he.ok Γ ms _ _ h σ H G F _ ev g (fun v H2 G2 sd ms2 e2 g2 s2 q => f.nx _ H2 G2 _ ms2 e2 ((ev.mono e2).set s2 i) g2 q) (f.x σ Γ G (Ex.refl G) ev)⟩
/-- name = [.. for ..] -/
theorem as_setLc {elt iter : Expr} {ifs : List Expr} {scope : Scope} {own : List (Str × Nat)} {spos py : Pos} {wi : TI} {tt : TT} {ri : AIR} {rt : ATR} (i : Nat) (hc : X.calm = true) (hN : X.N.Nodup) (hi : AI X W tg iter wi ri) (ok : BlkOk X.N X.env.scope scope own) (hs : ∀ j ∈ sl, j ∈ own.map (·.2))
    (hg : ∀ (s : Shared) (H : Hp) (C : Addr) (cl : List (Str × Addr)) (fp : List Addr), AG (X.blk s H scope (compEnvC scope cl C X.env) fp) tg sl g rg) (ht : ∀ (s : Shared) (H : Hp) (C : Addr) (cl : List (Str × Addr)) (fp : List Addr), ATs (X.blk s H scope (compEnvC scope cl C X.env) fp) W0 ifs tt rt)
    (he : ∀ (s : Shared) (H : Hp) (C : Addr) (cl : List (Str × Addr)) (fp : List Addr), AE (X.blk s H scope (compEnvC scope cl C X.env) fp) W0 elt te re)
    (hsw : swapsWith (.ListComp elt [⟨tg, iter, ifs, 0⟩] scope pos) (some (.Name x py)) spos.line X.env = pure true) (hy : X.N[i]? = some x := by rfl) (hyl : X.env.scope.names.lookup x = some .local := by rfl) (hf : ∀ x, foldedSetIterable iter X.env x = pure x := by intro _; rfl) :
    AS X W (.Assign [.Name x py] (.ListComp elt [⟨tg, iter, ifs, 0⟩] scope pos) spos) (tAsg (tLc wi g tt te (own.map (·.2))) (gName i)) (rSet i (fun Γ ms k x => ri Γ ms (fun ds ms1 => lcI rg rt re (wipeG Γ (own.map (·.2))) ds [] ms1 fun acc ms2 => k (.d (.lst acc)) ms2) x)) :=
  ⟨ps_setLc hc hN hy hyl hsw hi.pe ok (fun a b c d e => (hg a b c d e).pe) (fun a b c d e => (ht a b c d e).pe) (fun a b c d e => (he a b c d e).pe) hf,
    fun A Γ ms h σ H G F D ev g f => lc_sound (W := W) hs hi.ok (hg X.s_0 X.H_0 0 [] []).ok (ht X.s_0 X.H_0 0 [] []).ok (he X.s_0 X.H_0 0 [] []).ok (Γ := Γ) (ms := ms) (k := fun sd ms1 => A.nx (Γ.set i (some sd)) ms1) (x := A.x Γ) h ev g (fun v H2 G2 sd ms2 e2 g2 s2 q => f.nx _ H2 G2 _ ms2 e2 ((ev.mono e2).set s2 i) g2 q) (f.x σ Γ G (Ex.refl G) ev)⟩
/-- o[i] = value: a list of the store, a dict of the store -/
def oPut (ms3 : MS) (u w : SD) (dv : D) (K : MS → Prop) : Prop := ∃ p, u = .v (.ref p) ∧
  ((∃ ds k j, ms3 p = some (.l ds) ∧ w = .d (.int k) ∧ ixN ds.length k = some j ∧ K (mu ms3 p (.l (ds.set j dv)))) ∨
    (∃ kvs ds ks, ms3 p = some (.t kvs) ∧ w = .d (.tup ds) ∧ keysOf ds = some ks ∧ kvs.length < sizeLine ∧ K (mu ms3 p (.t (putKD kvs ks dv)))) ∨
    (∃ kvs d k, ms3 p = some (.k kvs) ∧ w = .d d ∧ d.key1 = some k ∧ kvs.length < sizeLine ∧ K (mu ms3 p (.k (putKD kvs k dv)))))
def rPut (ro ri re : AER) : ASR := fun A Γ ms => re Γ ms (fun v ms1 => ro Γ ms1 (fun u ms2 => ri Γ ms2 (fun w ms3 => asD (fun dv => oPut ms3 u w dv (A.nx Γ)) v) (A.x Γ)) (A.x Γ)) (A.x Γ)
def rSetA : V → V → V → Hp → (Hp → Prop) → Prop := fun o i v H Q => rSetL o i v H Q ∨ ∃ a H', o = .ref a ∧ DPut H a i v H' ∧ Q H'
theorem set_any (hu : X.A.units + 1 < cLine) : PSet X rSetA := by
  intro pins s σ H o i v ov iv u Q I ro ri rv h
  rcases h with h | ⟨a, H', rfl, dp, q⟩
  · exact set_list pins s σ H o i v ov iv u Q I ro ri rv h
  · obtain rfl : ov = Value.ref a := ro
    exact d_setItem hu I dp ri rv fun s4 I4 => ⟨H', I4, q⟩
theorem as_put (hu : X.A.units + 1 < cLine) (ho : AE X W o to ro) (hi : AE X W i ti ri) (he : AE X W e te re) (hs : swapsWithSole [.Subscript o i pos'] e pos.line X.env = pure false := by rfl) (hw : swappedStores [.Subscript o i pos'] e X.env = pure none := by rfl)
    (h1 : (assignEach [.Subscript o i pos'] X.env).map (·.2) = [assign (.Subscript o i pos') X.env] := by rfl)
    (hA : ∀ v, assign (.Subscript o i pos') X.env v = (do
      let ov ← holding [v] (eval o X.env)
      let iv ← holding [v, ov] (eval i X.env)
      standAt pos'
      holding [v, ov, iv] (setItem ov iv v)
      release [v, ov, iv] []) := by intro _; rfl) : AS X W (.Assign [.Subscript o i pos'] e pos) (tAsg te (gSub to ti rSetA)) (rPut ro ri re) := by
  refine ⟨ps_asg he.pe (pg_sub ho.pe hi.pe (set_any hu) hA) hs hw h1, fun A Γ ms h σ H G F D ev g f => ?_⟩
  have xw := f.x σ Γ G (Ex.refl G) ev
  refine he.ok Γ ms _ _ h σ H G F _ ev g (fun v H1 G1 sd ms1 e1 g1 s1 q1 => ?_) xw
  refine ho.ok Γ ms1 _ _ q1 σ H1 G1 F _ (ev.mono e1) g1 (fun u H2 G2 sd2 ms2 e2 g2 s2 q2 => ?_) (xw.mono e1)
  refine hi.ok Γ ms2 _ _ q2 σ H2 G2 F _ ((ev.mono e1).mono e2) g2 (fun w H3 G3 sd3 ms3 e3 g3 s3 q3 => ?_) ((xw.mono e1).mono e2)
  obtain ⟨dv, sv, p, rfl, q⟩ := asD_ok ((s1.mono e2).mono e3) q3
  have e13 := (e1.trans e2).trans e3
  have eu : u = .ref p := s2
  subst eu
  rcases q with ⟨ds, k, j, hp, rfl, hj, q⟩ | ⟨kvs, ds, ks, hp, rfl, hk, hl, q⟩ | ⟨kvs, d, k, hp, rfl, hk, hl, q⟩
  · obtain ⟨_, vs, hv, hs⟩ := g3.ok _ _ hp
    cases s3
    exact .inl ⟨p, vs, k, j, rfl, rfl, hv, by rw [hs.length]; exact hj, f.nx _ _ _ _ _ e13 (ev.mono e13) (g3.mut (m' := .l (ds.set j dv)) hp ⟨_, upd_same, hs.set sv j⟩) q⟩
  · obtain ⟨_, us, hv, hs⟩ := g3.ok _ _ hp
    cases s3 with
    | tup a b =>
      have ek := keysOf_ok b hk
      subst ek
      exact .inr ⟨p, _, rfl, DPut.t hv (g3.ex _ _ a) (by rw [hs.length]; exact hl), f.nx _ _ _ _ _ e13 (ev.mono e13) (g3.mut (m' := .t (putKD kvs ks dv)) hp ⟨_, upd_same, hs.put sv⟩) q⟩
  · obtain ⟨_, us, hv, hs⟩ := g3.ok _ _ hp
    have ek := key1_ok s3 hk
    subst ek
    exact .inr ⟨p, _, rfl, DPut.k hv (by rw [hs.length]; exact hl), f.nx _ _ _ _ _ e13 (ev.mono e13) (g3.mut (m' := .k (putKD kvs k dv)) hp ⟨_, upd_same, hs.put sv⟩) q⟩
/-- o.f = value, o an instance of the store, of the class at C -/
def rSetF (C : Addr) (f : Str) (ro re : AER) : ASR := fun A Γ ms => re Γ ms (fun v ms1 => ro Γ ms1 (fun u ms2 => asD (fun dv => ∃ p fs, u = .v (.ref p) ∧ ms2 p = some (.i C fs) ∧ fs.length < 1000 ∧ A.nx Γ (mu ms2 p (.i C (putD f dv fs)))) v) (A.x Γ)) (A.x Γ)
theorem as_setF {C : Addr} {f : Str} (c : Cls X.K C) (n : NoAttr X.K C f) (ho : AE X W o to ro) (he : AE X W e te re) (hs : swapsWith e (some (.Attribute o f pos')) pos.line X.env = pure false := by rfl) :
    AS X W (.Assign [.Attribute o f pos'] e pos) (sFld X.K to te f) (rSetF C f ro re) := by
  refine ⟨ps_fld ho.pe he.pe hs, fun A Γ ms h σ H G F D ev g fi => ?_⟩
  have xw := fi.x σ Γ G (Ex.refl G) ev
  refine he.ok Γ ms _ _ h σ H G F _ ev g (fun v H1 G1 sd ms1 e1 g1 s1 q1 => ?_) xw
  refine ho.ok Γ ms1 _ _ q1 σ H1 G1 F _ (ev.mono e1) g1 (fun u H2 G2 sd2 ms2 e2 g2 s2 q2 => ?_) (xw.mono e1)
  obtain ⟨dv, sv, p, fs, rfl, hp, hl, q⟩ := asD_ok (s1.mono e2) q2
  have eu : u = .ref p := s2
  subst eu
  obtain ⟨_, dx, fv, hv, hs⟩ := g2.ok _ _ hp
  exact ⟨p, C, dx, fv, rfl, hv, c, n, by rw [hs.length]; exact hl, fi.nx _ _ _ _ _ (e1.trans e2) (ev.mono (e1.trans e2)) (g2.mut (m' := .i C (putD f dv fs)) hp ⟨_, _, upd_same, hs.put sv⟩) q⟩
/-- name += value (ints) -/
def rAug (i : Nat) (re : AER) (f : Int → Int → Int) : ASR := fun A Γ ms => match Γ[i]? with
  | some (some (.d (.int a))) => re Γ ms (fun v ms1 => asI (fun b => A.nx (Γ.set i (some (.d (.int (f a b))))) ms1) v) (A.x Γ)
  | _ => False
theorem as_aug {op : Operator} {fi : Int → Int → Int} (i : Nat) (hN : X.N.Nodup) (he : AE X W e te re) (ho : PIp X op (ipI fi)) (hi : X.N[i]? = some x := by rfl) (hx : Loc X.env.scope x := by first | exact Or.inl rfl | exact Or.inr rfl) (hf : X.fn x = true ∨ X.env.scope.names.lookup x = some .local := by first | exact .inl rfl | exact .inr rfl) :
    AS X W (.AugAssign (.Name x pos') op e pos) (tAug i te (ipI fi)) (rAug i re fi) := by
  refine ⟨ps_aug hN hi hx he.pe ho hf, fun A Γ ms h σ H G F D ev g f => ?_⟩
  unfold rAug at h
  split at h
  · rename_i a ea
    obtain ⟨v, h1, h2⟩ := ev.2 _ _ ea
    cases h2
    refine ⟨_, h1, he.ok Γ ms _ _ h σ H G F _ ev g (fun v H2 G2 sd ms2 e2 g2 s2 q => ?_) (f.x σ Γ G (Ex.refl G) ev)⟩
    obtain ⟨b, rfl, q⟩ := asI_ok s2 q
    exact ⟨a, b, rfl, rfl, f.nx _ H2 G2 _ ms2 e2 ((ev.mono e2).set (okd (.int _)) i) g2 q⟩
  · exact h.elim

/-! ### loops -/
def forR (rg : AGR) (rb : ASR) : List D → ASR
  | [], A, Γ, ms => A.nx Γ ms
  | d :: ds, A, Γ, ms => rg (.d d) Γ ms fun Γ1 ms1 => rb { A with nx := forR rg rb ds A, ct := forR rg rb ds A, bk := A.nx } Γ1 ms1
def rFor (ri : AIR) (rg : AGR) (rb : ASR) : ASR := fun A Γ ms => ri Γ ms (fun ds ms1 => forR rg rb ds A Γ ms1) (A.x Γ)
theorem as_for {iter : Expr} {wi : TI} {ri : AIR} (hp : PassesOwn (model X.prog X.w) X.A X.env X.xe) (hc : X.calm = true) (hi : AI X W tg iter wi ri) (hg : AG X tg sl g rg) (hb : ASs X W body t r)
    (hs : ∀ x, foldedSetIterable iter X.env x = pure x := by intro _; rfl) : AS X W (.For tg iter body [] pos) (tFor wi g t) (rFor ri rg r) := by
  refine ⟨ps_for hp hc hi.pe hg.pe hb.pe hs, fun A Γ ms h σ H G F D ev gd f => ?_⟩
  refine hi.ok Γ ms _ _ h σ H G F _ ev gd (fun J H1 G1 ds ms1 e1 g1 q1 wk => ?_) (f.x σ Γ G (Ex.refl G) ev)
  refine ⟨fun i m σ' H' => ∃ G' Γ' ms', Ex G1 G' ∧ EOk G' σ' Γ' ∧ Good H' G' F ms' ∧ i ≤ ds.length ∧ m = ds.length - i ∧ forR rg r (ds.drop i) A Γ' ms', ⟨ds.length, G1, Γ, ms1, Ex.refl G1, ev.mono e1, g1, Nat.zero_le _, rfl, q1⟩, ?_⟩
  rintro i m σ' H' ⟨G', Γ', ms', e', ev', g', hi', rfl, q'⟩
  obtain ⟨w1, w2⟩ := wk i H' G' _ ms' e' g'
  by_cases hlt : i < ds.length
  · right
    obtain ⟨go, yl⟩ := w2 ds[i] (List.getElem?_eq_getElem hlt)
    rw [List.drop_eq_getElem_cons hlt] at q'
    refine ⟨go, fun σ2 H2 => ∃ G' Γ' ms', Ex G1 G' ∧ EOk G' σ2 Γ' ∧ Good H2 G' F ms' ∧ forR rg r (ds.drop (i + 1)) A Γ' ms', fun σ2 H2 hN => ?_, fun v H2 hy => ?_⟩
    · obtain ⟨G2, Γ2, ms2, a1, a2, a3, a4⟩ := hN
      exact ⟨ds.length - (i + 1), by omega, G2, Γ2, ms2, a1, a2, a3, hlt, rfl, a4⟩
    · obtain ⟨G2, e2, g2, sv⟩ := yl v H2 hy
      refine hg.ok _ _ _ _ q' v _ H2 G2 _ _ (okd sv) (ev'.mono e2) g2 fun σ3 H3 G3 Γ3 ms3 e3 ev3 g3 _ q3 => ?_
      have e13 := e'.trans (e2.trans e3)
      exact hb.ok _ Γ3 ms3 q3 σ3 H3 G3 F _ ev3 g3 ⟨fun σ4 H4 G4 Γ4 ms4 e4 ev4 g4 q4 => ⟨G4, Γ4, ms4, e13.trans e4, ev4, g4, q4⟩, f.rt.mono (e1.trans e13),
        fun σ4 H4 G4 Γ4 ms4 e4 ev4 g4 q4 => f.nx σ4 H4 G4 Γ4 ms4 ((e1.trans e13).trans e4) ev4 g4 q4, fun σ4 H4 G4 Γ4 ms4 e4 ev4 g4 q4 => ⟨G4, Γ4, ms4, e13.trans e4, ev4, g4, q4⟩, fun a b c h => f.x a b c ((e1.trans e13).trans h)⟩
  · left
    rw [List.drop_eq_nil_of_le (by omega)] at q'
    exact ⟨w1 (by omega), f.nx _ _ _ _ _ (e1.trans e') ev' g' q'⟩
/-- by an invariant over the number of turns -/
theorem forR_inv {rg : AGR} {rb : ASR} {ds : List D} {A : AEnd} {Γ : Gam} {ms : MS} (P : Nat → Gam → MS → Prop) (h0 : P 0 Γ ms)
    (hs : ∀ i d Γ ms, ds[i]? = some d → P i Γ ms → ∀ N : Gam → MS → Prop, (∀ Γ' ms', P (i + 1) Γ' ms' → N Γ' ms') → rg (.d d) Γ ms fun Γ1 ms1 => rb { A with nx := N, ct := N, bk := A.nx } Γ1 ms1) (hd : ∀ Γ ms, P ds.length Γ ms → A.nx Γ ms) : forR rg rb ds A Γ ms := by
  have main : ∀ n i Γ ms, i + n = ds.length → P i Γ ms → forR rg rb (ds.drop i) A Γ ms := by
    intro n
    induction n with
    | zero =>
      intro i Γ ms hi hp
      have e : i = ds.length := by omega
      subst e
      rw [List.drop_length]
      exact hd Γ ms hp
    | succ n ih =>
      intro i Γ ms hi hp
      have hlt : i < ds.length := by omega
      rw [List.drop_eq_getElem_cons hlt]
      exact hs i _ Γ ms (List.getElem?_eq_getElem hlt) hp _ fun Γ2 ms2 h2 => ih (i + 1) Γ2 ms2 (by omega) h2
  exact main ds.length 0 Γ ms (by omega) h0
/-- while -/
def rWhile (rc : ATR) (rb : ASR) : ASR := fun A Γ ms => ∃ P : Nat → Gam → MS → Prop, (∃ m, P m Γ ms) ∧ ∀ m Γ ms, P m Γ ms → rc Γ ms (fun b ms1 => if b = true then rb { A with nx := fun Γ' ms' => ∃ m', m' < m ∧ P m' Γ' ms', ct := fun Γ' ms' => ∃ m', m' < m ∧ P m' Γ' ms', bk := A.nx } Γ ms1 else A.nx Γ ms1) (A.x Γ)
theorem as_while {c : Expr} {tc : TT} {rc : ATR} (hp : PassesOwn (model X.prog X.w) X.A X.env X.xe) (hc : AT X W c tc rc) (hb : ASs X W body t r) : AS X W (.While c body [] pos) (tWhile tc t) (rWhile rc r) := by
  refine ⟨ps_while hp hc.pe hb.pe, fun A Γ ms h σ H G F D ev g f => ?_⟩
  obtain ⟨P, ⟨m0, h0⟩, turn⟩ := h
  refine ⟨fun m σ' H' => ∃ G' Γ' ms', Ex G G' ∧ EOk G' σ' Γ' ∧ Good H' G' F ms' ∧ P m Γ' ms', ⟨m0, G, Γ, ms, Ex.refl G, ev, g, h0⟩, ?_⟩
  rintro m σ' H' ⟨G', Γ', ms', e', ev', g', p'⟩
  refine hc.ok _ _ _ _ (turn m Γ' ms' p') σ' H' G' F _ ev' g' (fun b H2 G2 ms2 e2 g2 q => ?_) (f.x σ' Γ' G' e' ev')
  have e3 := e'.trans e2
  cases b with
  | false => rw [if_neg Bool.false_ne_true] at q ⊢; exact f.nx _ _ _ _ _ e3 (ev'.mono e2) g2 q
  | true =>
    rw [if_pos rfl] at q ⊢
    refine ⟨fun σ4 H4 => ∃ m', m' < m ∧ ∃ G' Γ' ms', Ex G G' ∧ EOk G' σ4 Γ' ∧ Good H4 G' F ms' ∧ P m' Γ' ms', fun σ4 H4 h4 => h4, ?_⟩
    exact hb.ok _ Γ' ms2 q σ' H2 G2 F _ (ev'.mono e2) g2 ⟨fun σ4 H4 G4 Γ4 ms4 e4 ev4 g4 ⟨m', hm, q4⟩ => ⟨m', hm, G4, Γ4, ms4, e3.trans e4, ev4, g4, q4⟩, f.rt.mono e3,
      fun σ4 H4 G4 Γ4 ms4 e4 ev4 g4 q4 => f.nx σ4 H4 G4 Γ4 ms4 (e3.trans e4) ev4 g4 q4, fun σ4 H4 G4 Γ4 ms4 e4 ev4 g4 ⟨m', hm, q4⟩ => ⟨m', hm, G4, Γ4, ms4, e3.trans e4, ev4, g4, q4⟩, fun a b c h => f.x a b c (e3.trans h)⟩
end

/-! ### a def -/
/-- what a def's end hands on: objects of the store forgotten; a list of the store that stands from now on -/
def Out (sd : SD) (ms : MS) (k : SD → MS → Prop) : Prop :=
  (∃ ms', Sub ms' ms ∧ k sd ms') ∨ (∃ p ds ms', sd = .v (.ref p) ∧ ms p = some (.l ds) ∧ Sub ms' (md ms p) ∧ k (.d (.lst ds)) ms')
theorem Out.here {sd : SD} {ms : MS} {k : SD → MS → Prop} (h : k sd ms) : Out sd ms k := .inl ⟨ms, Sub.refl ms, h⟩
theorem out_ok {G F : Hp} {k : SD → MS → Prop} {Q : VK} (kk : KE G F k Q) : KE G F (fun sd ms => Out sd ms k) Q := fun v H2 G2 sd ms2 e2 g2 s2 q => by
  rcases q with ⟨ms', hs, q⟩ | ⟨p, ds, ms', rfl, hp, hs, q⟩
  · exact kk v H2 G2 sd ms' e2 (g2.drop hs) s2 q
  · obtain ⟨G3, e3, g3, s3⟩ := g2.freezeL hp
    have ev : v = .ref p := s2
    subst ev
    exact kk _ H2 G3 _ ms' (e2.trans e3) (g3.drop hs) (okd s3) q
/-- the slots at a def's entry -/
def gam : List Str → List SD → Gam
  | [], _ => []
  | _ :: N, [] => none :: gam N []
  | _ :: N, s :: r => some s :: gam N r
theorem gam_nil : ∀ N : List Str, gam N [] = List.replicate N.length none
  | [] => rfl
  | _ :: N => by rw [gam, gam_nil N]; rfl
theorem gam_eq : ∀ (N : List Str) (sds : List SD), sds.length ≤ N.length → gam N sds = sds.map some ++ List.replicate (N.length - sds.length) none
  | N, [], _ => by rw [gam_nil]; simp
  | [], _ :: _, h => by simp at h
  | _ :: N, s :: r, h => by
    rw [gam, gam_eq N r (by simpa using h)]
    simp
def aEnd (k : SD → MS → Prop) (x : AX) : AEnd := ⟨fun _ ms => Out (.d .non) ms k, fun sd ms => Out sd ms k, fun _ _ => False, fun _ _ => False, fun _ => x⟩
theorem eok_start {G : Hp} {N : List Str} : ∀ {vs : List V} {sds : List SD}, SOkL G vs sds → sds.length ≤ N.length → EOk G (L2.start N vs) (sds.map some ++ List.replicate (N.length - sds.length) none) := fun {vs sds} s hl => by
  have hlen := s.length
  refine ⟨by unfold L2.start; simp [hlen], fun i sd h => ?_⟩
  by_cases hi : i < sds.length
  · rw [List.getElem?_append_left (by simpa using hi), List.getElem?_map, List.getElem?_eq_getElem hi] at h
    cases h
    have get : ∀ {vs : List V} {sds : List SD} (i : Nat), SOkL G vs sds → ∀ h : i < sds.length, ∃ v, vs[i]? = some v ∧ SOk G v sds[i] := by
      intro vs sds i s
      induction s generalizing i with
      | nil => intro h; simp at h
      | cons a b ih =>
        intro h
        cases i with
        | zero => exact ⟨_, rfl, a⟩
        | succ i => exact ih i (by simpa using h)
    obtain ⟨v, h1, h2⟩ := get i s hi
    refine ⟨v, ?_, h2⟩
    unfold L2.start
    rw [List.getElem?_append_left (by rw [List.length_map, hlen]; exact hi), List.getElem?_map, h1]; rfl
  · rw [List.getElem?_append_right (by simpa using hi)] at h
    rw [List.getElem?_replicate] at h
    split at h <;> cases h
section
variable {P : Program} {w : World} {K : PySem.W.Frag} {mg : Str → Option Value} {base : Heap} {x qual : Str} {st : Stmt} {f : Addr} {fd : FuncData} {N ps : List Str} {k : Nat} {R : AFn}
theorem fn_end {W : WX} {X : Cx} {body : List Stmt} {t : TS} {r : ASR} (hb : ASs X W body t r) (hR : ∀ sds ms k x, R sds ms k x → r (aEnd k x) (gam N sds) ms) (hl : ∀ sds ms k x, R sds ms k x → sds.length ≤ N.length)
    {vs : List V} {H : Hp} {Q : VK} {E : XK} (hE : ∀ cls d σ H, E cls d H → W cls d σ H) (h : spA R vs H Q E) : t { nx := fun _ H' => Q .non H', rt := Q } (L2.start N vs) H := by
  obtain ⟨sds, G, F, ms, kk, xx, s, g, q, kq, xe⟩ := h
  refine hb.ok _ _ _ (hR sds ms kk xx q) _ H G F _ (by rw [gam_eq N sds (hl _ _ _ _ q)]; exact eok_start s (hl _ _ _ _ q)) g ⟨fun σ' H' G' Γ' ms' e' ev' g' q' => out_ok kq _ H' G' _ ms' e' g' (okd .non) q', out_ok kq, fun _ _ _ _ _ _ _ _ z => z.elim, fun _ _ _ _ _ _ _ _ z => z.elim, fun σ' Γ' G' e' ev' => ?_⟩
  intro C d f u dv H2 G2 ms2 e2 g2 h1 h2 h3
  exact hE _ _ _ _ (xe C d f u dv H2 G2 ms2 (e'.trans e2) g2 h1 h2 h3)
/-- a def that lets no exception out -/
theorem fnA (F : Fun K x qual st f fd) (S : FnScope N ps (defScope st)) (len : ∀ sds ms k x, R sds ms k x → sds.length = ps.length) (hN : ps.length ≤ N.length)
    (hbody : ∀ (cdv : Value) (A : Around) (outer : List Env) (s : Shared) (H : Hp) (E : XK), Room k (A.deeper (envOfC qual (defScope st) s.heap.objs.size f cdv)) →
      ∃ t r, ASs (cxOf CX0 P w K mg base N qual (defScope st) f cdv A outer s H E).nox W0 (defBody st) t r ∧ ∀ sds ms k x, R sds ms k x → r (aEnd k x) (gam N sds) ms) :
    FnOk P w K mg base CX0 (k + 1) f fd ps (spA R) := by
  refine F.ok S (fun vs H Q E h => ?_) (fun cdv A outer s H vs Q E hr h => ?_)
  · obtain ⟨sds, G, F, ms, kk, xx, s, g, q, _⟩ := h
    rw [s.length, len _ _ _ _ q]
  · obtain ⟨t, r, hb, hR⟩ := hbody cdv A outer s H E hr
    exact ⟨t, hb.pe, fn_end hb hR (fun sds ms k x h => by rw [len _ _ _ _ h]; exact hN) (fun _ _ _ _ _ => trivial) h⟩
/-- a def that may raise -/
theorem fnAX (F : Fun K x qual st f fd) (S : FnScope N ps (defScope st)) (len : ∀ sds ms k x, R sds ms k x → sds.length = ps.length) (hN : ps.length ≤ N.length)
    (hbody : ∀ (cdv : Value) (A : Around) (outer : List Env) (s : Shared) (H : Hp) (E : XK), Room k (A.deeper (envOfC qual (defScope st) s.heap.objs.size f cdv)) →
      ∃ t r, ASs (cxOf (L2.CX P w) P w K mg base N qual (defScope st) f cdv A outer s H E) (fun cls d _ H => E cls d H) (defBody st) t r ∧ ∀ sds ms k x, R sds ms k x → r (aEnd k x) (gam N sds) ms) :
    FnOk P w K mg base (L2.CX P w) (k + 1) f fd ps (spA R) := by
  refine F.okX S (fun vs H Q E h => ?_) (fun cdv A outer s H vs Q E hr h => ?_)
  · obtain ⟨sds, G, F, ms, kk, xx, s, g, q, _⟩ := h
    rw [s.length, len _ _ _ _ q]
  · obtain ⟨t, r, hb, hR⟩ := hbody cdv A outer s H E hr
    exact ⟨t, hb.pe, fn_end hb hR (fun sds ms k x h => by rw [len _ _ _ _ h]; exact hN) (fun _ _ _ _ h => h) h⟩
end
end AL

/-! ## AbsZ -/
set_option Elab.async false
set_option linter.all false
set_option maxRecDepth 100000
set_option maxHeartbeats 2000000
namespace AL
open PySem PySem.Spec PyProof.Rows L2
open Evl (Ex)
/-! ### zip of three tuples -/
def Itz3 (K : PySem.W.Frag) (a b c : Addr) (xs ys zs : List V) : It :=
  ⟨fun i H => SqT K H a xs ∧ SqT K H b ys ∧ SqT K H c zs ∧ i < min (min xs.length ys.length) zs.length,
    fun i H v H' => ∃ T x y u, v = .ref T ∧ H T = none ∧ H' = upd H T (.tup [x, y, u]) ∧ xs[i]? = some x ∧ ys[i]? = some y ∧ zs[i]? = some u,
    fun i H => SqT K H a xs ∧ SqT K H b ys ∧ SqT K H c zs ∧ min (min xs.length ys.length) zs.length ≤ i⟩
def tn3 (z TI TO i1 i2 i3 a b c : Addr) (n : Nat) (i : Nat) (h : Heap) : Prop := i ≤ n ∧ IsZip h z TI TO .none ∧ IsTupOf3 h TI (.ref i1) (.ref i2) (.ref i3) ∧ (∃ a1 a2 a3, IsTupOf3 h TO a1 a2 a3) ∧ h.IsTupleIter i1 a i ∧ h.IsTupleIter i2 b i ∧ h.IsTupleIter i3 c i
theorem turn_zip3 {P : Program} {w : World} {K : PySem.W.Frag} {elts : List Expr} {kk : Nat} {tpos : Pos} {a b c z TI TO i1 i2 i3 : Addr} {xs ys zs : List V} (S : ZipSep3 z TI TO i1 i2 i3 [i1, a] [i2, b] [i3, c]) (na : a ≠ i1) (nb : b ≠ i2) (nc : c ≠ i3) :
    Turn P w K (.Tuple elts kk tpos) (Itz3 K a b c xs ys zs) [z, TI, TO, i1, i2, i3] z (tn3 z TI TO i1 i2 i3 a b c (min (min xs.length ys.length) zs.length)) where
  mem := by simp
  obj := fun i h st e he => by
    obtain ⟨_, hz, hTI, ⟨x, y, u, hTO⟩, ⟨o1, e1, _, d1⟩, ⟨o2, e2, _, d2⟩, ⟨o3, e3, _, d3⟩⟩ := st
    have e' : e = z ∨ e = TI ∨ e = TO ∨ e = i1 ∨ e = i2 ∨ e = i3 := by simpa using he
    rcases e' with q | q | q | q | q | q
    · rw [q]; exact ⟨_, hz, fun v q => nomatch q⟩
    · rw [q]; exact ⟨_, hTI, fun v q => nomatch q⟩
    · rw [q]; exact ⟨_, hTO, fun v q => nomatch q⟩
    · rw [q]; exact ⟨o1, e1, fun v q => by rw [d1] at q; cases q⟩
    · rw [q]; exact ⟨o2, e2, fun v q => by rw [d2] at q; cases q⟩
    · rw [q]; exact ⟨o3, e3, fun v q => by rw [d3] at q; cases q⟩
  keep := fun i h h' st k => by
    obtain ⟨hi, hz, hTI, ⟨x, y, u, hTO⟩, h1, h2, h3⟩ := st
    exact ⟨hi, k z (by simp) _ hz, k TI (by simp) _ hTI, ⟨x, y, u, k TO (by simp) _ hTO⟩, h1.at fun o q => k i1 (by simp) o q, h2.at fun o q => k i2 (by simp) o q, h3.at fun o q => k i3 (by simp) o q⟩
  item := by
    intro X hP hw hK hc i pins s σ H E I hf st hg
    subst hP hw hK
    obtain ⟨hi, hz, hTI, hTO, h1, h2, h3⟩ := st
    obtain ⟨hqx, hqy, hqz, hlt⟩ := hg
    obtain ⟨its, rv, p, _⟩ := I.tuple hqx
    obtain ⟨its2, rv2, p2, _⟩ := I.tuple hqy
    obtain ⟨its3, rv3, p3, _⟩ := I.tuple hqz
    have hh : X.A.in1.handled = none := I.ok.hd hc
    have GG := GoesN.zip3 (prog := X.prog) (w := X.w) (A := X.A) (elts := elts) (x1 := kk) (pos := tpos) S (Draws.tuple hh i1 a na its.toArray) (Draws.tuple hh i2 b nb its2.toArray) (Draws.tuple hh i3 c nc its3.toArray)
    have en : min (min its.toArray.size its2.toArray.size) its3.toArray.size = min (min xs.length ys.length) zs.length := by
      simp only [List.size_toArray, ← rv.length, ← rv2.length, ← rv3.length]
    refine GG.goes i s _ E (by rw [en]; exact hlt) ⟨hz, hTI, hTO, ⟨h1, p⟩, ⟨h2, p2⟩, ⟨h3, p3⟩⟩ fun v h' tk hy st' hk htk => ?_
    obtain ⟨T, x, y, u, rfl, hT, hx, hy, hu, hTt⟩ := hy
    obtain ⟨hz', hTI', hTO', ⟨h1', _⟩, ⟨h2', _⟩, ⟨h3', _⟩⟩ := st'
    have gx : ∀ {l : List V} {us : List Value} {q : Value}, Vals l us → us.toArray[i]? = some q → ∃ w, l[i]? = some w ∧ RelV w q := fun {l us q} r e => by
      have hl : i < l.length := by rw [r.length]; have := (Array.getElem?_eq_some_iff.mp e).1; simpa using this
      obtain ⟨q', e1, e2⟩ := r.get (List.getElem?_eq_getElem hl)
      have e3 : us[i]? = some q := by simpa using e
      rw [e3] at e1; cases e1
      exact ⟨_, List.getElem?_eq_getElem hl, e2⟩
    obtain ⟨w1, hw1, r1⟩ := gx rv hx
    obtain ⟨w2, hw2, r2⟩ := gx rv2 hy
    obtain ⟨w3, hw3, r3⟩ := gx rv3 hu
    have new : ObjOk X.prog X.w (upd H T (.tup [w1, w2, w3])) h' T (.tup [w1, w2, w3]) := ⟨by show 3 ≤ sizeLine; decide, [x, y, u], .cons r1 (.cons r2 (.cons r3 .nil)), hTt⟩
    have I1 : Inv X pins σ (upd H T (.tup [w1, w2, w3])) { s with heap := h', toks := tk } := I.turnedNew (ch := [z, TO, i1, i2, i3]) hk (fun e he => hf e (by
      have e' : e = z ∨ e = TO ∨ e = i1 ∨ e = i2 ∨ e = i3 := by simpa using he
      rcases e' with q | q | q | q | q <;> simp [q])) hT new
    refine ⟨.ref T, _, I1, rfl, ⟨T, w1, w2, w3, rfl, I.hok.fresh hT, rfl, hw1, hw2, hw3⟩, ⟨hlt, hz', hTI', hTO', h1', h2', h3'⟩, fun e he => ?_⟩
    have hl : e < s.heap.objs.size := by
      have e' : e = z ∨ e = TI ∨ e = TO ∨ e = i1 ∨ e = i2 ∨ e = i3 := by simpa using he
      obtain ⟨a1, a2, a3, hTO⟩ := hTO
      rcases e' with q | q | q | q | q | q
      · rw [q]; exact Heap.lt_size hz
      · rw [q]; exact Heap.lt_size hTI
      · rw [q]; exact Heap.lt_size hTO
      · rw [q]; obtain ⟨_, e1, _⟩ := h1; exact Heap.lt_size e1
      · rw [q]; obtain ⟨_, e1, _⟩ := h2; exact Heap.lt_size e1
      · rw [q]; obtain ⟨_, e1, _⟩ := h3; exact Heap.lt_size e1
    rw [upd_ne (Nat.ne_of_lt (Nat.lt_of_lt_of_le hl hT))]
    exact (hf e he).1
  done := by
    intro X hP hw hK hc i pins s σ H E I hf st hg
    subst hP hw hK
    obtain ⟨hi, hz, hTI, hTO, h1, h2, h3⟩ := st
    obtain ⟨hqx, hqy, hqz, hle⟩ := hg
    obtain ⟨its, rv, p, _⟩ := I.tuple hqx
    obtain ⟨its2, rv2, p2, _⟩ := I.tuple hqy
    obtain ⟨its3, rv3, p3, _⟩ := I.tuple hqz
    have hh : X.A.in1.handled = none := I.ok.hd hc
    have GG := GoesN.zip3 (prog := X.prog) (w := X.w) (A := X.A) (elts := elts) (x1 := kk) (pos := tpos) S (Draws.tuple hh i1 a na its.toArray) (Draws.tuple hh i2 b nb its2.toArray) (Draws.tuple hh i3 c nc its3.toArray)
    have en : min (min its.toArray.size its2.toArray.size) its3.toArray.size = min (min xs.length ys.length) zs.length := by
      simp only [List.size_toArray, ← rv.length, ← rv2.length, ← rv3.length]
    have ei : i = min (min its.toArray.size its2.toArray.size) its3.toArray.size := by rw [en]; omega
    subst ei
    exact GG.stops s (fun s1 => Inv X pins σ H s1) E ⟨hz, hTI, hTO, ⟨h1, p⟩, ⟨h2, p2⟩, ⟨h3, p3⟩⟩ fun h' tk hk htk => I.turnedL (ch := [z, TO, i1, i2, i3]) hk (fun e he => hf e (by
      have e' : e = z ∨ e = TO ∨ e = i1 ∨ e = i2 ∨ e = i3 := by simpa using he
      rcases e' with q | q | q | q | q <;> simp [q]))
  self := fun A i s Q E st h => wpAny_pyIter_zip st.2.1 h
section
variable {X : Cx} {W : WX} {e e2 e3 : Expr} {te te2 te3 : TE} {re re2 re3 : AER} {pos p tpos : Pos} {elts : List Expr} {kk0 : Nat}
def iZip3 (K : PySem.W.Frag) (ta : TA) : TI := fun σ H R => ta σ H fun vs H1 => ∃ a b c xs ys zs, vs = [.ref a, .ref b, .ref c] ∧ SqT K H1 a xs ∧ SqT K H1 b ys ∧ SqT K H1 c zs ∧ R (Itz3 K a b c xs ys zs) H1
theorem pi_zip3 {ta : TA} (hg : Gl X "zip") (hm : X.mg "zip" = none) (ha : PA X [e, e2, e3] ta)
    (hs : starEach [e, e2, e3] X.env = (false, eval e X.env) :: starEach [e2, e3] X.env := by rfl) (hpl : (backTo pos (starEach [e2, e3] X.env)).any (·.1) = false := by rfl) :
    PI X (.Tuple elts kk0 tpos) (.Call (.Name "zip" p) [e, e2, e3] [] pos) (iZip3 X.K ta) := by
  refine ⟨fun pins s σ H R I h => ?_⟩
  refine Call_ (ld_blt I hg hm PyProof.Rows.boot_zip (PyProof.Rows.callWith_type1 (thn (ha.run pos pins s σ H _ I h) fun us s1 ⟨vs, H1, I1, r1, q1⟩ => ?_) hs hpl))
  obtain ⟨a, b, c, xs, ys, zs, ex, hqx, hqy, hqz, q⟩ := q1
  subst ex
  cases r1 with
  | cons r rr =>
    cases rr with
    | cons r' rr =>
      cases rr with
      | cons r'' rr =>
      cases rr
      cases r
      cases r'
      cases r''
      obtain ⟨its, rv, p1, _⟩ := I1.tuple hqx
      obtain ⟨its2, rv2, p2, _⟩ := I1.tuple hqy
      obtain ⟨its3, rv3, p3, _⟩ := I1.tuple hqz
      have la : a < s1.heap.objs.size := by obtain ⟨o1, ho1, _⟩ := id p1; exact Heap.lt_size ho1
      have lb : b < s1.heap.objs.size := by obtain ⟨o1, ho1, _⟩ := id p2; exact Heap.lt_size ho1
      have lc : c < s1.heap.objs.size := by obtain ⟨o1, ho1, _⟩ := id p3; exact Heap.lt_size ho1
      refine zip_begins3 (begins_tuple a its.toArray) (begins_tuple b its2.toArray) (begins_tuple c its3.toArray) p1 p2 p3 fun h' hz hTI hTO h1 h2 h3 hsz hk => wpAny_pyIter_zip hz ?_
      have I2 : Inv X pins σ H1 { s1 with heap := h' } := I1.kept (t' := s1.toks) hk
      have S : ZipSep3 (s1.heap.objs.size + 5) (s1.heap.objs.size + 3) (s1.heap.objs.size + 4) s1.heap.objs.size (s1.heap.objs.size + 1) (s1.heap.objs.size + 2) [s1.heap.objs.size, a] [s1.heap.objs.size + 1, b] [s1.heap.objs.size + 2, c] :=
        zip_sep3 (fun x hx => by have : x = a := by simpa using hx
                                 rw [this]; exact la) (fun x hx => by have : x = b := by simpa using hx
                                                                      rw [this]; exact lb) (fun x hx => by have : x = c := by simpa using hx
                                                                                                           rw [this]; exact lc)
      refine ⟨s1.heap.objs.size + 5, [s1.heap.objs.size + 5, s1.heap.objs.size + 3, s1.heap.objs.size + 4, s1.heap.objs.size, s1.heap.objs.size + 1, s1.heap.objs.size + 2], _, _, H1, rfl, I2, turn_zip3 S (Nat.ne_of_lt la) (Nat.ne_of_lt (Nat.lt_succ_of_lt lb)) (Nat.ne_of_lt (Nat.lt_succ_of_lt (Nat.lt_succ_of_lt lc))), ⟨Nat.zero_le _, hz, hTI, ⟨_, _, _, hTO⟩, ⟨_, h1, rfl, rfl⟩, ⟨_, h2, rfl, rfl⟩, ⟨_, h3, rfl, rfl⟩⟩, fun d hd => ?_, q⟩
      have e' : d = s1.heap.objs.size + 5 ∨ d = s1.heap.objs.size + 3 ∨ d = s1.heap.objs.size + 4 ∨ d = s1.heap.objs.size ∨ d = s1.heap.objs.size + 1 ∨ d = s1.heap.objs.size + 2 := by simpa using hd
      have hle : s1.heap.objs.size ≤ d := by
        rcases e' with z | z | z | z | z | z
        · rw [z]; exact Nat.le_add_right _ _
        · rw [z]; exact Nat.le_add_right _ _
        · rw [z]; exact Nat.le_add_right _ _
        · rw [z]; exact Nat.le_refl _
        · rw [z]; exact Nat.le_add_right _ _
        · rw [z]; exact Nat.le_add_right _ _
      exact I1.fpOk hle (I1.hok.fresh hle)
def zip3D : List D → List D → List D → List D
  | a :: as, b :: bs, c :: cs => D.tup [a, b, c] :: zip3D as bs cs
  | _, _, _ => []
theorem zip3D_get : ∀ (as bs cs : List D) (i : Nat), (zip3D as bs cs)[i]? = (match as[i]?, bs[i]?, cs[i]? with
    | some a, some b, some c => some (D.tup [a, b, c])
    | _, _, _ => none)
  | [], bs, cs, i => by simp [zip3D]
  | a :: as, [], cs, i => by
    simp only [zip3D]
    cases (a :: as)[i]? <;> simp
  | a :: as, b :: bs, [], i => by
    simp only [zip3D]
    cases (a :: as)[i]? <;> cases (b :: bs)[i]? <;> simp
  | a :: as, b :: bs, c :: cs, 0 => by simp [zip3D]
  | a :: as, b :: bs, c :: cs, i + 1 => by
    simp only [zip3D, List.getElem?_cons_succ]
    exact zip3D_get as bs cs i
theorem zip3D_length : ∀ (as bs cs : List D), (zip3D as bs cs).length = min (min as.length bs.length) cs.length
  | [], bs, cs => by simp [zip3D]
  | a :: as, [], cs => by simp [zip3D]
  | a :: as, b :: bs, [] => by simp [zip3D]
  | a :: as, b :: bs, c :: cs => by
    simp only [zip3D, List.length_cons, zip3D_length as bs cs]
    omega
theorem ai_zip3 (hg : Gl X "zip") (hm : X.mg "zip" = none) (he : AE X W e te re) (he2 : AE X W e2 te2 re2) (he3 : AE X W e3 te3 re3) (hs : starEach [e, e2, e3] X.env = (false, eval e X.env) :: starEach [e2, e3] X.env := by rfl) (hpl : (backTo pos (starEach [e2, e3] X.env)).any (·.1) = false := by rfl)
    (hs1 : starEach [e2, e3] X.env = (false, eval e2 X.env) :: starEach [e3] X.env := by rfl) (hs2 : starEach [e3] X.env = (false, eval e3 X.env) :: starEach [] X.env := by rfl) :
    AI X W (.Tuple elts kk0 tpos) (.Call (.Name "zip" p) [e, e2, e3] [] pos) (iZip3 X.K (tCons te (tCons te2 (tCons te3 tNil)))) (fun Γ ms k x => re Γ ms (fun u ms1 => re2 Γ ms1 (fun v ms2 => re3 Γ ms2 (fun w ms3 => ∃ as bs cs, u = .d (.tup as) ∧ v = .d (.tup bs) ∧ w = .d (.tup cs) ∧ k (zip3D as bs cs) ms3) x) x) x) := by
  refine ⟨pi_zip3 hg hm (pa_cons he.pe (pa_cons he2.pe (pa_cons he3.pe pa_nil hs2) hs1) hs) hs hpl, fun Γ ms k x h σ H G F R ev g kk xw => ?_⟩
  refine he.ok Γ ms _ x h σ H G F _ ev g (fun v H1 G1 sd ms1 e1 g1 s1 q1 => ?_) xw
  refine he2.ok Γ ms1 _ x q1 σ H1 G1 F _ (ev.mono e1) g1 (fun u H2 G2 sd2 ms2 e2 g2 s2 q2 => ?_) (xw.mono e1)
  refine he3.ok Γ ms2 _ x q2 σ H2 G2 F _ ((ev.mono e1).mono e2) g2 (fun w H3 G3 sd3 ms3 e3 g3 s3 q3 => ?_) ((xw.mono e1).mono e2)
  obtain ⟨as, bs, cs, rfl, rfl, rfl, q⟩ := q3
  have s1' := (s1.mono e2).mono e3
  have s2' := s2.mono e3
  cases s1' with
  | tup a1 b1 =>
  cases s2' with
  | tup a2 b2 =>
  cases s3 with
  | tup a3 b3 =>
  refine ⟨_, _, _, _, _, _, rfl, Evl.st_of (g3.ex _ _ a1), Evl.st_of (g3.ex _ _ a2), Evl.st_of (g3.ex _ _ a3), kk _ _ _ _ _ ((e1.trans e2).trans e3) g3 q fun i H' G' F' ms' e' g' => ?_⟩
  have t1 := Evl.st_of (K := X.K) (g'.ex _ _ (e' _ _ a1))
  have t2 := Evl.st_of (K := X.K) (g'.ex _ _ (e' _ _ a2))
  have t3 := Evl.st_of (K := X.K) (g'.ex _ _ (e' _ _ a3))
  have l1 := b1.length
  have l2 := b2.length
  have l3 := b3.length
  refine ⟨fun hi => ⟨t1, t2, t3, ?_⟩, fun d hd => ?_⟩
  · rw [zip3D_length] at hi
    rw [l1, l2, l3]
    exact hi
  · have hlt : i < (zip3D as bs cs).length := (List.getElem?_eq_some_iff.mp hd).1
    rw [zip3D_length] at hlt
    rw [zip3D_get] at hd
    split at hd
    · rename_i x1 x2 x3 h1 h2 h3
      cases hd
      obtain ⟨w1, hw1, sw1⟩ := b1.get h1
      obtain ⟨w2, hw2, sw2⟩ := b2.get h2
      obtain ⟨w3, hw3, sw3⟩ := b3.get h3
      refine ⟨⟨t1, t2, t3, by rw [l1, l2, l3]; exact hlt⟩, fun y H'' hy => ?_⟩
      obtain ⟨T, y1, y2, y3, rfl, nT, rfl, f1, f2, f3⟩ := hy
      have ey1 : y1 = w1 := Option.some.inj (f1.symm.trans hw1)
      have ey2 : y2 = w2 := Option.some.inj (f2.symm.trans hw2)
      have ey3 : y3 = w3 := Option.some.inj (f3.symm.trans hw3)
      subst ey1 ey2 ey3
      exact ⟨_, g'.exn nT, g'.new nT, .tup upd_same (.cons ((sw1.mono e').mono (g'.exn nT)) (.cons ((sw2.mono e').mono (g'.exn nT)) (.cons ((sw3.mono e').mono (g'.exn nT)) .nil)))⟩
    · cases hd
end
end AL

/-! ## AbsX -/
set_option Elab.async false
set_option linter.all false
set_option maxRecDepth 100000
set_option maxHeartbeats 2000000
namespace AL
open PySem PySem.Spec PyProof.Rows L2
open Evl (Ex)
/-! ### raise, try -/
/-- C(e), an own exception of one field -/
def tMkF (C : Addr) (f : Str) (ta : TA) : L2.St → Hp → XK → Prop := fun σ H Q => ta σ H fun vs H1 => ∃ v, vs = [v] ∧ ∀ d, H1 d = none → Q (.ref C) (some d) (upd H1 d (.xd [(f, v)]))
def rRaise (C : Addr) (f : Str) (re : AER) : ASR := fun A Γ ms => re Γ ms (fun sd ms1 => asD (fun dv => A.x Γ C f dv ms1) sd) (A.x Γ)
theorem as_raise {X : Cx} {W : WX} {a : Expr} {te : TE} {re : AER} {C : Addr} {f nm : Str} {p pos pos2 : Pos} (hc : X.calm = true) (tk : Takes X W) (ha : AE X W a te re) (hp : PMk X (.Call (.Name nm p) [a] [] pos) (tMkF C f (tCons te tNil))) :
    AS X W (.Raise (some (.Call (.Name nm p) [a] [] pos)) none pos2) (fun _ σ H => tMkF C f (tCons te tNil) σ H fun cls d H' => W cls d σ H') (rRaise C f re) := by
  refine ⟨ps_raise hc tk hp, fun A Γ ms h σ H G F D ev g fi => ?_⟩
  have xw := fi.x σ Γ G (Ex.refl G) ev
  refine ha.ok Γ ms _ _ h σ H G F _ ev g (fun v H1 G1 sd ms1 e1 g1 s1 q1 => ?_) xw
  obtain ⟨dv, sv, q⟩ := asD_ok s1 q1
  exact ⟨v, rfl, fun d hd => xw C d f v dv _ _ ms1 (e1.trans (g1.exn hd)) (g1.new hd) upd_same (sv.mono (g1.exn hd)) q⟩

abbrev HEnt := Value × Option Nat × (Addr → Value → Option Addr → TS)
def endH (i : Option Nat) (D : Ends) : Ends := match i with
  | none => D
  | some i => { nx := fun σ' H' => D.nx (σ'.set i none) H', rt := D.rt, bk := fun σ' H' => D.bk (σ'.set i none) H', ct := fun σ' H' => D.ct (σ'.set i none) H' }
def setH (i : Option Nat) (a : Addr) (σ : L2.St) : L2.St := match i with
  | none => σ
  | some i => σ.set i (some (.ref a))
def wHs (K : PySem.W.Frag) (Wout : WX) (D : Ends) : List HEnt → WX
  | [] => Wout
  | (c, i, ts) :: r => fun cls d σ H => ∃ b, PySem.W.exmOne K cls c = some b ∧ (b = true → ∀ a, H a = none → ts a cls d (endH i D) (setH i a σ) H) ∧ (b = false → wHs K Wout D r cls d σ H)
inductive HdA (X : Cx) : List ExceptHandler → List HEnt → Prop
  | nil : HdA X [] []
  | plain {x : Str} {c : Value} {ts : Addr → Value → Option Addr → TS} {b₀ : Stmt} {suite : List Stmt} {np pos' : Pos} {hds : List ExceptHandler} {l : List HEnt} (hc : Names X x c)
      (hsu : ∀ (a : Addr) (oe : Obj) (cls : Value) (d : Option Addr) (pn : List (Addr × Obj)), Zc cls d oe → (∃ vs, oe.data = .fields vs) → PSs (X.suite a ((a, oe) :: pn)) (b₀ :: suite) (ts a cls d)) (r : HdA X hds l) :
      HdA X (.ExceptHandler (some (.Name x np)) none (b₀ :: suite) pos' :: hds) ((c, none, ts) :: l)
  | named {x n : Str} {i : Nat} {c : Value} {ts : Addr → Value → Option Addr → TS} {b₀ : Stmt} {suite : List Stmt} {np pos' : Pos} {hds : List ExceptHandler} {l : List HEnt} (hc : Names X x c) (hN : X.N.Nodup) (hi : X.N[i]? = some n) (hln : X.env.kindOf n = some .local)
      (hsu : ∀ (a : Addr) (oe : Obj) (cls : Value) (d : Option Addr) (pn : List (Addr × Obj)), Zc cls d oe → (∃ vs, oe.data = .fields vs) → PSs (X.suite a ((a, oe) :: pn)) (b₀ :: suite) (ts a cls d)) (r : HdA X hds l) :
      HdA X (.ExceptHandler (some (.Name x np)) (some n) (b₀ :: suite) pos' :: hds) ((c, some i, ts) :: l)
section
variable {X : Cx} {body : List Stmt} {h₀ : ExceptHandler} {hds : List ExceptHandler} {l : List HEnt} {pos : Pos} {tb : WX → TS} {Wout : WX}
theorem ps_try_hs (hs : X.stack = X.env :: X.outer) (hf : X.env.frame = some X.env.locals) (tk : Takes X Wout)
    (hb : ∀ (W : WX) (pn : List (Addr × Obj)) (xe : Value → Shared → Prop), Takes (X.tr pn xe) W → PassesOwn (model X.prog X.w) X.A X.env xe → PSs (X.tr pn xe) body (tb W))
    (hh : HdA X (h₀ :: hds) l) : PS X (.Try body (h₀ :: hds) [] [] pos) (fun D σ H => tb (wHs X.K Wout D l) D σ H) := by
  refine ⟨fun pins s σ H D I hw => ?_⟩
  have okX := I.ok
  have frX : X.A.frames = some (X.env :: X.outer) := by rw [okX.frames, hs]
  refine wpAny_Try_except (wpAny_mono ((hb (wHs X.K Wout D l) (X.pn ++ pins) (fun ex u₁ => wpAny (model X.prog X.w) X.A (noteFrame ex X.env) (fun _ u₂ => wpAny (model X.prog X.w) X.A (setFlight ex none) (fun _ u₃ =>
    wpAny (model X.prog X.w) X.A (handleBy ex X.env (h₀ :: hds)) (SP X pins D) X.xe u₃) X.xe u₂) X.xe u₁) (fun u s' xx => ?_) PassesOwn.looking).run [] s σ H D (I.toTry _) hw) (fun fl s1 hsp => ?_) (fun ex s1 he => he))
  · obtain ⟨a, B, sI, pins', σ', H', cls, d, eu, J', nb, up, sky, na, os, ag, wx⟩ := xx
    subst eu
    have J : Inv X pins σ' H' sI := J'.ofTry okX
    have skyX : Sky B (X.env :: X.outer) a (Zc cls d) X.env.locals s'.heap := hs ▸ sky
    refine Sky.land Zc.steady frX hf skyX fun h3 fl3 up3 => ?_
    have J3 : Inv X pins σ' H' { s' with heap := h3 } := J.landed nb fl3.1 (up.trans up3) os ag
    obtain ⟨oe3, vs3, he3, hz3, hd3⟩ := fl3.there
    have nfr : a ∉ frs (X.env :: X.outer) := fun hm => by
      obtain ⟨_, o', e', hnf⟩ := fl3.2.2.1.mem hm
      rw [he3] at e'
      cases e'
      exact hnf _ hd3
    have aL : a ≠ X.env.locals := fun z => nfr (List.mem_filterMap.mpr ⟨X.env, by simp, by rw [hf, z]⟩)
    have aF : a ∉ X.fs := fun hm => by
      obtain ⟨en, hen, q⟩ := List.mem_filterMap.mp hm
      exact nfr (List.mem_filterMap.mpr ⟨en, by simp [hen], q⟩)
    have S3 := J3.suite he3 hd3 na aL aF
    have LT : PySem.W.Looks (model X.prog X.w) h3 (typeOf (.ref a)) cls := fun A Q E s k q => wpAny_typeOf_ref (k _ _ he3) (hz3.1 ▸ q)
    have tst : ∀ {x : Str} {c : Value} {np : Pos} {Q : Value → Shared → Prop} {E : Value → Shared → Prop}, Names X x c → Q c { s' with heap := h3 } → wpAny (model X.prog X.w) (X.A.mark (some (.ref a))) (eval (.Name x np) X.env) Q E { s' with heap := h3 } := fun {x c np Q E} hc q => by
      obtain ⟨hg, hdbg, hm | ⟨hm, hv, hnn⟩⟩ := hc
      · exact ld_glob (X := X.suite a ((a, oe3) :: (X.pn ++ pins))) S3 hg hm q hdbg
      · exact ld_blt (X := X.suite a ((a, oe3) :: (X.pn ++ pins))) S3 hg hm hv q hnn hdbg
    have go : ∀ {hds' : List ExceptHandler} {l' : List HEnt}, HdA X hds' l' → wHs X.K Wout D l' cls d σ' H' → wpAny (model X.prog X.w) X.A (handleBy (.ref a) X.env hds') (SP X pins D) X.xe { s' with heap := h3 } := by
      intro hds' l' hk
      induction hk with
      | nil =>
        intro wv
        refine wpAny_handleBy_nil ?_
        obtain ⟨_, _, _, oe, vs, T, oT, tz, hoe, _, hod, h1, _⟩ := id fl3
        unfold PySem.passOn
        refine wpAny_bind (wpAny_field hoe hod h1 ?_)
        rw [if_neg (by simp : ¬ ((Value.ref T == Value.none) = true))]
        have last : wpAny (model X.prog X.w) X.A (setFlight (.ref a) X.env.frame) (fun _ s4 => wpAny (model X.prog X.w) X.A (throw (.ref a) : Sem Flow) (SP X pins D) X.xe s4) X.xe { s' with heap := h3 } := by
          rw [hf]
          exact HandSPX.setFlight_upZ fl3 fun h4 hh4 up4 => wpAny_throw (tk _ _ ⟨a, B, sI, pins, σ', H', cls, d, rfl, J, nb, (up.trans up3).trans up4, .inr (.inr (hs ▸ hh4)), na, os, ag, wv⟩)
        first
          | exact wpAny_bind (wpAny_pure (wpAny_bind last))
          | exact wpAny_bind last
      | @plain x c ts b₀ suite np pos' hds2 l2 hc hsu r ih =>
        intro wv
        obtain ⟨b, hb1, yes, no⟩ := wv
        refine wpAny_handleBy_cons (codeAny_handlers_test ?_) (by intro q; cases q)
        refine tst hc ((PySem.W.exm_one (M := model X.prog X.w) (J3.kIn) LT hb1).here ?_)
        cases b with
        | true =>
          refine codeAny_handlers_suite (HandSPX.lands_againZ fl3 fun h4 fl4 up4 => ?_)
          have J4 : Inv X pins σ' H' { s' with heap := h4 } := J.landed nb fl4.1 ((up.trans up3).trans up4) os ag
          obtain ⟨oe4, vs4, he4, hz4, hd4⟩ := fl4.there
          refine wpAny_mono ((hsu a oe4 cls d (X.pn ++ pins) hz4 ⟨_, hd4⟩).run [] _ _ H' _ (J4.suite he4 hd4 na aL aF) (yes rfl a na)) (fun fl s6 hsp => ?_) (fun _ _ z => z.elim)
          cases fl with
          | next => obtain ⟨_, _, S6, q6⟩ := hsp; exact ⟨_, _, S6.unsuite okX, q6⟩
          | brk => obtain ⟨_, _, S6, q6⟩ := hsp; exact ⟨_, _, S6.unsuite okX, q6⟩
          | cont => obtain ⟨_, _, S6, q6⟩ := hsp; exact ⟨_, _, S6.unsuite okX, q6⟩
          | ret u => obtain ⟨_, _, _, S6, r6, q6⟩ := hsp; exact ⟨_, _, _, S6.unsuite okX, r6, q6⟩
        | false => exact ih (no rfl)
      | @named x n i c ts b₀ suite np pos' hds2 l2 hc hN hi hln hsu r ih =>
        intro wv
        obtain ⟨b, hb1, yes, no⟩ := wv
        refine wpAny_handleBy_cons (codeAny_handlers_test ?_) (by intro q; cases q)
        refine tst hc ((PySem.W.exm_one (M := model X.prog X.w) (J3.kIn) LT hb1).here ?_)
        cases b with
        | true =>
          refine codeAny_handlers_suite_as (HandSPX.lands_againZ fl3 fun h4 fl4 up4 => ?_)
          have J4 : Inv X pins σ' H' { s' with heap := h4 } := J.landed nb fl4.1 ((up.trans up3).trans up4) os ag
          obtain ⟨oe4, vs4, he4, hz4, hd4⟩ := fl4.there
          refine store_ok (X := X.suite a ((a, oe4) :: (X.pn ++ pins))) (v := .ref a) (J4.suite he4 hd4 na aL aF) hN hi (.inl hln) rfl (fun s5 S5 => ?_) (.inr hln)
          refine wpAny_mono ((hsu a oe4 cls d (X.pn ++ pins) hz4 ⟨_, hd4⟩).run [] s5 _ H' _ S5 (yes rfl a na)) (fun fl s6 hsp => ?_) (fun _ _ z => z.elim)
          have fin6 : ∀ {σ6 : L2.St} {H6 : Hp} {Q : Shared → Prop}, Inv (X.suite a ((a, oe4) :: (X.pn ++ pins))) [] σ6 H6 s6 → (∀ s7, Inv X pins (σ6.set i none) H6 s7 → Q s7) →
              wpAny (model X.prog X.w) X.A (do bindName X.env n .none; unbindBehindTheSuite X.env n pos') (fun _ s7 => Q s7) X.xe s6 := fun S6 hq => gone_ok (S6.unsuite okX) hN hi hln hq
          cases fl with
          | next => obtain ⟨_, _, S6, q6⟩ := hsp; exact fin6 S6 fun s7 J7 => ⟨_, _, J7, q6⟩
          | brk => obtain ⟨_, _, S6, q6⟩ := hsp; exact fin6 S6 fun s7 J7 => ⟨_, _, J7, q6⟩
          | cont => obtain ⟨_, _, S6, q6⟩ := hsp; exact fin6 S6 fun s7 J7 => ⟨_, _, J7, q6⟩
          | ret u => obtain ⟨_, _, _, S6, r6, q6⟩ := hsp; exact fin6 S6 fun s7 J7 => ⟨_, _, _, J7, r6, q6⟩
        | false => exact ih (no rfl)
    exact go hh wx
  · cases fl with
    | next => obtain ⟨_, _, J', q⟩ := hsp; exact wpAny_execs_nil ⟨_, _, J'.ofTry okX, q⟩
    | brk => obtain ⟨_, _, J', q⟩ := hsp; exact ⟨_, _, J'.ofTry okX, q⟩
    | cont => obtain ⟨_, _, J', q⟩ := hsp; exact ⟨_, _, J'.ofTry okX, q⟩
    | ret u => obtain ⟨_, _, _, J', r, q⟩ := hsp; exact ⟨_, _, _, J'.ofTry okX, r, q⟩
end
abbrev AEnt := Value × Option Nat × (Addr → Value → Option Addr → ASR)
def endA (i : Option Nat) (A : AEnd) : AEnd := match i with
  | none => { A with x := fun _ => noX }
  | some i => { nx := fun Γ ms => A.nx (Γ.set i none) ms, rt := A.rt, bk := fun Γ ms => A.bk (Γ.set i none) ms, ct := fun Γ ms => A.ct (Γ.set i none) ms, x := fun _ => noX }
def setA (i : Option Nat) (Γ : Gam) (sd : SD) : Gam := match i with
  | none => Γ
  | some i => Γ.set i (some sd)
/-- the clauses, from the first one -/
def hR (K : PySem.W.Frag) (A : AEnd) (Γ : Gam) (C : Addr) (f : Str) (dv : D) (ms : MS) : List AEnt → Prop
  | [] => A.x Γ C f dv ms
  | (c, i, rs) :: r => ∃ b, PySem.W.exmOne K (.ref C) c = some b ∧ (b = true → ∀ a dd, rs a (.ref C) (some dd) (endA i A) (setA i Γ (.e a C dd f dv)) ms) ∧ (b = false → hR K A Γ C f dv ms r)
inductive HdL (X : Cx) : List ExceptHandler → List HEnt → List AEnt → Prop
  | nil : HdL X [] [] []
  | plain {x : Str} {c : Value} {ts : Addr → Value → Option Addr → TS} {rs : Addr → Value → Option Addr → ASR} {b₀ : Stmt} {suite : List Stmt} {np pos' : Pos} {hds : List ExceptHandler} {l : List HEnt} {la : List AEnt} (hc : Names X x c)
      (hsu : ∀ (a : Addr) (oe : Obj) (cls : Value) (d : Option Addr) (pn : List (Addr × Obj)), Zc cls d oe → (∃ vs, oe.data = .fields vs) → ASs (X.suite a ((a, oe) :: pn)) W0 (b₀ :: suite) (ts a cls d) (rs a cls d)) (r : HdL X hds l la) :
      HdL X (.ExceptHandler (some (.Name x np)) none (b₀ :: suite) pos' :: hds) ((c, none, ts) :: l) ((c, none, rs) :: la)
  | named {x n : Str} {i : Nat} {c : Value} {ts : Addr → Value → Option Addr → TS} {rs : Addr → Value → Option Addr → ASR} {b₀ : Stmt} {suite : List Stmt} {np pos' : Pos} {hds : List ExceptHandler} {l : List HEnt} {la : List AEnt} (hc : Names X x c) (hN : X.N.Nodup) (hi : X.N[i]? = some n) (hln : X.env.kindOf n = some .local)
      (hsu : ∀ (a : Addr) (oe : Obj) (cls : Value) (d : Option Addr) (pn : List (Addr × Obj)), Zc cls d oe → (∃ vs, oe.data = .fields vs) → ASs (X.suite a ((a, oe) :: pn)) W0 (b₀ :: suite) (ts a cls d) (rs a cls d)) (r : HdL X hds l la) :
      HdL X (.ExceptHandler (some (.Name x np)) (some n) (b₀ :: suite) pos' :: hds) ((c, some i, ts) :: l) ((c, some i, rs) :: la)
theorem HdL.toA {X : Cx} {hds : List ExceptHandler} {l : List HEnt} {la : List AEnt} (h : HdL X hds l la) : HdA X hds l := by
  induction h with
  | nil => exact .nil
  | plain hc hsu _ ih => exact .plain hc (fun a oe cls d pn z y => (hsu a oe cls d pn z y).pe) ih
  | named hc hN hi hln hsu _ ih => exact .named hc hN hi hln (fun a oe cls d pn z y => (hsu a oe cls d pn z y).pe) ih
theorem EOk.forget1 {G : Hp} {σ : L2.St} {Γ : Gam} (h : EOk G σ Γ) (i : Nat) : EOk G (σ.set i none) (Γ.set i none) := h.forget i
theorem hds_ok {X : Cx} {W : WX} {G0 G F : Hp} {A : AEnd} {E₀ : Ends} {σ : L2.St} {Γ : Gam} {C d : Addr} {f : Str} {u : V} {dv : D} {H : Hp} {ms : MS} (fin : Fin' W G F A E₀) (ev : EOk G σ Γ) (g : Good H G F ms) (h1 : G d = some (.xd [(f, u)])) (h2 : Shw G u dv)
    {hds : List ExceptHandler} {l : List HEnt} {la : List AEnt} (hl : HdL X hds l la) (h : hR X.K A Γ C f dv ms la) : wHs X.K W E₀ l (.ref C) (some d) σ H := by
  induction hl with
  | nil => exact fin.x σ Γ G (Ex.refl G) ev C d f u dv H G ms (Ex.refl G) g h1 h2 h
  | plain hc hsu _ ih =>
    obtain ⟨b, hb, yes, no⟩ := h
    refine ⟨b, hb, fun eb a ha => ?_, fun eb => ih (no eb)⟩
    exact (hsu a ⟨.ref C, some d, .fields #[], #[]⟩ (.ref C) (some d) [] ⟨rfl, rfl⟩ ⟨_, rfl⟩).ok _ Γ ms (yes eb a d) σ H G F E₀ ev g ⟨fin.nx, fin.rt, fin.bk, fin.ct, fun _ _ _ _ _ => xw_no⟩
  | @named x n i c ts rs b₀ suite np pos' hds2 l2 la2 hc hN hi hln hsu _ ih =>
    obtain ⟨b, hb, yes, no⟩ := h
    refine ⟨b, hb, fun eb a ha => ?_, fun eb => ih (no eb)⟩
    refine (hsu a ⟨.ref C, some d, .fields #[], #[]⟩ (.ref C) (some d) [] ⟨rfl, rfl⟩ ⟨_, rfl⟩).ok _ _ ms (yes eb a d) _ H G F _ (ev.set (sd := .e a C d f dv) (v := .ref a) ⟨rfl, u, h1, h2⟩ i) g ⟨fun σ' H' G' Γ' ms' e' ev' g' q => fin.nx _ H' G' _ ms' e' (ev'.forget i) g' q, fin.rt,
      fun σ' H' G' Γ' ms' e' ev' g' q => fin.bk _ H' G' _ ms' e' (ev'.forget i) g' q, fun σ' H' G' Γ' ms' e' ev' g' q => fin.ct _ H' G' _ ms' e' (ev'.forget i) g' q, fun _ _ _ _ _ => xw_no⟩
def rTry (K : PySem.W.Frag) (rb : ASR) (la : List AEnt) : ASR := fun A Γ ms => rb { A with x := fun Γ' C f dv ms' => hR K A Γ' C f dv ms' la } Γ ms
theorem as_try {X : Cx} {body : List Stmt} {h₀ : ExceptHandler} {hds : List ExceptHandler} {l : List HEnt} {la : List AEnt} {pos : Pos} {tb : WX → TS} {rb : ASR} {Wout : WX} (hs : X.stack = X.env :: X.outer) (hf : X.env.frame = some X.env.locals) (tk : Takes X Wout)
    (hb : ∀ (W : WX) (pn : List (Addr × Obj)) (xe : Value → Shared → Prop), Takes (X.tr pn xe) W → ASs (X.tr pn xe) W body (tb W) rb)
    (hh : HdL X (h₀ :: hds) l la) : AS X Wout (.Try body (h₀ :: hds) [] [] pos) (fun D σ H => tb (wHs X.K Wout D l) D σ H) (rTry X.K rb la) := by
  refine ⟨ps_try_hs hs hf tk (fun W pn xe a _ => (hb W pn xe a).pe) hh.toA, fun A Γ ms h σ H G F D ev g fin => ?_⟩
  have hX := hb (wHs X.K Wout D l) [] (fun _ _ => True) (fun _ _ _ => trivial)
  refine hX.ok _ Γ ms h σ H G F D ev g ⟨fin.nx, fin.rt, fin.bk, fin.ct, fun σ' Γ' G' e' ev' => ?_⟩
  intro C d f u dv H2 G2 ms2 e2 g2 h1 h2 h3
  exact hds_ok (G0 := G) (fin.mono (e'.trans e2)) (ev'.mono e2) g2 h1 h2 hh h3
end AL

/-! ## AbsY -/
set_option Elab.async false
set_option linter.all false
set_option maxRecDepth 100000
set_option maxHeartbeats 2000000
namespace AL
open PySem PySem.Spec PyProof.Rows L2
open Evl (Ex)
/-! ### the field of a caught exception -/
def tByF (C : Addr) (f : Str) (a : Addr) (cls : Value) (d : Option Addr) (te : TE) : TE := fun σ H Q => te σ H fun x H1 => x = .ref a ∧ cls = .ref C ∧ ∃ (dd : Addr) (v : V), d = some dd ∧ H1 dd = some (.xd [(f, v)]) ∧ Q v H1
def rByF (C : Addr) (f : Str) (a : Addr) (cls : Value) (d : Option Addr) (re : AER) : AER := fun Γ ms k x => re Γ ms (fun u ms1 => cls = .ref C ∧ ∃ dd dv, u = .e a C dd f dv ∧ d = some dd ∧ k (.d dv) ms1) x
theorem ae_byF {X : Cx} {W : WX} {C a : Addr} {f : Str} {cls : Value} {d : Option Addr} {e : Expr} {pos : Pos} {te : TE} {re : AER} (he : AE X W e te re) (hp : PE X (.Attribute e f pos) (tByF C f a cls d te)) : AE X W (.Attribute e f pos) (tByF C f a cls d te) (rByF C f a cls d re) := by
  refine ⟨hp, fun Γ ms k x h σ H G F Q ev g kk xw => ?_⟩
  refine he.ok Γ ms _ x h σ H G F _ ev g (fun v H1 G1 sd ms1 e1 g1 s1 q1 => ?_) xw
  obtain ⟨ec, dd, dv, rfl, ed, q⟩ := q1
  obtain ⟨rfl, w, h1, h2⟩ := s1
  exact ⟨rfl, ec, dd, w, ed, g1.ex _ _ h1, kk _ _ _ _ _ e1 g1 (okd h2) q⟩

/-! ### comprehensions of two clauses -/
section
variable {X : Cx} {W : WX} {elt tg iter tg1 iter1 : Expr} {ifs ifs1 : List Expr} {scope : Scope} {own : List (Str × Nat)} {vs1 : List Nat} {pos spos py : Pos} {wi wi1 : TI} {g g1 : TG} {tt tt1 : TT} {te : TE} {ri ri1 : AIR} {rg rg1 : AGR} {rt rt1 : ATR} {re : AER} {sl sl1 : List Nat} {x : Str}
def lc2I (rg : AGR) (rt : ATR) (ri1 : AIR) (rg1 : AGR) (rt1 : ATR) (re : AER) (vs1 : List Nat) (Γ0 : Gam) : List D → List D → MS → (List D → MS → Prop) → Prop
  | [], acc, ms, kk => kk acc ms
  | d :: ds, acc, ms, kk => rg (.d d) Γ0 ms fun Γ1 ms1 => rt Γ1 ms1 (fun b ms2 => if b = true then ri1 Γ1 ms2 (fun es ms3 => lcI rg1 rt1 re (wipeG Γ1 vs1) es acc ms3 fun acc' ms4 => lc2I rg rt ri1 rg1 rt1 re vs1 Γ0 ds acc' ms4 kk) noX else lc2I rg rt ri1 rg1 rt1 re vs1 Γ0 ds acc ms2 kk) noX
theorem lc2_sound (hs : ∀ j ∈ sl, j ∈ own.map (·.2)) (hs1 : ∀ j ∈ sl1, j ∈ vs1) (hi : ∀ Γ ms k x, ri Γ ms k x → ∀ σ H G F R, EOk G σ Γ → Good H G F ms → KI G F k R → XW W G F σ x → wi σ H R)
    (hg : ∀ sd Γ ms k, rg sd Γ ms k → ∀ v σ H G F Q, SOk G v sd → EOk G σ Γ → Good H G F ms → KS sl σ G F k Q → g v σ H Q)
    (ht : ∀ Γ ms k x, rt Γ ms k x → ∀ σ H G F Q, EOk G σ Γ → Good H G F ms → KT G F k Q → XW W0 G F σ x → tt σ H Q)
    (hi1 : ∀ Γ ms k x, ri1 Γ ms k x → ∀ σ H G F R, EOk G σ Γ → Good H G F ms → KI G F k R → XW W0 G F σ x → wi1 σ H R)
    (hg1 : ∀ sd Γ ms k, rg1 sd Γ ms k → ∀ v σ H G F Q, SOk G v sd → EOk G σ Γ → Good H G F ms → KS sl1 σ G F k Q → g1 v σ H Q)
    (ht1 : ∀ Γ ms k x, rt1 Γ ms k x → ∀ σ H G F Q, EOk G σ Γ → Good H G F ms → KT G F k Q → XW W0 G F σ x → tt1 σ H Q)
    (he : ∀ Γ ms k x, re Γ ms k x → ∀ σ H G F Q, EOk G σ Γ → Good H G F ms → KE G F k Q → XW W0 G F σ x → te σ H Q)
    {Γ : Gam} {ms : MS} {k : SD → MS → Prop} {x : AX} (h : ri Γ ms (fun ds ms1 => lc2I rg rt ri1 rg1 rt1 re vs1 (wipeG Γ (own.map (·.2))) ds [] ms1 fun acc ms2 => k (.d (.lst acc)) ms2) x)
    {σ : L2.St} {H G F : Hp} {Q : VK} (ev : EOk G σ Γ) (gd : Good H G F ms) (kk : KE G F k Q) (xw : XW W G F σ x) : tLc2 wi g tt wi1 g1 tt1 te (own.map (·.2)) vs1 σ H Q := by
  refine hi Γ ms _ x h σ H G F _ ev gd (fun J H1 G1 ds ms1 e1 g1' q1 wk => ?_) xw
  intro Ad hD
  have fD := (g1'.fresh hD).2.2
  refine ⟨fun i m H' => ∃ G' acc accV ms', Ex G1 G' ∧ Good H' G' (upd F Ad (.lst accV)) ms' ∧ ShwL G' accV acc ∧ i ≤ ds.length ∧ m = ds.length - i ∧ lc2I rg rt ri1 rg1 rt1 re vs1 (wipeG Γ (own.map (·.2))) (ds.drop i) acc ms' fun acc ms2 => k (.d (.lst acc)) ms2,
    ⟨ds.length, G1, [], [], ms1, Ex.refl G1, g1'.asideN hD, .nil, Nat.zero_le _, rfl, q1⟩, ?_⟩
  rintro i m H' ⟨G', acc, accV, ms', e', g', sA, hi', rfl, q'⟩
  obtain ⟨w1, w2⟩ := wk i H' G' _ ms' e' g'
  by_cases hlt : i < ds.length
  · right
    obtain ⟨go, yl⟩ := w2 ds[i] (List.getElem?_eq_getElem hlt)
    rw [List.drop_eq_getElem_cons hlt] at q'
    refine ⟨go, fun H2 => ∃ G' acc accV ms', Ex G1 G' ∧ Good H2 G' (upd F Ad (.lst accV)) ms' ∧ ShwL G' accV acc ∧ i + 1 ≤ ds.length ∧ lc2I rg rt ri1 rg1 rt1 re vs1 (wipeG Γ (own.map (·.2))) (ds.drop (i + 1)) acc ms' fun acc ms2 => k (.d (.lst acc)) ms2, fun H2 hN => ?_, fun v H2 hy => ?_⟩
    · obtain ⟨G2, acc2, accV2, ms2, a1, a2, a3, a4, a5⟩ := hN
      exact ⟨ds.length - (i + 1), by omega, G2, acc2, accV2, ms2, a1, a2, a3, a4, rfl, a5⟩
    · obtain ⟨G2, e2, g2, sv⟩ := yl v H2 hy
      refine hg _ _ _ _ q' v _ H2 G2 _ _ (okd sv) ((ev.mono ((e1.trans e').trans e2)).wipe _) g2 fun σ3 H3 G3 Γ3 ms3 e3 ev3 g3 n3 q3 => ?_
      refine ⟨wipe_eq n3.1 n3.2 hs, ?_⟩
      refine ht _ _ _ _ q3 σ3 H3 G3 _ _ ev3 g3 (fun b H4 G4 ms4 e4 g4 q4 => ?_) xw_no
      have e14 := (e'.trans e2).trans (e3.trans e4)
      cases b with
      | false =>
        rw [if_neg Bool.false_ne_true] at q4 ⊢
        exact ⟨G4, acc, accV, ms4, e14, g4, sA.mono (e2.trans (e3.trans e4)), hlt, q4⟩
      | true =>
        rw [if_pos rfl] at q4 ⊢
        refine hi1 _ _ _ _ q4 σ3 H4 G4 _ _ (ev3.mono e4) g4 (fun J1 H5 G5 es ms5 e5 g5 q5 wk1 => ?_) xw_no
        have sA5 := sA.mono (e2.trans (e3.trans (e4.trans e5)))
        have ev5 := ((ev3.mono e4).mono e5).wipe vs1
        refine ⟨fun j m H' => ∃ G' acc accV ms', Ex G5 G' ∧ Good H' G' (upd F Ad (.lst accV)) ms' ∧ ShwL G' accV acc ∧ j ≤ es.length ∧ m = es.length - j ∧ lcI rg1 rt1 re (wipeG Γ3 vs1) (es.drop j) acc ms' fun acc' ms4 => lc2I rg rt ri1 rg1 rt1 re vs1 (wipeG Γ (own.map (·.2))) (ds.drop (i + 1)) acc' ms4 fun acc ms2 => k (.d (.lst acc)) ms2,
          ⟨es.length, G5, acc, accV, ms5, Ex.refl G5, g5, sA5, Nat.zero_le _, rfl, q5⟩, ?_⟩
        rintro j m H6 ⟨G6, acc6, accV6, ms6, e6, g6, sA6, hj, rfl, q6⟩
        obtain ⟨v1, v2⟩ := wk1 j H6 G6 _ ms6 e6 g6
        by_cases hlt1 : j < es.length
        · right
          obtain ⟨go1, yl1⟩ := v2 es[j] (List.getElem?_eq_getElem hlt1)
          rw [List.drop_eq_getElem_cons hlt1] at q6
          refine ⟨go1, fun H2 => ∃ G' acc accV ms', Ex G5 G' ∧ Good H2 G' (upd F Ad (.lst accV)) ms' ∧ ShwL G' accV acc ∧ j + 1 ≤ es.length ∧ lcI rg1 rt1 re (wipeG Γ3 vs1) (es.drop (j + 1)) acc ms' fun acc' ms4 => lc2I rg rt ri1 rg1 rt1 re vs1 (wipeG Γ (own.map (·.2))) (ds.drop (i + 1)) acc' ms4 fun acc ms2 => k (.d (.lst acc)) ms2, fun H2 hN => ?_, fun v H7 hy => ?_⟩
          · obtain ⟨G2, acc2, accV2, ms2, a1, a2, a3, a4, a5⟩ := hN
            exact ⟨es.length - (j + 1), by omega, G2, acc2, accV2, ms2, a1, a2, a3, a4, rfl, a5⟩
          · obtain ⟨G7, e7, g7, sv7⟩ := yl1 v H7 hy
            refine hg1 _ _ _ _ q6 v _ H7 G7 _ _ (okd sv7) (ev5.mono (e6.trans e7)) g7 fun σ8 H8 G8 Γ8 ms8 e8 ev8 g8 n8 q8 => ?_
            refine ⟨wipe_eq n8.1 n8.2 hs1, ?_⟩
            refine ht1 _ _ _ _ q8 σ8 H8 G8 _ _ ev8 g8 (fun b H9 G9 ms9 e9 g9 q9 => ?_) xw_no
            have e59 := (e6.trans e7).trans (e8.trans e9)
            cases b with
            | false =>
              rw [if_neg Bool.false_ne_true] at q9 ⊢
              exact ⟨G9, acc6, accV6, ms9, e59, g9, sA6.mono (e7.trans (e8.trans e9)), hlt1, q9⟩
            | true =>
              rw [if_pos rfl] at q9 ⊢
              refine he _ _ _ _ q9 σ8 H9 G9 _ _ (ev8.mono e9) g9 (fun y Ha Ga sd msa ea ga sa qa => ?_) xw_no
              obtain ⟨dv, sdv, hz, qa⟩ := asD_ok sa qa
              exact ⟨accV6, (ga.fr Ad _ upd_same).1, by rw [sA6.length]; exact hz, Ga, acc6 ++ [dv], accV6 ++ [y], msa, e59.trans ea, ga.asideW, (sA6.mono (e7.trans (e8.trans (e9.trans ea)))).append (.cons sdv .nil), hlt1, qa⟩
        · left
          rw [List.drop_eq_nil_of_le (by omega)] at q6
          exact ⟨v1 (by omega), G6, acc6, accV6, ms6, (e14.trans e5).trans e6, g6, sA6, hlt, q6⟩
  · left
    refine ⟨w1 (by omega), ?_⟩
    rw [List.drop_eq_nil_of_le (by omega)] at q'
    obtain ⟨g6, e6⟩ := g'.back fD
    exact kk _ _ _ _ _ ((e1.trans e').trans e6) g6 (okd (.lst upd_same (sA.mono e6))) q'
theorem as_setLc2 (i : Nat) (hc : X.calm = true) (hN : X.N.Nodup) (hi : AI X W tg iter wi ri) (ok : BlkOk X.N X.env.scope scope own) (hv : ∀ i ∈ vs1, i ∈ own.map (·.2)) (hs : ∀ j ∈ sl, j ∈ own.map (·.2)) (hs1 : ∀ j ∈ sl1, j ∈ vs1)
    (hg : ∀ (s : Shared) (H : Hp) (C : Addr) (cl : List (Str × Addr)) (fp : List Addr), AG (X.blk s H scope (compEnvC scope cl C X.env) fp) tg sl g rg) (ht : ∀ (s : Shared) (H : Hp) (C : Addr) (cl : List (Str × Addr)) (fp : List Addr), ATs (X.blk s H scope (compEnvC scope cl C X.env) fp) W0 ifs tt rt)
    (hi1 : ∀ (s : Shared) (H : Hp) (C : Addr) (cl : List (Str × Addr)) (fp : List Addr), AI (X.blk s H scope (compEnvC scope cl C X.env) fp) W0 tg1 iter1 wi1 ri1)
    (hg1 : ∀ (s : Shared) (H : Hp) (C : Addr) (cl : List (Str × Addr)) (fp : List Addr), AG (X.blk s H scope (compEnvC scope cl C X.env) fp) tg1 sl1 g1 rg1) (ht1 : ∀ (s : Shared) (H : Hp) (C : Addr) (cl : List (Str × Addr)) (fp : List Addr), ATs (X.blk s H scope (compEnvC scope cl C X.env) fp) W0 ifs1 tt1 rt1)
    (he : ∀ (s : Shared) (H : Hp) (C : Addr) (cl : List (Str × Addr)) (fp : List Addr), AE (X.blk s H scope (compEnvC scope cl C X.env) fp) W0 elt te re)
    (hsw : swapsWith (.ListComp elt [⟨tg, iter, ifs, 0⟩, ⟨tg1, iter1, ifs1, 0⟩] scope pos) (some (.Name x py)) spos.line X.env = pure true) (hy : X.N[i]? = some x := by rfl) (hyl : X.env.scope.names.lookup x = some .local := by rfl) (hf : ∀ x, foldedSetIterable iter X.env x = pure x := by intro _; rfl) (hf1 : ∀ env x, foldedSetIterable iter1 env x = pure x := by intro _ _; rfl) :
    AS X W (.Assign [.Name x py] (.ListComp elt [⟨tg, iter, ifs, 0⟩, ⟨tg1, iter1, ifs1, 0⟩] scope pos) spos) (tAsg (tLc2 wi g tt wi1 g1 tt1 te (own.map (·.2)) vs1) (gName i)) (rSet i (fun Γ ms k x => ri Γ ms (fun ds ms1 => lc2I rg rt ri1 rg1 rt1 re vs1 (wipeG Γ (own.map (·.2))) ds [] ms1 fun acc ms2 => k (.d (.lst acc)) ms2) x)) :=
  ⟨ps_setLc2 hc hN hy hyl hsw hi.pe ok hv (fun a b c d e => (hg a b c d e).pe) (fun a b c d e => (ht a b c d e).pe) (fun a b c d e => (hi1 a b c d e).pe) (fun a b c d e => (hg1 a b c d e).pe) (fun a b c d e => (ht1 a b c d e).pe) (fun a b c d e => (he a b c d e).pe) hf hf1,
    fun A Γ ms h σ H G F D ev g' f => lc2_sound (W := W) hs hs1 hi.ok (hg X.s_0 X.H_0 0 [] []).ok (ht X.s_0 X.H_0 0 [] []).ok (hi1 X.s_0 X.H_0 0 [] []).ok (hg1 X.s_0 X.H_0 0 [] []).ok (ht1 X.s_0 X.H_0 0 [] []).ok (he X.s_0 X.H_0 0 [] []).ok (Γ := Γ) (ms := ms) (k := fun sd ms1 => A.nx (Γ.set i (some sd)) ms1) (x := A.x Γ) h ev g' (fun v H2 G2 sd ms2 e2 g2 s2 q => f.nx _ H2 G2 _ ms2 e2 ((ev.mono e2).set s2 i) g2 q) (f.x σ Γ G (Ex.refl G) ev)⟩
theorem ae_lc2 (hc : X.calm = true) (hN : X.N.Nodup) (hi : AI X W tg iter wi ri) (ok : BlkOk X.N X.env.scope scope own) (hv : ∀ i ∈ vs1, i ∈ own.map (·.2)) (hs : ∀ j ∈ sl, j ∈ own.map (·.2)) (hs1 : ∀ j ∈ sl1, j ∈ vs1)
    (hg : ∀ (s : Shared) (H : Hp) (C : Addr) (cl : List (Str × Addr)) (fp : List Addr), AG (X.blk s H scope (compEnvC scope cl C X.env) fp) tg sl g rg) (ht : ∀ (s : Shared) (H : Hp) (C : Addr) (cl : List (Str × Addr)) (fp : List Addr), ATs (X.blk s H scope (compEnvC scope cl C X.env) fp) W0 ifs tt rt)
    (hi1 : ∀ (s : Shared) (H : Hp) (C : Addr) (cl : List (Str × Addr)) (fp : List Addr), AI (X.blk s H scope (compEnvC scope cl C X.env) fp) W0 tg1 iter1 wi1 ri1)
    (hg1 : ∀ (s : Shared) (H : Hp) (C : Addr) (cl : List (Str × Addr)) (fp : List Addr), AG (X.blk s H scope (compEnvC scope cl C X.env) fp) tg1 sl1 g1 rg1) (ht1 : ∀ (s : Shared) (H : Hp) (C : Addr) (cl : List (Str × Addr)) (fp : List Addr), ATs (X.blk s H scope (compEnvC scope cl C X.env) fp) W0 ifs1 tt1 rt1)
    (he : ∀ (s : Shared) (H : Hp) (C : Addr) (cl : List (Str × Addr)) (fp : List Addr), AE (X.blk s H scope (compEnvC scope cl C X.env) fp) W0 elt te re) (hf : ∀ x, foldedSetIterable iter X.env x = pure x := by intro _; rfl) (hf1 : ∀ env x, foldedSetIterable iter1 env x = pure x := by intro _ _; rfl) :
    AE X W (.ListComp elt [⟨tg, iter, ifs, 0⟩, ⟨tg1, iter1, ifs1, 0⟩] scope pos) (tLc2 wi g tt wi1 g1 tt1 te (own.map (·.2)) vs1) (fun Γ ms k x => ri Γ ms (fun ds ms1 => lc2I rg rt ri1 rg1 rt1 re vs1 (wipeG Γ (own.map (·.2))) ds [] ms1 fun acc ms2 => k (.d (.lst acc)) ms2) x) :=
  ⟨pe_lc2 hc hN hi.pe ok hv (fun a b c d e => (hg a b c d e).pe) (fun a b c d e => (ht a b c d e).pe) (fun a b c d e => (hi1 a b c d e).pe) (fun a b c d e => (hg1 a b c d e).pe) (fun a b c d e => (ht1 a b c d e).pe) (fun a b c d e => (he a b c d e).pe) hf hf1,
    fun _ _ _ _ h σ H G F Q ev gd kk xw => lc2_sound hs hs1 hi.ok (hg X.s_0 X.H_0 0 [] []).ok (ht X.s_0 X.H_0 0 [] []).ok (hi1 X.s_0 X.H_0 0 [] []).ok (hg1 X.s_0 X.H_0 0 [] []).ok (ht1 X.s_0 X.H_0 0 [] []).ok (he X.s_0 X.H_0 0 [] []).ok h ev gd kk xw⟩
end
/-! ### a def with a star parameter behind one parameter -/
theorem star_A {P : Program} {w : World} {K : PySem.W.Frag} {mg : Str → Option Value} {base : Heap} {CX : CXT} {k : Nat} {f : Addr} {R : AFn} {n : Nat}
    (h : FnR P w K mg base CX k f (fun vs H Q E => ∃ ws rest, vs = ws ++ rest ∧ ws.length = n ∧ rest.length ≤ sizeLine ∧ ∀ p, H p = none → spA R (ws ++ [V.ref p]) (upd H p (.tup rest)) Q E)) :
    FnR P w K mg base CX k f (spA fun sds ms kk x => ∃ as ds, sds = as ++ ds.map SD.d ∧ as.length = n ∧ ds.length ≤ sizeLine ∧ R (as ++ [.d (.tup ds)]) ms kk x) := h.imp fun vs H Q E hs => by
  obtain ⟨sds, G, F, ms, kk, x, s, g, ⟨as, ds, rfl, hn, hl, r⟩, kq, xe⟩ := hs
  have split : ∀ {as bs : List SD} {vs : List V}, SOkL G vs (as ++ bs) → ∃ v1 v2, vs = v1 ++ v2 ∧ SOkL G v1 as ∧ SOkL G v2 bs := by
    intro as
    induction as with
    | nil => intro bs vs s; exact ⟨[], vs, rfl, .nil, s⟩
    | cons a r ih =>
      intro bs vs s
      cases s with
      | cons h t =>
        obtain ⟨v1, v2, e, h1, h2⟩ := ih t
        exact ⟨_ :: v1, v2, by rw [e]; rfl, .cons h h1, h2⟩
  have datL : ∀ {ds : List D} {vs : List V}, SOkL G vs (ds.map SD.d) → ShwL G vs ds := by
    intro ds
    induction ds with
    | nil => intro vs s; cases s; exact .nil
    | cons d r ih =>
      intro vs s
      cases s with
      | cons h t => exact .cons h (ih t)
  obtain ⟨v1, v2, rfl, s1, s2⟩ := split s
  have sd := datL s2
  refine ⟨v1, v2, rfl, by rw [s1.length, hn], by rw [sd.length]; exact hl, fun p hp => ?_⟩
  refine ⟨_, upd G p (.tup v2), F, ms, kk, x, ?_, g.new hp, r, fun v H2 G2 sd2 ms2 e2 => kq v H2 G2 sd2 ms2 ((g.exn hp).trans e2), fun C d f u dv H2 G2 ms2 e2 => xe C d f u dv H2 G2 ms2 ((g.exn hp).trans e2)⟩
  have app : ∀ {as bs : List SD} {v1 v2 : List V} {G : Hp}, SOkL G v1 as → SOkL G v2 bs → SOkL G (v1 ++ v2) (as ++ bs) := by
    intro as bs v1 v2 G h1 h2
    induction h1 with
    | nil => exact h2
    | cons a _ ih => exact .cons a ih
  exact app (s1.mono (g.exn hp)) (.cons (okd (.tup upd_same (sd.mono (g.exn hp)))) .nil)
end AL

/-! ## AbsS -/
set_option Elab.async false
set_option linter.all false
set_option maxRecDepth 100000
set_option maxHeartbeats 2000000
namespace AL
open PySem PySem.Spec PyProof.Rows L2
/-! ### steps through a reading -/
section
variable {A : AEnd} {Γ : Gam} {ms : MS} {k : SD → MS → Prop} {x : AX} {r s : ASR} {re ro ri : AER} {i : Nat} {kz : SD → Prop} {rg : AGR} {rc : ATR} {kb : Bool → Prop}
theorem s_seq (h : r { A with nx := s A } Γ ms) : rSeq r s A Γ ms := h
theorem s_set (h : re Γ ms (fun sd ms1 => A.nx (Γ.set i (some sd)) ms1) (A.x Γ)) : rSet i re A Γ ms := h
theorem s_nx (h : A.nx Γ ms) : rNx A Γ ms := h
theorem s_if (h : rc Γ ms (fun b ms1 => if b = true then r A Γ ms1 else s A Γ ms1) (A.x Γ)) : rIf rc r s A Γ ms := h
theorem s_ret (h : re Γ ms A.rt (A.x Γ)) : rRet re A Γ ms := h
theorem s_drop (h : re Γ ms (fun _ ms1 => A.nx Γ ms1) (A.x Γ)) : rDrop re A Γ ms := h
theorem s_asg (h : re Γ ms (fun sd ms1 => rg sd Γ ms1 A.nx) (A.x Γ)) : rAsg re rg A Γ ms := h
theorem s_gN {sd : SD} {kk : Gam → MS → Prop} (h : kk (Γ.set i (some sd)) ms) : gN i sd Γ ms kk := h
theorem s_v {sd : SD} (e : Γ[i]? = some (some sd)) (h : k sd ms) : rV i Γ ms k x := by unfold rV; rw [e]; exact h
theorem s_asB {b : Bool} (h : kb b) : asB kb (.d (.bl b)) := h
theorem s_asI {j : Int} {ki : Int → Prop} (h : ki j) : asI ki (.d (.int j)) := h
theorem s_asD {d : D} {kd : D → Prop} (h : kd d) : asD kd (.d d) := h
theorem s_nil {kd : List D → Prop} (h : kd []) : asDs [] kd := h
theorem s_cons {d : D} {l : List SD} {kd : List D → Prop} (h : asDs l fun ds => kd (d :: ds)) : asDs (.d d :: l) kd := h
theorem s_addI {a b : Int} (h : kz (.d (.int (a + b)))) : oAdd ms (.d (.int a)) (.d (.int b)) kz := h
theorem s_addS {a b : Str} (z : a.length + b.length ≤ sizeLine) (h : kz (.d (.str (a ++ b)))) : oAdd ms (.d (.str a)) (.d (.str b)) kz := ⟨z, h⟩
theorem s_addT {a b : List D} (z : a.length + b.length ≤ sizeLine) (h : kz (.d (.tup (a ++ b)))) : oAdd ms (.d (.tup a)) (.d (.tup b)) kz := ⟨z, h⟩
theorem s_addL {a b : List D} (z : a.length + b.length ≤ sizeLine) (h : kz (.d (.lst (a ++ b)))) : oAdd ms (.d (.lst a)) (.d (.lst b)) kz := ⟨a, b, rfl, rfl, z, h⟩
theorem s_I0 {f : Int → Int → D} {a b : Int} (h : kz (.d (f a b))) : oI0 f ms (.d (.int a)) (.d (.int b)) kz := h
theorem s_I {C : Int → Int → Prop} {f : Int → Int → D} {a b : Int} (c : C a b) (h : kz (.d (f a b))) : oI C f ms (.d (.int a)) (.d (.int b)) kz := ⟨c, h⟩
theorem s_neg {a : Int} (h : kz (.d (.int (-a)))) : oNeg ms (.d (.int a)) kz := h
theorem s_eqI {neg : Bool} {a b : Int} (h : kz (.d (.bl (neg ^^ decide (a = b))))) : oEq neg ms (.d (.int a)) (.d (.int b)) kz := h
theorem s_eqS {neg : Bool} {a b : Str} (h : kz (.d (.bl (neg ^^ decide (a = b))))) : oEq neg ms (.d (.str a)) (.d (.str b)) kz := h
theorem s_ltI {a b : Int} (h : kz (.d (.bl (decide (a < b))))) : oLt ms (.d (.int a)) (.d (.int b)) kz := h
theorem s_isN {neg : Bool} {x : SD} (h : kz (.d (.bl (neg ^^ x.isNon)))) : oIsN neg ms x (.d .non) kz := h
theorem s_int {a : Int} (h : kz (.d (.int a))) : oInt ms [.d (.int a)] kz := h
theorem s_abs {a : Int} (h : kz (.d (.int a.natAbs))) : oAbs ms [.d (.int a)] kz := h
theorem seqOf_m {p : Addr} {ds : List D} (h : ms p = some (.l ds)) : seqOf ms (.v (.ref p)) = some ds := by
  show (match ms p with | some (.l ds) => some ds | _ => none) = some ds
  rw [h]
theorem lstOf_m {p : Addr} {ds : List D} (h : ms p = some (.l ds)) : lstOf ms (.v (.ref p)) = some ds := by
  show (match ms p with | some (.l ds) => some ds | _ => none) = some ds
  rw [h]
theorem s_len {sd : SD} {ds : List D} (e : seqOf ms sd = some ds) (h : kz (.d (.int ds.length))) : oLen ms [sd] kz := by
  unfold oLen
  split
  · rename_i q; cases q; cases e
  · rename_i q; cases q; exact ⟨ds, e, h⟩
  · rename_i a _ h2; exact (h2 sd rfl).elim
theorem s_lenS {z : Str} (hz : z.length ≤ sizeLine) (h : kz (.d (.int z.length))) : oLen ms [.d (.str z)] kz := ⟨hz, h⟩
theorem s_tup {sd : SD} {ds : List D} (e : seqOf ms sd = some ds) (h : kz (.d (.tup ds))) : oTup ms [sd] kz := ⟨ds, e, h⟩
theorem s_list {sd : SD} {ds : List D} (e : seqOf ms sd = some ds) (h : kz (.d (.lst ds))) : oList ms [sd] kz := ⟨ds, e, h⟩
theorem s_ix {sd : SD} {ds : List D} {j : Int} {d : D} (e : seqOf ms sd = some ds) (e2 : atI ds j = some d) (h : kz (.d d)) : oIx ms sd (.d (.int j)) kz := .inl ⟨ds, j, d, e, rfl, e2, h⟩
theorem s_ixS {z : Str} {j : Int} {c : Nat} (hz : z.length ≤ sizeLine) (e2 : atI z.cps.toList j = some c) (h : kz (.d (.str ⟨#[c]⟩))) : oIx ms (.d (.str z)) (.d (.int j)) kz := .inr (.inl ⟨z, j, c, rfl, rfl, hz, e2, h⟩)
theorem s_ite {b : Bool} {P Q : Prop} (h1 : b = true → P) (h2 : b = false → Q) : if b = true then P else Q := by
  cases b with
  | true => exact h1 rfl
  | false => exact h2 rfl
theorem s_iteT {b : Bool} {P Q : Prop} (e : b = true) (h1 : P) : if b = true then P else Q := by rw [if_pos e]; exact h1
theorem s_iteF {b : Bool} {P Q : Prop} (e : b = false) (h1 : Q) : if b = true then P else Q := by rw [e]; exact h1
theorem s_put (h : re Γ ms (fun v ms1 => ro Γ ms1 (fun u ms2 => ri Γ ms2 (fun w ms3 => asD (fun dv => oPut ms3 u w dv (A.nx Γ)) v) (A.x Γ)) (A.x Γ)) (A.x Γ)) : rPut ro ri re A Γ ms := h
theorem s_putL {p : Addr} {ds : List D} {j : Int} {n : Nat} {dv : D} {K1 : MS → Prop} (hp : ms p = some (.l ds)) (hj : ixN ds.length j = some n) (h : K1 (mu ms p (.l (ds.set n dv)))) : oPut ms (.v (.ref p)) (.d (.int j)) dv K1 :=
  ⟨p, rfl, .inl ⟨ds, j, n, hp, rfl, hj, h⟩⟩
theorem s_putT {p : Addr} {kvs : List (List Key × D)} {ks : List D} {kk : List Key} {dv : D} {K1 : MS → Prop} (hp : ms p = some (.t kvs)) (hk : keysOf ks = some kk) (hl : kvs.length < sizeLine) (h : K1 (mu ms p (.t (putKD kvs kk dv)))) : oPut ms (.v (.ref p)) (.d (.tup ks)) dv K1 :=
  ⟨p, rfl, .inr (.inl ⟨kvs, ks, kk, hp, rfl, hk, hl, h⟩)⟩
theorem s_app (h : ro Γ ms (fun u ms1 => oL ms1 u fun p => re Γ ms1 (fun v ms2 => oApp ms2 p v k) x) x) : rApp ro re Γ ms k x := h
theorem s_ext (h : ro Γ ms (fun u ms1 => oL ms1 u fun p => re Γ ms1 (fun v ms2 => oExt ms2 p v k) x) x) : rExt ro re Γ ms k x := h
theorem s_oL {p : Addr} {ds : List D} {K1 : Addr → Prop} (hp : ms p = some (.l ds)) (h : K1 p) : oL ms (.v (.ref p)) K1 := ⟨p, ds, rfl, hp, h⟩
theorem s_oApp {p : Addr} {ds : List D} {d : D} (hp : ms p = some (.l ds)) (hl : ds.length < sizeLine) (h : k (.d .non) (mu ms p (.l (ds ++ [d])))) : oApp ms p (.d d) k := ⟨d, ds, rfl, hp, hl, h⟩
theorem s_oExt {p : Addr} {ds es : List D} {sd : SD} (e : lstOf ms sd = some es) (hp : ms p = some (.l ds)) (hl : ds.length + es.length ≤ sizeLine) (h : k (.d .non) (mu ms p (.l (ds ++ es)))) : oExt ms p sd k := ⟨es, ds, e, hp, hl, h⟩
theorem s_fld {C : Addr} {fs : List (Str × D)} {f : Str} {d : D} (e : fs.lookup f = some d) (h : kz (.d d)) : oFld C f ms (.d (.ins C fs)) kz := ⟨rfl, d, e, h⟩
theorem s_tt {P Q : Prop} (h : P) : if true = true then P else Q := by rw [if_pos rfl]; exact h
theorem s_ff {P Q : Prop} (h : Q) : if false = true then P else Q := by rw [if_neg Bool.false_ne_true]; exact h
theorem s_dat {sd : SD} {ds : List D} {kd : List D → Prop} (e : datOf sd = some ds) (h : kd ds) : oDat sd kd := ⟨ds, e, h⟩
theorem s_rng {j : Int} {kd : List D → Prop} (h1 : -(2 ^ 62) ≤ j ∧ j < 2 ^ 62) (h : kd (rngD 0 j.toNat)) : oRng1 j kd := ⟨h1.1, h1.2, h⟩
theorem s_for {ri : AIR} (h : ri Γ ms (fun ds ms1 => forR rg r ds A Γ ms1) (A.x Γ)) : rFor ri rg r A Γ ms := h
end
section
variable {rg : AGR} {rt : ATR} {re : AER} {Γ0 : Gam} {ms : MS} {kk : List D → MS → Prop}
/-- a comprehension by an invariant -/
theorem lcI_inv {ds acc : List D} (P : Nat → List D → MS → Prop) (h0 : P 0 acc ms)
    (hs : ∀ i d acc ms, ds[i]? = some d → P i acc ms → ∀ N : List D → MS → Prop, (∀ acc' ms', P (i + 1) acc' ms' → N acc' ms') → rg (.d d) Γ0 ms fun Γ1 ms1 => rt Γ1 ms1 (fun b ms2 => if b = true then re Γ1 ms2 (fun sd ms3 => asD (fun dv => acc.length < sizeLine ∧ N (acc ++ [dv]) ms3) sd) noX else N acc ms2) noX)
    (hd : ∀ acc ms, P ds.length acc ms → kk acc ms) : lcI rg rt re Γ0 ds acc ms kk := by
  have main : ∀ n i acc ms, i + n = ds.length → P i acc ms → lcI rg rt re Γ0 (ds.drop i) acc ms kk := by
    intro n
    induction n with
    | zero =>
      intro i acc ms hi hp
      have e : i = ds.length := by omega
      subst e
      rw [List.drop_length]
      exact hd acc ms hp
    | succ n ih =>
      intro i acc ms hi hp
      have hlt : i < ds.length := by omega
      rw [List.drop_eq_getElem_cons hlt]
      exact hs i _ acc ms (List.getElem?_eq_getElem hlt) hp _ fun acc2 ms2 h2 => ih (i + 1) acc2 ms2 (by omega) h2
  exact main ds.length 0 acc ms (by omega) h0
/-- one turn -/
def lcS (rg : AGR) (rt : ATR) (re : AER) (Γ0 : Gam) (d : D) (acc : List D) (ms : MS) (N : List D → MS → Prop) : Prop := rg (.d d) Γ0 ms fun Γ1 ms1 => rt Γ1 ms1 (fun b ms2 => if b = true then re Γ1 ms2 (fun sd ms3 => asD (fun dv => acc.length < sizeLine ∧ N (acc ++ [dv]) ms3) sd) noX else N acc ms2) noX
/-- one that maps and picks, the store as it is -/
theorem lcI_fm {α : Type} {enc f : α → D} {p : α → Bool} {xs : List α} (hz : xs.length ≤ sizeLine)
    (hs : ∀ x ∈ xs, ∀ (acc : List D) (N : List D → MS → Prop), acc.length < sizeLine → N (acc ++ if p x = true then [f x] else []) ms → lcS rg rt re Γ0 (enc x) acc ms N) (h : kk ((xs.filter p).map f) ms) : lcI rg rt re Γ0 (xs.map enc) [] ms kk := by
  refine lcI_inv (fun i acc ms' => ms' = ms ∧ acc = ((xs.take i).filter p).map f) ⟨rfl, by simp⟩ (fun i d acc ms' hd hP N hN => ?_) fun acc ms' hP => ?_
  · obtain ⟨rfl, rfl⟩ := hP
    rw [List.getElem?_map] at hd
    cases hx : xs[i]? with
    | none => rw [hx] at hd; cases hd
    | some x =>
      rw [hx] at hd
      cases hd
      have hi : i < xs.length := (List.getElem?_eq_some_iff.mp hx).1
      have hl : (((xs.take i).filter p).map f).length < sizeLine := by
        rw [List.length_map]
        have h1 := List.length_filter_le p (xs.take i)
        rw [List.length_take] at h1
        omega
      refine hs x (List.mem_of_getElem? hx) _ N hl (hN _ _ ⟨rfl, ?_⟩)
      rw [List.take_add_one, hx]
      simp only [Option.toList_some, List.filter_append, List.map_append, List.filter_cons, List.filter_nil]
      split <;> simp
  · obtain ⟨rfl, rfl⟩ := hP
    rw [List.length_map, List.take_length]
    exact h
theorem lcI_map {α : Type} {enc f : α → D} {xs : List α} (hz : xs.length ≤ sizeLine)
    (hs : ∀ x ∈ xs, ∀ (acc : List D) (N : List D → MS → Prop), acc.length < sizeLine → N (acc ++ [f x]) ms → lcS rg rt re Γ0 (enc x) acc ms N) (h : kk (xs.map f) ms) : lcI rg rt re Γ0 (xs.map enc) [] ms kk :=
  lcI_fm (p := fun _ => true) hz (fun x hx acc N h1 h2 => hs x hx acc N h1 h2) (by rw [List.filter_eq_self.mpr (fun _ _ => rfl)]; exact h)
theorem s_lcS {d : D} {acc : List D} {N : List D → MS → Prop} (h : rg (.d d) Γ0 ms fun Γ1 ms1 => rt Γ1 ms1 (fun b ms2 => if b = true then re Γ1 ms2 (fun sd ms3 => asD (fun dv => acc.length < sizeLine ∧ N (acc ++ [dv]) ms3) sd) noX else N acc ms2) noX) : lcS rg rt re Γ0 d acc ms N := h
end
end AL

/-! ## AbsT -/
set_option Elab.async false
set_option linter.all false
set_option maxRecDepth 100000
set_option maxHeartbeats 2000000
namespace AL
open PySem PySem.Spec PyProof.Rows L2
theorem md_same {ms : MS} {a : Addr} : md ms a a = none := if_pos rfl
theorem md_ne {ms : MS} {a b : Addr} (h : b ≠ a) : md ms a b = ms b := if_neg h
section
variable {Γ : Gam} {ms : MS} {k : SD → MS → Prop} {x : AX} {kz : SD → Prop}
theorem s_slT {lo hi : Option Int} {ds : List D} (h : kz (.d (.tup (cutD ds lo hi)))) : oSl lo hi ms (.d (.tup ds)) kz := h
theorem s_slL {lo hi : Option Int} {ds : List D} (h : kz (.d (.lst (cutD ds lo hi)))) : oSl lo hi ms (.d (.lst ds)) kz := ⟨ds, rfl, h⟩
theorem s_slS {lo hi : Option Int} {z : Str} (hz : z.length ≤ sizeLine) (h : kz (.d (.str (cutS z lo hi)))) : oSl lo hi ms (.d (.str z)) kz := ⟨hz, h⟩
theorem s_isi {d : D} {T t : String} {b : Bool} (e : d.ty = some t) (e2 : kitB t T = some b) (h : kz (.d (.bl b))) : oIsi ms [.d d, .v (.ty T)] kz := ⟨t, b, e, e2, h⟩
theorem s_str {i : Int} (hi : i.natAbs.log2 < 1920) (h : kz (.d (.str (toString i)))) : oStr ms [.d (.int i)] kz := ⟨hi, h⟩
theorem s_max {i j : Int} (h : kz (.d (.int (max i j)))) : oMax2 ms [.d (.int i), .d (.int j)] kz := by
  show kz _
  rw [show max i j = if j > i then j else i by rw [Int.max_def]; split <;> split <;> omega] at h
  exact h
theorem s_eqD {neg : Bool} {a b : D} (ha : a.fit 64 = true) (hb : b.fit 64 = true) (h : kz (.d (.bl (neg ^^ a.eqv b)))) : oEq neg ms (.d a) (.d b) kz := oEq_deep ha hb h
theorem s_inS {neg : Bool} {y : SD} {ds : List D} {a : D} (e : seqOf ms y = some ds) (h1 : a.fit 64 = true) (h2 : fitL ds 63 = true) (h : kz (.d (.bl (neg ^^ ds.any fun z => z.eqv a)))) : oIn neg ms (.d a) y kz := .inl ⟨ds, a, e, rfl, h1, h2, h⟩
theorem s_inC {neg : Bool} {c : Nat} {z : Str} (h : kz (.d (.bl (neg ^^ decide (c ∈ z.cps.toList))))) : oIn neg ms (.d (.str ⟨#[c]⟩)) (.d (.str z)) kz := .inr (.inl ⟨c, z, rfl, rfl, h⟩)
theorem s_inT {neg : Bool} {p : Addr} {kvs : List (List Key × D)} {ds : List D} {ks : List Key} (hp : ms p = some (.t kvs)) (hk : keysOf ds = some ks) (h : kz (.d (.bl (neg ^^ (valD kvs ks).isSome)))) : oIn neg ms (.d (.tup ds)) (.v (.ref p)) kz := by
  refine .inr (.inr ⟨valD kvs ks, ?_, h⟩)
  show (match ms p, keysOf ds with | some (.t kvs), some ks => some (valD kvs ks) | _, _ => none) = _
  rw [hp, hk]
end
theorem cutD_take (ds : List D) (n : Nat) : cutD ds none (some (n : Int)) = ds.take n := by
  unfold cutD
  rw [HT.sIx_none, HT.sIx_nat, List.drop_zero, Nat.sub_zero]
  by_cases h : n ≤ ds.length
  · rw [Nat.min_eq_left h]
  · rw [Nat.min_eq_right (by omega), List.take_length, List.take_of_length_le (by omega)]
theorem cutD_drop (ds : List D) (n : Nat) : cutD ds (some (n : Int)) none = ds.drop n := by
  unfold cutD
  rw [HT.sIx_none, HT.sIx_nat]
  by_cases h : n ≤ ds.length
  · rw [Nat.min_eq_left h, List.take_of_length_le (by rw [List.length_drop]; omega)]
  · rw [Nat.min_eq_right (by omega), List.drop_of_length_le (Nat.le_refl _), List.drop_of_length_le (by omega)]; simp
theorem cutD_last (ds : List D) : cutD ds none (some (-1)) = ds.dropLast := by
  unfold cutD
  rw [HT.sIx_none, List.drop_zero, Nat.sub_zero, List.dropLast_eq_take]
  congr 1
  show ((-1 : Int) + (ds.length : Int)).toNat = _
  omega
theorem cutS_take (z : Str) (n : Nat) : (cutS z none (some (n : Int))).cps.toList = z.cps.toList.take n := by
  unfold cutS
  rw [HT.sIx_none, HT.sIx_nat, List.drop_zero, Nat.sub_zero]
  have hz : z.length = z.cps.toList.length := by rw [Array.length_toList]; rfl
  rw [hz]
  show (z.cps.toList.take _) = _
  by_cases h : n ≤ z.cps.toList.length
  · rw [Nat.min_eq_left h]
  · rw [Nat.min_eq_right (by omega), List.take_length, List.take_of_length_le (by omega)]
theorem cutS_drop (z : Str) (n : Nat) : (cutS z (some (n : Int)) none).cps.toList = z.cps.toList.drop n := by
  unfold cutS
  rw [HT.sIx_none, HT.sIx_nat]
  have hz : z.length = z.cps.toList.length := by rw [Array.length_toList]; rfl
  rw [hz]
  show ((z.cps.toList.drop _).take _) = _
  by_cases h : n ≤ z.cps.toList.length
  · rw [Nat.min_eq_left h, List.take_of_length_le (by rw [List.length_drop]; omega)]
  · rw [Nat.min_eq_right (by omega), List.drop_of_length_le (Nat.le_refl _), List.drop_of_length_le (by omega)]; simp
theorem str_len (z : Str) : z.length = z.cps.toList.length := by rw [Array.length_toList]; rfl
theorem str_app (a b : Str) : (a ++ b).cps.toList = a.cps.toList ++ b.cps.toList := by
  show (a.cps ++ b.cps).toList = _
  rw [Array.toList_append]
theorem str_ext {a b : Str} (h : a.cps.toList = b.cps.toList) : a = b := PySem.W.str_of_cps h
end AL

/-! ## AbsU -/
set_option Elab.async false
set_option linter.all false
set_option maxRecDepth 100000
set_option maxHeartbeats 2000000
namespace AL
open PySem PySem.Spec PyProof.Rows L2
open Evl (Ex)
/-! ### the same inside a comprehension's block: the module's name is told, not found -/
section
variable {X : Cx} {W : WX} {pos p p1 p2 p3 : Pos} {a b e : Expr} {ra rb re : AER} {ta tb te : TE} {tl th : TO} {lo hi : Option Expr} {rl rh : AOR} {K : PySem.W.Frag}
theorem opK_add (hK : X.K = K) : OpR X (binaryOp .Add) (rAddA K) := hK ▸ op_addA
theorem opK_eq (hK : X.K = K) (hu : X.A.units + 64 < cLine) : OpR X (compareOp .Eq) (rEqA K) := hK ▸ op_eqA hu
theorem opK_ne (hK : X.K = K) (hu : X.A.units + 64 < cLine) : OpR X (compareOp .NotEq) (rNeA K) := hK ▸ op_neA hu
theorem opK_lt (hK : X.K = K) (hu : X.A.units + 64 < cLine) : OpR X (compareOp .Lt) (rLtA K) := hK ▸ op_ltA hu
theorem opK_in (hK : X.K = K) (hu : X.A.units + 65 < cLine) : OpR X (compareOp .In) (rInA K) := hK ▸ op_inA hu
theorem opK_nin (hK : X.K = K) (hu : X.A.units + 65 < cLine) : OpR X (compareOp .NotIn) (rNinA K) := hK ▸ op_ninA hu
theorem ae_ixK (hK : X.K = K) (hu : X.A.units + 1 < cLine) (ha : AE X W a ta ra) (hb : AE X W b tb rb) (hs : PlainIx b := by exact fun _ _ => rfl) :
    AE X W (.Subscript a b pos) (tOp (rIxA K) ta tb) (fun Γ ms k x => ra Γ ms (fun u ms1 => rb Γ ms1 (fun v ms2 => oIx ms2 u v fun z => k z ms2) x) x) := hK ▸ ae_ix hu ha hb hs
theorem ae_slK (hK : X.K = K) (ha : AE X W a ta ra) (hl : AO X W lo tl rl) (hh : AO X W hi th rh) :
    AE X W (.Subscript a (.Slice lo hi none p2) pos) (tSl (rSlAny K) ta tl th) (fun Γ ms k x => ra Γ ms (fun u ms1 => rl Γ ms1 (fun l ms2 => rh Γ ms2 (fun h ms3 => oSl l h ms3 u fun z => k z ms3) x) x) x) := hK ▸ ae_sl ha hl hh
theorem ae_fldK {C : Addr} {f : Str} (hK : X.K = K) (c : Cls X.K C) (n : NoAttr X.K C f) (ho : AE X W e te re) (hb : attributeBase e f X.env (eval e X.env) = eval e X.env := by rfl) :
    AE X W (.Attribute e f pos) (tFld K te f) (fun Γ ms k x => re Γ ms (fun u ms1 => oFld C f ms1 u fun z => k z ms1) x) := hK ▸ ae_fld c n ho hb
theorem callK_len (hK : X.K = K) : CallR X (.builtin "len") (fun xs H Q => ∃ x n, xs = [x] ∧ LenV K x H n ∧ Q (.int n) H) := hK ▸ call_len
theorem callK_list (hK : X.K = K) : CallR X (.type "list") (fun xs H Q => ∃ p ys, xs = [.ref p] ∧ (SqL K H p ys ∨ SqT K H p ys) ∧ ∀ l, H l = none → Q (.ref l) (upd H l (.lst ys))) := hK ▸ call_list_of
theorem callK_tuple (hK : X.K = K) : CallR X (.type "tuple") (fun xs H Q => ∃ p ys, xs = [.ref p] ∧ ((SqL K H p ys ∧ ∀ l, H l = none → Q (.ref l) (upd H l (.tup ys))) ∨ (SqT K H p ys ∧ Q (.ref p) H))) := hK ▸ call_tuple_of
theorem callK_all (hK : X.K = K) (hc : X.calm = true) : CallR X (.builtin "all") (rAll K) := hK ▸ cr_all hc
theorem callK_isi (hK : X.K = K) : CallR X (.builtin "isinstance") (rIsi K) := hK ▸ call_isi
theorem callK_sorted (hK : X.K = K) (hu : X.A.units + 80 < cLine) : CallR X (.builtin "sorted") (rSortedD K) := hK ▸ cr_sortedD hu
theorem ai_seqK {tg : Expr} (hK : X.K = K) (he : AE X W e te re) : AI X W tg e (iSeq3 K te) (fun Γ ms k x => re Γ ms (fun u ms1 => oDat u fun ds => k ds ms1) x) := hK ▸ ai_seq he
theorem ag_tupK {es : List Expr} {kk0 : Nat} {sl : List Nat} {gs : TGs} {rs : AGRs} (hK : X.K = K) (hc : X.calm = true) (h : AGs X es sl gs rs) (hn : (assignEach es X.env).length = es.length := by rfl) (hst : (assignEach es X.env).findIdx? (·.1) = none := by rfl) :
    AG X (.Tuple es kk0 pos) sl (gTup K es.length gs) (gT es.length rs) := hK ▸ ag_tup hc h hn hst
end
end AL

/-! ## AbsV -/
set_option Elab.async false
set_option linter.all false
set_option maxRecDepth 100000
set_option maxHeartbeats 2000000
namespace AL
open PySem PySem.Spec PyProof.Rows L2
section
variable {A : AEnd} {Γ : Gam} {ms : MS} {k : SD → MS → Prop} {x : AX} {r s : ASR} {re : AER} {rc : ATR} {rg : AGR} {rs : AGRs} {kg : Gam → MS → Prop}
/-- cuts -/
theorem s_cut (P : Gam → MS → Prop) (h : ∀ N : Gam → MS → Prop, (∀ Γ' ms', P Γ' ms' → N Γ' ms') → r { A with nx := N } Γ ms) (hs : ∀ Γ' ms', P Γ' ms' → s A Γ' ms') : rSeq r s A Γ ms := h _ hs
theorem s_cutIf (P : Gam → MS → Prop) (h : ∀ N : Gam → MS → Prop, (∀ Γ' ms', P Γ' ms' → N Γ' ms') → rIf rc r s { A with nx := N } Γ ms) (hs : ∀ Γ' ms', P Γ' ms' → A.nx Γ' ms') : rIf rc r s A Γ ms := h A.nx hs
theorem s_ifN (P : Bool → MS → Prop) (h : ∀ K : Bool → MS → Prop, (∀ b ms1, P b ms1 → K b ms1) → rc Γ ms K (A.x Γ)) (ht : ∀ ms1, P true ms1 → r A Γ ms1) (hf : ∀ ms1, P false ms1 → s A Γ ms1) : rIf rc r s A Γ ms :=
  h _ fun b ms1 hp => by
    cases b with
    | true => rw [if_pos rfl]; exact ht ms1 hp
    | false => rw [if_neg Bool.false_ne_true]; exact hf ms1 hp
theorem s_setN {i : Nat} (P : SD → MS → Prop) (h : ∀ K : SD → MS → Prop, (∀ sd ms1, P sd ms1 → K sd ms1) → re Γ ms K (A.x Γ)) (ht : ∀ sd ms1, P sd ms1 → A.nx (Γ.set i (some sd)) ms1) : rSet i re A Γ ms := h _ ht
theorem s_gT {n : Nat} {ds : List D} (e : ds.length = n) (h : rs ds Γ ms kg) : gT n rs (.d (.tup ds)) Γ ms kg := ⟨e, h⟩
theorem s_gC {d : D} {ds : List D} (h : rg (.d d) Γ ms fun Γ' ms' => rs ds Γ' ms' kg) : gC rg rs (d :: ds) Γ ms kg := h
end
theorem lcI_mapD {rg : AGR} {rt : ATR} {re : AER} {Γ0 : Gam} {ms : MS} {kk : List D → MS → Prop} {f : D → D} {xs : List D} (hz : xs.length ≤ sizeLine)
    (hs : ∀ x ∈ xs, ∀ (acc : List D) (N : List D → MS → Prop), acc.length < sizeLine → N (acc ++ [f x]) ms → lcS rg rt re Γ0 x acc ms N) (h : kk (xs.map f) ms) : lcI rg rt re Γ0 xs [] ms kk := by
  have := lcI_map (enc := id) (f := f) (xs := xs) (rg := rg) (rt := rt) (re := re) (Γ0 := Γ0) (kk := kk) hz hs h
  rw [List.map_id] at this
  exact this
theorem sub_md {ms : MS} {p : Addr} : Sub (md ms p) ms := fun a o h => by
  by_cases e : a = p
  · subst e; rw [md_same] at h; cases h
  · rw [md_ne e] at h; exact h
theorem out_md {sd : SD} {ms : MS} {k : SD → MS → Prop} (p : Addr) (h : k sd (md ms p)) : Out sd ms k := .inl ⟨_, sub_md, h⟩
theorem atI_at {α : Type} {l : List α} {i : Nat} (h : i < l.length) : atI l (i : Int) = some l[i] := atI_nat (List.getElem?_eq_getElem h)
theorem atI_map {α β : Type} {f : α → β} {l : List α} {i : Int} (h0 : 0 ≤ i) (h1 : i < l.length) : ∃ v, v ∈ l ∧ l[i.toNat]? = some v ∧ atI (l.map f) i = some (f v) := by
  obtain ⟨n, rfl⟩ := Int.eq_ofNat_of_zero_le h0
  have hn : n < l.length := by omega
  refine ⟨l[n], List.getElem_mem hn, ?_, atI_nat ?_⟩
  · show l[n]? = _
    rw [List.getElem?_eq_getElem hn]
  · rw [List.getElem?_map, List.getElem?_eq_getElem hn]; rfl
theorem atI_last {l : List D} {d : D} (h : l.getLast? = some d) : atI l (-1) = some d := by
  have hne : l ≠ [] := fun e => by subst e; cases h
  have hl : 0 < l.length := List.length_pos_iff.mpr hne
  unfold atI ixN
  rw [if_neg (by decide), if_pos (by omega)]
  show l[((-1 : Int) + l.length).toNat]? = some d
  rw [List.getLast?_eq_getElem?] at h
  rw [← h]
  congr 1
  omega
end AL

/-! ## AbsW -/
set_option Elab.async false
set_option linter.all false
set_option maxRecDepth 100000
set_option maxHeartbeats 2000000
namespace AL
open PySem PySem.Spec PyProof.Rows L2
section
variable {P : Program} {w : World} {K : PySem.W.Frag} {mg : Str → Option Value} {base : Heap} {x qual pv : Str} {st : Stmt} {f : Addr} {fd : FuncData} {N ps : List Str} {k : Nat} {R : AFn}
/-- what a call gives, the star's things one by one -/
def rStar (n : Nat) (R : AFn) : AFn := fun sds ms kk x => ∃ as ds, sds = as ++ ds.map SD.d ∧ as.length = n ∧ ds.length ≤ sizeLine ∧ R (as ++ [.d (.tup ds)]) ms kk x
def StarB (x qual : Str) (st : Stmt) (ps : List Str) (pv : Str) : Prop := ∀ (kV doc pm : Value) (an : Option Addr) (cdv ct : Value) (us rest : List Value), us.length = ps.length →
  bindArgs (PySem.W.fnOf x qual (defArgs st) (defBody st) (defScope st) .none kV doc pm an cdv ct) ⟨us ++ rest, []⟩ = (newTuple rest >>= fun t => pure (ps.zip us ++ [(pv, t)]))
/-- def f(a, .., *v): lets no exception out -/
theorem fnS (F : Fun K x qual st f fd) (S : FnScope N (ps ++ [pv]) (defScope st)) (hb : StarB x qual st ps pv) (len : ∀ sds ms k x, R sds ms k x → sds.length ≤ N.length)
    (hbody : ∀ (cdv : Value) (A : Around) (outer : List Env) (s : Shared) (H : Hp) (E : XK), Room k (A.deeper (envOfC qual (defScope st) s.heap.objs.size f cdv)) →
      ∃ t r, ASs (cxOf CX0 P w K mg base N qual (defScope st) f cdv A outer s H E).nox W0 (defBody st) t r ∧ ∀ sds ms k x, R sds ms k x → r (aEnd k x) (gam N sds) ms) :
    FnR P w K mg base CX0 (k + 1) f (spA (rStar ps.length R)) := by
  obtain ⟨oc, od, kV, doc, pm, an, cdv, ct, osl, rfl, lk, hcd⟩ := F.ex
  refine star_A (StX.fn_star lk hcd S StX.cxUp_none (fun us rest hl => hb kV doc pm an cdv ct us rest hl) fun A outer s H vs Q E hr h => ?_)
  obtain ⟨t, r, hb, hR⟩ := hbody cdv A outer s H E hr
  exact ⟨t, hb.pe.nox, fn_end hb hR len (fun _ _ _ _ _ => trivial) h⟩
/-- .. may raise -/
theorem fnSX (F : Fun K x qual st f fd) (S : FnScope N (ps ++ [pv]) (defScope st)) (hb : StarB x qual st ps pv) (len : ∀ sds ms k x, R sds ms k x → sds.length ≤ N.length)
    (hbody : ∀ (cdv : Value) (A : Around) (outer : List Env) (s : Shared) (H : Hp) (E : XK), Room k (A.deeper (envOfC qual (defScope st) s.heap.objs.size f cdv)) →
      ∃ t r, ASs (cxOf (L2.CX P w) P w K mg base N qual (defScope st) f cdv A outer s H E) (fun cls d _ H => E cls d H) (defBody st) t r ∧ ∀ sds ms k x, R sds ms k x → r (aEnd k x) (gam N sds) ms) :
    FnR P w K mg base (L2.CX P w) (k + 1) f (spA (rStar ps.length R)) := by
  obtain ⟨oc, od, kV, doc, pm, an, cdv, ct, osl, rfl, lk, hcd⟩ := F.ex
  refine star_A (StX.fn_star lk hcd S StX.cxUp (fun us rest hl => hb kV doc pm an cdv ct us rest hl) fun A outer s H vs Q E hr h => ?_)
  obtain ⟨t, r, hb, hR⟩ := hbody cdv A outer s H E hr
  exact ⟨t, hb.pe, fn_end hb hR len (fun _ _ _ _ h => h) h⟩
end
end AL

/-! ## Exc76 -/
set_option Elab.async false
set_option linter.all false
set_option maxRecDepth 100000
set_option maxHeartbeats 2000000
namespace PySem
namespace X_BadMixture
open PySem.W PySem.Calls PyProof.Rows PySem.HandSPX
/-! ### the text of __init__ -/
def iA (p1 p2 : Pos) : Arguments := { posonlyargs := [], args := [{ arg := "self", annotation := none, pos := p1 }, { arg := "mixture", annotation := none, pos := p2 }], vararg := none, kwonlyargs := [], kw_defaults := [], kwarg := none, defaults := [] }
def iB (q1 q2 q3 q4 : Pos) : List Stmt := [.Assign [.Attribute (.Name "self" q1) "mixture" q2] (.Name "mixture" q3) q4]
def iS : Scope := { kind := .function, names := [(PySem.Str.ofString "self", .local), (PySem.Str.ofString "mixture", .local)], isGenerator := false, isCoroutine := false, more := [] }
/-- what the written part says of Low, at C, and of its __init__, at fI -/
structure Txt_BadMixture (K : Frag) (mg : Str → Option Value) (C fI : Addr) : Prop where
  gC : mg "BadMixture" = some (.ref C)
  cls : ∃ nm q N bs bm sn sub ab col dd k0 k1 k2 k3 k5, K.lookup C = some (excClassObj nm q C N bs bm true sn sub ab col dd k0 k1 k2 k3 k5 "ValueError.__new__") ∧ refsVE bm = true
  sa : findIn K (.ref C) "__setattr__" = some (some (.builtin "object.__setattr__"))
  ga : findIn K (.ref C) "__getattribute__" = some (some (.builtin "BaseException.__getattribute__"))
  gg : findIn K (.ref C) "__getattr__" = some none
  noN : findIn K (.ref C) "mixture" = some none
  iC : findIn K (.ref C) "__init__" = some (some (.ref fI))
  tC : typeIn K (.ref fI) = some (.type "function")
  kC : keepIn K (.ref C) = true
  exC : subIn K (.ref C) (.type "BaseException") = some true
  tyC : typeIn K (.ref C) = some (.type "type")
  hdC : hasDictIn K C = true
  te : exmOne K (.ref C) (.ref C) = some true
  fn : ∃ (oc : Value) (od : Option Addr) (doc pm : Value) (an : Option Addr) (cdv ct : Value) (osl : Array (Option Value)) (p1 p2 q1 q2 q3 q4 : Pos),
    K.lookup fI = some ⟨oc, od, .func (fnOf "__init__" "BadMixture.__init__" (iA p1 p2) (iB q1 q2 q3 q4) iS .none .none doc pm an cdv ct), osl⟩ ∧ codeIn K cdv "BadMixture.__init__" = true
theorem one_size (v : Value) : [v].length ≤ sizeLine := by
  rw [sizeLine_eq]
  exact (by decide : 1 ≤ 16777216)
theorem kept_but {K : Frag} {h h' : Heap} {x : Addr} (X : K.In h) (hx : K.lookup x = none) (k : ∀ b o, b ≠ x → h.get? b = some o → h'.get? b = some o) : K.In h' := fun a o e =>
  k a o (fun z => by rw [z, hx] at e; cases e) (X a o e)
theorem ldC {M : Model} {s : Shared} {name : Str} {scope : Scope} {L a : Addr} {cd : Value} {m : Str → Option Value} {x : Str} {pos : Pos} {v : Value} {Q : Value → Shared → Prop} {A : Around} {E : Value → Shared → Prop} (hn : s.heap.Ns L m) (hv : m x = some v) (h : Q v s)
    (hk : scope.kind = .function := by rfl) (hl : (envOfC name scope L a cd).kindOf x = some .local := by rfl) (hd : (x == ("__debug__" : Str)) = false := by decide) :
    wpAny M A (eval (.Name x pos) (envOfC name scope L a cd)) Q E s := wpAny_Name (wpAny_loadName_local hk hl hn hv h) hd
/-- what __init__ leaves of a fresh exception at x -/
structure InitEnd (h h' : Heap) (x C dx t1 : Addr) (v : Value) : Prop where
  keep : ∀ b o, b ≠ x → h.get? b = some o → h'.get? b = some o
  obj : h'.get? x = some { cls := .ref C, dict := some dx, data := .fields #[.ref t1, .none, .none, .none, .bool false, .none] }
  dbig : h.objs.size ≤ dx
  dne : dx ≠ x
  ns : h'.Ns1 dx (fun y => if y = "mixture" then some v else none)
/-- a made Low -/
structure OwnMade (h h' : Heap) (e C d : Addr) (v : Value) : Prop where
  keep : ∀ b o, h.get? b = some o → h'.get? b = some o
  new : h.objs.size ≤ e
  obj : ∃ oe vs, h'.get? e = some oe ∧ oe.cls = .ref C ∧ oe.dict = some d ∧ oe.data = .fields vs ∧ vs[1]? = some .none
  dbig : h.objs.size ≤ d
  dne : d ≠ e
  ns : h'.Ns1 d (fun y => if y = "mixture" then some v else none)
section
variable {prog : Program} {w : World} {A : Around} {E : Value → Shared → Prop} {R : Result → Shared → Prop} {s : Shared} {K : Frag} {mg : Str → Option Value} {C fI : Addr}
theorem low_init_BadMixture (T : Txt_BadMixture K mg C fI) {x t0 : Addr} {v : Value} (X : K.In s.heap) (hlim : s.heap.NoLimit) (hx : s.heap.get? x = some (excO C t0)) (hnx : K.lookup x = none) (hroom : A.depth < recursionLimit)
    (hq : ∀ h' tk dx, InitEnd s.heap h' x C dx t0 v → R (.ok (.ret .none)) { s with heap := h', toks := tk }) :
    codeAny (model prog w) A (.call (.ref fI) ⟨[.ref x, v], []⟩) R s := by
  obtain ⟨oc, od, doc, pm, an, cdv, ct, osl, p1, p2, q1, q2, q3, q4, ho, hcd⟩ := T.fn
  obtain ⟨nm, q, N, bs, bm, sn, sub, ab, col, dd, k0, k1, k2, k3, k5, hC, hbm⟩ := T.cls
  have hcl : clsIn K C = some { name := nm, bases := bs, mro := .ref C :: bm, ns := N, qualname := q, hasDict := true, slotNames := sn, subclasses := sub, abstract := ab, collection := col, hasDel := false } := by unfold clsIn; rw [hC] <;> rfl
  refine Att.call_fn (binds := [("self", .ref x), ("mixture", v)]) X hlim ho hcd hroom (BindsTo.of_eq (by first | rfl | with_unfolding_all rfl)) (by first | rfl | decide | with_unfolding_all rfl) (fun s₁ IC => ?_) rfl rfl rfl
  obtain ⟨h₁, tk₁, rfl⟩ := IC.toInCall.same
  have k : ∀ b o, s.heap.get? b = some o → h₁.get? b = some o := IC.toInCall.keep
  have hn := IC.toInCall.ns
  have hxL : s.heap.objs.size ≠ x := Nat.ne_of_gt (Heap.lt_size hx)
  have X₁ : K.In h₁ := X.keeps k
  have hx₁ := k _ _ hx
  -- self.by = by
  show wpAny _ _ (execs _ _) _ _ _
  refine wpAny_execs_cons (plainObj_wpAny_Assign_Attribute ?_)
  refine ldC (v := v) hn (by first | rfl | with_unfolding_all rfl | kernel_rfl) (ldC (v := .ref x) hn (by first | rfl | with_unfolding_all rfl | kernel_rfl) ?_)
  refine set_plain X₁ (ox := excO C t0) (od := none) ⟨hx₁, rfl, rfl, trivial⟩ T.sa ?_
  refine exc_osa X₁ hx₁ hcl (show refsVE (.ref C :: bm) = true from hbm) rfl T.noN (fun h₃ tk₃ dx k₃ dn dne hx₃ hn₃ => ?_)
  show wpAny _ _ (execs _ _) _ _ _
  have z : s.heap.objs.size < h₁.objs.size := hn.lt
  exact wpAny_execs_nil (hq h₃ tk₃ dx ⟨fun b o hb e => k₃ b o hb (k b o e), hx₃, Nat.le_of_lt (Nat.lt_of_lt_of_le z dn), dne, hn₃⟩)
theorem low_made_BadMixture (T : Txt_BadMixture K mg C fI) {v : Value} (X : K.In s.heap) (hlim : s.heap.NoLimit) (hroom : A.depth + 1 < recursionLimit)
    (hq : ∀ h' tk e d, OwnMade s.heap h' e C d v → R (.ok (.ret (.ref e))) { s with heap := h', toks := tk }) :
    codeAny (model prog w) A (.call (.ref C) ⟨[v], []⟩) R s := by
  obtain ⟨nm, q, N, bs, bm, sn, sub, ab, col, dd, k0, k1, k2, k3, k5, hC, hbm⟩ := T.cls
  obtain ⟨hp, g, dr, tk, os⟩ := s
  have k : ∀ b o, hp.get? b = some o → ((hp.push (kdv_tup [v])).push (excO C hp.objs.size)).get? b = some o := fun b o e => Heap.get?_push_of_some _ (Heap.get?_push_of_some _ e)
  have hget : ((hp.push (kdv_tup [v])).push (excO C hp.objs.size)).get? (hp.objs.size + 1) = some (excO C hp.objs.size) := by heap_get
  have hnx : K.lookup (hp.objs.size + 1) = none := by
    cases e : K.lookup (hp.objs.size + 1) with
    | none => rfl
    | some o =>
      have z : hp.get? (hp.objs.size + 1) = some o := X _ _ e
      exact absurd (Nat.lt_of_succ_lt (Heap.lt_size z)) (Nat.lt_irrefl _)
  refine call_own F.excBase_ValueError (fun X => refsVE_contains X bm hbm) (X _ _ hC) (looks_findIn X T.iC) (fun self => bind_fn X self T.tC) (one_size v) ?_
  refine low_init_BadMixture (s := ⟨(hp.push (kdv_tup [v])).push (excO C hp.objs.size), g, dr, tk, os⟩) T (X.keeps k) (hlim.keeps k) hget hnx ?_ fun h' tk' dx ⟨k', hx, dn, dne, hns⟩ => ?_
  · show A.depth + 1 < recursionLimit
    exact hroom
  · have old : ∀ b o, hp.get? b = some o → h'.get? b = some o := fun b o e => k' b o (Nat.ne_of_lt (Nat.lt_succ_of_lt (Heap.lt_size e))) (k b o e)
    have z : hp.objs.size + 1 + 1 ≤ dx := by
      first
        | (simpa only [Heap.size_push] using dn)
        | exact dn
        | (have q := dn; rw [Heap.size_push, Heap.size_push] at q; exact q)
    exact ⟨rfl, hq h' tk' (hp.objs.size + 1) dx ⟨old, Nat.le_succ _, ⟨_, _, hx, rfl, rfl, rfl, rfl⟩, Nat.le_trans (Nat.le_trans (Nat.le_succ _) (Nat.le_succ _)) z, dne, hns⟩⟩
end
end X_BadMixture
end PySem
namespace L2
open PySem PySem.Spec PyProof.Rows
theorem relO_low_BadMixture {v : V} {v' : Value} (r : RelV v v') (f : Str) : RelO (List.lookup f [(("mixture" : Str), v)]) (if f = "mixture" then some v' else none) := by
  by_cases hw : f = "mixture"
  · subst hw
    rw [if_pos rfl]
    have q : List.lookup ("mixture" : Str) [(("mixture" : Str), v)] = some v := by simp [List.lookup]
    rw [q]
    exact r
  · rw [if_neg hw]
    have qw : (f == ("mixture" : Str)) = false := by simpa using hw
    have q2 : List.lookup f [(("mixture" : Str), v)] = none := by simp [List.lookup, qw]
    rw [q2]
    trivial
section
variable {X : Cx} {C fI : Addr}
/-- Low(e) -/
def tMkLow_BadMixture (C : Addr) (ta : TA) : St → Hp → XK → Prop := fun σ H Q => ta σ H fun vs H1 => ∃ v, vs = [v] ∧ ∀ d, H1 d = none → Q (.ref C) (some d) (upd H1 d (.xd [(("mixture" : Str), v)]))
theorem pmk_low_BadMixture {a : Expr} {ta : TA} {p pos : Pos} {k : Nat} (T : PySem.X_BadMixture.Txt_BadMixture X.K X.mg C fI) (hr : Room k X.A) (ha : PA X [a] ta) (hg : Gl X "BadMixture" := by rfl)
    (he : starEach (a :: []) X.env = (false, eval a X.env) :: starEach [] X.env := by rfl) (hpl : (backTo pos (starEach [] X.env)).any (·.1) = false := by rfl) :
    PMk X (.Call (.Name "BadMixture" p) [a] [] pos) (tMkLow_BadMixture C ta) := by
  intro pins s σ H Q I h
  refine wpAny_Call_Name_kw (ld_glob I hg T.gC ?_)
  refine PySem.W.callWith_K (h₀ := X.base) I.ok.mod.kin T.kC (thn (ha.run pos pins s σ H _ I h) fun us s1 hh => ?_) he hpl
  obtain ⟨vs, H1, I1, r1, v, ev, q1⟩ := hh
  subst ev
  refine ⟨I1.kIn, ?_⟩
  cases r1 with
  | cons rv rn =>
    rename_i v' us'
    cases rn
    show wpAny _ _ (call (.ref C) [v']) _ _ _
    have hlim := I1.nolimit
    obtain ⟨hp, g, dr, tk, os⟩ := s1
    refine wpAny_call (PySem.X_BadMixture.low_made_BadMixture T I1.kIn hlim (by have := hr.dp; omega) fun h' tk' e d M => ?_)
    show MkP X pins σ Q (.ref e) ⟨h', g, dr, tk', os⟩
    obtain ⟨oe, fv, hoe, hc, hd, hdat, h1⟩ := M.obj
    have hns := M.ns
    obtain ⟨G', g1, g2⟩ := restrict h' fun b => decide (b ≠ e)
    have gk : ∀ b, b ≠ e → G'.get? b = h'.get? b := fun b hb => g1 b (decide_eq_true hb)
    have ge : G'.get? e = none := g2 e (by simp)
    have old : ∀ b o, hp.get? b = some o → G'.get? b = some o := fun b o q => (gk b (Nat.ne_of_lt (Nat.lt_of_lt_of_le (Heap.lt_size q) M.new))).trans (M.keep b o q)
    have ob : ObjOk X.prog X.w (upd H1 d (.xd [(("mixture" : Str), v)])) G' d (.xd [(("mixture" : Str), v)]) :=
      ⟨_, hns.at (fun o q => (gk d M.dne).trans q), fun f => relO_low_BadMixture rv f⟩
    have J : Inv X pins σ (upd H1 d (.xd [(("mixture" : Str), v)])) ⟨G', g, dr, tk', os⟩ := I1.laid (t' := tk') old M.dbig ob
    refine ⟨e, oe, fv, ⟨G', g, dr, tk', os⟩, _, .ref C, some d, rfl, J, fun b o q => ?_, ge, hoe, ⟨hc, hd⟩, hdat, h1, ?_, rfl, I1.bare, raises_own T.exC T.tyC, q1 d (I1.hok.fresh M.dbig)⟩
    · by_cases hb : b = e
      · have q' : G'.get? b = some o := q
        rw [hb, ge] at q'; cases q'
      · exact (gk b hb).symm.trans q
    · rw [upd_ne (Ne.symm M.dne)]
      exact I1.hok.fresh M.new
/-- raise Low(e) -/
def tRaiseLow_BadMixture (C : Addr) (W : WX) (ta : TA) : TS := fun _ σ H => tMkLow_BadMixture C ta σ H fun cls d H' => W cls d σ H'
theorem ps_raiseLow_BadMixture {a : Expr} {ta : TA} {W : WX} {p pos pos2 : Pos} {k : Nat} (hc : X.calm = true) (T : PySem.X_BadMixture.Txt_BadMixture X.K X.mg C fI) (hr : Room k X.A) (tk : Takes X W) (ha : PA X [a] ta) (hg : Gl X "BadMixture" := by rfl)
    (he : starEach (a :: []) X.env = (false, eval a X.env) :: starEach [] X.env := by rfl) (hpl : (backTo pos (starEach [] X.env)).any (·.1) = false := by rfl) :
    PS X (.Raise (some (.Call (.Name "BadMixture" p) [a] [] pos)) none pos2) (tRaiseLow_BadMixture C W ta) := ps_raise hc tk (pmk_low_BadMixture T hr ha hg he hpl)
/-- low.by, low the exception that the suite holds (at a; its class cls, its dict d) -/
def tByLow_BadMixture (C : Addr) (a : Addr) (cls : Value) (d : Option Addr) (te : TE) : TE := fun σ H Q => te σ H fun x H1 => x = .ref a ∧ cls = .ref C ∧ ∃ (dd : Addr) (v : V), d = some dd ∧ H1 dd = some (.xd [(("mixture" : Str), v)]) ∧ Q v H1
theorem pe_byLow_BadMixture {a : Addr} {oe : Obj} {cls : Value} {d : Option Addr} {pn : List (Addr × Obj)} {e : Expr} {te : TE} {pos : Pos} (T : PySem.X_BadMixture.Txt_BadMixture X.K X.mg C fI) (hz : Zc cls d oe) (hf : ∃ vs, oe.data = .fields vs) (he : PE (X.suite a ((a, oe) :: pn)) e te)
    (hb : attributeBase e "mixture" X.env (eval e X.env) = eval e X.env := by rfl) :
    PE (X.suite a ((a, oe) :: pn)) (.Attribute e "mixture" pos) (tByLow_BadMixture C a cls d te) := by
  refine ⟨fun pins s σ H Q I h => ?_⟩
  refine attr_of hb (thn (he.run pins s σ H _ I h) fun u s1 hh => ?_)
  obtain ⟨x, H1, I1, rx, ex, ec, dd, v, ed, ea, q⟩ := hh
  subst ex
  obtain rfl : u = Value.ref a := rx
  subst ec
  subst ed
  obtain ⟨ha, _⟩ := I1.pin (a, oe) (List.mem_append_left _ List.mem_cons_self)
  obtain ⟨vs, hd⟩ := hf
  have hx : ObjOk X.prog X.w H1 s1.heap dd (.xd [(("mixture" : Str), v)]) := I1.hok dd _ ea
  obtain ⟨mA, hns, hr⟩ := hx
  obtain ⟨od, ho, hl⟩ := lookIn_ns hns
  have l : List.lookup ("mixture" : Str) [(("mixture" : Str), v)] = some v := by simp [List.lookup]
  obtain ⟨u, hu, ru⟩ := RelO.some_of (v := v) (o := mA "mixture") (by rw [← l]; exact hr "mixture")
  have J : PySem.W.InstAt s1.heap a oe C (some od) := ⟨ha, hz.1, by unfold PySem.W.notCls; rw [hd] <;> rfl, by rw [hz.2]; exact ho⟩
  exact HandSPX.exc_get I1.kIn J T.ga T.gg T.exC (PySem.W.findObj_own T.hdC T.noN rfl (by rw [hl, hu])) (handed_of ru) ⟨v, H1, I1.tok _, ru, q⟩
end
end L2


namespace PySem
namespace X_NoWave
open PySem.W PySem.Calls PyProof.Rows PySem.HandSPX
/-! ### the text of __init__ -/
def iA (p1 p2 : Pos) : Arguments := { posonlyargs := [], args := [{ arg := "self", annotation := none, pos := p1 }, { arg := "lot", annotation := none, pos := p2 }], vararg := none, kwonlyargs := [], kw_defaults := [], kwarg := none, defaults := [] }
def iB (q1 q2 q3 q4 : Pos) : List Stmt := [.Assign [.Attribute (.Name "self" q1) "lot" q2] (.Name "lot" q3) q4]
def iS : Scope := { kind := .function, names := [(PySem.Str.ofString "self", .local), (PySem.Str.ofString "lot", .local)], isGenerator := false, isCoroutine := false, more := [] }
/-- what the written part says of Low, at C, and of its __init__, at fI -/
structure Txt_NoWave (K : Frag) (mg : Str → Option Value) (C fI : Addr) : Prop where
  gC : mg "NoWave" = some (.ref C)
  cls : ∃ nm q N bs bm sn sub ab col dd k0 k1 k2 k3 k5, K.lookup C = some (excClassObj nm q C N bs bm true sn sub ab col dd k0 k1 k2 k3 k5 "ValueError.__new__") ∧ refsVE bm = true
  sa : findIn K (.ref C) "__setattr__" = some (some (.builtin "object.__setattr__"))
  ga : findIn K (.ref C) "__getattribute__" = some (some (.builtin "BaseException.__getattribute__"))
  gg : findIn K (.ref C) "__getattr__" = some none
  noN : findIn K (.ref C) "lot" = some none
  iC : findIn K (.ref C) "__init__" = some (some (.ref fI))
  tC : typeIn K (.ref fI) = some (.type "function")
  kC : keepIn K (.ref C) = true
  exC : subIn K (.ref C) (.type "BaseException") = some true
  tyC : typeIn K (.ref C) = some (.type "type")
  hdC : hasDictIn K C = true
  te : exmOne K (.ref C) (.ref C) = some true
  fn : ∃ (oc : Value) (od : Option Addr) (doc pm : Value) (an : Option Addr) (cdv ct : Value) (osl : Array (Option Value)) (p1 p2 q1 q2 q3 q4 : Pos),
    K.lookup fI = some ⟨oc, od, .func (fnOf "__init__" "NoWave.__init__" (iA p1 p2) (iB q1 q2 q3 q4) iS .none .none doc pm an cdv ct), osl⟩ ∧ codeIn K cdv "NoWave.__init__" = true
theorem one_size (v : Value) : [v].length ≤ sizeLine := by
  rw [sizeLine_eq]
  exact (by decide : 1 ≤ 16777216)
theorem kept_but {K : Frag} {h h' : Heap} {x : Addr} (X : K.In h) (hx : K.lookup x = none) (k : ∀ b o, b ≠ x → h.get? b = some o → h'.get? b = some o) : K.In h' := fun a o e =>
  k a o (fun z => by rw [z, hx] at e; cases e) (X a o e)
theorem ldC {M : Model} {s : Shared} {name : Str} {scope : Scope} {L a : Addr} {cd : Value} {m : Str → Option Value} {x : Str} {pos : Pos} {v : Value} {Q : Value → Shared → Prop} {A : Around} {E : Value → Shared → Prop} (hn : s.heap.Ns L m) (hv : m x = some v) (h : Q v s)
    (hk : scope.kind = .function := by rfl) (hl : (envOfC name scope L a cd).kindOf x = some .local := by rfl) (hd : (x == ("__debug__" : Str)) = false := by decide) :
    wpAny M A (eval (.Name x pos) (envOfC name scope L a cd)) Q E s := wpAny_Name (wpAny_loadName_local hk hl hn hv h) hd
/-- what __init__ leaves of a fresh exception at x -/
structure InitEnd (h h' : Heap) (x C dx t1 : Addr) (v : Value) : Prop where
  keep : ∀ b o, b ≠ x → h.get? b = some o → h'.get? b = some o
  obj : h'.get? x = some { cls := .ref C, dict := some dx, data := .fields #[.ref t1, .none, .none, .none, .bool false, .none] }
  dbig : h.objs.size ≤ dx
  dne : dx ≠ x
  ns : h'.Ns1 dx (fun y => if y = "lot" then some v else none)
/-- a made Low -/
structure OwnMade (h h' : Heap) (e C d : Addr) (v : Value) : Prop where
  keep : ∀ b o, h.get? b = some o → h'.get? b = some o
  new : h.objs.size ≤ e
  obj : ∃ oe vs, h'.get? e = some oe ∧ oe.cls = .ref C ∧ oe.dict = some d ∧ oe.data = .fields vs ∧ vs[1]? = some .none
  dbig : h.objs.size ≤ d
  dne : d ≠ e
  ns : h'.Ns1 d (fun y => if y = "lot" then some v else none)
section
variable {prog : Program} {w : World} {A : Around} {E : Value → Shared → Prop} {R : Result → Shared → Prop} {s : Shared} {K : Frag} {mg : Str → Option Value} {C fI : Addr}
theorem low_init_NoWave (T : Txt_NoWave K mg C fI) {x t0 : Addr} {v : Value} (X : K.In s.heap) (hlim : s.heap.NoLimit) (hx : s.heap.get? x = some (excO C t0)) (hnx : K.lookup x = none) (hroom : A.depth < recursionLimit)
    (hq : ∀ h' tk dx, InitEnd s.heap h' x C dx t0 v → R (.ok (.ret .none)) { s with heap := h', toks := tk }) :
    codeAny (model prog w) A (.call (.ref fI) ⟨[.ref x, v], []⟩) R s := by
  obtain ⟨oc, od, doc, pm, an, cdv, ct, osl, p1, p2, q1, q2, q3, q4, ho, hcd⟩ := T.fn
  obtain ⟨nm, q, N, bs, bm, sn, sub, ab, col, dd, k0, k1, k2, k3, k5, hC, hbm⟩ := T.cls
  have hcl : clsIn K C = some { name := nm, bases := bs, mro := .ref C :: bm, ns := N, qualname := q, hasDict := true, slotNames := sn, subclasses := sub, abstract := ab, collection := col, hasDel := false } := by unfold clsIn; rw [hC] <;> rfl
  refine Att.call_fn (binds := [("self", .ref x), ("lot", v)]) X hlim ho hcd hroom (BindsTo.of_eq (by first | rfl | with_unfolding_all rfl)) (by first | rfl | decide | with_unfolding_all rfl) (fun s₁ IC => ?_) rfl rfl rfl
  obtain ⟨h₁, tk₁, rfl⟩ := IC.toInCall.same
  have k : ∀ b o, s.heap.get? b = some o → h₁.get? b = some o := IC.toInCall.keep
  have hn := IC.toInCall.ns
  have hxL : s.heap.objs.size ≠ x := Nat.ne_of_gt (Heap.lt_size hx)
  have X₁ : K.In h₁ := X.keeps k
  have hx₁ := k _ _ hx
  -- self.by = by
  show wpAny _ _ (execs _ _) _ _ _
  refine wpAny_execs_cons (plainObj_wpAny_Assign_Attribute ?_)
  refine ldC (v := v) hn (by first | rfl | with_unfolding_all rfl | kernel_rfl) (ldC (v := .ref x) hn (by first | rfl | with_unfolding_all rfl | kernel_rfl) ?_)
  refine set_plain X₁ (ox := excO C t0) (od := none) ⟨hx₁, rfl, rfl, trivial⟩ T.sa ?_
  refine exc_osa X₁ hx₁ hcl (show refsVE (.ref C :: bm) = true from hbm) rfl T.noN (fun h₃ tk₃ dx k₃ dn dne hx₃ hn₃ => ?_)
  show wpAny _ _ (execs _ _) _ _ _
  have z : s.heap.objs.size < h₁.objs.size := hn.lt
  exact wpAny_execs_nil (hq h₃ tk₃ dx ⟨fun b o hb e => k₃ b o hb (k b o e), hx₃, Nat.le_of_lt (Nat.lt_of_lt_of_le z dn), dne, hn₃⟩)
theorem low_made_NoWave (T : Txt_NoWave K mg C fI) {v : Value} (X : K.In s.heap) (hlim : s.heap.NoLimit) (hroom : A.depth + 1 < recursionLimit)
    (hq : ∀ h' tk e d, OwnMade s.heap h' e C d v → R (.ok (.ret (.ref e))) { s with heap := h', toks := tk }) :
    codeAny (model prog w) A (.call (.ref C) ⟨[v], []⟩) R s := by
  obtain ⟨nm, q, N, bs, bm, sn, sub, ab, col, dd, k0, k1, k2, k3, k5, hC, hbm⟩ := T.cls
  obtain ⟨hp, g, dr, tk, os⟩ := s
  have k : ∀ b o, hp.get? b = some o → ((hp.push (kdv_tup [v])).push (excO C hp.objs.size)).get? b = some o := fun b o e => Heap.get?_push_of_some _ (Heap.get?_push_of_some _ e)
  have hget : ((hp.push (kdv_tup [v])).push (excO C hp.objs.size)).get? (hp.objs.size + 1) = some (excO C hp.objs.size) := by heap_get
  have hnx : K.lookup (hp.objs.size + 1) = none := by
    cases e : K.lookup (hp.objs.size + 1) with
    | none => rfl
    | some o =>
      have z : hp.get? (hp.objs.size + 1) = some o := X _ _ e
      exact absurd (Nat.lt_of_succ_lt (Heap.lt_size z)) (Nat.lt_irrefl _)
  refine call_own F.excBase_ValueError (fun X => refsVE_contains X bm hbm) (X _ _ hC) (looks_findIn X T.iC) (fun self => bind_fn X self T.tC) (one_size v) ?_
  refine low_init_NoWave (s := ⟨(hp.push (kdv_tup [v])).push (excO C hp.objs.size), g, dr, tk, os⟩) T (X.keeps k) (hlim.keeps k) hget hnx ?_ fun h' tk' dx ⟨k', hx, dn, dne, hns⟩ => ?_
  · show A.depth + 1 < recursionLimit
    exact hroom
  · have old : ∀ b o, hp.get? b = some o → h'.get? b = some o := fun b o e => k' b o (Nat.ne_of_lt (Nat.lt_succ_of_lt (Heap.lt_size e))) (k b o e)
    have z : hp.objs.size + 1 + 1 ≤ dx := by
      first
        | (simpa only [Heap.size_push] using dn)
        | exact dn
        | (have q := dn; rw [Heap.size_push, Heap.size_push] at q; exact q)
    exact ⟨rfl, hq h' tk' (hp.objs.size + 1) dx ⟨old, Nat.le_succ _, ⟨_, _, hx, rfl, rfl, rfl, rfl⟩, Nat.le_trans (Nat.le_trans (Nat.le_succ _) (Nat.le_succ _)) z, dne, hns⟩⟩
end
end X_NoWave
end PySem
namespace L2
open PySem PySem.Spec PyProof.Rows
theorem relO_low_NoWave {v : V} {v' : Value} (r : RelV v v') (f : Str) : RelO (List.lookup f [(("lot" : Str), v)]) (if f = "lot" then some v' else none) := by
  by_cases hw : f = "lot"
  · subst hw
    rw [if_pos rfl]
    have q : List.lookup ("lot" : Str) [(("lot" : Str), v)] = some v := by simp [List.lookup]
    rw [q]
    exact r
  · rw [if_neg hw]
    have qw : (f == ("lot" : Str)) = false := by simpa using hw
    have q2 : List.lookup f [(("lot" : Str), v)] = none := by simp [List.lookup, qw]
    rw [q2]
    trivial
section
variable {X : Cx} {C fI : Addr}
/-- Low(e) -/
def tMkLow_NoWave (C : Addr) (ta : TA) : St → Hp → XK → Prop := fun σ H Q => ta σ H fun vs H1 => ∃ v, vs = [v] ∧ ∀ d, H1 d = none → Q (.ref C) (some d) (upd H1 d (.xd [(("lot" : Str), v)]))
theorem pmk_low_NoWave {a : Expr} {ta : TA} {p pos : Pos} {k : Nat} (T : PySem.X_NoWave.Txt_NoWave X.K X.mg C fI) (hr : Room k X.A) (ha : PA X [a] ta) (hg : Gl X "NoWave" := by rfl)
    (he : starEach (a :: []) X.env = (false, eval a X.env) :: starEach [] X.env := by rfl) (hpl : (backTo pos (starEach [] X.env)).any (·.1) = false := by rfl) :
    PMk X (.Call (.Name "NoWave" p) [a] [] pos) (tMkLow_NoWave C ta) := by
  intro pins s σ H Q I h
  refine wpAny_Call_Name_kw (ld_glob I hg T.gC ?_)
  refine PySem.W.callWith_K (h₀ := X.base) I.ok.mod.kin T.kC (thn (ha.run pos pins s σ H _ I h) fun us s1 hh => ?_) he hpl
  obtain ⟨vs, H1, I1, r1, v, ev, q1⟩ := hh
  subst ev
  refine ⟨I1.kIn, ?_⟩
  cases r1 with
  | cons rv rn =>
    rename_i v' us'
    cases rn
    show wpAny _ _ (call (.ref C) [v']) _ _ _
    have hlim := I1.nolimit
    obtain ⟨hp, g, dr, tk, os⟩ := s1
    refine wpAny_call (PySem.X_NoWave.low_made_NoWave T I1.kIn hlim (by have := hr.dp; omega) fun h' tk' e d M => ?_)
    show MkP X pins σ Q (.ref e) ⟨h', g, dr, tk', os⟩
    obtain ⟨oe, fv, hoe, hc, hd, hdat, h1⟩ := M.obj
    have hns := M.ns
    obtain ⟨G', g1, g2⟩ := restrict h' fun b => decide (b ≠ e)
    have gk : ∀ b, b ≠ e → G'.get? b = h'.get? b := fun b hb => g1 b (decide_eq_true hb)
    have ge : G'.get? e = none := g2 e (by simp)
    have old : ∀ b o, hp.get? b = some o → G'.get? b = some o := fun b o q => (gk b (Nat.ne_of_lt (Nat.lt_of_lt_of_le (Heap.lt_size q) M.new))).trans (M.keep b o q)
    have ob : ObjOk X.prog X.w (upd H1 d (.xd [(("lot" : Str), v)])) G' d (.xd [(("lot" : Str), v)]) :=
      ⟨_, hns.at (fun o q => (gk d M.dne).trans q), fun f => relO_low_NoWave rv f⟩
    have J : Inv X pins σ (upd H1 d (.xd [(("lot" : Str), v)])) ⟨G', g, dr, tk', os⟩ := I1.laid (t' := tk') old M.dbig ob
    refine ⟨e, oe, fv, ⟨G', g, dr, tk', os⟩, _, .ref C, some d, rfl, J, fun b o q => ?_, ge, hoe, ⟨hc, hd⟩, hdat, h1, ?_, rfl, I1.bare, raises_own T.exC T.tyC, q1 d (I1.hok.fresh M.dbig)⟩
    · by_cases hb : b = e
      · have q' : G'.get? b = some o := q
        rw [hb, ge] at q'; cases q'
      · exact (gk b hb).symm.trans q
    · rw [upd_ne (Ne.symm M.dne)]
      exact I1.hok.fresh M.new
/-- raise Low(e) -/
def tRaiseLow_NoWave (C : Addr) (W : WX) (ta : TA) : TS := fun _ σ H => tMkLow_NoWave C ta σ H fun cls d H' => W cls d σ H'
theorem ps_raiseLow_NoWave {a : Expr} {ta : TA} {W : WX} {p pos pos2 : Pos} {k : Nat} (hc : X.calm = true) (T : PySem.X_NoWave.Txt_NoWave X.K X.mg C fI) (hr : Room k X.A) (tk : Takes X W) (ha : PA X [a] ta) (hg : Gl X "NoWave" := by rfl)
    (he : starEach (a :: []) X.env = (false, eval a X.env) :: starEach [] X.env := by rfl) (hpl : (backTo pos (starEach [] X.env)).any (·.1) = false := by rfl) :
    PS X (.Raise (some (.Call (.Name "NoWave" p) [a] [] pos)) none pos2) (tRaiseLow_NoWave C W ta) := ps_raise hc tk (pmk_low_NoWave T hr ha hg he hpl)
/-- low.by, low the exception that the suite holds (at a; its class cls, its dict d) -/
def tByLow_NoWave (C : Addr) (a : Addr) (cls : Value) (d : Option Addr) (te : TE) : TE := fun σ H Q => te σ H fun x H1 => x = .ref a ∧ cls = .ref C ∧ ∃ (dd : Addr) (v : V), d = some dd ∧ H1 dd = some (.xd [(("lot" : Str), v)]) ∧ Q v H1
theorem pe_byLow_NoWave {a : Addr} {oe : Obj} {cls : Value} {d : Option Addr} {pn : List (Addr × Obj)} {e : Expr} {te : TE} {pos : Pos} (T : PySem.X_NoWave.Txt_NoWave X.K X.mg C fI) (hz : Zc cls d oe) (hf : ∃ vs, oe.data = .fields vs) (he : PE (X.suite a ((a, oe) :: pn)) e te)
    (hb : attributeBase e "lot" X.env (eval e X.env) = eval e X.env := by rfl) :
    PE (X.suite a ((a, oe) :: pn)) (.Attribute e "lot" pos) (tByLow_NoWave C a cls d te) := by
  refine ⟨fun pins s σ H Q I h => ?_⟩
  refine attr_of hb (thn (he.run pins s σ H _ I h) fun u s1 hh => ?_)
  obtain ⟨x, H1, I1, rx, ex, ec, dd, v, ed, ea, q⟩ := hh
  subst ex
  obtain rfl : u = Value.ref a := rx
  subst ec
  subst ed
  obtain ⟨ha, _⟩ := I1.pin (a, oe) (List.mem_append_left _ List.mem_cons_self)
  obtain ⟨vs, hd⟩ := hf
  have hx : ObjOk X.prog X.w H1 s1.heap dd (.xd [(("lot" : Str), v)]) := I1.hok dd _ ea
  obtain ⟨mA, hns, hr⟩ := hx
  obtain ⟨od, ho, hl⟩ := lookIn_ns hns
  have l : List.lookup ("lot" : Str) [(("lot" : Str), v)] = some v := by simp [List.lookup]
  obtain ⟨u, hu, ru⟩ := RelO.some_of (v := v) (o := mA "lot") (by rw [← l]; exact hr "lot")
  have J : PySem.W.InstAt s1.heap a oe C (some od) := ⟨ha, hz.1, by unfold PySem.W.notCls; rw [hd] <;> rfl, by rw [hz.2]; exact ho⟩
  exact HandSPX.exc_get I1.kIn J T.ga T.gg T.exC (PySem.W.findObj_own T.hdC T.noN rfl (by rw [hl, hu])) (handed_of ru) ⟨v, H1, I1.tok _, ru, q⟩
end
end L2

/-! ## K76a -/
set_option Elab.async false
set_option linter.all false
set_option maxRecDepth 100000
set_option maxHeartbeats 4000000
namespace R76
open PySem PySem.Spec PyProof.Rows L2 AL
open Evl (Ex)
local macro_rules | `(tactic| walk_at "st") => `(tactic| first
  | (with_reducible refine' s_seq ?_) | (with_reducible refine' s_set ?_) | (with_reducible refine' s_nx ?_) | (with_reducible refine' s_ret ?_) | (with_reducible refine' s_drop ?_) | (with_reducible refine' s_asg ?_) | (with_reducible refine' s_for ?_) | (with_reducible refine' s_tt ?_) | (with_reducible refine' s_ff ?_) | (with_reducible refine' s_lcS ?_) | (with_reducible refine' s_put ?_) | (with_reducible refine' s_app ?_) | (with_reducible refine' s_ext ?_)
  | (with_reducible refine' s_gN ?_) | ((with_reducible refine' s_v ?e ?_); (case e => rfl)) | (with_reducible refine' s_asB ?_) | (with_reducible refine' s_asI ?_) | (with_reducible refine' s_asD ?_) | (with_reducible refine' s_nil ?_) | (with_reducible refine' s_cons ?_)
  | (with_reducible refine' s_addI ?_) | (with_reducible refine' s_I0 ?_) | (with_reducible refine' s_neg ?_) | (with_reducible refine' s_eqI ?_) | (with_reducible refine' s_eqS ?_) | (with_reducible refine' s_ltI ?_) | (with_reducible refine' s_isN ?_) | (with_reducible refine' s_int ?_) | (with_reducible refine' s_abs ?_)
  | ((with_reducible refine' s_len ?e ?_); (case e => first | rfl | exact seqOf_m (by assumption) | exact seqOf_m mu_same))
  | ((with_reducible refine' s_ix ?e ?e2 ?_); (case e => first | rfl | exact seqOf_m (by assumption) | exact seqOf_m mu_same); (case e2 => first | rfl | assumption | exact atI_nat (j := 0) rfl | exact atI_nat (j := 1) rfl | exact atI_nat (j := 2) rfl | exact atI_nat (j := 3) rfl))
  | ((with_reducible refine' s_putL ?e ?e2 ?_); (case e => first | assumption | exact mu_same); (case e2 => first | rfl | assumption))
  | ((with_reducible refine' s_oL ?e ?_); (case e => first | assumption | exact mu_same))
  | ((with_reducible refine' s_dat ?e ?_); (case e => rfl)) | ((with_reducible refine' s_rng ?e ?_); (case e => exact ⟨by omega, by omega⟩))
  | ((with_reducible refine' s_I ?c ?_); (case c => first | assumption | exact ⟨by omega, by omega⟩ | exact ⟨by decide, by decide, by decide⟩ | exact Or.inl ⟨by omega, by omega⟩ | exact Or.inr ⟨by omega, by omega⟩ | (show (0 : Int) < _; omega) | (show (0 : Int) ≤ _; omega)))
  | (with_reducible refine' s_slT ?_) | (with_reducible refine' s_slL ?_) | (with_reducible refine' s_gC ?_) | ((with_reducible refine' s_gT ?e ?_); (case e => rfl))
  | ((with_reducible refine' s_tup ?e ?_); (case e => first | rfl | exact seqOf_m (by assumption) | exact seqOf_m mu_same))
  | ((with_reducible refine' s_list ?e ?_); (case e => first | rfl | exact seqOf_m (by assumption) | exact seqOf_m mu_same))
  | ((with_reducible refine' s_isi ?e ?e2 ?_); (case e => rfl); (case e2 => rfl))
  | (with_reducible refine' s_max ?_)
  | ((with_reducible refine' And.intro ?r ?_); (case r => with_reducible rfl)))
local macro_rules | `(tactic| walk_at "one") => `(tactic| first | (with_reducible refine' s_if ?_) | walk_at "st")
local macro_rules | `(tactic| walk_at "up") => `(tactic| repeat walk_at "st")
local macro_rules | `(tactic| walk_at "go") => `(tactic| repeat walk_at "one")
local macro_rules | `(tactic| walk_at "all") => `(tactic| repeat' (first | walk_at "one" | (refine s_ite (fun _ => ?_) (fun _ => ?_))))

def topS (i : Nat) : Stmt := PySem.Challenge.pw_romwright_k76_mended.main.body.getD i (.Pass ⟨0, 0, 0, 0⟩)
theorem u1 {k : Nat} {A : Around} (hr : Room k A) : A.units + 1 < cLine := by have := hr.un; omega
theorem u64 {k : Nat} {A : Around} (hr : Room k A) : A.units + 64 < cLine := by have := hr.un; omega
theorem u65 {k : Nat} {A : Around} (hr : Room k A) : A.units + 65 < cLine := by have := hr.un; omega
theorem u80 {k : Nat} {A : Around} (hr : Room k A) : A.units + 80 < cLine := by have := hr.un; omega
/-- the built-in names are the built-ins -/
structure Blt (mg : Str → Option Value) : Prop where
  len : mg "len" = none
  abs : mg "abs" = none
  int : mg "int" = none
  str : mg "str" = none
  tuple : mg "tuple" = none
  list : mg "list" = none
  bool : mg "bool" = none
  sorted : mg "sorted" = none
  isinstance : mg "isinstance" = none
  range : mg "range" = none
  zip : mg "zip" = none
  max : mg "max" = none
  all : mg "all" = none
/-! ### the source of draws -/
def SrcOk (l : List D) : Prop := ∃ (cells : List Int) (place count : Nat) (digits mixed : Int), l = [.lst (cells.map .int), .int place, .int digits, .int count, .int mixed] ∧ cells ≠ []
def SrcAt (ms : MS) (a : Addr) : Prop := ∃ l, ms a = some (.l l) ∧ SrcOk l
def SB (a : Addr) (ms ms' : MS) : Prop := SrcAt ms' a ∧ ∀ b, b ≠ a → ms' b = ms b
theorem atI_ok {α : Type} {l : List α} {i : Int} (h0 : 0 ≤ i) (h1 : i < l.length) : ∃ v, atI l i = some v ∧ v ∈ l := by
  obtain ⟨n, rfl⟩ := Int.eq_ofNat_of_zero_le h0
  have hn : n < l.length := by omega
  exact ⟨l[n], atI_nat (List.getElem?_eq_getElem hn), List.getElem_mem hn⟩
theorem atI_int {l : List Int} {i : Int} (h0 : 0 ≤ i) (h1 : i < l.length) : ∃ v, atI (l.map D.int) i = some (.int v) ∧ v ∈ l := by
  obtain ⟨v, h, hm⟩ := atI_ok (l := l.map D.int) h0 (by rw [List.length_map]; exact h1)
  obtain ⟨u, hu, rfl⟩ := List.mem_map.mp hm
  exact ⟨u, h, hu⟩
theorem SB.mu {a : Addr} {ms m1 : MS} {l : List D} (h : ∀ b, b ≠ a → m1 b = ms b) (ok : SrcOk l) : SB a ms (AL.mu m1 a (.l l)) := ⟨⟨l, mu_same, ok⟩, fun b hb => by rw [mu_ne hb]; exact h b hb⟩
theorem SB.trans {a : Addr} {m0 m1 m2 : MS} (h : SB a m0 m1) (g : SB a m1 m2) : SB a m0 m2 := ⟨g.1, fun b hb => (g.2 b hb).trans (h.2 b hb)⟩
theorem SB.refl {a : Addr} {ms : MS} (h : SrcAt ms a) : SB a ms ms := ⟨h, fun _ _ => rfl⟩
theorem srcOk {cells : List Int} (h : cells ≠ []) (place count digits mixed : Int) (hp : 0 ≤ place) (hc : 0 ≤ count) : SrcOk [.lst (cells.map .int), .int place, .int digits, .int count, .int mixed] := by
  obtain ⟨p, rfl⟩ := Int.eq_ofNat_of_zero_le hp
  obtain ⟨c, rfl⟩ := Int.eq_ofNat_of_zero_le hc
  exact ⟨cells, p, c, digits, mixed, rfl, h⟩
section
variable {P : Program} {w : World} {K : PySem.W.Frag} {mg : Str → Option Value} {base : Heap}
abbrev s_law_draw : Stmt := (topS 21)
theorem sc_law_draw : FnScope ["source", "below", "cells", "place", "digits", "count", "seed", "number"] ["source", "below"] (defScope s_law_draw) := ⟨rfl, rfl, rfl, by decide +kernel, rfl, by decide +kernel, by decide +kernel⟩

def R_draw : AFn := fun sds ms k _ => ∃ a n, sds = [.v (.ref a), .d (.int n)] ∧ SrcAt ms a ∧ 0 < n ∧ n < 1073741824 ∧ ∀ v ms', 0 ≤ v → v < n → SB a ms ms' → k (.d (.int v)) ms'
theorem ok_draw (T : Blt mg) {f : Addr} {fd : FuncData} (F : Fun K "_law_draw" "_law_draw" s_law_draw f fd) : FnOk P w K mg base CX0 1 f fd ["source", "below"] (spA R_draw) := by
  refine fnA F sc_law_draw (fun sds ms k x h => ?_) (by decide) fun cdv A outer s H E hr => ⟨_, _, (ass_cons (as_set 2 sc_law_draw.nd (ae_ix (u1 hr) (ae_v 0) ae_int))
    (ass_cons (as_set 3 sc_law_draw.nd (ae_ix (u1 hr) (ae_v 0) ae_int))
    (ass_cons (as_set 4 sc_law_draw.nd (ae_ix (u1 hr) (ae_v 0) ae_int))
    (ass_cons (as_set 5 sc_law_draw.nd (ae_ix (u1 hr) (ae_v 0) ae_int))
    (ass_cons (as_put (u1 hr) (ae_v 0) ae_int (ae_bin op_addA oa_add (ae_v 5) ae_int))
    (ass_cons (as_if (AW.at (aw_and (at_cmp (op_eqA (u64 hr)) oa_eq (ae_ix (u1 hr) (ae_v 0) ae_int) ae_int (nomark _)) (aw_and1 (at_cmp (op_ltA (u64 hr)) oa_lt (ae_v 3) (ae_callB call_len oa_len (by rfl) T.len (by decide +kernel) (aa_cons (ae_v 2) aa_nil)) (nomark _))))) (ass_cons (as_put (u1 hr) (ae_v 0) ae_int (ae_bin op_fdiv oa_div (ae_v 4) (ae_v 1)))
      (ass_cons (as_if (at_cmp (op_eqA (u64 hr)) oa_eq (ae_ix (u1 hr) (ae_v 0) ae_int) ae_int (nomark _)) (ass_cons (as_put (u1 hr) (ae_v 0) ae_int (ae_bin op_addA oa_add (ae_v 3) ae_int))
        (ass_one (as_if (at_cmp (op_ltA (u64 hr)) oa_lt (ae_bin op_addA oa_add (ae_v 3) ae_int) (ae_callB call_len oa_len (by rfl) T.len (by decide +kernel) (aa_cons (ae_v 2) aa_nil)) (nomark _)) (ass_one (as_put (u1 hr) (ae_v 0) ae_int (ae_ix (u1 hr) (ae_v 2) (ae_bin op_addA oa_add (ae_v 3) ae_int)))) ass_nil))) ass_nil)
      (ass_one (as_ret (ae_bin op_mod oa_mod (ae_callTy call_int1 oa_int (by rfl) T.int (by decide +kernel) (aa_cons (ae_v 4) aa_nil)) (ae_v 1)))))) ass_nil)
    (ass_cons (as_set 6 sc_law_draw.nd (ae_bin op_addA oa_add (ae_bin op_addA oa_add (ae_ix (u1 hr) (ae_v 2) (ae_bin op_mod oa_mod (ae_callTy call_int1 oa_int (by rfl) T.int (by decide +kernel) (aa_cons (ae_v 5) aa_nil)) (ae_callB call_len oa_len (by rfl) T.len (by decide +kernel) (aa_cons (ae_v 2) aa_nil)))) (ae_bin op_mul oa_mul ae_int (ae_v 5))) ae_int))
    (ass_cons (as_set 7 sc_law_draw.nd (ae_bin op_mod oa_mod (ae_callTy call_int1 oa_int (by rfl) T.int (by decide +kernel) (aa_cons (ae_bin op_addA oa_add (ae_bin op_mul oa_mul (ae_v 6) ae_int) (ae_bin op_mul oa_mul (ae_bin op_addA oa_add (ae_v 5) ae_int) ae_int)) aa_nil)) ae_int))
    (ass_cons (as_set 7 sc_law_draw.nd (ae_bin op_mod oa_mod (ae_callTy call_int1 oa_int (by rfl) T.int (by decide +kernel) (aa_cons (ae_bin op_addA oa_add (ae_bin op_mul oa_mul (ae_v 7) (ae_bin op_addA oa_add (ae_bin op_addA oa_add (ae_bin op_mod oa_mod (ae_callTy call_int1 oa_int (by rfl) T.int (by decide +kernel) (aa_cons (ae_v 7) aa_nil)) ae_int) (ae_v 5)) ae_int)) (ae_v 6)) aa_nil)) ae_int))
    (ass_one (as_ret (ae_bin op_mod oa_mod (ae_callTy call_int1 oa_int (by rfl) T.int (by decide +kernel) (aa_cons (ae_bin op_fdiv oa_div (ae_v 7) ae_int) aa_nil)) (ae_v 1))))))))))))), fun sds ms k x h => ?_⟩
  · obtain ⟨a, n, rfl, _⟩ := h; rfl
  · obtain ⟨a, n, rfl, ⟨l, hl, cells, place, count, digits, mixed, rfl, hne⟩, h2, h3, q⟩ := h
    have hlen : 0 < (cells.length : Int) := by
      have : 0 < cells.length := List.length_pos_iff.mpr hne
      omega
    have hlm : 0 < ((cells.map D.int).length : Int) := by rw [List.length_map]; exact hlen
    have fin : ∀ (v : Int) {m1 : MS} {l : List D}, (∀ b, b ≠ a → m1 b = ms b) → SrcOk l → k (.d (.int (v % n))) (mu m1 a (.l l)) := fun v m1 l h1 h4 =>
      q _ _ (Int.emod_nonneg _ (by omega)) (Int.emod_lt_of_pos _ h2) (SB.mu h1 h4)
    dsimp only [gam]
    walk_at "go"
    refine s_ite (fun hb => ?_) (fun hb => s_iteF rfl ?_)
    walk_at "go"
    refine s_ite (fun hb2 => ?_) (fun hb2 => ?_)
    · walk_at "go"
      refine s_ite (fun hb3 => ?_) (fun hb3 => ?_)
      · walk_at "go"
        refine s_ite (fun hb4 => ?_) (fun hb4 => ?_)
        · walk_at "go"
          rw [List.length_map] at hb4
          obtain ⟨v, hv, _⟩ := atI_int (l := cells) (i := (place : Int) + 1) (by omega) (of_decide_eq_true hb4)
          refine s_ix rfl hv ?_
          walk_at "go"
          exact Out.here (fin _ (fun b hb => by simp only [mu_ne hb]) (srcOk hne _ _ _ _ (by omega) (by omega)))
        · walk_at "go"
          exact Out.here (fin _ (fun b hb => by simp only [mu_ne hb]) (srcOk hne _ _ _ _ (by omega) (by omega)))
      · walk_at "go"
        exact Out.here (fin _ (fun b hb => by simp only [mu_ne hb]) (srcOk hne _ _ _ _ (by omega) (by omega)))
    all_goals
      walk_at "go"
      obtain ⟨v, hv, _⟩ := atI_int (l := cells) (i := (count : Int) % ((cells.map D.int).length : Int)) (Int.emod_nonneg _ (by omega)) (by rw [List.length_map]; exact Int.emod_lt_of_pos _ hlen)
      refine s_ix rfl hv ?_
      walk_at "go"
      exact Out.here (fin _ (fun b hb => by simp only [mu_ne hb]) (srcOk hne _ _ _ _ (by omega) (by omega)))
end
end R76

/-! ## K76b -/
set_option Elab.async false
set_option linter.all false
set_option maxRecDepth 100000
set_option maxHeartbeats 4000000
namespace AL
open PySem PySem.Spec PyProof.Rows L2
open Evl (Ex)
/-- a list of whole numbers among the module's own objects -/
def KL (K : PySem.W.Frag) (a : Addr) (ns : List Int) : Prop := ∃ (o : Obj) (its : Array Value) (n : Nat), K.lookup a = some o ∧ o.cls = .type "list" ∧ o.dict = none ∧ o.data = .seq its n ∧ its.size ≤ sizeLine ∧ Vals (ns.map V.int) its.toList
/-- the script of a law -/
def Scr (K : PySem.W.Frag) (sd : SD) (ns : List Int) : Prop := sd = .d (.frl (ns.map .int)) ∨ ∃ a, sd = .v (.ref a) ∧ KL K a ns
def oDatS (K : PySem.W.Frag) (u : SD) (k : List D → Prop) : Prop := ∃ ns, Scr K u ns ∧ k (ns.map .int)
theorem shw_ints (G : Hp) : ∀ ns : List Int, ShwL G (ns.map V.int) (ns.map D.int)
  | [] => .nil
  | n :: r => .cons (.int n) (shw_ints G r)
theorem ints_shw {G : Hp} : ∀ {ns : List Int} {vs : List V}, ShwL G vs (ns.map D.int) → vs = ns.map V.int
  | [], _, s => by cases s; rfl
  | n :: r, _, s => by
    cases s with
    | cons a b =>
      cases a
      rw [ints_shw b]; rfl
theorem ai_seqS {X : Cx} {W : WX} {tg e : Expr} {te : TE} {re : AER} (he : AE X W e te re) : AI X W tg e (iSeq3 X.K te) (fun Γ ms k x => re Γ ms (fun u ms1 => oDatS X.K u fun ds => k ds ms1) x) := by
  refine ⟨pi_seq he.pe, fun Γ ms k x h σ H G F R ev g kk xw => ?_⟩
  refine he.ok Γ ms _ x h σ H G F _ ev g (fun v H1 G1 sd ms1 e1 g1 s1 q1 => ?_) xw
  obtain ⟨ns, hs, q⟩ := q1
  have wl : ∀ (a : Addr), (∀ G' H', Ex G1 G' → Ex G' H' → SqL X.K H' a (ns.map V.int)) → Walks (Itl X.K a) (ns.map .int) G1 := fun a hs i H' G' F' ms' e' g' => by
    have h1 := hs G' H' e' g'.ex
    have sh := shw_ints G1 ns
    refine ⟨fun hi => ⟨_, h1, by rw [sh.length]; exact hi⟩, fun d hd => ?_⟩
    obtain ⟨w, hw, sw⟩ := sh.get hd
    refine ⟨⟨_, w, h1, hw⟩, fun x H'' hy => ?_⟩
    obtain ⟨rfl, hy⟩ := hy
    have ex : x = w := Option.some.inj ((hy _ h1).symm.trans hw)
    subst ex
    exact ⟨G', Ex.refl G', g', sw.mono e'⟩
  rcases hs with rfl | ⟨a, rfl, hk⟩
  · cases s1 with
    | frl a b =>
      have ev := ints_shw b
      subst ev
      exact .inl ⟨_, rfl, .inl ⟨⟨_, .inl (.inr ⟨_, g1.ex _ _ a⟩)⟩, kk _ _ _ _ _ e1 g1 q (wl _ fun G' H' e1 e2 => .inl (.inr ⟨_, e2 _ _ (e1 _ _ a)⟩))⟩⟩
  · have ev : v = .ref a := s1
    subst ev
    exact .inl ⟨_, rfl, .inl ⟨⟨_, .inr hk⟩, kk _ _ _ _ _ e1 g1 q (wl _ fun _ _ _ _ => .inr hk)⟩⟩
end AL
namespace R76
open PySem PySem.Spec PyProof.Rows L2 AL
open Evl (Ex)
local macro_rules | `(tactic| walk_at "st") => `(tactic| first
  | (with_reducible refine' s_seq ?_) | (with_reducible refine' s_set ?_) | (with_reducible refine' s_nx ?_) | (with_reducible refine' s_ret ?_) | (with_reducible refine' s_drop ?_) | (with_reducible refine' s_asg ?_) | (with_reducible refine' s_for ?_) | (with_reducible refine' s_tt ?_) | (with_reducible refine' s_ff ?_) | (with_reducible refine' s_lcS ?_) | (with_reducible refine' s_put ?_) | (with_reducible refine' s_app ?_) | (with_reducible refine' s_ext ?_)
  | (with_reducible refine' s_gN ?_) | ((with_reducible refine' s_v ?e ?_); (case e => rfl)) | (with_reducible refine' s_asB ?_) | (with_reducible refine' s_asI ?_) | (with_reducible refine' s_asD ?_) | (with_reducible refine' s_nil ?_) | (with_reducible refine' s_cons ?_)
  | (with_reducible refine' s_addI ?_) | (with_reducible refine' s_I0 ?_) | (with_reducible refine' s_neg ?_) | (with_reducible refine' s_eqI ?_) | (with_reducible refine' s_eqS ?_) | (with_reducible refine' s_ltI ?_) | (with_reducible refine' s_isN ?_) | (with_reducible refine' s_int ?_) | (with_reducible refine' s_abs ?_)
  | ((with_reducible refine' s_len ?e ?_); (case e => first | rfl | exact seqOf_m (by assumption) | exact seqOf_m mu_same))
  | ((with_reducible refine' s_ix ?e ?e2 ?_); (case e => first | rfl | exact seqOf_m (by assumption) | exact seqOf_m mu_same); (case e2 => first | rfl | assumption | exact atI_nat (j := 0) rfl | exact atI_nat (j := 1) rfl | exact atI_nat (j := 2) rfl | exact atI_nat (j := 3) rfl))
  | ((with_reducible refine' s_putL ?e ?e2 ?_); (case e => first | assumption | exact mu_same); (case e2 => first | rfl | assumption))
  | ((with_reducible refine' s_oL ?e ?_); (case e => first | assumption | exact mu_same))
  | ((with_reducible refine' s_dat ?e ?_); (case e => rfl)) | ((with_reducible refine' s_rng ?e ?_); (case e => exact ⟨by omega, by omega⟩))
  | ((with_reducible refine' s_I ?c ?_); (case c => first | assumption | exact ⟨by omega, by omega⟩ | exact ⟨by decide, by decide, by decide⟩ | exact Or.inl ⟨by omega, by omega⟩ | exact Or.inr ⟨by omega, by omega⟩ | (show (0 : Int) < _; omega) | (show (0 : Int) ≤ _; omega)))
  | (with_reducible refine' s_slT ?_) | (with_reducible refine' s_slL ?_) | (with_reducible refine' s_gC ?_) | ((with_reducible refine' s_gT ?e ?_); (case e => rfl))
  | ((with_reducible refine' s_tup ?e ?_); (case e => first | rfl | exact seqOf_m (by assumption) | exact seqOf_m mu_same))
  | ((with_reducible refine' s_list ?e ?_); (case e => first | rfl | exact seqOf_m (by assumption) | exact seqOf_m mu_same))
  | ((with_reducible refine' s_isi ?e ?e2 ?_); (case e => rfl); (case e2 => rfl))
  | (with_reducible refine' s_max ?_)
  | ((with_reducible refine' And.intro ?r ?_); (case r => with_reducible rfl)))
local macro_rules | `(tactic| walk_at "one") => `(tactic| first | (with_reducible refine' s_if ?_) | walk_at "st")
local macro_rules | `(tactic| walk_at "up") => `(tactic| repeat walk_at "st")
local macro_rules | `(tactic| walk_at "go") => `(tactic| repeat walk_at "one")
local macro_rules | `(tactic| walk_at "all") => `(tactic| repeat' (first | walk_at "one" | (refine s_ite (fun _ => ?_) (fun _ => ?_))))

section
variable {P : Program} {w : World} {K : PySem.W.Frag} {mg : Str → Option Value} {base : Heap}
abbrev s_law_source : Stmt := (topS 20)
theorem sc_law_source : FnScope ["script", "cells", "cell", "mixed"] ["script"] (defScope s_law_source) := ⟨rfl, rfl, rfl, by decide +kernel, rfl, by decide +kernel, by decide +kernel⟩

def R_source (K : PySem.W.Frag) : AFn := fun sds ms k _ => ∃ (ns : List Int) (sd : SD), sds = [sd] ∧ Scr K sd ns ∧ ns.length ≤ 63 ∧ ∀ p l, ms p = none → SrcOk l → k (.v (.ref p)) (mu ms p (.l l))
theorem ok_source (T : Blt mg) {f : Addr} {fd : FuncData} (F : Fun K "_law_source" "_law_source" s_law_source f fd) : FnOk P w K mg base CX0 1 f fd ["script"] (spA (R_source K)) := by
  refine fnA F sc_law_source (fun sds ms k x h => ?_) (by decide) fun cdv A outer s H E hr => ⟨_, _, (ass_cons (as_setLc 1 (own := [("cell", 2)]) rfl sc_law_source.nd (ai_seqS (ae_v 0)) (blkOk_by (own := [("cell", 2)]) (N := ["script", "cells", "cell", "mixed"]) (sc := defScope s_law_source) (by decide +kernel)) (by decide) (fun _ _ _ _ _ => (ag_name 2 sc_law_source.nd)) (fun _ _ _ _ _ => ats_nil) (fun _ _ _ _ _ => (ae_callB call_abs oa_abs (by rfl) T.abs (by decide +kernel) (aa_cons (ae_callTy call_int1 oa_int (by rfl) T.int (by decide +kernel) (aa_cons (ae_v 2) aa_nil)) aa_nil))) (sw_true rfl rfl rfl (by decide +kernel)))
    (ass_cons (as_if (at_cmp (op_eqA (u64 hr)) oa_eq (ae_callB call_len oa_len (by rfl) T.len (by decide +kernel) (aa_cons (ae_v 1) aa_nil)) ae_int (nomark _)) (ass_one (as_set 1 sc_law_source.nd (ae_lst (aa_cons ae_int aa_nil)))) ass_nil)
    (ass_cons (as_set 3 sc_law_source.nd ae_int)
    (ass_cons (as_if (at_cmp (op_ltA (u64 hr)) oa_lt (ae_ix (u1 hr) (ae_v 1) ae_int) (ae_bin op_pow oa_pow ae_int ae_int) (nomark _)) (ass_one (as_set 3 sc_law_source.nd (ae_bin op_mod oa_mod (ae_callTy call_int1 oa_int (by rfl) T.int (by decide +kernel) (aa_cons (ae_ix (u1 hr) (ae_v 1) ae_int) aa_nil)) ae_int))) ass_nil)
    (ass_one (as_ret (ae_lstM (aa_cons (ae_v 1) (aa_cons ae_int (aa_cons (ae_ix (u1 hr) (ae_v 1) ae_int) (aa_cons ae_int (aa_cons (ae_v 3) aa_nil)))))))))))), fun sds ms k x h => ?_⟩
  · obtain ⟨a, b, rfl, _⟩ := h; rfl
  · obtain ⟨ns, sd, rfl, hsc, hl, q⟩ := h
    dsimp only [gam]
    walk_at "go"
    refine ⟨ns, hsc, ?_⟩
    have e : ns.map D.int = ns.map fun n => D.int n := rfl
    refine lcI_map (f := fun n => D.int ((n.natAbs : Nat) : Int)) (small_len (by omega)) (fun x hx acc N hz hN => ?_) ?_
    · walk_at "go"
      exact ⟨hz, hN⟩
    rw [show (ns.map fun n => D.int ((n.natAbs : Nat) : Int)) = (ns.map fun n => ((n.natAbs : Nat) : Int)).map D.int by rw [List.map_map]; rfl]
    generalize (ns.map fun n => ((n.natAbs : Nat) : Int)) = cells
    walk_at "go"
    refine s_ite (fun hb => ?_) (fun hb => ?_)
    · walk_at "go"
      refine s_iteT (by decide) ?_
      walk_at "go"
      exact fun p hp => Out.here (q p _ hp (srcOk (cells := [5]) (by decide) 0 0 5 _ (by omega) (by omega)))
    · cases cells with
      | nil => exact absurd hb (by decide)
      | cons c r =>
        walk_at "go"
        refine s_ite (fun hb => ?_) (fun hb => ?_)
        · walk_at "go"
          exact fun p hp => Out.here (q p _ hp (srcOk (cells := c :: r) (by simp) 0 0 c _ (by omega) (by omega)))
        · walk_at "go"
          exact fun p hp => Out.here (q p _ hp (srcOk (cells := c :: r) (by simp) 0 0 c _ (by omega) (by omega)))
end
end R76

/-! ## K76m -/
set_option Elab.async false
set_option linter.all false
set_option maxRecDepth 100000
set_option maxHeartbeats 4000000
namespace R76
open PySem PySem.Spec PyProof.Rows L2 AL
open PySem.W (keyToks keyToksAll alike alikeAll dataLt dataLe)

/-! ### the things the law draws -/
abbrev Off := Str × Int × Int
abbrev Wnt := Str × Off
abbrev Rel := List Off × List Wnt
def eO (o : Off) : D := .tup [.str o.1, .int o.2.1, .int o.2.2]
def eW (w : Wnt) : D := .tup [.str w.1, .str w.2.1, .int w.2.2.1, .int w.2.2.2]
def eR (r : Rel) : D := .tup [.tup (r.1.map eO), .tup (r.2.map eW)]
def eLn (l : List Rel) : D := .tup (l.map eR)
def eLs (ls : List (List Rel)) : D := .tup (ls.map eLn)
def eN (ns : List Str) : D := .tup (ns.map D.str)
def eM (m : List Nat) : D := .tup (m.map fun i : Nat => D.int i)
def sok (z : Str) : Prop := z.cps.all (· < 0x110000) = true
def ook (o : Off) : Prop := sok o.1
def wok (w : Wnt) : Prop := sok w.1 ∧ sok w.2.1
structure RelOk (r : Rel) : Prop where
  n1 : r.1.length ≤ 4
  n2 : r.2.length ≤ 6
  o : ∀ x ∈ r.1, ook x
  w : ∀ x ∈ r.2, wok x
structure RelsOk (ls : List (List Rel)) : Prop where
  n : 1 ≤ ls.length ∧ ls.length ≤ 4
  l : ∀ l ∈ ls, 1 ≤ l.length ∧ l.length ≤ 4
  r : ∀ l ∈ ls, ∀ r ∈ l, RelOk r
def SGN : Str := " abcdefghijklmnopqrstuvwxyz0123456789"
def SG1 : List Nat := SGN.cps.toList.drop 1
def SG26 : List Nat := (SGN.cps.toList.drop 1).take 26
structure NameOk (z : Str) : Prop where
  n : 1 ≤ z.length ∧ z.length ≤ 9
  h : ∃ c r, z.cps.toList = c :: r ∧ c ∈ SG26
  a : ∀ c ∈ z.cps.toList, c ∈ SG1
theorem sg1_ok : ∀ c ∈ SG1, c < 0x110000 := by decide +kernel
theorem NameOk.sok {z : Str} (h : NameOk z) : sok z := by
  show z.cps.all (· < 0x110000) = true
  rw [← Array.all_toList]
  exact List.all_eq_true.mpr fun c hc => decide_eq_true (sg1_ok c (h.a c hc))
structure NamesOk (ns : List Str) : Prop where
  a : ∀ z ∈ ns, NameOk z
  d : ns.Nodup

/-! ### data: fit, eqv, alike -/
theorem fit_str {z : Str} (h : sok z) (n : Nat) : (D.str z).fit n = true := by rw [D.fit]; exact h
theorem fit_tup {l : List D} {n : Nat} (h : ∀ d ∈ l, d.fit n = true) : (D.tup l).fit (n + 1) = true := by
  simp only [D.fit]
  rw [fitL_all]
  exact List.all_eq_true.mpr h
theorem fit_lst {l : List D} {n : Nat} (h : ∀ d ∈ l, d.fit n = true) : (D.lst l).fit (n + 1) = true := by
  simp only [D.fit]
  rw [fitL_all]
  exact List.all_eq_true.mpr h
theorem fitL_of {l : List D} {n : Nat} (h : ∀ d ∈ l, d.fit n = true) : fitL l n = true := by
  rw [fitL_all]
  exact List.all_eq_true.mpr h
theorem fit_eO {o : Off} (h : ook o) (n : Nat) : (eO o).fit (n + 1) = true := fit_tup fun d hd => by
  simp only [List.mem_cons, List.not_mem_nil, or_false] at hd
  rcases hd with rfl | rfl | rfl
  · exact fit_str h n
  · rfl
  · rfl
theorem fit_eW {o : Wnt} (h : wok o) (n : Nat) : (eW o).fit (n + 1) = true := fit_tup fun d hd => by
  simp only [List.mem_cons, List.not_mem_nil, or_false] at hd
  rcases hd with rfl | rfl | rfl | rfl
  · exact fit_str h.1 n
  · exact fit_str h.2 n
  · rfl
  · rfl
theorem fit_eM (m : List Nat) (n : Nat) : (eM m).fit (n + 1) = true := fit_tup fun d hd => by
  obtain ⟨i, _, rfl⟩ := List.mem_map.mp hd
  rfl
theorem fit_eR {r : Rel} (h : RelOk r) (n : Nat) : (eR r).fit (n + 3) = true := fit_tup fun d hd => by
  simp only [List.mem_cons, List.not_mem_nil, or_false] at hd
  rcases hd with rfl | rfl
  · exact fit_tup fun d hd => by
      obtain ⟨i, hi, rfl⟩ := List.mem_map.mp hd
      exact fit_eO (h.o i hi) n
  · exact fit_tup fun d hd => by
      obtain ⟨i, hi, rfl⟩ := List.mem_map.mp hd
      exact fit_eW (h.w i hi) n
theorem fit_eLs {ls : List (List Rel)} (h : RelsOk ls) (n : Nat) : (eLs ls).fit (n + 5) = true := fit_tup fun d hd => by
  obtain ⟨l, hl, rfl⟩ := List.mem_map.mp hd
  exact fit_tup fun d hd => by
    obtain ⟨r, hr, rfl⟩ := List.mem_map.mp hd
    exact fit_eR (h.r l hl r hr) n
theorem eqv_self {d : D} {n : Nat} (h : d.fit n = true) : d.eqv d = true := by
  unfold D.eqv
  exact SeqAt.eqv_refl _ (D.fit_lay d n h).1
theorem eqv_tup (a b : List D) : (D.tup a).eqv (.tup b) = PyData.eqvAll (pyL a) (pyL b) := by
  unfold D.eqv
  rw [D.py, D.py, PyData.eqv]
theorem eqvAll_cons (a b : D) (r s : List D) : PyData.eqvAll (pyL (a :: r)) (pyL (b :: s)) = (a.eqv b && PyData.eqvAll (pyL r) (pyL s)) := by
  rw [pyL, pyL, PyData.eqvAll]; rfl
theorem eqvAll_nil : PyData.eqvAll (pyL []) (pyL []) = true := by rw [pyL, PyData.eqvAll]
theorem eqv_eO (a b : Off) : (eO a).eqv (eO b) = decide (a = b) := by
  obtain ⟨a1, a2, a3⟩ := a
  obtain ⟨b1, b2, b3⟩ := b
  unfold eO
  rw [eqv_tup, eqvAll_cons, eqvAll_cons, eqvAll_cons, eqvAll_nil, eqv_str, eqv_int, eqv_int]
  simp [Bool.decide_and]
theorem eqv_eW (a b : Wnt) : (eW a).eqv (eW b) = decide (a = b) := by
  obtain ⟨a0, a1, a2, a3⟩ := a
  obtain ⟨b0, b1, b2, b3⟩ := b
  unfold eW
  rw [eqv_tup, eqvAll_cons, eqvAll_cons, eqvAll_cons, eqvAll_cons, eqvAll_nil, eqv_str, eqv_str, eqv_int, eqv_int]
  simp [Bool.decide_and]
theorem any_eO (l : List Off) (o : Off) : ((l.map eO).any fun z => z.eqv (eO o)) = decide (o ∈ l) := by
  induction l with
  | nil => simp
  | cons a r ih =>
    rw [List.map_cons, List.any_cons, ih, eqv_eO]
    by_cases h : a = o
    · subst h; simp
    · have h2 : ¬ o = a := fun e => h e.symm
      simp [h, h2]

/-! ### sorted -/
theorem sort_map {α : Type} {f : α → D} (l : List α) : ∃ l' : List α, sortD (l.map f) = l'.map f ∧ l'.Perm l :=
  ⟨l.mergeSort fun a b => leD (f a) (f b), (List.map_mergeSort (f := f) (s := leD) (fun _ _ _ _ => rfl)).symm, List.mergeSort_perm _ _⟩
theorem alike_int (a b : Int) : alike (.int a) (.int b) = true := rfl
theorem alike_str (a b : Str) : alike (.str a) (.str b) = true := rfl
theorem alike_tup (a b : List D) : alike (D.tup a).py (D.tup b).py = alikeAll (pyL a) (pyL b) := by rw [D.py, D.py, alike]
theorem alikeAll_cons (a b : D) (r s : List D) : alikeAll (pyL (a :: r)) (pyL (b :: s)) = (alike a.py b.py && alikeAll (pyL r) (pyL s)) := by rw [pyL, pyL, alikeAll]
theorem alikeAll_nil (s : List D) : alikeAll (pyL []) (pyL s) = true := by rw [pyL, alikeAll]
theorem alike_eO (a b : Off) : alike (eO a).py (eO b).py = true := by
  unfold eO
  rw [alike_tup, alikeAll_cons, alikeAll_cons, alikeAll_cons, alikeAll_nil]
  simp [D.py, alike]
theorem alike_eW (a b : Wnt) : alike (eW a).py (eW b).py = true := by
  unfold eW
  rw [alike_tup, alikeAll_cons, alikeAll_cons, alikeAll_cons, alikeAll_cons, alikeAll_nil]
  simp [D.py, alike]
theorem sorts_of {α : Type} {f : α → D} {l : List α} {n : Nat} (hf : ∀ a ∈ l, (f a).fit 63 = true) (ha : ∀ a b, alike (f a).py (f b).py = true) (ht : ∀ a, ∃ d r, f a = .tup (d :: r)) :
    fitL (l.map f) 63 = true ∧ PySem.W.AllAlike ((l.map f).map D.py) ∧ PySem.W.Sortable ((l.map f).map D.py) := by
  refine ⟨fitL_of fun d hd => ?_, fun d hd e he => ?_, .inl fun d hd => ?_⟩
  · obtain ⟨a, h, rfl⟩ := List.mem_map.mp hd
    exact hf a h
  · rw [List.map_map] at hd he
    obtain ⟨a, _, rfl⟩ := List.mem_map.mp hd
    obtain ⟨b, _, rfl⟩ := List.mem_map.mp he
    exact ha a b
  · rw [List.map_map] at hd
    obtain ⟨a, _, rfl⟩ := List.mem_map.mp hd
    obtain ⟨x, r, e⟩ := ht a
    refine ⟨x.py, pyL r, ?_⟩
    show (f a).py = _
    rw [e, D.py, pyL]
/-- sorted(xs) of offers -/
theorem s_sortO {ms : MS} {sd : SD} {l : List Off} {k : SD → Prop} (e : lstOf ms sd = some (l.map eO)) (ho : ∀ o ∈ l, ook o) (hl : l.length ≤ 1000) (h : ∀ l' : List Off, l'.Perm l → k (.d (.lst (l'.map eO)))) : oSorted ms [sd] k := by
  obtain ⟨l', h1, h2⟩ := sort_map (f := eO) l
  obtain ⟨a, b, c⟩ := sorts_of (n := 0) (fun o h => fit_eO (ho o h) 62) alike_eO fun a => ⟨_, _, rfl⟩
  exact ⟨_, e, a, b, c, by rw [List.length_map]; exact small_len hl, by rw [h1]; exact h l' h2⟩
theorem s_sortW {ms : MS} {sd : SD} {l : List Wnt} {k : SD → Prop} (e : lstOf ms sd = some (l.map eW)) (ho : ∀ o ∈ l, wok o) (hl : l.length ≤ 1000) (h : ∀ l' : List Wnt, l'.Perm l → k (.d (.lst (l'.map eW)))) : oSorted ms [sd] k := by
  obtain ⟨l', h1, h2⟩ := sort_map (f := eW) l
  obtain ⟨a, b, c⟩ := sorts_of (n := 0) (fun o h => fit_eW (ho o h) 62) alike_eW fun a => ⟨_, _, rfl⟩
  exact ⟨_, e, a, b, c, by rw [List.length_map]; exact small_len hl, by rw [h1]; exact h l' h2⟩
/-- (name,) + want -/
def eX (x : Str × Wnt) : D := .tup [.str x.1, .str x.2.1, .str x.2.2.1, .int x.2.2.2.1, .int x.2.2.2.2]
theorem s_sortX {ms : MS} {sd : SD} {l : List (Str × Wnt)} {k : SD → Prop} (e : lstOf ms sd = some (l.map eX)) (ho : ∀ o ∈ l, sok o.1 ∧ wok o.2) (hl : l.length ≤ 1000) (h : ∀ l' : List D, l'.length = l.length → k (.d (.lst l'))) : oSorted ms [sd] k := by
  obtain ⟨a, b, c⟩ := sorts_of (n := 0) (f := eX) (l := l) (fun o h => fit_tup (n := 62) fun d hd => by
    simp only [List.mem_cons, List.not_mem_nil, or_false] at hd
    rcases hd with rfl | rfl | rfl | rfl | rfl
    · exact fit_str (ho o h).1 _
    · exact fit_str (ho o h).2.1 _
    · exact fit_str (ho o h).2.2 _
    · rfl
    · rfl) (fun a b => by
    unfold eX
    rw [alike_tup, alikeAll_cons, alikeAll_cons, alikeAll_cons, alikeAll_cons, alikeAll_cons, alikeAll_nil]
    simp [D.py, alike]) fun a => ⟨_, _, rfl⟩
  exact ⟨_, e, a, b, c, by rw [List.length_map]; exact small_len hl, h _ (by unfold sortD; rw [List.length_mergeSort, List.length_map])⟩

/-! ### mixtures -/
def ltL : List Nat → List Nat → Bool
  | a :: r, b :: s => if a = b then ltL r s else decide (a < b)
  | [], _ :: _ => true
  | _, [] => false
theorem ltL_irr : ∀ a, ltL a a = false
  | [] => rfl
  | a :: r => by rw [ltL, if_pos rfl]; exact ltL_irr r
theorem ltL_asym : ∀ a b, ltL a b = true → ltL b a = false
  | [], [], h => by simp [ltL] at h
  | [], _ :: _, _ => rfl
  | _ :: _, [], h => by cases h
  | a :: r, b :: s, h => by
    rw [ltL] at h ⊢
    by_cases e : a = b
    · rw [if_pos e] at h; rw [if_pos e.symm]; exact ltL_asym r s h
    · rw [if_neg e] at h
      rw [if_neg (fun q => e q.symm)]
      have := of_decide_eq_true h
      exact decide_eq_false (by omega)
theorem ltL_snoc : ∀ a b x y, a.length = b.length → ltL a b = true → ltL (a ++ [x]) (b ++ [y]) = true
  | [], [], _, _, _, h => by cases h
  | [], _ :: _, _, _, e, _ => by cases e
  | _ :: _, [], _, _, e, _ => by cases e
  | a :: r, b :: s, x, y, e, h => by
    rw [ltL] at h
    rw [List.cons_append, List.cons_append, ltL]
    by_cases q : a = b
    · rw [if_pos q] at h ⊢; exact ltL_snoc r s x y (Nat.succ.inj e) h
    · rw [if_neg q] at h ⊢; exact h
theorem ltL_last : ∀ a x y, x < y → ltL (a ++ [x]) (a ++ [y]) = true
  | [], x, y, h => by
    show (if x = y then _ else decide (x < y)) = true
    rw [if_neg (by omega)]; exact decide_eq_true h
  | a :: r, x, y, h => by rw [List.cons_append, List.cons_append, ltL, if_pos rfl]; exact ltL_last r x y h
theorem lt_eM (a b : List Nat) : dataLt (eM a).py (eM b).py = ltL a b := by
  have tk : ∀ l : List Nat, keyToks (eM l).py = keyToksAll (pyL (l.map fun i : Nat => D.int i)) := fun l => by unfold eM; rw [D.py, keyToks]
  have main : ∀ a b : List Nat, PyProof.Rows.lexLt itemOrd (keyToksAll (pyL (a.map fun i : Nat => D.int i))) (keyToksAll (pyL (b.map fun i : Nat => D.int i))) = ltL a b := by
    intro a
    induction a with
    | nil =>
      intro b
      cases b with
      | nil => exact lex_irrefl _
      | cons y s => rw [List.map_cons, List.map_nil, pyL, pyL, keyToksAll, keyToksAll, ltL]; rfl
    | cons x r ih =>
      intro b
      cases b with
      | nil => rw [List.map_cons, List.map_nil, pyL, pyL, keyToksAll, keyToksAll, ltL]; rfl
      | cons y s =>
        rw [List.map_cons, List.map_cons, pyL, pyL, PySem.W.dataLt_cons (by rfl), ih, ltL]
        show (if PyData.eqv (.int x) (.int y) = true then _ else dataLt (.int x) (.int y)) = _
        have e1 : PyData.eqv (.int x) (.int y) = decide ((x : Int) = (y : Int)) := eqv_int _ _
        rw [e1, PySem.W.dataLt_int]
        by_cases q : x = y
        · subst q; simp
        · have : ¬ ((x : Int) = (y : Int)) := by omega
          rw [if_neg (by simpa using this), if_neg q]
          by_cases q2 : x < y
          · rw [decide_eq_true q2, decide_eq_true (by omega)]
          · rw [decide_eq_false q2, decide_eq_false (by omega)]
  unfold dataLt
  rw [tk, tk, main]
def mixes (sizes : List Nat) : List (List Nat) := sizes.foldl (fun found s => found.flatMap fun m => (List.range s).map fun i => m ++ [i]) [[]]
theorem mixes_snoc (l : List Nat) (s : Nat) : mixes (l ++ [s]) = (mixes l).flatMap fun m => (List.range s).map fun i => m ++ [i] := by
  unfold mixes
  rw [List.foldl_append]; rfl
def Vm (sizes m : List Nat) : Prop := m.length = sizes.length ∧ ∀ i, i < sizes.length → m.getD i 0 < sizes.getD i 0
theorem mixes_ok (l : List Nat) : (∀ m ∈ mixes l, Vm l m) ∧ (mixes l).Pairwise fun a b => ltL a b = true := by
  have e : l = l.reverse.reverse := by simp
  rw [e]
  generalize l.reverse = r
  induction r with
  | nil => exact ⟨fun m h => by rw [List.mem_singleton.mp h]; exact ⟨rfl, fun i h => by simp at h⟩, List.pairwise_singleton _ _⟩
  | cons s r ih =>
    rw [List.reverse_cons]
    generalize r.reverse = l at ih ⊢
    rw [mixes_snoc]
    constructor
    · intro m hm
      obtain ⟨a, ha, hm⟩ := List.mem_flatMap.mp hm
      obtain ⟨i, hi, rfl⟩ := List.mem_map.mp hm
      have hi := List.mem_range.mp hi
      obtain ⟨h1, h2⟩ := ih.1 a ha
      refine ⟨by simp [h1], fun j hj => ?_⟩
      rw [List.length_append, List.length_singleton] at hj
      simp only [List.getD_eq_getElem?_getD]
      by_cases q : j < l.length
      · have := h2 j q
        simp only [List.getD_eq_getElem?_getD] at this
        rw [List.getElem?_append_left (by omega), List.getElem?_append_left q]; exact this
      · have e : j = l.length := by omega
        subst e
        rw [List.getElem?_append_right (by omega), List.getElem?_append_right (by omega), h1]
        simpa using hi
    · rw [List.pairwise_flatMap]
      refine ⟨fun a _ => ?_, ?_⟩
      · rw [List.pairwise_map]
        exact List.pairwise_lt_range.imp fun h => ltL_last a _ _ h
      · refine ih.2.imp_of_mem fun {a b} ha hb h x hx y hy => ?_
        obtain ⟨i, _, rfl⟩ := List.mem_map.mp hx
        obtain ⟨j, _, rfl⟩ := List.mem_map.mp hy
        exact ltL_snoc a b i j ((ih.1 a ha).1.trans (ih.1 b hb).1.symm) h
/-- how many devices change -/
def chg (m o : List Nat) : Nat := ((List.range o.length).filter fun i => !decide (o.getD i 0 = m.getD i 0)).length
def stepL (m : List Nat) (st : Option (Nat × List Nat)) (o : List Nat) : Option (Nat × List Nat) := match st with
  | none => some (chg m o, o)
  | some (c, b) => if chg m o < c ∨ (chg m o = c ∧ ltL o b = true) then some (chg m o, o) else some (c, b)
def stepM (m : List Nat) (st : Option (Nat × List Nat)) (o : List Nat) : Option (Nat × List Nat) := match st with
  | none => some (chg m o, o)
  | some (c, b) => if chg m o < c then some (chg m o, o) else some (c, b)
theorem steps_eq (m : List Nat) : ∀ (l : List (List Nat)) (st : Option (Nat × List Nat)), l.Pairwise (fun a b => ltL a b = true) → (∀ c b, st = some (c, b) → ∀ o ∈ l, ltL b o = true) → l.foldl (stepL m) st = l.foldl (stepM m) st
  | [], _, _, _ => rfl
  | o :: l, st, hp, hs => by
    have e : stepL m st o = stepM m st o := by
      cases st with
      | none => rfl
      | some p =>
        obtain ⟨c, b⟩ := p
        have h := ltL_asym _ _ (hs c b rfl o (List.mem_cons_self ..))
        simp [stepL, stepM, h]
    rw [List.foldl_cons, List.foldl_cons, e]
    rw [List.pairwise_cons] at hp
    refine steps_eq m l _ hp.2 fun c b q o' ho' => ?_
    cases st with
    | none => cases q; exact hp.1 o' ho'
    | some p =>
      obtain ⟨c', b'⟩ := p
      simp only [stepM] at q
      split at q
      · cases q; exact hp.1 o' ho'
      · cases q; exact hs _ _ rfl o' (List.mem_cons_of_mem _ ho')
theorem best_eq (m : List Nat) (p : List Nat → Bool) (sizes : List Nat) : ((mixes sizes).filter p).foldl (stepL m) none = (mixes sizes).foldl (fun st o => if p o = true then stepM m st o else st) none := by
  rw [steps_eq m _ none ((mixes_ok sizes).2.filter p) (fun _ _ h => by cases h), List.foldl_filter]
theorem fold_none (m : List Nat) (l : List (List Nat)) : (l.foldl (stepL m) none).isNone = l.isEmpty := by
  have h : ∀ (l : List (List Nat)) st, (st.isSome = true) → (l.foldl (stepL m) st).isSome = true := by
    intro l
    induction l with
    | nil => exact fun st h => h
    | cons o l ih =>
      intro st hs
      refine ih _ ?_
      cases st with
      | none => rfl
      | some p => simp only [stepL]; split <;> rfl
  cases l with
  | nil => rfl
  | cons o l =>
    have := h l (stepL m none o) rfl
    rw [List.foldl_cons]
    cases q : List.foldl (stepL m) (stepL m none o) l with
    | none => rw [q] at this; cases this
    | some _ => rfl

/-! ### missing -/
section
variable (names : List Str) (rels : List (List Rel)) (m : List Nat)
def rel (k : Nat) : Rel := (rels.getD k []).getD (m.getD k 0) ([], [])
def offB (w : Wnt) : Bool := (List.range names.length).any fun k => decide (names.getD k "" = w.1) && decide (w.2 ∈ (rel rels m k).1)
def lack (k : Nat) : List Wnt := (rel rels m k).2.filter fun w => decide (w.1 = names.getD k "") || !offB names rels m w
def miss : List (Str × Wnt) := (List.range names.length).flatMap fun k => (lack names rels m k).map fun w => (names.getD k "", w)
def goodB : Bool := decide ((miss names rels m).length = 0)
def sizesOf : List Nat := rels.map List.length
def goods : List (List Nat) := (mixes (sizesOf rels)).filter (goodB names rels)
def bestP : Option (Nat × List Nat) := (goods names rels).foldl (stepL m) none
/-- what mend's answer says -/
def outc : D := match bestP names rels m with
  | none => .tup [.str "lot", .tup []]
  | some b => .tup [.str "good", eM b.2]
end
/-! ### plain -/
mutual
def plainD : D → D
  | .tup l => .tup [.bl false, .lst (plainL l)]
  | .lst l => .tup [.bl true, .lst (plainL l)]
  | .bl b => .tup [.bl true, .bl b]
  | d => .tup [.bl false, d]
def plainL : List D → List D
  | [] => []
  | d :: r => plainD d :: plainL r
end
theorem plainL_map : ∀ l : List D, plainL l = l.map plainD
  | [] => by simp [plainL]
  | d :: r => by simp [plainL, plainL_map r]
mutual
theorem plain_fit : ∀ (d : D) (n : Nat), d.fit n = true → (plainD d).fit (2 * n + 1) = true
  | .non, n, _ => by simp [plainD, D.fit, fitL]
  | .bl _, n, _ => by simp [plainD, D.fit, fitL]
  | .int _, n, _ => by simp [plainD, D.fit, fitL]
  | .str x, n, h => by simp only [plainD, D.fit, fitL] at h ⊢; simp [h]
  | .tup l, 0, h => by simp [D.fit] at h
  | .tup l, n + 1, h => by
    have := plainL_fit l n (by simpa [D.fit] using h)
    rw [show 2 * (n + 1) + 1 = (2 * n + 1) + 1 + 1 by omega]
    simp [plainD, D.fit, fitL, this]
  | .lst l, 0, h => by simp [D.fit] at h
  | .lst l, n + 1, h => by
    have := plainL_fit l n (by simpa [D.fit] using h)
    rw [show 2 * (n + 1) + 1 = (2 * n + 1) + 1 + 1 by omega]
    simp [plainD, D.fit, fitL, this]
  | .frl l, 0, h => by simp [D.fit] at h
  | .frl l, n + 1, h => by
    rw [show 2 * (n + 1) + 1 = (2 * n + 1) + 1 + 1 by omega]
    simp only [plainD, D.fit, fitL, Bool.and_eq_true, and_true, true_and] at h ⊢
    exact fitL_mono l n _ (by omega) h
  | .ins _ _, n, h => by simp [D.fit] at h
theorem plainL_fit : ∀ (l : List D) (n : Nat), fitL l n = true → fitL (plainL l) (2 * n + 1) = true
  | [], n, _ => by simp [plainL, fitL]
  | d :: r, n, h => by
    simp only [fitL, Bool.and_eq_true] at h
    simp only [plainL, fitL, Bool.and_eq_true]
    exact ⟨plain_fit d n h.1, plainL_fit r n h.2⟩
theorem fit_mono : ∀ (d : D) (n m : Nat), n ≤ m → d.fit n = true → d.fit m = true
  | .non, _, _, _, h => by simp [D.fit]
  | .bl _, _, _, _, h => by simp [D.fit]
  | .int _, _, _, _, h => by simp [D.fit]
  | .str x, _, _, _, h => by simpa [D.fit] using h
  | .tup l, 0, _, _, h => by simp [D.fit] at h
  | .tup l, n + 1, 0, q, h => by omega
  | .tup l, n + 1, m + 1, q, h => by
    simp only [D.fit] at h ⊢
    exact fitL_mono l n m (by omega) h
  | .lst l, 0, _, _, h => by simp [D.fit] at h
  | .lst l, n + 1, 0, q, h => by omega
  | .lst l, n + 1, m + 1, q, h => by
    simp only [D.fit] at h ⊢
    exact fitL_mono l n m (by omega) h
  | .frl l, 0, _, _, h => by simp [D.fit] at h
  | .frl l, n + 1, 0, q, h => by omega
  | .frl l, n + 1, m + 1, q, h => by
    simp only [D.fit] at h ⊢
    exact fitL_mono l n m (by omega) h
  | .ins _ _, _, _, _, h => by simp [D.fit] at h
theorem fitL_mono : ∀ (l : List D) (n m : Nat), n ≤ m → fitL l n = true → fitL l m = true
  | [], _, _, _, _ => by simp [fitL]
  | d :: r, n, m, q, h => by
    simp only [fitL, Bool.and_eq_true] at h ⊢
    exact ⟨fit_mono d n m q h.1, fitL_mono r n m q h.2⟩
end
end R76

/-! ## K76c -/
set_option Elab.async false
set_option linter.all false
set_option maxRecDepth 100000
set_option maxHeartbeats 4000000
namespace R76
open PySem PySem.Spec PyProof.Rows L2 AL
open Evl (Ex)
local macro_rules | `(tactic| walk_at "st") => `(tactic| first
  | (with_reducible refine' s_seq ?_) | (with_reducible refine' s_set ?_) | (with_reducible refine' s_nx ?_) | (with_reducible refine' s_ret ?_) | (with_reducible refine' s_drop ?_) | (with_reducible refine' s_asg ?_) | (with_reducible refine' s_for ?_) | (with_reducible refine' s_tt ?_) | (with_reducible refine' s_ff ?_) | (with_reducible refine' s_lcS ?_) | (with_reducible refine' s_put ?_) | (with_reducible refine' s_app ?_) | (with_reducible refine' s_ext ?_)
  | (with_reducible refine' s_gN ?_) | ((with_reducible refine' s_v ?e ?_); (case e => rfl)) | (with_reducible refine' s_asB ?_) | (with_reducible refine' s_asI ?_) | (with_reducible refine' s_asD ?_) | (with_reducible refine' s_nil ?_) | (with_reducible refine' s_cons ?_)
  | (with_reducible refine' s_addI ?_) | (with_reducible refine' s_I0 ?_) | (with_reducible refine' s_neg ?_) | (with_reducible refine' s_eqI ?_) | (with_reducible refine' s_eqS ?_) | (with_reducible refine' s_ltI ?_) | (with_reducible refine' s_isN ?_) | (with_reducible refine' s_int ?_) | (with_reducible refine' s_abs ?_)
  | ((with_reducible refine' s_len ?e ?_); (case e => first | rfl | exact seqOf_m (by assumption) | exact seqOf_m mu_same))
  | ((with_reducible refine' s_ix ?e ?e2 ?_); (case e => first | rfl | exact seqOf_m (by assumption) | exact seqOf_m mu_same); (case e2 => first | rfl | assumption | exact atI_nat (j := 0) rfl | exact atI_nat (j := 1) rfl | exact atI_nat (j := 2) rfl | exact atI_nat (j := 3) rfl))
  | ((with_reducible refine' s_putL ?e ?e2 ?_); (case e => first | assumption | exact mu_same); (case e2 => first | rfl | assumption))
  | ((with_reducible refine' s_oL ?e ?_); (case e => first | assumption | exact mu_same))
  | ((with_reducible refine' s_dat ?e ?_); (case e => rfl)) | ((with_reducible refine' s_rng ?e ?_); (case e => exact ⟨by omega, by omega⟩))
  | ((with_reducible refine' s_I ?c ?_); (case c => first | assumption | exact ⟨by omega, by omega⟩ | exact ⟨by decide, by decide, by decide⟩ | exact Or.inl ⟨by omega, by omega⟩ | exact Or.inr ⟨by omega, by omega⟩ | (show (0 : Int) < _; omega) | (show (0 : Int) ≤ _; omega)))
  | (with_reducible refine' s_slT ?_) | (with_reducible refine' s_slL ?_) | (with_reducible refine' s_gC ?_) | ((with_reducible refine' s_gT ?e ?_); (case e => rfl))
  | ((with_reducible refine' s_tup ?e ?_); (case e => first | rfl | exact seqOf_m (by assumption) | exact seqOf_m mu_same))
  | ((with_reducible refine' s_list ?e ?_); (case e => first | rfl | exact seqOf_m (by assumption) | exact seqOf_m mu_same))
  | ((with_reducible refine' s_isi ?e ?e2 ?_); (case e => rfl); (case e2 => rfl))
  | (with_reducible refine' s_max ?_)
  | ((with_reducible refine' And.intro ?r ?_); (case r => with_reducible rfl)))
local macro_rules | `(tactic| walk_at "one") => `(tactic| first | (with_reducible refine' s_if ?_) | walk_at "st")
local macro_rules | `(tactic| walk_at "up") => `(tactic| repeat walk_at "st")
local macro_rules | `(tactic| walk_at "go") => `(tactic| repeat walk_at "one")
local macro_rules | `(tactic| walk_at "all") => `(tactic| repeat' (first | walk_at "one" | (refine s_ite (fun _ => ?_) (fun _ => ?_))))

theorem dr {a : Addr} {n : Int} {ms : MS} {k : SD → MS → Prop} {x : AX} (hS : SrcAt ms a) (h1 : 0 < n) (h2 : n < 1073741824) (h : ∀ v ms', 0 ≤ v → v < n → SB a ms ms' → k (.d (.int v)) ms') : R_draw [.v (.ref a), .d (.int n)] ms k x := ⟨a, n, rfl, hS, h1, h2, h⟩
def LETS : Str := "etaoinshrdlcumwfgypbvkjxqz"
def LET : List Nat := LETS.cps.toList
theorem let_len : LET.length = 26 := by decide +kernel
theorem let_nd : LET.Nodup := by decide +kernel
theorem let_sg : ∀ c ∈ LET, c ∈ SG26 ∧ c ∈ SG1 := by decide +kernel
def sg (c : Nat) : Str := ⟨#[c]⟩
theorem join_sg (cs : List Nat) : (Txt.join ("" : Str) (cs.map sg)).cps.toList = cs := by
  have e : cs.map sg = (cs.map fun c => [c]).map SX.S := by rw [List.map_map]; rfl
  rw [e, show ("" : Str) = SX.S [] from rfl, SX.join_S]
  show (TL.joinL [] (cs.map fun c => [c])).toArray.toList = cs
  rw [List.toList_toArray]
  induction cs with
  | nil => rfl
  | cons c r ih =>
    cases r with
    | nil => rfl
    | cons d r2 => have := ih (by rw [List.map_map]; rfl); rw [List.map_cons, List.map_cons, TL.joinL, List.nil_append]; rw [List.map_cons] at this; rw [this]; rfl
def core (mode : Int) (cs : List Nat) (c : Nat) : List Nat := if mode = 1 then c :: cs else if mode = 2 then cs.take 1 ++ (c :: cs.drop 1) else cs ++ [c]
def cpos (mode : Int) (cs : List Nat) : Nat := if mode = 1 then 0 else if mode = 2 then 1 else cs.length
theorem core_ok {mode : Int} {cs : List Nat} {c : Nat} (h1 : 1 ≤ cs.length) (hc : c ∈ LET) (ha : ∀ d : Nat, d ∈ cs → d ∈ LET) : (core mode cs c).length = cs.length + 1 ∧ (∀ d : Nat, d ∈ core mode cs c → d ∈ LET) ∧ (core mode cs c)[cpos mode cs]? = some c := by
  cases cs with
  | nil => simp at h1
  | cons d r =>
    unfold core cpos
    split
    · refine ⟨rfl, fun e he => ?_, rfl⟩
      rcases List.mem_cons.mp he with rfl | he
      · exact hc
      · exact ha e he
    · split
      · refine ⟨rfl, fun e he => ?_, rfl⟩
        rcases List.mem_cons.mp he with rfl | he
        · exact ha _ (List.mem_cons_self ..)
        · rcases List.mem_cons.mp he with rfl | he
          · exact hc
          · exact ha e (List.mem_cons_of_mem _ he)
      · refine ⟨by simp, fun e he => ?_, by simp⟩
        rcases List.mem_append.mp he with he | he
        · exact ha e he
        · rw [List.mem_singleton.mp he]; exact hc
theorem dig_ok : ∀ t : List Nat, t = [] ∨ t = [49, 52] ∨ t = [50, 49] → t.length ≤ 2 ∧ ∀ c ∈ t, c ∈ SG1 := by
  intro t h
  rcases h with rfl | rfl | rfl
  · simp
  · decide +kernel
  · decide +kernel
theorem name_ok {mode : Int} {cs t : List Nat} {c : Nat} {z : Str} (h1 : 1 ≤ cs.length) (h3 : cs.length ≤ 3) (hc : c ∈ LET) (ha : ∀ d : Nat, d ∈ cs → d ∈ LET) (ht : t = [] ∨ t = [49, 52] ∨ t = [50, 49]) (hz : z.cps.toList = core mode cs c ++ t) :
    NameOk z ∧ z.cps.toList[cpos mode cs]? = some c := by
  obtain ⟨e1, e2, e3⟩ := core_ok (mode := mode) h1 hc ha
  obtain ⟨t1, t2⟩ := dig_ok t ht
  refine ⟨⟨?_, ?_, fun d hd => ?_⟩, ?_⟩
  · rw [str_len, hz, List.length_append]; omega
  · cases q : core mode cs c with
    | nil => rw [q] at e1; simp at e1
    | cons d r => exact ⟨d, r ++ t, by rw [hz, q]; rfl, (let_sg d (e2 d (by rw [q]; exact List.mem_cons_self ..))).1⟩
  · rw [hz] at hd
    rcases List.mem_append.mp hd with h | h
    · exact (let_sg d (e2 d h)).2
    · exact t2 d h
  · rw [hz, List.getElem?_append_left (List.getElem?_eq_some_iff.mp e3).1]; exact e3
theorem names_nd {ns : List Str} {p : Nat} (h : ∀ (j : Nat) (z : Str), ns[j]? = some z → NameOk z ∧ z.cps.toList[p]? = LET[j]?) (hn : ns.length ≤ 26) : NamesOk ns := by
  refine ⟨fun z hz => ?_, ?_⟩
  · obtain ⟨j, hj⟩ := List.getElem?_of_mem hz
    exact (h j z hj).1
  · refine List.pairwise_iff_getElem.mpr fun i j hi hj hij e => ?_
    have a := (h i _ (List.getElem?_eq_getElem hi)).2
    have b := (h j _ (List.getElem?_eq_getElem hj)).2
    rw [e] at a
    have q : LET[i]? = LET[j]? := a.symm.trans b
    have li : i < LET.length := by rw [let_len]; omega
    have lj : j < LET.length := by rw [let_len]; omega
    rw [List.getElem?_eq_getElem li, List.getElem?_eq_getElem lj] at q
    exact List.pairwise_iff_getElem.mp let_nd i j li lj hij (Option.some.inj q)
theorem rng_len (n : Nat) : (rngD 0 n).length = n := by unfold rngD; simp
theorem rng_get {n i : Nat} {d : D} (h : (rngD 0 n)[i]? = some d) : i < n ∧ d = .int i := by
  have hl := (List.getElem?_eq_some_iff.mp h).1
  rw [rng_len] at hl
  unfold rngD at h
  rw [List.getElem?_map, List.getElem?_range hl] at h
  cases h
  exact ⟨hl, by simp⟩
section
variable {P : Program} {w : World} {K : PySem.W.Frag} {mg : Str → Option Value} {base : Heap}
abbrev s_law_names : Stmt := (topS 22)
theorem sc_law_names : FnScope ["source", "count", "letters", "mode", "common", "step", "names", "k", "own", "name", "tail"] ["source", "count"] (defScope s_law_names) := ⟨rfl, rfl, rfl, by decide +kernel, rfl, by decide +kernel, by decide +kernel⟩

def R_names : AFn := fun sds ms k _ => ∃ a, ∃ n : Nat, sds = [.v (.ref a), .d (.int n)] ∧ n ≤ 9 ∧ SrcAt ms a ∧ ∀ ns ms', ns.length = n → NamesOk ns → SB a ms ms' → k (.d (.lst (ns.map .str))) ms'
theorem ok_names (T : Blt mg) (G_law_draw : FnA P w K mg base CX0 1 "_law_draw" R_draw) {f : Addr} {fd : FuncData} (F : Fun K "_law_names" "_law_names" s_law_names f fd) : FnOk P w K mg base CX0 2 f fd ["source", "count"] (spA R_names) := by
  refine fnA F sc_law_names (fun sds ms k x h => ?_) (by decide) fun cdv A outer s H E hr => ⟨_, _, (ass_cons (as_set 2 sc_law_names.nd ae_str)
    (ass_cons (as_set 3 sc_law_names.nd (ae_call G_law_draw (hr.mono (by first | decide | omega)) (fun _ => pass0At) (by rfl) (aa_cons (ae_v 0) (aa_cons ae_int aa_nil))))
    (ass_cons (as_set 4 sc_law_names.nd (ae_join ae_str (ae_lc (own := [("step", 5)]) rfl sc_law_names.nd (ai_range1 (by rfl) T.range (ae_bin op_addA oa_add ae_int (ae_call G_law_draw (hr.mono (by first | decide | omega)) (fun _ => pass0At) (by rfl) (aa_cons (ae_v 0) (aa_cons ae_int aa_nil))))) (blkOk_by (own := [("step", 5)]) (N := ["source", "count", "letters", "mode", "common", "step", "names", "k", "own", "name", "tail"]) (sc := defScope s_law_names) (by decide +kernel)) (by decide) (fun _ _ _ _ _ => (ag_name 5 sc_law_names.nd)) (fun _ _ _ _ _ => ats_nil) (fun _ _ _ _ _ => (ae_ixK (K := K) rfl (u1 hr) (ae_v 2) (ae_call G_law_draw (hr.mono (by first | decide | omega)) (fun _ => pass0At) (by rfl) (aa_cons (ae_v 0) (aa_cons ae_int aa_nil))))))))
    (ass_cons (as_set 6 sc_law_names.nd (ae_lstM aa_nil))
    (ass_cons (as_for PassesOwn.never rfl (ai_range1 (by rfl) T.range (ae_v 1)) (ag_name 7 sc_law_names.nd)
      (ass_cons (as_set 8 sc_law_names.nd (ae_ix (u1 hr) (ae_v 2) (ae_bin op_mod oa_mod (ae_callTy call_int1 oa_int (by rfl) T.int (by decide +kernel) (aa_cons (ae_v 7) aa_nil)) ae_int)))
      (ass_cons (as_if (at_cmp op_ge oa_ge (ae_v 7) ae_int (nomark _)) (ass_one (as_set 8 sc_law_names.nd (ae_bin op_addA oa_add (ae_v 8) (ae_ix (u1 hr) (ae_v 2) (ae_bin op_fdiv oa_div (ae_v 7) ae_int))))) ass_nil)
      (ass_cons (as_set 9 sc_law_names.nd (ae_bin op_addA oa_add (ae_v 4) (ae_v 8)))
      (ass_cons (as_if (at_cmp (op_eqA (u64 hr)) oa_eq (ae_v 3) ae_int (nomark _)) (ass_one (as_set 9 sc_law_names.nd (ae_bin op_addA oa_add (ae_v 8) (ae_v 4)))) ass_nil)
      (ass_cons (as_if (at_cmp (op_eqA (u64 hr)) oa_eq (ae_v 3) ae_int (nomark _)) (ass_one (as_set 9 sc_law_names.nd (ae_bin op_addA oa_add (ae_bin op_addA oa_add (ae_sl (ae_v 4) ao_none (ao_some ae_int)) (ae_v 8)) (ae_sl (ae_v 4) (ao_some ae_int) ao_none)))) ass_nil)
      (ass_cons (as_set 10 sc_law_names.nd (ae_call G_law_draw (hr.mono (by first | decide | omega)) (fun _ => pass0At) (by rfl) (aa_cons (ae_v 0) (aa_cons ae_int aa_nil))))
      (ass_cons (as_if (at_cmp op_gt oa_gt (ae_v 10) ae_int (nomark _)) (ass_one (as_set 9 sc_law_names.nd (ae_bin op_addA oa_add (ae_v 9) (ae_callTy call_str_int oa_str (by rfl) T.str (by decide +kernel) (aa_cons (ae_bin op_mul oa_mul (ae_v 10) ae_int) aa_nil))))) ass_nil)
      (ass_one (as_expr (ae_append (ae_v 6) (ae_v 9))))))))))))
    (ass_one (as_ret (ae_v 6)))))))), fun sds ms k x h => ?_⟩
  · obtain ⟨a, n, rfl, _⟩ := h; rfl
  · obtain ⟨a, n, rfl, hn, hS, q⟩ := h
    dsimp only [gam]
    walk_at "go"
    refine dr hS (by decide) (by decide) fun mode m1 hm0 hm3 hB1 => ?_
    walk_at "go"
    refine ⟨_, rfl, ?_⟩
    walk_at "go"
    refine dr hB1.1 (by decide) (by decide) fun v1 m2 hv0 hv3 hB2 => ?_
    walk_at "go"
    refine lcI_inv (fun i acc ms' => SB a ms ms' ∧ ∃ cs : List Nat, acc = (cs.map sg).map D.str ∧ cs.length = i ∧ ∀ c ∈ cs, c ∈ LET) ⟨hB1.trans hB2, [], rfl, rfl, by simp⟩ (fun i d acc m3 hd hP N hN => ?_) fun acc m3 hP => ?_
    · obtain ⟨hB3, cs, rfl, hi, hc⟩ := hP
      have hlen : i < (rngD 0 (1 + v1).toNat).length := (List.getElem?_eq_some_iff.mp hd).1
      rw [show (rngD 0 (1 + v1).toNat).length = (1 + v1).toNat by unfold rngD; simp] at hlen
      walk_at "go"
      refine dr hB3.1 (by decide) (by decide) fun v m4 h0 h26 hB4 => ?_
      obtain ⟨c, hc1, hc2⟩ := atI_ok (l := LET) h0 (by rw [let_len]; exact h26)
      refine s_ixS (by decide) hc1 ?_
      walk_at "go"
      refine ⟨small_len (by simp; omega), hN _ _ ⟨hB3.trans hB4, cs ++ [c], by simp [sg], by simp [hi], fun d hd => ?_⟩⟩
      rcases List.mem_append.mp hd with h | h
      · exact hc d h
      · rw [List.mem_singleton.mp h]; exact hc2
    obtain ⟨hB3, cs, rfl, hi, hc⟩ := hP
    rw [show (rngD 0 (1 + v1).toNat).length = (1 + v1).toNat by unfold rngD; simp] at hi
    refine ⟨_, _, rfl, strsOf_map _, ?_, ?_⟩
    · rw [List.map_map]
      have : (cs.map ((fun x : Str => x.length) ∘ sg)) = List.replicate cs.length 1 := by
        apply List.eq_replicate_iff.mpr
        refine ⟨by simp, fun b hb => ?_⟩
        obtain ⟨c, _, rfl⟩ := List.mem_map.mp hb
        rfl
      rw [this, List.length_map, show ("" : Str).length = 0 from rfl]
      have e : (List.replicate cs.length 1).sum = cs.length := by simp
      rw [e]; omega
    have hco := join_sg cs
    generalize hz : Txt.join ("" : Str) (cs.map sg) = common at hco
    walk_at "go"
    intro p hp
    have hpa : p ≠ a := fun e => by
      subst e
      obtain ⟨_, h, _⟩ := hB3.1
      rw [hp] at h; cases h
    walk_at "go"
    have h1 : 1 ≤ cs.length := by omega
    have h3 : cs.length ≤ 3 := by omega
    have hcl : common.length = cs.length := by rw [str_len, hco]
    refine forR_inv (fun i Γ ms' => ∃ g7 g8 g9 g10, ∃ ns : List Str, Γ = [some (.v (.ref a)), some (.d (.int n)), some (.d (.str LETS)), some (.d (.int mode)), some (.d (.str common)), none, some (.v (.ref p)), g7, g8, g9, g10] ∧ ms' p = some (.l (ns.map .str)) ∧ ns.length = i ∧
      (∀ (j : Nat) (z : Str), ns[j]? = some z → NameOk z ∧ z.cps.toList[cpos mode cs]? = LET[j]?) ∧ SrcAt ms' a ∧ ∀ b, b ≠ a → b ≠ p → ms' b = m3 b) ⟨none, none, none, none, [], rfl, mu_same, rfl, by simp, by rw [SrcAt, mu_ne hpa.symm]; exact hB3.1, fun b h1 h2 => mu_ne h2⟩ (fun i d Γ m4 hd hP N hN => ?_) fun Γ m4 hP => ?_
    · obtain ⟨g7, g8, g9, g10, ns, rfl, hp4, hl, hall, hS4, hk⟩ := hP
      obtain ⟨hin, rfl⟩ := rng_get hd
      rw [Int.toNat_natCast] at hin
      obtain ⟨c, hc1, hc2⟩ := atI_ok (l := LET) (i := (i : Int) % 26) (Int.emod_nonneg _ (by decide)) (by rw [let_len]; exact Int.emod_lt_of_pos _ (by decide))
      have hcl2 : LET[i]? = some c := by
        have : (i : Int) % 26 = (i : Int) := Int.emod_eq_of_lt (by omega) (by omega)
        rw [this] at hc1
        have h := atI_nat (xs := LET) (j := i) (List.getElem?_eq_getElem (by rw [let_len]; omega))
        rw [hc1] at h
        rw [h]; exact List.getElem?_eq_getElem _
      walk_at "go"
      refine s_ixS (by decide) hc1 ?_
      walk_at "go"
      refine s_iteF (decide_eq_false (by omega)) ?_
      walk_at "go"
      have hown : (⟨#[c]⟩ : Str).length = 1 := rfl
      have hol : (⟨#[c]⟩ : Str).cps.toList = [c] := rfl
      refine s_addS (small_len (by rw [hown, hcl]; omega)) ?_
      walk_at "go"
      have hm : mode = 0 ∨ mode = 1 ∨ mode = 2 := by omega
      rcases hm with hm | hm | hm
      refine s_iteF (by rw [hm]; decide) ?_
      walk_at "go"
      refine s_iteF (by rw [hm]; decide) ?_
      have hzz : (common ++ ⟨#[c]⟩ : Str).cps.toList = core mode cs c := by rw [str_app, hco, hol, hm]; rfl
      generalize (common ++ ⟨#[c]⟩ : Str) = z at hzz ⊢
      rotate_left
      refine s_iteT (by rw [hm]; decide) ?_
      walk_at "go"
      refine s_addS (small_len (by rw [hown, hcl]; omega)) ?_
      walk_at "go"
      refine s_iteF (by rw [hm]; decide) ?_
      have hzz : (⟨#[c]⟩ ++ common : Str).cps.toList = core mode cs c := by rw [str_app, hco, hol, hm]; rfl
      generalize (⟨#[c]⟩ ++ common : Str) = z at hzz ⊢
      rotate_left
      refine s_iteF (by rw [hm]; decide) ?_
      walk_at "go"
      refine s_iteT (by rw [hm]; decide) ?_
      walk_at "go"
      have e1 := cutS_take common 1
      have e2 := cutS_drop common 1
      rw [hco] at e1 e2
      have l1 : (cutS common none (some 1)).length ≤ 3 := by rw [str_len]; rw [show ((1 : Nat) : Int) = 1 from rfl] at e1; rw [e1]; simp; omega
      have l2 : (cutS common (some 1) none).length ≤ 3 := by rw [str_len]; rw [show ((1 : Nat) : Int) = 1 from rfl] at e2; rw [e2]; simp; omega
      refine s_slS (small_len (by omega)) ?_
      walk_at "go"
      refine s_addS (small_len (by omega)) ?_
      walk_at "go"
      refine s_slS (small_len (by omega)) ?_
      refine s_addS (small_len (by rw [str_len, str_app, List.length_append, ← str_len, ← str_len]; omega)) ?_
      walk_at "go"
      have hzz : (cutS common none (some 1) ++ ⟨#[c]⟩ ++ cutS common (some 1) none : Str).cps.toList = core mode cs c := by
        rw [hm]
        rw [str_app, str_app, hol]
        rw [show ((1 : Nat) : Int) = 1 from rfl] at e1 e2
        rw [e1, e2]
        unfold core
        rw [if_neg (by decide), if_pos rfl, List.append_assoc]; rfl
      generalize (cutS common none (some 1) ++ ⟨#[c]⟩ ++ cutS common (some 1) none : Str) = z at hzz ⊢
      rotate_left
      all_goals
        walk_at "go"
        refine dr hS4 (by decide) (by decide) fun tail m5 ht0 ht4 hB5 => ?_
        have hzl : z.length ≤ 4 := by rw [str_len, hzz, (core_ok h1 hc2 hc).1]; omega
        have hp5 : m5 p = some (.l (ns.map .str)) := (hB5.2 p hpa).trans hp4
        have fin : ∀ (t : List Nat) (y : Str), (t = [] ∨ t = [49, 52] ∨ t = [50, 49]) → y.cps.toList = z.cps.toList ++ t → ∀ g7 g8 g9 g10, N [some (.v (.ref a)), some (.d (.int n)), some (.d (.str LETS)), some (.d (.int mode)), some (.d (.str common)), none, some (.v (.ref p)), g7, g8, g9, g10] (mu m5 p (.l (ns.map .str ++ [.str y]))) := by
          intro t y ht hy g7 g8 g9 g10
          rw [hzz] at hy
          have hok := name_ok h1 h3 hc2 hc ht hy
          refine hN _ _ ⟨g7, g8, g9, g10, ns ++ [y], rfl, by rw [mu_same, List.map_append]; rfl, by simp [hl], fun j z hz => ?_, ?_, fun b h1 h2 => ?_⟩
          · by_cases hj : j < ns.length
            · rw [List.getElem?_append_left hj] at hz; exact hall j z hz
            · have hj2 : j = i := by
                have := (List.getElem?_eq_some_iff.mp hz).1
                simp at this; omega
              subst hj2
              rw [List.getElem?_append_right (by omega), hl, Nat.sub_self] at hz
              cases hz
              rw [hcl2]; exact hok
          · rw [SrcAt, mu_ne hpa.symm]; exact hB5.1
          · rw [mu_ne h2, hB5.2 b h1]; exact hk b h1 h2
        walk_at "go"
        refine s_ite (fun hb => ?_) (fun hb => ?_)
        · have ht : tail = 2 ∨ tail = 3 := by have := of_decide_eq_true hb; omega
          rcases ht with rfl | rfl
          · walk_at "go"
            refine s_str (by decide) ?_
            refine s_addS (small_len (by rw [show (toString (_ : Int) : Str).length = 2 from rfl]; omega)) ?_
            walk_at "go"
            refine s_oApp hp5 (small_len (by simp; omega)) ?_
            exact fin [49, 52] _ (.inr (.inl rfl)) (by rw [str_app]; rfl) _ _ _ _
          · walk_at "go"
            refine s_str (by decide) ?_
            refine s_addS (small_len (by rw [show (toString (_ : Int) : Str).length = 2 from rfl]; omega)) ?_
            walk_at "go"
            refine s_oApp hp5 (small_len (by simp; omega)) ?_
            exact fin [50, 49] _ (.inr (.inr rfl)) (by rw [str_app]; rfl) _ _ _ _
        · walk_at "go"
          refine s_oApp hp5 (small_len (by simp; omega)) ?_
          exact fin [] _ (.inl rfl) (by rw [List.append_nil]) _ _ _ _
    · obtain ⟨g7, g8, g9, g10, ns, rfl, hp4, hl, hall, hS4, hk⟩ := hP
      rw [rng_len, Int.toNat_natCast] at hl
      walk_at "go"
      refine .inr ⟨p, _, _, rfl, hp4, Sub.refl _, q ns _ hl (names_nd hall (by omega)) ⟨?_, fun b hb => ?_⟩⟩
      · rw [SrcAt, md_ne hpa.symm]; exact hS4
      · by_cases h : b = p
        · subst h; rw [md_same, ← hB3.2 b hb, hp]
        · rw [md_ne h, hk b hb h, hB3.2 b hb]
end
end R76

/-! ## K76d -/
set_option Elab.async false
set_option linter.all false
set_option maxRecDepth 100000
set_option maxHeartbeats 4000000
namespace R76
open PySem PySem.Spec PyProof.Rows L2 AL
open Evl (Ex)
local macro_rules | `(tactic| walk_at "st") => `(tactic| first
  | (with_reducible refine' s_seq ?_) | (with_reducible refine' s_set ?_) | (with_reducible refine' s_nx ?_) | (with_reducible refine' s_ret ?_) | (with_reducible refine' s_drop ?_) | (with_reducible refine' s_asg ?_) | (with_reducible refine' s_for ?_) | (with_reducible refine' s_tt ?_) | (with_reducible refine' s_ff ?_) | (with_reducible refine' s_lcS ?_) | (with_reducible refine' s_put ?_) | (with_reducible refine' s_app ?_) | (with_reducible refine' s_ext ?_)
  | (with_reducible refine' s_gN ?_) | ((with_reducible refine' s_v ?e ?_); (case e => rfl)) | (with_reducible refine' s_asB ?_) | (with_reducible refine' s_asI ?_) | (with_reducible refine' s_asD ?_) | (with_reducible refine' s_nil ?_) | (with_reducible refine' s_cons ?_)
  | (with_reducible refine' s_addI ?_) | (with_reducible refine' s_I0 ?_) | (with_reducible refine' s_neg ?_) | (with_reducible refine' s_eqI ?_) | (with_reducible refine' s_eqS ?_) | (with_reducible refine' s_ltI ?_) | (with_reducible refine' s_isN ?_) | (with_reducible refine' s_int ?_) | (with_reducible refine' s_abs ?_)
  | ((with_reducible refine' s_len ?e ?_); (case e => first | rfl | exact seqOf_m (by assumption) | exact seqOf_m mu_same))
  | ((with_reducible refine' s_ix ?e ?e2 ?_); (case e => first | rfl | exact seqOf_m (by assumption) | exact seqOf_m mu_same); (case e2 => first | rfl | assumption | exact atI_nat (j := 0) rfl | exact atI_nat (j := 1) rfl | exact atI_nat (j := 2) rfl | exact atI_nat (j := 3) rfl))
  | ((with_reducible refine' s_putL ?e ?e2 ?_); (case e => first | assumption | exact mu_same); (case e2 => first | rfl | assumption))
  | ((with_reducible refine' s_oL ?e ?_); (case e => first | assumption | exact mu_same))
  | ((with_reducible refine' s_dat ?e ?_); (case e => rfl)) | ((with_reducible refine' s_rng ?e ?_); (case e => exact ⟨by omega, by omega⟩))
  | ((with_reducible refine' s_I ?c ?_); (case c => first | assumption | exact ⟨by omega, by omega⟩ | exact ⟨by decide, by decide, by decide⟩ | exact Or.inl ⟨by omega, by omega⟩ | exact Or.inr ⟨by omega, by omega⟩ | (show (0 : Int) < _; omega) | (show (0 : Int) ≤ _; omega)))
  | (with_reducible refine' s_slT ?_) | (with_reducible refine' s_slL ?_) | (with_reducible refine' s_gC ?_) | ((with_reducible refine' s_gT ?e ?_); (case e => rfl))
  | ((with_reducible refine' s_tup ?e ?_); (case e => first | rfl | exact seqOf_m (by assumption) | exact seqOf_m mu_same))
  | ((with_reducible refine' s_list ?e ?_); (case e => first | rfl | exact seqOf_m (by assumption) | exact seqOf_m mu_same))
  | ((with_reducible refine' s_isi ?e ?e2 ?_); (case e => rfl); (case e2 => rfl))
  | (with_reducible refine' s_max ?_)
  | ((with_reducible refine' And.intro ?r ?_); (case r => with_reducible rfl)))
local macro_rules | `(tactic| walk_at "one") => `(tactic| first | (with_reducible refine' s_if ?_) | walk_at "st")
local macro_rules | `(tactic| walk_at "up") => `(tactic| repeat walk_at "st")
local macro_rules | `(tactic| walk_at "go") => `(tactic| repeat walk_at "one")
local macro_rules | `(tactic| walk_at "all") => `(tactic| repeat' (first | walk_at "one" | (refine s_ite (fun _ => ?_) (fun _ => ?_))))

section
variable {P : Program} {w : World} {K : PySem.W.Frag} {mg : Str → Option Value} {base : Heap}
theorem SB.forget {a p : Addr} {m0 m1 : MS} (hpa : p ≠ a) (h0 : m0 p = none) (hS : SrcAt m1 a) (h : ∀ b, b ≠ a → b ≠ p → m1 b = m0 b) : SB a m0 (md m1 p) := by
  refine ⟨?_, fun b hb => ?_⟩
  · rw [SrcAt, md_ne hpa.symm]; exact hS
  · by_cases e : b = p
    · subst e; rw [md_same, h0]
    · rw [md_ne e]; exact h b hb e
theorem src_ne {a p : Addr} {ms : MS} (hS : SrcAt ms a) (hp : ms p = none) : p ≠ a := fun e => by
  subst e
  obtain ⟨_, h, _⟩ := hS
  rw [hp] at h; cases h
abbrev s_law_offers : Stmt := (topS 24)
theorem sc_law_offers : FnScope ["source", "known", "mode", "number", "low", "high", "found", "j", "one"] ["source", "known", "mode", "number"] (defScope s_law_offers) := ⟨rfl, rfl, rfl, by decide +kernel, rfl, by decide +kernel, by decide +kernel⟩

def R_offers : AFn := fun sds ms k _ => ∃ a, ∃ known : List Off, ∃ mode number : Int, sds = [.v (.ref a), .d (.lst (known.map eO)), .d (.int mode), .d (.int number)] ∧ known.length ≤ 4 ∧ (∀ o ∈ known, ook o) ∧ SrcAt ms a ∧
  ∀ (os : List Off) ms', os.length ≤ 4 → (∀ o ∈ os, ook o) → SB a ms ms' → k (.d (.tup (os.map eO))) ms'
theorem ok_offers (T : Blt mg) (G_law_draw : FnA P w K mg base CX0 1 "_law_draw" R_draw) {f : Addr} {fd : FuncData} (F : Fun K "_law_offers" "_law_offers" s_law_offers f fd) : FnOk P w K mg base CX0 2 f fd ["source", "known", "mode", "number"] (spA R_offers) := by
  refine fnA F sc_law_offers (fun sds ms k x h => ?_) (by decide) fun cdv A outer s H E hr => ⟨_, _, (ass_cons (as_set 4 sc_law_offers.nd (ae_bin op_sub oa_sub (ae_v 3) (ae_call G_law_draw (hr.mono (by first | decide | omega)) (fun _ => pass0At) (by rfl) (aa_cons (ae_v 0) (aa_cons ae_int aa_nil)))))
    (ass_cons (as_set 5 sc_law_offers.nd (ae_bin op_addA oa_add (ae_v 3) (ae_call G_law_draw (hr.mono (by first | decide | omega)) (fun _ => pass0At) (by rfl) (aa_cons (ae_v 0) (aa_cons ae_int aa_nil)))))
    (ass_cons (as_set 6 sc_law_offers.nd (ae_lstM aa_nil))
    (ass_cons (as_for PassesOwn.never rfl (ai_range1 (by rfl) T.range (ae_callB call_len oa_len (by rfl) T.len (by decide +kernel) (aa_cons (ae_v 1) aa_nil))) (ag_name 7 sc_law_offers.nd)
      (ass_cons (as_set 8 sc_law_offers.nd (ae_ix (u1 hr) (ae_v 1) (ae_v 7)))
      (ass_one (as_if (AW.at (aw_or (AW.at (aw_and (at_cmp (op_eqA (u64 hr)) oa_eq (ae_v 2) ae_int (nomark _)) (aw_and1 (at_chain op_le oa_le op_le oa_le (ae_v 4) (ae_v 7) (ae_v 5) (fun p1 p2 p3 => pt_chain op_le op_le p1 p2 p3))))) (aw_or1 (AW.at (aw_and (at_cmp op_gt oa_gt (ae_v 2) ae_int (nomark _)) (aw_and1 (at_cmp op_gt oa_gt (ae_call G_law_draw (hr.mono (by first | decide | omega)) (fun _ => pass0At) (by rfl) (aa_cons (ae_v 0) (aa_cons ae_int aa_nil))) ae_int (nomark _)))))))) (ass_cons (as_if (at_cmp (op_eqA (u64 hr)) oa_eq (ae_call G_law_draw (hr.mono (by first | decide | omega)) (fun _ => pass0At) (by rfl) (aa_cons (ae_v 0) (aa_cons ae_int aa_nil))) ae_int (nomark _)) (ass_one (as_set 8 sc_law_offers.nd (ae_tup (aa_cons (ae_ix (u1 hr) (ae_v 8) ae_int) (aa_cons (ae_ix (u1 hr) (ae_v 8) ae_int) (aa_cons (ae_bin op_mod oa_mod (ae_callTy call_int1 oa_int (by rfl) T.int (by decide +kernel) (aa_cons (ae_bin op_addA oa_add (ae_ix (u1 hr) (ae_v 8) ae_int) ae_int) aa_nil)) ae_int) aa_nil)))))) ass_nil)
        (ass_one (as_expr (ae_append (ae_v 6) (ae_v 8))))) ass_nil))))
    (ass_one (as_ret (ae_callTy call_tuple_of oa_tup (by rfl) T.tuple (by decide +kernel) (aa_cons (ae_callB (cr_sortedD (u80 hr)) oa_sorted (by rfl) T.sorted (by decide +kernel) (aa_cons (ae_v 6) aa_nil)) aa_nil)))))))), fun sds ms k x h => ?_⟩
  · obtain ⟨a, n, m, o, rfl, _⟩ := h; rfl
  · obtain ⟨a, known, mode, number, rfl, hn, hok, hS, q⟩ := h
    have hlm : (known.map eO).length = known.length := List.length_map ..
    dsimp only [gam]
    walk_at "go"
    refine dr hS (by decide) (by decide) fun v1 m1 h0 h1 hB1 => ?_
    walk_at "go"
    refine dr hB1.1 (by decide) (by decide) fun v2 m2 h2 h3 hB2 => ?_
    walk_at "go"
    intro p hp
    have hB := hB1.trans hB2
    have hpa := src_ne hB2.1 hp
    have hp0 : ms p = none := by rw [← hB.2 p hpa]; exact hp
    walk_at "go"
    rw [hlm]
    refine forR_inv (fun i Γ ms' => ∃ g7 g8, ∃ os : List Off, Γ = [some (.v (.ref a)), some (.d (.lst (known.map eO))), some (.d (.int mode)), some (.d (.int number)), some (.d (.int (number - v1))), some (.d (.int (number + v2))), some (.v (.ref p)), g7, g8] ∧
      ms' p = some (.l (os.map eO)) ∧ os.length ≤ i ∧ (∀ o ∈ os, ook o) ∧ SrcAt ms' a ∧ ∀ b, b ≠ a → b ≠ p → ms' b = ms b) ⟨none, none, [], rfl, mu_same, Nat.le_refl _, by simp, by rw [SrcAt, mu_ne hpa.symm]; exact hB.1, fun b h1 h2 => by rw [mu_ne h2]; exact hB.2 b h1⟩ (fun i d Γ m4 hd hP N hN => ?_) fun Γ m4 hP => ?_
    · obtain ⟨g7, g8, os, rfl, hp4, hl, hall, hS4, hk⟩ := hP
      obtain ⟨hin, rfl⟩ := rng_get hd
      rw [Int.toNat_natCast] at hin
      obtain ⟨o, ho1, ho2, ho3⟩ := atI_map (f := eO) (l := known) (i := i) (by omega) (by omega)
      walk_at "up"
      have stay : ∀ g8 ms', SB a m4 ms' → N [some (.v (.ref a)), some (.d (.lst (known.map eO))), some (.d (.int mode)), some (.d (.int number)), some (.d (.int (number - v1))), some (.d (.int (number + v2))), some (.v (.ref p)), some (.d (.int i)), g8] ms' := fun g8 ms' hB' =>
        hN _ _ ⟨_, _, os, rfl, (hB'.2 p hpa).trans hp4, by omega, hall, hB'.1, fun b h1 h2 => (hB'.2 b h1).trans (hk b h1 h2)⟩
      have add : ∀ (o : Off) g8 ms', ook o → SB a m4 ms' → N [some (.v (.ref a)), some (.d (.lst (known.map eO))), some (.d (.int mode)), some (.d (.int number)), some (.d (.int (number - v1))), some (.d (.int (number + v2))), some (.v (.ref p)), some (.d (.int i)), g8] (mu ms' p (.l (os.map eO ++ [eO o]))) := fun o g8 ms' ho hB' =>
        hN _ _ ⟨_, _, os ++ [o], rfl, by rw [mu_same, List.map_append]; rfl, by simp; omega, fun z hz => by
          rcases List.mem_append.mp hz with h | h
          · exact hall z h
          · rw [List.mem_singleton.mp h]; exact ho, by rw [SrcAt, mu_ne hpa.symm]; exact hB'.1, fun b h1 h2 => by rw [mu_ne h2]; exact (hB'.2 b h1).trans (hk b h1 h2)⟩
      (with_reducible refine' s_ifN (fun b ms1 => SB a m4 ms1) ?_ ?_ ?_)
      · intro K hK
        walk_at "all"
        all_goals first
          | exact hK _ _ (SB.refl hS4)
          | (refine dr hS4 (by decide) (by decide) fun v m5 h0 h1 hB5 => ?_
             walk_at "go"
             exact hK _ _ hB5)
      · intro m5 hB5
        walk_at "go"
        refine dr hB5.1 (by decide) (by decide) fun v m6 h0 h1 hB6 => ?_
        have hB7 := hB5.trans hB6
        have hp6 : m6 p = some (.l (os.map eO)) := (hB7.2 p hpa).trans hp4
        have hl6 : (os.map eO).length < sizeLine := Nat.lt_of_lt_of_le (by rw [List.length_map]; omega) (small_len (n := 5) (by omega))
        walk_at "all"
        · refine s_oApp hp6 hl6 ?_
          exact add (o.1, o.2.1, (o.2.2 + 1) % 3) _ _ (hok o ho1) hB7
        · refine s_oApp hp6 hl6 ?_
          exact add o _ _ (hok o ho1) hB7
      · intro m5 hB5
        exact stay _ _ hB5
    · obtain ⟨g7, g8, os, rfl, hp4, hl, hall, hS4, hk⟩ := hP
      rw [rng_len, Int.toNat_natCast] at hl
      walk_at "go"
      refine s_sortO (lstOf_m hp4) hall (by omega) fun os' hos' => ?_
      walk_at "go"
      refine out_md p (q os' _ (by rw [hos'.length_eq]; omega) (fun o ho => hall o (hos'.mem_iff.mp ho)) (SB.forget hpa hp0 hS4 hk))
abbrev s_law_wants : Stmt := (topS 25)
theorem sc_law_wants : FnScope ["source", "k", "names", "known", "mode", "number", "nobody", "found", "j", "one", "odd"] ["source", "k", "names", "known", "mode", "number", "nobody"] (defScope s_law_wants) := ⟨rfl, rfl, rfl, by decide +kernel, rfl, by decide +kernel, by decide +kernel⟩

def R_wants : AFn := fun sds ms k _ => ∃ a b, ∃ names : List Str, ∃ known : List (List Off), ∃ i n : Nat, ∃ mode : Int, ∃ nobody : Str, sds = [.v (.ref a), .d (.int i), .d (.lst (names.map .str)), .v (.ref b), .d (.int mode), .d (.int n), .d (.str nobody)] ∧
  b ≠ a ∧ ms b = some (.l (known.map fun l => .lst (l.map eO))) ∧ names.length ≤ 4 ∧ known.length = names.length ∧ (∀ l ∈ known, l.length = 4 ∧ ∀ o ∈ l, ook o) ∧ (∀ z ∈ names, sok z) ∧ sok nobody ∧ i < names.length ∧ n < 4 ∧ SrcAt ms a ∧
  ∀ (ws : List Wnt) ms', ws.length ≤ 5 → (∀ o ∈ ws, wok o) → SB a ms ms' → k (.d (.tup (ws.map eW))) ms'
theorem ok_wants (T : Blt mg) (G_law_draw : FnA P w K mg base CX0 1 "_law_draw" R_draw) {f : Addr} {fd : FuncData} (F : Fun K "_law_wants" "_law_wants" s_law_wants f fd) : FnOk P w K mg base CX0 2 f fd ["source", "k", "names", "known", "mode", "number", "nobody"] (spA R_wants) := by
  refine fnA F sc_law_wants (fun sds ms k x h => ?_) (by decide) fun cdv A outer s H E hr => ⟨_, _, (ass_cons (as_set 7 sc_law_wants.nd (ae_lstM aa_nil))
    (ass_cons (as_for PassesOwn.never rfl (ai_range1 (by rfl) T.range (ae_callB call_len oa_len (by rfl) T.len (by decide +kernel) (aa_cons (ae_v 2) aa_nil))) (ag_name 8 sc_law_wants.nd)
      (ass_cons (as_set 9 sc_law_wants.nd (ae_ix (u1 hr) (ae_ix (u1 hr) (ae_v 3) (ae_v 8)) (ae_call G_law_draw (hr.mono (by first | decide | omega)) (fun _ => pass0At) (by rfl) (aa_cons (ae_v 0) (aa_cons (ae_callB call_len oa_len (by rfl) T.len (by decide +kernel) (aa_cons (ae_ix (u1 hr) (ae_v 3) (ae_v 8)) aa_nil)) aa_nil)))))
      (ass_cons (as_if (at_cmp (op_eqA (u64 hr)) oa_eq (ae_v 4) ae_int (nomark _)) (ass_one (as_set 9 sc_law_wants.nd (ae_ix (u1 hr) (ae_ix (u1 hr) (ae_v 3) (ae_v 8)) (ae_v 5)))) ass_nil)
      (ass_one (as_if (AW.at (aw_and (at_cmp (op_neA (u64 hr)) oa_ne (ae_v 8) (ae_v 1) (nomark _)) (aw_and1 (at_cmp (op_ltA (u64 hr)) oa_lt (ae_call G_law_draw (hr.mono (by first | decide | omega)) (fun _ => pass0At) (by rfl) (aa_cons (ae_v 0) (aa_cons ae_int aa_nil))) ae_int (nomark _))))) (ass_one (as_expr (ae_append (ae_v 7) (ae_bin op_addA oa_add (ae_tup (aa_cons (ae_ix (u1 hr) (ae_v 2) (ae_v 8)) aa_nil)) (ae_v 9))))) ass_nil)))))
    (ass_cons (as_set 10 sc_law_wants.nd (ae_call G_law_draw (hr.mono (by first | decide | omega)) (fun _ => pass0At) (by rfl) (aa_cons (ae_v 0) (aa_cons ae_int aa_nil))))
    (ass_cons (as_if (at_cmp (op_eqA (u64 hr)) oa_eq (ae_v 10) ae_int (nomark _)) (ass_one (as_expr (ae_append (ae_v 7) (ae_bin op_addA oa_add (ae_tup (aa_cons (ae_ix (u1 hr) (ae_v 2) (ae_v 1)) aa_nil)) (ae_ix (u1 hr) (ae_ix (u1 hr) (ae_v 3) (ae_v 1)) (ae_v 5)))))) ass_nil)
    (ass_cons (as_if (at_cmp (op_eqA (u64 hr)) oa_eq (ae_v 10) ae_int (nomark _)) (ass_one (as_expr (ae_append (ae_v 7) (ae_bin op_addA oa_add (ae_tup (aa_cons (ae_v 6) aa_nil)) (ae_ix (u1 hr) (ae_ix (u1 hr) (ae_v 3) (ae_v 1)) (ae_v 5)))))) ass_nil)
    (ass_one (as_ret (ae_callTy call_tuple_of oa_tup (by rfl) T.tuple (by decide +kernel) (aa_cons (ae_callB (cr_sortedD (u80 hr)) oa_sorted (by rfl) T.sorted (by decide +kernel) (aa_cons (ae_v 7) aa_nil)) aa_nil))))))))), fun sds ms k x h => ?_⟩
  · obtain ⟨a, b, n, m, o, i, j, l, rfl, _⟩ := h; rfl
  · obtain ⟨a, b, names, known, i0, n, mode, nobody, rfl, hba, hb, hn4, hkn, hkl, hns, hnb, hi0, hn, hS, q⟩ := h
    have hlm : (names.map D.str).length = names.length := List.length_map ..
    dsimp only [gam]
    walk_at "go"
    intro p hp
    have hpa := src_ne hS hp
    have hpb : p ≠ b := fun e => by subst e; rw [hp] at hb; cases hb
    walk_at "go"
    rw [hlm]
    refine forR_inv (fun i Γ ms' => ∃ g8 g9, ∃ ws : List Wnt, Γ = [some (.v (.ref a)), some (.d (.int i0)), some (.d (.lst (names.map .str))), some (.v (.ref b)), some (.d (.int mode)), some (.d (.int n)), some (.d (.str nobody)), some (.v (.ref p)), g8, g9, none] ∧
      ms' p = some (.l (ws.map eW)) ∧ ws.length ≤ i ∧ (∀ o ∈ ws, wok o) ∧ SrcAt ms' a ∧ ∀ b, b ≠ a → b ≠ p → ms' b = ms b) ⟨none, none, [], rfl, mu_same, Nat.le_refl _, by simp, by rw [SrcAt, mu_ne hpa.symm]; exact hS, fun b h1 h2 => mu_ne h2⟩ (fun i d Γ m4 hd hP N hN => ?_) fun Γ m4 hP => ?_
    · obtain ⟨g8, g9, ws, rfl, hp4, hl, hall, hS4, hk⟩ := hP
      obtain ⟨hin, rfl⟩ := rng_get hd
      rw [Int.toNat_natCast] at hin
      have hb4 : m4 b = some (.l (known.map fun l => .lst (l.map eO))) := (hk b hba hpb.symm).trans hb
      obtain ⟨l, hl1, hl2, hl3⟩ := atI_map (f := fun l : List Off => D.lst (l.map eO)) (l := known) (i := i) (by omega) (by omega)
      obtain ⟨nm, hn1, hn2, hn3⟩ := atI_map (f := D.str) (l := names) (i := i) (by omega) (by omega)
      have hl4 := (hkl l hl1).1
      have hlm2 : (l.map eO).length = l.length := List.length_map ..
      walk_at "go"
      refine dr hS4 (by omega) (by omega) fun v m5 h0 h4 hB5 => ?_
      rw [hlm2, hl4] at h4
      obtain ⟨o, ho1, ho2, ho3⟩ := atI_map (f := eO) (l := l) (i := v) h0 (by omega)
      have hb5 : m5 b = some (.l (known.map fun l => .lst (l.map eO))) := (hB5.2 b hba).trans hb4
      obtain ⟨o2, hp1, hp2, hp3⟩ := atI_map (f := eO) (l := l) (i := n) (by omega) (by omega)
      walk_at "up"
      (with_reducible refine' s_cutIf (fun Γ' ms' => ms' = m5 ∧ ∃ o : Off, ook o ∧ Γ' = [some (.v (.ref a)), some (.d (.int i0)), some (.d (.lst (names.map .str))), some (.v (.ref b)), some (.d (.int mode)), some (.d (.int n)), some (.d (.str nobody)), some (.v (.ref p)), some (.d (.int i)), some (.d (eO o)), none]) ?_ ?_)
      · intro N' hN'
        walk_at "all"
        · exact hN' _ _ ⟨rfl, o2, (hkl l hl1).2 _ hp1, rfl⟩
        · exact hN' _ _ ⟨rfl, o, (hkl l hl1).2 _ ho1, rfl⟩
      · intro Γ' ms' hP'
        obtain ⟨rfl, o, hok, rfl⟩ := hP'
        have stay : ∀ ms', SB a m4 ms' → N [some (.v (.ref a)), some (.d (.int i0)), some (.d (.lst (names.map .str))), some (.v (.ref b)), some (.d (.int mode)), some (.d (.int n)), some (.d (.str nobody)), some (.v (.ref p)), some (.d (.int i)), some (.d (eO o)), none] ms' := fun ms' hB =>
          hN _ _ ⟨_, _, ws, rfl, (hB.2 p hpa).trans hp4, by omega, hall, hB.1, fun b h1 h2 => (hB.2 b h1).trans (hk b h1 h2)⟩
        have add : ∀ (w : Wnt) ms', wok w → SB a m4 ms' → N [some (.v (.ref a)), some (.d (.int i0)), some (.d (.lst (names.map .str))), some (.v (.ref b)), some (.d (.int mode)), some (.d (.int n)), some (.d (.str nobody)), some (.v (.ref p)), some (.d (.int i)), some (.d (eO o)), none] (mu ms' p (.l (ws.map eW ++ [eW w]))) := fun w ms' hw hB =>
          hN _ _ ⟨_, _, ws ++ [w], rfl, by rw [mu_same, List.map_append]; rfl, by simp; omega, fun z hz => by
            rcases List.mem_append.mp hz with h | h
            · exact hall z h
            · rw [List.mem_singleton.mp h]; exact hw, by rw [SrcAt, mu_ne hpa.symm]; exact hB.1, fun b h1 h2 => by rw [mu_ne h2]; exact (hB.2 b h1).trans (hk b h1 h2)⟩
        walk_at "all"
        all_goals first
          | exact stay _ hB5
          | skip
        refine dr hB5.1 (by decide) (by decide) fun v2 m6 h0 h1 hB6 => ?_
        have hB7 := hB5.trans hB6
        have hp6 : m6 p = some (.l (ws.map eW)) := (hB7.2 p hpa).trans hp4
        have hl6 : (ws.map eW).length < sizeLine := Nat.lt_of_lt_of_le (by rw [List.length_map]; omega) (small_len (n := 5) (by omega))
        walk_at "all"
        · refine s_addT ?_ ?_
          · exact small_len (n := 4) (by decide)
          refine s_oApp hp6 hl6 ?_
          exact add (nm, o) _ ⟨hns _ hn1, hok⟩ hB7
        · exact stay _ hB7
    · obtain ⟨g8, g9, ws, rfl, hp4, hl, hall, hS4, hk⟩ := hP
      rw [rng_len, Int.toNat_natCast] at hl
      have hb4 : m4 b = some (.l (known.map fun l => .lst (l.map eO))) := (hk b hba hpb.symm).trans hb
      walk_at "go"
      refine dr hS4 (by decide) (by decide) fun v m5 h0 h4 hB5 => ?_
      have hb5 : m5 b = some (.l (known.map fun l => .lst (l.map eO))) := (hB5.2 b hba).trans hb4
      have hp5 : m5 p = some (.l (ws.map eW)) := (hB5.2 p hpa).trans hp4
      have hk5 : ∀ b, b ≠ a → b ≠ p → m5 b = ms b := fun b h1 h2 => (hB5.2 b h1).trans (hk b h1 h2)
      obtain ⟨l, hl1, hl2, hl3⟩ := atI_map (f := fun l : List Off => D.lst (l.map eO)) (l := known) (i := i0) (by omega) (by omega)
      obtain ⟨nm, hn1, hn2, hn3⟩ := atI_map (f := D.str) (l := names) (i := i0) (by omega) (by omega)
      have hl4 := (hkl l hl1).1
      obtain ⟨o, hp1, hp2, hp3⟩ := atI_map (f := eO) (l := l) (i := n) (by omega) (by omega)
      have hl6 : (ws.map eW).length < sizeLine := Nat.lt_of_lt_of_le (by rw [List.length_map]; omega) (small_len (n := 5) (by omega))
      have fin : ∀ (ws' : List Wnt) m7, ws'.length ≤ 5 → (∀ o ∈ ws', wok o) → m7 p = some (.l (ws'.map eW)) → SrcAt m7 a → (∀ b, b ≠ a → b ≠ p → m7 b = ms b) → oSorted m7 [.v (.ref p)] fun z => oTup m7 [z] fun z => Out z m7 k := fun ws' m7 h1 h2 h3 h4 h5 => by
        refine s_sortW (lstOf_m h3) h2 (by omega) fun ws'' hws => ?_
        walk_at "go"
        exact out_md p (q ws'' _ (by rw [hws.length_eq]; omega) (fun o ho => h2 o (hws.mem_iff.mp ho)) (SB.forget hpa hp h4 h5))
      have plus : ∀ w, wok w → ∀ z ∈ ws ++ [w], wok z := fun w hw z hz => by
        rcases List.mem_append.mp hz with h | h
        · exact hall z h
        · rw [List.mem_singleton.mp h]; exact hw
      have hS5 : ∀ o, SrcAt (mu m5 p o) a := fun o => by rw [SrcAt, mu_ne hpa.symm]; exact hB5.1
      have done : ∀ (w : Wnt), wok w → oSorted (mu m5 p (.l (ws.map eW ++ [eW w]))) [.v (.ref p)] fun z => oTup (mu m5 p (.l (ws.map eW ++ [eW w]))) [z] fun z => Out z (mu m5 p (.l (ws.map eW ++ [eW w]))) k := fun w hw =>
        fin (ws ++ [w]) _ (by simp; omega) (plus w hw) (by rw [mu_same, List.map_append]; rfl) (hS5 _) (fun b h1 h2 => by rw [mu_ne h2]; exact hk5 b h1 h2)
      walk_at "go"
      refine s_ite (fun e0 => ?_) (fun e0 => ?_)
      · walk_at "go"
        refine s_addT ?_ ?_
        · exact small_len (n := 4) (by decide)
        refine s_oApp hp5 hl6 ?_
        walk_at "go"
        refine s_iteF (by simp at e0 ⊢; omega) ?_
        walk_at "go"
        exact done (nm, o) ⟨hns _ hn1, (hkl l hl1).2 _ hp1⟩
      · walk_at "go"
        refine s_ite (fun e1 => ?_) (fun e1 => ?_)
        · walk_at "go"
          refine s_addT ?_ ?_
          · exact small_len (n := 4) (by decide)
          refine s_oApp hp5 hl6 ?_
          walk_at "go"
          exact done (nobody, o) ⟨hnb, (hkl l hl1).2 _ hp1⟩
        · walk_at "go"
          exact fin ws _ (by omega) hall hp5 hB5.1 hk5
end
end R76

/-! ## K76e -/
set_option Elab.async false
set_option linter.all false
set_option maxRecDepth 100000
set_option maxHeartbeats 4000000
namespace R76
open PySem PySem.Spec PyProof.Rows L2 AL
open Evl (Ex)
local macro_rules | `(tactic| walk_at "st") => `(tactic| first
  | (with_reducible refine' s_seq ?_) | (with_reducible refine' s_set ?_) | (with_reducible refine' s_nx ?_) | (with_reducible refine' s_ret ?_) | (with_reducible refine' s_drop ?_) | (with_reducible refine' s_asg ?_) | (with_reducible refine' s_for ?_) | (with_reducible refine' s_tt ?_) | (with_reducible refine' s_ff ?_) | (with_reducible refine' s_lcS ?_) | (with_reducible refine' s_put ?_) | (with_reducible refine' s_app ?_) | (with_reducible refine' s_ext ?_)
  | (with_reducible refine' s_gN ?_) | ((with_reducible refine' s_v ?e ?_); (case e => rfl)) | (with_reducible refine' s_asB ?_) | (with_reducible refine' s_asI ?_) | (with_reducible refine' s_asD ?_) | (with_reducible refine' s_nil ?_) | (with_reducible refine' s_cons ?_)
  | (with_reducible refine' s_addI ?_) | (with_reducible refine' s_I0 ?_) | (with_reducible refine' s_neg ?_) | (with_reducible refine' s_eqI ?_) | (with_reducible refine' s_eqS ?_) | (with_reducible refine' s_ltI ?_) | (with_reducible refine' s_isN ?_) | (with_reducible refine' s_int ?_) | (with_reducible refine' s_abs ?_)
  | ((with_reducible refine' s_len ?e ?_); (case e => first | rfl | exact seqOf_m (by assumption) | exact seqOf_m mu_same))
  | ((with_reducible refine' s_ix ?e ?e2 ?_); (case e => first | rfl | exact seqOf_m (by assumption) | exact seqOf_m mu_same); (case e2 => first | rfl | assumption | exact atI_nat (j := 0) rfl | exact atI_nat (j := 1) rfl | exact atI_nat (j := 2) rfl | exact atI_nat (j := 3) rfl))
  | ((with_reducible refine' s_putL ?e ?e2 ?_); (case e => first | assumption | exact mu_same); (case e2 => first | rfl | assumption))
  | ((with_reducible refine' s_oL ?e ?_); (case e => first | assumption | exact mu_same))
  | ((with_reducible refine' s_dat ?e ?_); (case e => rfl)) | ((with_reducible refine' s_rng ?e ?_); (case e => exact ⟨by omega, by omega⟩))
  | ((with_reducible refine' s_I ?c ?_); (case c => first | assumption | exact ⟨by omega, by omega⟩ | exact ⟨by decide, by decide, by decide⟩ | exact Or.inl ⟨by omega, by omega⟩ | exact Or.inr ⟨by omega, by omega⟩ | (show (0 : Int) < _; omega) | (show (0 : Int) ≤ _; omega)))
  | (with_reducible refine' s_slT ?_) | (with_reducible refine' s_slL ?_) | (with_reducible refine' s_gC ?_) | ((with_reducible refine' s_gT ?e ?_); (case e => rfl))
  | ((with_reducible refine' s_tup ?e ?_); (case e => first | rfl | exact seqOf_m (by assumption) | exact seqOf_m mu_same))
  | ((with_reducible refine' s_list ?e ?_); (case e => first | rfl | exact seqOf_m (by assumption) | exact seqOf_m mu_same))
  | ((with_reducible refine' s_isi ?e ?e2 ?_); (case e => rfl); (case e2 => rfl))
  | (with_reducible refine' s_max ?_)
  | ((with_reducible refine' And.intro ?r ?_); (case r => with_reducible rfl)))
local macro_rules | `(tactic| walk_at "one") => `(tactic| first | (with_reducible refine' s_if ?_) | walk_at "st")
local macro_rules | `(tactic| walk_at "up") => `(tactic| repeat walk_at "st")
local macro_rules | `(tactic| walk_at "go") => `(tactic| repeat walk_at "one")
local macro_rules | `(tactic| walk_at "all") => `(tactic| repeat' (first | walk_at "one" | (refine s_ite (fun _ => ?_) (fun _ => ?_))))

section
variable {P : Program} {w : World} {K : PySem.W.Frag} {mg : Str → Option Value} {base : Heap}
/-- the source moved on, what stood stands -/
structure SW (a : Addr) (ms ms' : MS) : Prop where
  s : SrcAt ms' a
  k : ∀ b o, b ≠ a → ms b = some o → ms' b = some o
theorem SB.wk {a : Addr} {ms ms' : MS} (h : SB a ms ms') : SW a ms ms' := ⟨h.1, fun b o hb e => (h.2 b hb).trans e⟩
theorem SW.t {a : Addr} {m0 m1 m2 : MS} (h : SW a m0 m1) (g : SB a m1 m2) : SW a m0 m2 := ⟨g.1, fun b o hb e => (g.2 b hb).trans (h.k b o hb e)⟩
theorem SW.mu {a p : Addr} {m0 m1 : MS} {o : MO} (h : SW a m0 m1) (hp : p ≠ a) (h0 : m0 p = none) : SW a m0 (AL.mu m1 p o) := by
  refine ⟨by rw [SrcAt, mu_ne hp.symm]; exact h.s, fun b u hb e => ?_⟩
  by_cases q : b = p
  · subst q; rw [h0] at e; cases e
  · rw [mu_ne q]; exact h.k b u hb e
theorem SW.fresh {a p : Addr} {m0 m1 : MS} (h : SW a m0 m1) (hp : m1 p = none) : p ≠ a ∧ m0 p = none := by
  have hpa := src_ne h.s hp
  refine ⟨hpa, ?_⟩
  cases q : m0 p with
  | none => rfl
  | some o => rw [h.k p o hpa q] at hp; cases hp
theorem SW.out {a : Addr} {ms ms' : MS} {sd : SD} {k : SD → MS → Prop} (h : SW a ms ms') (q : ∀ m, SB a ms m → k sd m) : Out sd ms' k := by
  refine .inl ⟨fun b => if b = a then ms' a else ms b, fun b o e => ?_, q _ ⟨?_, fun b hb => if_neg hb⟩⟩
  · by_cases hb : b = a
    · subst hb
      exact (if_pos rfl).symm.trans e
    · exact h.k b o hb ((if_neg hb).symm.trans e)
  · obtain ⟨l, h1, h2⟩ := h.s
    exact ⟨l, (if_pos rfl).trans h1, h2⟩
theorem kept {a p : Addr} {m m' : MS} {o : MO} (h : SB a m m') (hp : p ≠ a) (e : m p = some o) : m' p = some o := (h.2 p hp).trans e
abbrev s_law_course : Stmt := (topS 26)
theorem sc_law_course : FnScope ["source", "devices", "most", "pool", "names", "kinds", "mode", "sizes", "name", "known", "k", "j", "releases", "line", "number", "offers"] ["source", "devices", "most"] (defScope s_law_course) := ⟨rfl, rfl, rfl, by decide +kernel, rfl, by decide +kernel, by decide +kernel⟩

structure CrsOk (names : List Str) (rels : List (List Rel)) (nobody : Str) : Prop where
  n : NamesOk names
  l : rels.length = names.length
  r : RelsOk rels
  b : sok nobody
  f : ∀ l ∈ rels, ∀ r ∈ l, r.2.length ≤ 5
def R_course : AFn := fun sds ms k _ => ∃ a, ∃ n : Nat, ∃ most : Int, sds = [.v (.ref a), .d (.int n), .d (.int most)] ∧ 1 ≤ n ∧ n ≤ 4 ∧ 1 ≤ most ∧ most ≤ 4 ∧ SrcAt ms a ∧
  ∀ names rels nobody ms', CrsOk names rels nobody → SB a ms ms' → k (.d (.tup [eN names, eLs rels, .str nobody])) ms'
theorem ok_course (T : Blt mg) (G_law_draw : FnA P w K mg base CX0 1 "_law_draw" R_draw) (G_law_names : FnA P w K mg base CX0 2 "_law_names" R_names) (G_law_offers : FnA P w K mg base CX0 2 "_law_offers" R_offers) (G_law_wants : FnA P w K mg base CX0 2 "_law_wants" R_wants)
    {f : Addr} {fd : FuncData} (F : Fun K "_law_course" "_law_course" s_law_course f fd) : FnOk P w K mg base CX0 3 f fd ["source", "devices", "most"] (spA R_course) := by
  refine fnA F sc_law_course (fun sds ms k x h => ?_) (by decide) fun cdv A outer s H E hr => ⟨_, _, (ass_cons (as_set 3 sc_law_course.nd (ae_call G_law_names (hr.mono (by first | decide | omega)) (fun _ => pass0At) (by rfl) (aa_cons (ae_v 0) (aa_cons (ae_bin op_addA oa_add (ae_v 1) ae_int) aa_nil))))
    (ass_cons (as_set 4 sc_law_course.nd (ae_sl (ae_v 3) ao_none (ao_some (ae_v 1))))
    (ass_cons (as_set 5 sc_law_course.nd (ae_sl (ae_v 3) (ao_some (ae_v 1)) ao_none))
    (ass_cons (as_set 6 sc_law_course.nd (ae_call G_law_draw (hr.mono (by first | decide | omega)) (fun _ => pass0At) (by rfl) (aa_cons (ae_v 0) (aa_cons ae_int aa_nil))))
    (ass_cons (as_setLc 7 (own := [("name", 8)]) rfl sc_law_course.nd (ai_seq (ae_v 4)) (blkOk_by (own := [("name", 8)]) (N := ["source", "devices", "most", "pool", "names", "kinds", "mode", "sizes", "name", "known", "k", "j", "releases", "line", "number", "offers"]) (sc := defScope s_law_course) (by decide +kernel)) (by decide) (fun _ _ _ _ _ => (ag_name 8 sc_law_course.nd)) (fun _ _ _ _ _ => ats_nil) (fun _ _ _ _ _ => (ae_bin (opK_add (K := K) rfl) oa_add ae_int (ae_call G_law_draw (hr.mono (by first | decide | omega)) (fun _ => pass0At) (by rfl) (aa_cons (ae_v 0) (aa_cons (ae_v 2) aa_nil))))) (sw_true rfl rfl rfl (by decide +kernel)))
    (ass_cons (as_set 9 sc_law_course.nd (ae_lstM aa_nil))
    (ass_cons (as_for PassesOwn.never rfl (ai_range1 (by rfl) T.range (ae_v 1)) (ag_name 10 sc_law_course.nd)
      (ass_one (as_expr (ae_append (ae_v 9) (ae_lc (own := [("j", 11)]) rfl sc_law_course.nd (ai_range1 (by rfl) T.range ae_int) (blkOk_by (own := [("j", 11)]) (N := ["source", "devices", "most", "pool", "names", "kinds", "mode", "sizes", "name", "known", "k", "j", "releases", "line", "number", "offers"]) (sc := defScope s_law_course) (by decide +kernel)) (by decide) (fun _ _ _ _ _ => (ag_name 11 sc_law_course.nd)) (fun _ _ _ _ _ => ats_nil) (fun _ _ _ _ _ => (ae_tup (aa_cons (ae_ixK (K := K) rfl (u1 hr) (ae_v 5) (ae_bin op_mod oa_mod (ae_callTy call_int1 oa_int (by rfl) T.int (by decide +kernel) (aa_cons (ae_bin (opK_add (K := K) rfl) oa_add (ae_v 11) (ae_v 10)) aa_nil)) ae_int)) (aa_cons (ae_call G_law_draw (hr.mono (by first | decide | omega)) (fun _ => pass0At) (by rfl) (aa_cons (ae_v 0) (aa_cons ae_int aa_nil))) (aa_cons (ae_call G_law_draw (hr.mono (by first | decide | omega)) (fun _ => pass0At) (by rfl) (aa_cons (ae_v 0) (aa_cons ae_int aa_nil))) aa_nil))))))))))
    (ass_cons (as_set 12 sc_law_course.nd (ae_lstM aa_nil))
    (ass_cons (as_for PassesOwn.never rfl (ai_range1 (by rfl) T.range (ae_v 1)) (ag_name 10 sc_law_course.nd)
      (ass_cons (as_set 13 sc_law_course.nd (ae_lstM aa_nil))
      (ass_cons (as_for PassesOwn.never rfl (ai_range1 (by rfl) T.range (ae_ix (u1 hr) (ae_v 7) (ae_v 10))) (ag_name 14 sc_law_course.nd)
        (ass_cons (as_set 15 sc_law_course.nd (ae_call G_law_offers (hr.mono (by first | decide | omega)) (fun _ => pass0At) (by rfl) (aa_cons (ae_v 0) (aa_cons (ae_ix (u1 hr) (ae_v 9) (ae_v 10)) (aa_cons (ae_v 6) (aa_cons (ae_v 14) aa_nil))))))
        (ass_one (as_expr (ae_append (ae_v 13) (ae_tup (aa_cons (ae_v 15) (aa_cons (ae_call G_law_wants (hr.mono (by first | decide | omega)) (fun _ => pass0At) (by rfl) (aa_cons (ae_v 0) (aa_cons (ae_v 10) (aa_cons (ae_v 4) (aa_cons (ae_v 9) (aa_cons (ae_v 6) (aa_cons (ae_v 14) (aa_cons (ae_ix (u1 hr) (ae_v 5) ae_int) aa_nil)))))))) aa_nil))))))))
      (ass_one (as_expr (ae_append (ae_v 12) (ae_callTy call_tuple_of oa_tup (by rfl) T.tuple (by decide +kernel) (aa_cons (ae_v 13) aa_nil))))))))
    (ass_one (as_ret (ae_tup (aa_cons (ae_callTy call_tuple_of oa_tup (by rfl) T.tuple (by decide +kernel) (aa_cons (ae_v 4) aa_nil)) (aa_cons (ae_callTy call_tuple_of oa_tup (by rfl) T.tuple (by decide +kernel) (aa_cons (ae_v 12) aa_nil)) (aa_cons (ae_ix (u1 hr) (ae_v 5) ae_int) aa_nil))))))))))))))), fun sds ms k x h => ?_⟩
  · obtain ⟨a, n, m, rfl, _⟩ := h; rfl
  · obtain ⟨a, n, most, rfl, hn1, hn4, hm1, hm4, hS, q⟩ := h
    dsimp only [gam]
    walk_at "go"
    refine ⟨a, n + 5, rfl, by omega, hS, fun pool m1 hpl hpool hB1 => ?_⟩
    walk_at "go"
    rw [cutD_take]
    walk_at "go"
    rw [cutD_drop, ← List.map_take, ← List.map_drop]
    walk_at "go"
    refine dr hB1.1 (by decide) (by decide) fun mode m2 hd0 hd3 hB2 => ?_
    have hB := hB1.trans hB2
    have hnl : (pool.take n).length = n := by rw [List.length_take]; omega
    have hkl : (pool.drop n).length = 5 := by rw [List.length_drop]; omega
    have hno : NamesOk (pool.take n) := ⟨fun z h => hpool.a z (List.mem_of_mem_take h), hpool.d.sublist (List.take_sublist _ _)⟩
    have hko : ∀ z ∈ pool.drop n, sok z := fun z h => (hpool.a z (List.mem_of_mem_drop h)).sok
    generalize pool.take n = names at hnl hno ⊢
    generalize pool.drop n = kinds at hkl hko ⊢
    walk_at "go"
    refine lcI_inv (fun i acc ms' => SB a ms ms' ∧ ∃ cs : List Int, acc = cs.map D.int ∧ cs.length = i ∧ ∀ c ∈ cs, 1 ≤ c ∧ c ≤ 4) ⟨hB, [], rfl, rfl, by simp⟩ (fun i d acc m3 hd hP N hN => ?_) fun acc m3 hP => ?_
    · obtain ⟨hB3, cs, rfl, hi, hc⟩ := hP
      have hlen := (List.getElem?_eq_some_iff.mp hd).1
      rw [List.length_map] at hlen
      walk_at "go"
      refine dr hB3.1 (by omega) (by omega) fun v m4 h0 h4 hB4 => ?_
      walk_at "go"
      refine ⟨small_len (by rw [List.length_map]; omega), hN _ _ ⟨hB3.trans hB4, cs ++ [1 + v], by simp, by simp [hi], fun d hd => ?_⟩⟩
      rcases List.mem_append.mp hd with h | h
      · exact hc d h
      · rw [List.mem_singleton.mp h]; omega
    obtain ⟨hB3, sizes, rfl, hsl, hsz⟩ := hP
    rw [List.length_map, hnl] at hsl
    walk_at "go"
    intro p hp
    obtain ⟨hpa, hp0⟩ := hB3.wk.fresh hp
    have W1 := hB3.wk.mu (o := .l []) hpa hp0
    walk_at "go"
    refine forR_inv (fun i Γ ms' => ∃ g8 g10 g11, ∃ known : List (List Off), Γ = [some (.v (.ref a)), some (.d (.int n)), some (.d (.int most)), some (.d (.lst (pool.map D.str))), some (.d (.lst (names.map D.str))), some (.d (.lst (kinds.map D.str))), some (.d (.int mode)), some (.d (.lst (sizes.map D.int))), g8, some (.v (.ref p)), g10, g11, none, none, none, none] ∧
      ms' p = some (.l (known.map fun l => .lst (l.map eO))) ∧ known.length = i ∧ (∀ l ∈ known, l.length = 4 ∧ ∀ o ∈ l, ook o) ∧ SW a ms ms') ⟨none, none, none, [], rfl, mu_same, rfl, by simp, W1⟩ (fun i d Γ m4 hd hP N hN => ?_) fun Γ m4 hP => ?_
    · obtain ⟨g8, g10, g11, known, rfl, hp4, hl, hall, W4⟩ := hP
      obtain ⟨hin, rfl⟩ := rng_get hd
      rw [Int.toNat_natCast] at hin
      walk_at "go"
      refine lcI_inv (fun j acc ms' => SB a m4 ms' ∧ ∃ os : List Off, acc = os.map eO ∧ os.length = j ∧ ∀ o ∈ os, ook o) ⟨SB.refl W4.s, [], rfl, rfl, by simp⟩ (fun j d acc m5 hd hP N' hN' => ?_) fun acc m5 hP => ?_
      · obtain ⟨hB5, os, rfl, hj, ho⟩ := hP
        obtain ⟨hj4, rfl⟩ := rng_get hd
        have hj5 : j < 4 := hj4
        obtain ⟨z, hz1, hz2, hz3⟩ := atI_map (f := D.str) (l := kinds) (i := ((j : Int) + (i : Int)) % 4) (Int.emod_nonneg _ (by decide)) (by have := Int.emod_lt_of_pos ((j : Int) + (i : Int)) (b := 4) (by decide); omega)
        walk_at "go"
        refine dr hB5.1 (by decide) (by decide) fun v m6 h0 h4 hB6 => ?_
        walk_at "go"
        refine dr hB6.1 (by decide) (by decide) fun v2 m7 h0 h4 hB7 => ?_
        walk_at "go"
        refine ⟨small_len (by rw [List.length_map]; omega), hN' _ _ ⟨(hB5.trans hB6).trans hB7, os ++ [(z, v, v2)], by rw [List.map_append]; rfl, by simp [hj], fun d hd => ?_⟩⟩
        rcases List.mem_append.mp hd with h | h
        · exact ho d h
        · rw [List.mem_singleton.mp h]; exact hko z hz1
      obtain ⟨hB5, os, rfl, hj, ho⟩ := hP
      have hj4 : os.length = 4 := hj
      refine s_oApp (kept hB5 hpa hp4) (small_len (by rw [List.length_map]; omega)) ?_
      refine hN _ _ ⟨_, _, _, known ++ [os], rfl, by rw [mu_same, List.map_append]; rfl, by simp [hl], fun l hl => ?_, (W4.t hB5).mu hpa hp0⟩
      rcases List.mem_append.mp hl with h | h
      · exact hall l h
      · rw [List.mem_singleton.mp h]; exact ⟨hj4, ho⟩
    · obtain ⟨g8, g10, g11, known, rfl, hp4, hl, hall, W4⟩ := hP
      rw [rng_len, Int.toNat_natCast] at hl
      walk_at "go"
      intro r hr0
      obtain ⟨hra, hrr⟩ := W4.fresh hr0
      have hrp : r ≠ p := fun e => by subst e; rw [hp4] at hr0; cases hr0
      walk_at "go"
      refine forR_inv (fun i Γ ms' => ∃ g8 g10 g11 g13 g14 g15, ∃ rels : List (List Rel), Γ = [some (.v (.ref a)), some (.d (.int n)), some (.d (.int most)), some (.d (.lst (pool.map D.str))), some (.d (.lst (names.map D.str))), some (.d (.lst (kinds.map D.str))), some (.d (.int mode)), some (.d (.lst (sizes.map D.int))), g8, some (.v (.ref p)), g10, g11, some (.v (.ref r)), g13, g14, g15] ∧
        ms' p = some (.l (known.map fun l => .lst (l.map eO))) ∧ ms' r = some (.l (rels.map eLn)) ∧ rels.length = i ∧ (∀ l ∈ rels, (1 ≤ l.length ∧ l.length ≤ 4) ∧ ∀ r ∈ l, RelOk r ∧ r.2.length ≤ 5) ∧ SW a ms ms') ⟨_, _, _, none, none, none, [], rfl, (mu_ne hrp.symm).trans hp4, mu_same, rfl, by simp, W4.mu hra hrr⟩ (fun i d Γ m5 hd hP N hN => ?_) fun Γ m5 hP => ?_
      · obtain ⟨g8, g10, g11, g13, g14, g15, rels, rfl, hp5, hr5, hrl, hrall, W5⟩ := hP
        obtain ⟨hin, rfl⟩ := rng_get hd
        rw [Int.toNat_natCast] at hin
        walk_at "go"
        intro t ht0
        obtain ⟨hta, htt⟩ := W5.fresh ht0
        have htp : t ≠ p := fun e => by subst e; rw [hp5] at ht0; cases ht0
        have htr : t ≠ r := fun e => by subst e; rw [hr5] at ht0; cases ht0
        obtain ⟨sz, hs1, hs2, hs3⟩ := atI_map (f := D.int) (l := sizes) (i := i) (by omega) (by omega)
        have hsz4 := hsz sz hs1
        walk_at "go"
        refine forR_inv (fun j Γ ms' => ∃ g14 g15, ∃ line : List Rel, Γ = [some (.v (.ref a)), some (.d (.int n)), some (.d (.int most)), some (.d (.lst (pool.map D.str))), some (.d (.lst (names.map D.str))), some (.d (.lst (kinds.map D.str))), some (.d (.int mode)), some (.d (.lst (sizes.map D.int))), g8, some (.v (.ref p)), some (.d (.int i)), g11, some (.v (.ref r)), some (.v (.ref t)), g14, g15] ∧
          ms' p = some (.l (known.map fun l => .lst (l.map eO))) ∧ ms' r = some (.l (rels.map eLn)) ∧ ms' t = some (.l (line.map eR)) ∧ line.length = j ∧ (∀ r ∈ line, RelOk r ∧ r.2.length ≤ 5) ∧ SW a ms ms') ⟨_, _, [], rfl, (mu_ne htp.symm).trans hp5, (mu_ne htr.symm).trans hr5, mu_same, rfl, by simp, W5.mu hta htt⟩ (fun j d Γ m6 hd hP N' hN' => ?_) fun Γ m6 hP => ?_
        · obtain ⟨g14, g15, line, rfl, hp6, hr6, ht6, hll, hlall, W6⟩ := hP
          obtain ⟨hjn, rfl⟩ := rng_get hd
          have hj4 : j < 4 := by omega
          obtain ⟨l, hl1, hl2, hl3⟩ := atI_map (f := fun l : List Off => D.lst (l.map eO)) (l := known) (i := i) (by omega) (by omega)
          walk_at "go"
          refine ⟨a, l, mode, j, rfl, Nat.le_of_eq (hall l hl1).1, (hall l hl1).2, W6.s, fun os m7 ho1 ho2 hB7 => ?_⟩
          walk_at "go"
          have ht7 := kept hB7 hta ht6
          refine s_oL ht7 ?_
          walk_at "go"
          obtain ⟨nb, hb1, hb2, hb3⟩ := atI_map (f := D.str) (l := kinds) (i := 4) (by decide) (by omega)
          walk_at "go"
          refine ⟨a, p, names, known, i, j, mode, nb, rfl, hpa, kept hB7 hpa hp6, by omega, by omega, hall, fun z hz => (hno.a z hz).sok, hko nb hb1, by omega, hj4, hB7.1, fun ws m8 hw1 hw2 hB8 => ?_⟩
          walk_at "go"
          refine s_oApp (kept hB8 hta ht7) (small_len (by rw [List.length_map]; omega)) ?_
          refine hN' _ _ ⟨_, _, line ++ [(os, ws)], rfl, ?_, ?_, by rw [mu_same, List.map_append]; rfl, by simp [hll], fun r hr => ?_, ((W6.t hB7).t hB8).mu hta htt⟩
          · rw [mu_ne htp.symm]; exact kept hB8 hpa (kept hB7 hpa hp6)
          · rw [mu_ne htr.symm]; exact kept hB8 hra (kept hB7 hra hr6)
          · rcases List.mem_append.mp hr with h | h
            · exact hlall r h
            · rw [List.mem_singleton.mp h]; exact ⟨⟨ho1, by show ws.length ≤ 6; omega, ho2, hw2⟩, hw1⟩
        · obtain ⟨g14, g15, line, rfl, hp6, hr6, ht6, hll, hlall, W6⟩ := hP
          rw [rng_len] at hll
          walk_at "go"
          refine s_oApp hr6 (small_len (by rw [List.length_map]; omega)) ?_
          refine hN _ _ ⟨_, _, _, _, _, _, rels ++ [line], rfl, ?_, by rw [mu_same, List.map_append]; rfl, by simp [hrl], fun l hl => ?_, W6.mu hra hrr⟩
          · rw [mu_ne hrp.symm]; exact hp6
          · rcases List.mem_append.mp hl with h | h
            · exact hrall l h
            · rw [List.mem_singleton.mp h]; exact ⟨by omega, hlall⟩
      · obtain ⟨g8, g10, g11, g13, g14, g15, rels, rfl, hp5, hr5, hrl, hrall, W5⟩ := hP
        rw [rng_len, Int.toNat_natCast] at hrl
        obtain ⟨nb, hb1, hb2, hb3⟩ := atI_map (f := D.str) (l := kinds) (i := 4) (by decide) (by omega)
        walk_at "go"
        exact W5.out fun m hB => q names rels nb m ⟨hno, by omega, ⟨by omega, fun l hl => (hrall l hl).1, fun l hl r hr => ((hrall l hl).2 r hr).1⟩, hko nb hb1, fun l hl r hr => ((hrall l hl).2 r hr).2⟩ hB
end
end R76

/-! ## K76f -/
set_option Elab.async false
set_option linter.all false
set_option maxRecDepth 100000
set_option maxHeartbeats 4000000
namespace R76
open PySem PySem.Spec PyProof.Rows L2 AL
open Evl (Ex)
open PySem.W (keyToks keyToksAll alike alikeAll dataLt dataLe)
local macro_rules | `(tactic| walk_at "st") => `(tactic| first
  | (with_reducible refine' s_seq ?_) | (with_reducible refine' s_set ?_) | (with_reducible refine' s_nx ?_) | (with_reducible refine' s_ret ?_) | (with_reducible refine' s_drop ?_) | (with_reducible refine' s_asg ?_) | (with_reducible refine' s_for ?_) | (with_reducible refine' s_tt ?_) | (with_reducible refine' s_ff ?_) | (with_reducible refine' s_lcS ?_) | (with_reducible refine' s_put ?_) | (with_reducible refine' s_app ?_) | (with_reducible refine' s_ext ?_)
  | (with_reducible refine' s_gN ?_) | ((with_reducible refine' s_v ?e ?_); (case e => rfl)) | (with_reducible refine' s_asB ?_) | (with_reducible refine' s_asI ?_) | (with_reducible refine' s_asD ?_) | (with_reducible refine' s_nil ?_) | (with_reducible refine' s_cons ?_)
  | (with_reducible refine' s_addI ?_) | (with_reducible refine' s_I0 ?_) | (with_reducible refine' s_neg ?_) | (with_reducible refine' s_eqI ?_) | (with_reducible refine' s_eqS ?_) | (with_reducible refine' s_ltI ?_) | (with_reducible refine' s_isN ?_) | (with_reducible refine' s_int ?_) | (with_reducible refine' s_abs ?_)
  | ((with_reducible refine' s_len ?e ?_); (case e => first | rfl | exact seqOf_m (by assumption) | exact seqOf_m mu_same))
  | ((with_reducible refine' s_ix ?e ?e2 ?_); (case e => first | rfl | exact seqOf_m (by assumption) | exact seqOf_m mu_same); (case e2 => first | rfl | assumption | exact atI_nat (j := 0) rfl | exact atI_nat (j := 1) rfl | exact atI_nat (j := 2) rfl | exact atI_nat (j := 3) rfl))
  | ((with_reducible refine' s_putL ?e ?e2 ?_); (case e => first | assumption | exact mu_same); (case e2 => first | rfl | assumption))
  | ((with_reducible refine' s_oL ?e ?_); (case e => first | assumption | exact mu_same))
  | ((with_reducible refine' s_dat ?e ?_); (case e => rfl)) | ((with_reducible refine' s_rng ?e ?_); (case e => exact ⟨by omega, by omega⟩))
  | ((with_reducible refine' s_I ?c ?_); (case c => first | assumption | exact ⟨by omega, by omega⟩ | exact ⟨by decide, by decide, by decide⟩ | exact Or.inl ⟨by omega, by omega⟩ | exact Or.inr ⟨by omega, by omega⟩ | (show (0 : Int) < _; omega) | (show (0 : Int) ≤ _; omega)))
  | (with_reducible refine' s_slT ?_) | (with_reducible refine' s_slL ?_) | (with_reducible refine' s_gC ?_) | ((with_reducible refine' s_gT ?e ?_); (case e => rfl))
  | ((with_reducible refine' s_tup ?e ?_); (case e => first | rfl | exact seqOf_m (by assumption) | exact seqOf_m mu_same))
  | ((with_reducible refine' s_list ?e ?_); (case e => first | rfl | exact seqOf_m (by assumption) | exact seqOf_m mu_same))
  | ((with_reducible refine' s_isi ?e ?e2 ?_); (case e => rfl); (case e2 => rfl))
  | (with_reducible refine' s_max ?_)
  | ((with_reducible refine' And.intro ?r ?_); (case r => with_reducible rfl)))
local macro_rules | `(tactic| walk_at "one") => `(tactic| first | (with_reducible refine' s_if ?_) | walk_at "st")
local macro_rules | `(tactic| walk_at "up") => `(tactic| repeat walk_at "st")
local macro_rules | `(tactic| walk_at "go") => `(tactic| repeat walk_at "one")
local macro_rules | `(tactic| walk_at "all") => `(tactic| repeat' (first | walk_at "one" | (refine s_ite (fun _ => ?_) (fun _ => ?_))))

theorem md_mu {ms : MS} {p : Addr} {o : MO} (h : ms p = none) : md (mu ms p o) p = ms := funext fun b => by
  by_cases e : b = p
  · subst e; rw [md_same, h]
  · rw [md_ne e, mu_ne e]
theorem mixes_len : ∀ l : List Nat, (∀ s ∈ l, s ≤ 4) → (mixes l).length ≤ 4 ^ l.length := by
  intro l
  have e : l = l.reverse.reverse := by simp
  rw [e]
  generalize l.reverse = r
  induction r with
  | nil => intro _; exact Nat.le_refl _
  | cons s r ih =>
    intro h
    rw [List.reverse_cons] at h ⊢
    have h1 := ih fun s hs => h s (List.mem_append.mpr (.inl hs))
    have hs := h s (by simp)
    rw [mixes_snoc, List.length_flatMap, List.length_append, List.length_singleton, Nat.pow_succ]
    have e : ((mixes r.reverse).map fun m => ((List.range s).map fun i => m ++ [i]).length) = List.replicate (mixes r.reverse).length s := by
      apply List.eq_replicate_iff.mpr
      refine ⟨by simp, fun b hb => ?_⟩
      obtain ⟨m, _, rfl⟩ := List.mem_map.mp hb
      simp
    rw [e]
    have e2 : (List.replicate (mixes r.reverse).length s).sum = (mixes r.reverse).length * s := by simp
    rw [e2]
    exact Nat.mul_le_mul h1 hs
theorem sizes_le {rels : List (List Rel)} (h : RelsOk rels) : ∀ s ∈ sizesOf rels, s ≤ 4 := fun s hs => by
  obtain ⟨l, hl, rfl⟩ := List.mem_map.mp hs
  exact (h.l l hl).2
theorem pow4 {n : Nat} (h : n ≤ 4) : 4 ^ n ≤ 256 := by
  have : 4 ^ n ≤ 4 ^ 4 := Nat.pow_le_pow_right (by decide) h
  simpa using this
theorem eM_snoc (m : List Nat) (i : Nat) : D.tup ((m.map fun i : Nat => D.int i) ++ [.int i]) = eM (m ++ [i]) := by unfold eM; rw [List.map_append]; rfl
theorem eM_snoc0 (m : List Nat) (i : Nat) : D.tup ((m.map fun i : Nat => D.int i) ++ [.int (0 + (i : Int))]) = eM (m ++ [i]) := by rw [Int.zero_add]; exact eM_snoc m i
section
variable {P : Program} {w : World} {K : PySem.W.Frag} {mg : Str → Option Value} {base : Heap}
abbrev s_law_mixtures : Stmt := (topS 27)
theorem sc_law_mixtures : FnScope ["releases", "found", "line", "longer", "mixture", "number"] ["releases"] (defScope s_law_mixtures) := ⟨rfl, rfl, rfl, by decide +kernel, rfl, by decide +kernel, by decide +kernel⟩

def R_mixtures : AFn := fun sds ms k _ => ∃ rels, sds = [.d (eLs rels)] ∧ RelsOk rels ∧ k (.d (.lst ((mixes (sizesOf rels)).map eM))) ms
theorem ok_mixtures (T : Blt mg) {f : Addr} {fd : FuncData} (F : Fun K "_law_mixtures" "_law_mixtures" s_law_mixtures f fd) : FnOk P w K mg base CX0 1 f fd ["releases"] (spA R_mixtures) := by
  refine fnA F sc_law_mixtures (fun sds ms k x h => ?_) (by decide) fun cdv A outer s H E hr => ⟨_, _, (ass_cons (as_set 1 sc_law_mixtures.nd (ae_lst (aa_cons (ae_tup aa_nil) aa_nil)))
    (ass_cons (as_for PassesOwn.never rfl (ai_seq (ae_v 0)) (ag_name 2 sc_law_mixtures.nd)
      (ass_cons (as_set 3 sc_law_mixtures.nd (ae_lst aa_nil))
      (ass_cons (as_for PassesOwn.never rfl (ai_seq (ae_v 1)) (ag_name 4 sc_law_mixtures.nd)
        (ass_one (as_set 3 sc_law_mixtures.nd (ae_bin op_addA oa_add (ae_v 3) (ae_lc (own := [("number", 5)]) rfl sc_law_mixtures.nd (ai_range1 (by rfl) T.range (ae_callB call_len oa_len (by rfl) T.len (by decide +kernel) (aa_cons (ae_v 2) aa_nil))) (blkOk_by (own := [("number", 5)]) (N := ["releases", "found", "line", "longer", "mixture", "number"]) (sc := defScope s_law_mixtures) (by decide +kernel)) (by decide) (fun _ _ _ _ _ => (ag_name 5 sc_law_mixtures.nd)) (fun _ _ _ _ _ => ats_nil) (fun _ _ _ _ _ => (ae_bin (opK_add (K := K) rfl) oa_add (ae_v 4) (ae_tup (aa_cons (ae_v 5) aa_nil)))))))))
      (ass_one (as_set 1 sc_law_mixtures.nd (ae_v 3))))))
    (ass_one (as_ret (ae_v 1))))), fun sds ms k x h => ?_⟩
  · obtain ⟨a, rfl, _⟩ := h; rfl
  · obtain ⟨rels, rfl, hr, q⟩ := h
    dsimp only [gam]
    have hsl : (sizesOf rels).length = rels.length := List.length_map ..
    walk_at "go"
    refine forR_inv (fun i Γ ms' => ms' = ms ∧ ∃ g2 g3 g4, Γ = [some (.d (eLs rels)), some (.d (.lst ((mixes ((sizesOf rels).take i)).map eM))), g2, g3, g4, none]) ⟨rfl, _, _, _, rfl⟩ (fun i d Γ m1 hd hP N hN => ?_) fun Γ m1 hP => ?_
    · obtain ⟨rfl, g2, g3, g4, rfl⟩ := hP
      rw [List.getElem?_map] at hd
      cases hl : rels[i]? with
      | none => rw [hl] at hd; cases hd
      | some l =>
        rw [hl] at hd
        cases hd
        have hi := (List.getElem?_eq_some_iff.mp hl).1
        have hlm := List.mem_of_getElem? hl
        have h4 := (hr.l l hlm).2
        have hlen : (l.map eR).length = l.length := List.length_map ..
        have hfl : (mixes ((sizesOf rels).take i)).length ≤ 64 := by
          have h1 := mixes_len ((sizesOf rels).take i) fun s hs => sizes_le hr s (List.mem_of_mem_take hs)
          have h2 : ((sizesOf rels).take i).length ≤ 3 := by rw [List.length_take]; have := hr.n.2; omega
          have h3 : 4 ^ ((sizesOf rels).take i).length ≤ 4 ^ 3 := Nat.pow_le_pow_right (by decide) h2
          have : (4 ^ 3 : Nat) = 64 := rfl
          omega
        have hnext : mixes ((sizesOf rels).take (i + 1)) = (mixes ((sizesOf rels).take i)).flatMap fun m => (List.range l.length).map fun i => m ++ [i] := by
          rw [List.take_add_one, show (sizesOf rels)[i]? = some l.length by unfold sizesOf; rw [List.getElem?_map, hl]; rfl]
          exact mixes_snoc _ _
        have hfv : ∀ m ∈ mixes ((sizesOf rels).take i), m.length ≤ 4 := fun m hm => by
          rw [((mixes_ok _).1 m hm).1, List.length_take]; have := hr.n.2; omega
        generalize mixes ((sizesOf rels).take i) = found at hfl hnext hfv ⊢
        walk_at "go"
        refine forR_inv (fun j Γ ms' => ms' = m1 ∧ ∃ g4, Γ = [some (.d (eLs rels)), some (.d (.lst (found.map eM))), some (.d (eLn l)), some (.d (.lst (((found.take j).flatMap fun m => (List.range l.length).map fun i => m ++ [i]).map eM))), g4, none]) ⟨rfl, _, rfl⟩ (fun j d Γ m2 hd hP N' hN' => ?_) fun Γ m2 hP => ?_
        · obtain ⟨rfl, g4, rfl⟩ := hP
          rw [List.getElem?_map] at hd
          cases hm : found[j]? with
          | none => rw [hm] at hd; cases hd
          | some m =>
            rw [hm] at hd
            cases hd
            have hj := (List.getElem?_eq_some_iff.mp hm).1
            have hll : (((found.take j).flatMap fun m => (List.range l.length).map fun i => m ++ [i])).length ≤ 256 := by
              rw [List.length_flatMap]
              have e : ((found.take j).map fun m => ((List.range l.length).map fun i => m ++ [i]).length) = List.replicate (found.take j).length l.length := by
                apply List.eq_replicate_iff.mpr
                refine ⟨by simp, fun b hb => ?_⟩
                obtain ⟨m, _, rfl⟩ := List.mem_map.mp hb
                simp
              rw [e]
              have e2 : (List.replicate (found.take j).length l.length).sum = (found.take j).length * l.length := by simp
              rw [e2, List.length_take]
              have : min j found.length ≤ 64 := by omega
              exact Nat.le_trans (Nat.mul_le_mul this h4) (by decide)
            walk_at "go"
            rw [hlen]
            refine lcI_map (xs := List.range l.length) (enc := fun i : Nat => D.int (0 + (i : Int))) (f := fun i => eM (m ++ [i])) (small_len (by rw [List.length_range]; omega)) (fun i hi acc N2 hz hN2 => ?_) ?_
            · walk_at "go"
              refine s_addT ?_ ?_
              · have : m.length ≤ 4 := hfv m (List.mem_of_getElem? hm)
                exact small_len (by rw [List.length_map]; show m.length + 1 ≤ _; omega)
              rw [eM_snoc0]
              exact ⟨hz, hN2⟩
            refine s_addL ?_ ?_
            · exact small_len (by rw [List.length_map, List.length_map, List.length_range]; omega)
            refine hN' _ _ ⟨rfl, some (.d (eM m)), ?_⟩
            rw [List.take_add_one, hm, List.flatMap_append, List.map_append]
            simp only [Option.toList_some, List.flatMap_cons, List.flatMap_nil, List.append_nil, List.map_map]
            rfl
        · obtain ⟨rfl, g4, rfl⟩ := hP
          walk_at "go"
          rw [List.length_map, List.take_length, ← hnext]
          exact hN _ _ ⟨rfl, _, _, _, rfl⟩
    · obtain ⟨rfl, g2, g3, g4, rfl⟩ := hP
      rw [List.length_map, ← hsl, List.take_length]
      walk_at "go"
      exact Out.here q

/-! ### the law's own missing -/
structure AllOk (names : List Str) (rels : List (List Rel)) (m : List Nat) : Prop where
  l : rels.length = names.length
  r : RelsOk rels
  n : ∀ z ∈ names, sok z
  m : Vm (sizesOf rels) m
theorem getD_ok {α : Type} {l : List α} {i : Nat} {x : α} (h : i < l.length) : l[i]? = some (l.getD i x) := by
  rw [List.getD_eq_getElem?_getD, List.getElem?_eq_getElem h]; rfl
theorem AllOk.at {names : List Str} {rels : List (List Rel)} {m : List Nat} (h : AllOk names rels m) {i : Nat} (hi : i < names.length) :
    i < rels.length ∧ i < m.length ∧ rels.getD i [] ∈ rels ∧ m.getD i 0 < (rels.getD i []).length ∧ rel rels m i ∈ rels.getD i [] ∧ names.getD i "" ∈ names ∧
    atI (names.map D.str) i = some (.str (names.getD i "")) ∧ atI (rels.map eLn) i = some (eLn (rels.getD i [])) ∧ atI (m.map fun j : Nat => D.int j) i = some (.int (m.getD i 0 : Nat)) ∧ atI ((rels.getD i []).map eR) (m.getD i 0 : Nat) = some (eR (rel rels m i)) := by
  have h1 : i < rels.length := by rw [h.l]; exact hi
  have hs : (sizesOf rels).length = rels.length := List.length_map ..
  have h2 : i < m.length := by rw [h.m.1, hs]; exact h1
  have h3 := h.m.2 i (by rw [hs]; exact h1)
  have e1 := getD_ok (x := ([] : List Rel)) h1
  have h4 : m.getD i 0 < (rels.getD i []).length := by
    have : (sizesOf rels).getD i 0 = (rels.getD i []).length := by
      unfold sizesOf
      rw [List.getD_eq_getElem?_getD, List.getElem?_map, e1]; rfl
    rw [this] at h3; exact h3
  have e2 := getD_ok (x := (([], []) : Rel)) h4
  have e3 := getD_ok (x := ("" : Str)) hi
  have e4 := getD_ok (x := 0) h2
  refine ⟨h1, h2, List.mem_of_getElem? e1, h4, List.mem_of_getElem? e2, List.mem_of_getElem? e3, atI_nat ?_, atI_nat ?_, atI_nat ?_, atI_nat ?_⟩
  · rw [List.getElem?_map, e3]; rfl
  · rw [List.getElem?_map, e1]; rfl
  · rw [List.getElem?_map, e4]; rfl
  · rw [List.getElem?_map, e2]; rfl
theorem s_slW {ms : MS} {wn : Wnt} {kz : SD → Prop} (h : kz (.d (eO wn.2))) : oSl (some 1) none ms (.d (eW wn)) kz := by
  have e := cutD_drop [.str wn.1, .str wn.2.1, .int wn.2.2.1, .int wn.2.2.2] 1
  show kz (.d (.tup (cutD [.str wn.1, .str wn.2.1, .int wn.2.2.1, .int wn.2.2.2] (some ((1 : Nat) : Int)) none)))
  rw [e]; exact h
theorem s_inO {ms : MS} {o : Off} {l : List Off} {neg : Bool} {kz : SD → Prop} (ho : ook o) (hl : ∀ o ∈ l, ook o) (h : kz (.d (.bl (neg ^^ decide (o ∈ l))))) : oIn neg ms (.d (eO o)) (.d (.tup (l.map eO))) kz := by
  refine s_inS rfl (fit_eO ho 63) (fitL_of fun d hd => ?_) (by rw [any_eO]; exact h)
  obtain ⟨o, h, rfl⟩ := List.mem_map.mp hd
  exact fit_eO (hl o h) 62
abbrev s_law_offered : Stmt := (topS 28)
theorem sc_law_offered : FnScope ["names", "releases", "mixture", "want", "k"] ["names", "releases", "mixture", "want"] (defScope s_law_offered) := ⟨rfl, rfl, rfl, by decide +kernel, rfl, by decide +kernel, by decide +kernel⟩

def R_offered : AFn := fun sds ms k _ => ∃ names rels m w, sds = [.d (eN names), .d (eLs rels), .d (eM m), .d (eW w)] ∧ AllOk names rels m ∧ wok w ∧ k (.d (.bl (offB names rels m w))) ms
theorem ok_offered (T : Blt mg) {f : Addr} {fd : FuncData} (F : Fun K "_law_offered" "_law_offered" s_law_offered f fd) : FnOk P w K mg base CX0 1 f fd ["names", "releases", "mixture", "want"] (spA R_offered) := by
  refine fnA F sc_law_offered (fun sds ms k x h => ?_) (by decide) fun cdv A outer s H E hr => ⟨_, _, (ass_cons (as_for PassesOwn.never rfl (ai_range1 (by rfl) T.range (ae_callB call_len oa_len (by rfl) T.len (by decide +kernel) (aa_cons (ae_v 0) aa_nil))) (ag_name 4 sc_law_offered.nd)
      (ass_one (as_if (AW.at (aw_and (at_cmp (op_eqA (u64 hr)) oa_eq (ae_ix (u1 hr) (ae_v 0) (ae_v 4)) (ae_ix (u1 hr) (ae_v 3) ae_int) (nomark _)) (aw_and1 (at_cmp (op_inA (u65 hr)) oa_in (ae_sl (ae_v 3) (ao_some ae_int) ao_none) (ae_ix (u1 hr) (ae_ix (u1 hr) (ae_ix (u1 hr) (ae_v 1) (ae_v 4)) (ae_ix (u1 hr) (ae_v 2) (ae_v 4))) ae_int) (by rfl))))) (ass_one (as_ret ae_bl)) ass_nil)))
    (ass_one (as_ret ae_bl))), fun sds ms k x h => ?_⟩
  · obtain ⟨a, b, c, d, rfl, _⟩ := h; rfl
  · obtain ⟨names, rels, m, wn, rfl, ok, hw, q⟩ := h
    have hn4 : names.length ≤ 4 := by rw [← ok.l]; exact ok.r.n.2
    have hlm : (names.map D.str).length = names.length := List.length_map ..
    dsimp only [gam]
    walk_at "go"
    rw [hlm]
    refine forR_inv (fun i Γ ms' => ms' = ms ∧ (∃ g4, Γ = [some (.d (eN names)), some (.d (eLs rels)), some (.d (eM m)), some (.d (eW wn)), g4]) ∧ (List.range i).any (fun k => decide (names.getD k "" = wn.1) && decide (wn.2 ∈ (rel rels m k).1)) = false) ⟨rfl, ⟨_, rfl⟩, rfl⟩ (fun i d Γ m1 hd hP N hN => ?_) fun Γ m1 hP => ?_
    · obtain ⟨rfl, ⟨g4, rfl⟩, hf⟩ := hP
      obtain ⟨hi, rfl⟩ := rng_get hd
      rw [Int.toNat_natCast] at hi
      obtain ⟨a1, a2, a3, a4, a5, a6, a7, a8, a9, a10⟩ := ok.at hi
      have hro := ok.r.r _ a3 _ a5
      have hsn : (List.range (i + 1)).any (fun k => decide (names.getD k "" = wn.1) && decide (wn.2 ∈ (rel rels m k).1)) = (decide (names.getD i "" = wn.1) && decide (wn.2 ∈ (rel rels m i).1)) := by
        rw [List.range_succ, List.any_append, hf]; simp
      have htrue : (decide (names.getD i "" = wn.1) && decide (wn.2 ∈ (rel rels m i).1)) = true → offB names rels m wn = true := fun e => List.any_eq_true.mpr ⟨i, List.mem_range.mpr hi, e⟩
      walk_at "go"
      refine s_ite (fun e1 => ?_) (fun e1 => ?_)
      · have e1 : decide (names.getD i "" = wn.1) = true := by simpa using e1
        walk_at "go"
        refine s_slW ?_
        walk_at "go"
        refine s_inO hw.2 hro.o ?_
        walk_at "go"
        refine s_ite (fun e2 => ?_) (fun e2 => ?_)
        · have e2 : decide (wn.2 ∈ (rel rels m i).1) = true := by simpa using e2
          walk_at "go"
          rw [htrue (by rw [e1, e2]; rfl)] at q
          exact Out.here q
        · have e2 : decide (wn.2 ∈ (rel rels m i).1) = false := by simpa using e2
          exact hN _ _ ⟨rfl, ⟨_, rfl⟩, by rw [hsn, e1, e2]; rfl⟩
      · have e1 : decide (names.getD i "" = wn.1) = false := by simpa using e1
        walk_at "go"
        exact hN _ _ ⟨rfl, ⟨_, rfl⟩, by rw [hsn, e1]; rfl⟩
    · obtain ⟨rfl, ⟨g4, rfl⟩, hf⟩ := hP
      rw [rng_len, Int.toNat_natCast] at hf
      walk_at "go"
      refine Out.here ?_
      rw [show offB names rels m wn = false from hf] at q
      exact q

theorem miss_len {names : List Str} {rels : List (List Rel)} {m : List Nat} (ok : AllOk names rels m) (j : Nat) (hj : j ≤ names.length) : ((List.range j).flatMap fun k => (lack names rels m k).map fun w => (names.getD k "", w)).length ≤ j * 6 := by
  induction j with
  | zero => simp
  | succ j ih =>
    rw [List.range_succ, List.flatMap_append, List.length_append]
    have h := ih (by omega)
    obtain ⟨a1, a2, a3, a4, a5, _⟩ := ok.at (i := j) (by omega)
    have := (ok.r.r _ a3 _ a5).n2
    have h2 : (lack names rels m j).length ≤ 6 := Nat.le_trans (List.length_filter_le _ _) this
    simp only [List.flatMap_cons, List.flatMap_nil, List.append_nil, List.length_map]
    omega
abbrev s_law_missing : Stmt := (topS 29)
theorem sc_law_missing : FnScope ["names", "releases", "mixture", "found", "k", "want"] ["names", "releases", "mixture"] (defScope s_law_missing) := ⟨rfl, rfl, rfl, by decide +kernel, rfl, by decide +kernel, by decide +kernel⟩

def R_lmissing : AFn := fun sds ms k _ => ∃ names rels m, sds = [.d (eN names), .d (eLs rels), .d (eM m)] ∧ AllOk names rels m ∧ ∀ ds : List D, ds.length = (miss names rels m).length → k (.d (.tup ds)) ms
theorem ok_lmissing (T : Blt mg) (G_law_offered : FnA P w K mg base CX0 1 "_law_offered" R_offered) {f : Addr} {fd : FuncData} (F : Fun K "_law_missing" "_law_missing" s_law_missing f fd) : FnOk P w K mg base CX0 2 f fd ["names", "releases", "mixture"] (spA R_lmissing) := by
  refine fnA F sc_law_missing (fun sds ms k x h => ?_) (by decide) fun cdv A outer s H E hr => ⟨_, _, (ass_cons (as_set 3 sc_law_missing.nd (ae_lstM aa_nil))
    (ass_cons (as_for PassesOwn.never rfl (ai_range1 (by rfl) T.range (ae_callB call_len oa_len (by rfl) T.len (by decide +kernel) (aa_cons (ae_v 0) aa_nil))) (ag_name 4 sc_law_missing.nd)
      (ass_one (as_for PassesOwn.never rfl (ai_seq (ae_ix (u1 hr) (ae_ix (u1 hr) (ae_ix (u1 hr) (ae_v 1) (ae_v 4)) (ae_ix (u1 hr) (ae_v 2) (ae_v 4))) ae_int)) (ag_name 5 sc_law_missing.nd)
        (ass_one (as_if (AW.at (aw_or (at_cmp (op_eqA (u64 hr)) oa_eq (ae_ix (u1 hr) (ae_v 5) ae_int) (ae_ix (u1 hr) (ae_v 0) (ae_v 4)) (nomark _)) (aw_or1 (at_not (at_val (ae_call G_law_offered (hr.mono (by first | decide | omega)) (fun _ => pass0At) (by rfl) (aa_cons (ae_v 0) (aa_cons (ae_v 1) (aa_cons (ae_v 2) (aa_cons (ae_v 5) aa_nil)))))))))) (ass_one (as_expr (ae_append (ae_v 3) (ae_bin op_addA oa_add (ae_tup (aa_cons (ae_ix (u1 hr) (ae_v 0) (ae_v 4)) aa_nil)) (ae_v 5))))) ass_nil)))))
    (ass_one (as_ret (ae_callTy call_tuple_of oa_tup (by rfl) T.tuple (by decide +kernel) (aa_cons (ae_callB (cr_sortedD (u80 hr)) oa_sorted (by rfl) T.sorted (by decide +kernel) (aa_cons (ae_v 3) aa_nil)) aa_nil)))))), fun sds ms k x h => ?_⟩
  · obtain ⟨a, b, c, rfl, _⟩ := h; rfl
  · obtain ⟨names, rels, m, rfl, ok, q⟩ := h
    have hn4 : names.length ≤ 4 := by rw [← ok.l]; exact ok.r.n.2
    have hlm : (names.map D.str).length = names.length := List.length_map ..
    dsimp only [gam]
    walk_at "go"
    intro p hp
    walk_at "go"
    rw [hlm]
    refine forR_inv (fun i Γ ms' => (∃ g4 g5, Γ = [some (.d (eN names)), some (.d (eLs rels)), some (.d (eM m)), some (.v (.ref p)), g4, g5]) ∧ ms' = mu ms p (.l (((List.range i).flatMap fun k => (lack names rels m k).map fun w => (names.getD k "", w)).map eX))) ⟨⟨_, _, rfl⟩, rfl⟩ (fun i d Γ m1 hd hP N hN => ?_) fun Γ m1 hP => ?_
    · obtain ⟨⟨g4, g5, rfl⟩, rfl⟩ := hP
      obtain ⟨hi, rfl⟩ := rng_get hd
      rw [Int.toNat_natCast] at hi
      obtain ⟨a1, a2, a3, a4, a5, a6, a7, a8, a9, a10⟩ := ok.at hi
      have hro := ok.r.r _ a3 _ a5
      have hsn : ((List.range (i + 1)).flatMap fun k => (lack names rels m k).map fun w => (names.getD k "", w)) = ((List.range i).flatMap fun k => (lack names rels m k).map fun w => (names.getD k "", w)) ++ (lack names rels m i).map fun w => (names.getD i "", w) := by
        rw [List.range_succ, List.flatMap_append]; simp
      have hln := miss_len ok i (by omega)
      generalize ((List.range i).flatMap fun k => (lack names rels m k).map fun w => (names.getD k "", w)) = acc at hsn hln ⊢
      walk_at "go"
      have hlk : lack names rels m i = (rel rels m i).2.filter fun w => decide (w.1 = names.getD i "") || !offB names rels m w := rfl
      generalize hwd : (rel rels m i).2 = wants at hlk ⊢
      rw [hlk] at hsn
      have hw6 : wants.length ≤ 6 := by rw [← hwd]; exact hro.n2
      have hwo : ∀ x ∈ wants, wok x := by rw [← hwd]; exact hro.w
      refine forR_inv (fun j Γ ms' => (∃ g5, Γ = [some (.d (eN names)), some (.d (eLs rels)), some (.d (eM m)), some (.v (.ref p)), some (.d (.int i)), g5]) ∧ ms' = mu ms p (.l ((acc ++ ((wants.take j).filter fun w => decide (w.1 = names.getD i "") || !offB names rels m w).map fun w => (names.getD i "", w)).map eX))) ⟨⟨_, rfl⟩, by simp⟩ (fun j d Γ m2 hd hP N' hN' => ?_) fun Γ m2 hP => ?_
      · obtain ⟨⟨g5, rfl⟩, rfl⟩ := hP
        rw [List.getElem?_map] at hd
        cases hwj : wants[j]? with
        | none => rw [hwj] at hd; cases hd
        | some wn =>
          rw [hwj] at hd
          cases hd
          have hwm := List.mem_of_getElem? hwj
          have hwk := hwo wn hwm
          have hfl : ((wants.take j).filter fun w => decide (w.1 = names.getD i "") || !offB names rels m w).length ≤ 6 := by
            refine Nat.le_trans (List.length_filter_le _ _) ?_
            rw [List.length_take]; omega
          have hts : (wants.take (j + 1)).filter (fun w => decide (w.1 = names.getD i "") || !offB names rels m w) = (wants.take j).filter (fun w => decide (w.1 = names.getD i "") || !offB names rels m w) ++ if (decide (wn.1 = names.getD i "") || !offB names rels m wn) = true then [wn] else [] := by
            rw [List.take_add_one, hwj, List.filter_append]
            simp only [Option.toList_some, List.filter_cons, List.filter_nil]
          rw [hts] at hN'
          generalize (wants.take j).filter (fun w => decide (w.1 = names.getD i "") || !offB names rels m w) = fl at hfl hN' ⊢
          have add : (decide (wn.1 = names.getD i "") || !offB names rels m wn) = true → N' [some (.d (eN names)), some (.d (eLs rels)), some (.d (eM m)), some (.v (.ref p)), some (.d (.int i)), some (.d (eW wn))] (mu ms p (.l ((acc ++ fl.map fun w => (names.getD i "", w)).map eX ++ [eX (names.getD i "", wn)]))) := fun e => by
            refine hN' _ _ ⟨⟨_, rfl⟩, ?_⟩
            rw [if_pos e]
            simp
          have stay : (decide (wn.1 = names.getD i "") || !offB names rels m wn) = false → N' [some (.d (eN names)), some (.d (eLs rels)), some (.d (eM m)), some (.v (.ref p)), some (.d (.int i)), some (.d (eW wn))] (mu ms p (.l ((acc ++ fl.map fun w => (names.getD i "", w)).map eX))) := fun e => by
            refine hN' _ _ ⟨⟨_, rfl⟩, ?_⟩
            rw [if_neg (by rw [e]; exact Bool.false_ne_true)]
            simp
          walk_at "up"
          (with_reducible refine' s_ifN (fun b ms1 => ms1 = mu ms p (.l ((acc ++ fl.map fun w => (names.getD i "", w)).map eX)) ∧ b = (decide (wn.1 = names.getD i "") || !offB names rels m wn)) ?_ ?_ ?_)
          · intro K hK
            walk_at "go"
            refine s_ite (fun e1 => ?_) (fun e1 => ?_)
            · exact hK _ _ ⟨rfl, by simp at e1; simp [e1]⟩
            · walk_at "go"
              refine ⟨names, rels, m, wn, rfl, ok, hwk, ?_⟩
              walk_at "go"
              exact hK _ _ ⟨rfl, by simp at e1; simp [e1]⟩
          · intro ms1 hP1
            obtain ⟨rfl, hb⟩ := hP1
            walk_at "go"
            refine s_addT ?_ ?_
            · exact small_len (n := 5) (by decide)
            refine s_oApp mu_same (small_len (by rw [List.length_map, List.length_append, List.length_map]; omega)) ?_
            rw [mu_mu]
            exact add hb.symm
          · intro ms1 hP1
            obtain ⟨rfl, hb⟩ := hP1
            exact stay hb.symm
      · obtain ⟨⟨g5, rfl⟩, rfl⟩ := hP
        rw [List.length_map, List.take_length, ← hsn]
        exact hN _ _ ⟨⟨_, _, rfl⟩, rfl⟩
    · obtain ⟨⟨g4, g5, rfl⟩, rfl⟩ := hP
      rw [rng_len, Int.toNat_natCast]
      walk_at "go"
      refine s_sortX (lstOf_m mu_same) (fun o ho => ?_) (Nat.le_trans (miss_len ok _ (Nat.le_refl _)) (by omega)) fun ds hds => ?_
      · obtain ⟨k, hk, ho⟩ := List.mem_flatMap.mp ho
        obtain ⟨wn, hw, rfl⟩ := List.mem_map.mp ho
        obtain ⟨a1, a2, a3, a4, a5, a6, _⟩ := ok.at (List.mem_range.mp hk)
        exact ⟨ok.n _ a6, (ok.r.r _ a3 _ a5).w _ (List.mem_filter.mp hw).1⟩
      · walk_at "go"
        refine out_md p ?_
        rw [md_mu hp]
        exact q ds hds
end
end R76

/-! ## K76g -/
set_option Elab.async false
set_option linter.all false
set_option maxRecDepth 100000
set_option maxHeartbeats 4000000
namespace R76
open PySem PySem.Spec PyProof.Rows L2 AL
open Evl (Ex)
open PySem.W (keyToks keyToksAll alike alikeAll dataLt dataLe)
local macro_rules | `(tactic| walk_at "st") => `(tactic| first
  | (with_reducible refine' s_seq ?_) | (with_reducible refine' s_set ?_) | (with_reducible refine' s_nx ?_) | (with_reducible refine' s_ret ?_) | (with_reducible refine' s_drop ?_) | (with_reducible refine' s_asg ?_) | (with_reducible refine' s_for ?_) | (with_reducible refine' s_tt ?_) | (with_reducible refine' s_ff ?_) | (with_reducible refine' s_lcS ?_) | (with_reducible refine' s_put ?_) | (with_reducible refine' s_app ?_) | (with_reducible refine' s_ext ?_)
  | (with_reducible refine' s_gN ?_) | ((with_reducible refine' s_v ?e ?_); (case e => rfl)) | (with_reducible refine' s_asB ?_) | (with_reducible refine' s_asI ?_) | (with_reducible refine' s_asD ?_) | (with_reducible refine' s_nil ?_) | (with_reducible refine' s_cons ?_)
  | (with_reducible refine' s_addI ?_) | (with_reducible refine' s_I0 ?_) | (with_reducible refine' s_neg ?_) | (with_reducible refine' s_eqI ?_) | (with_reducible refine' s_eqS ?_) | (with_reducible refine' s_ltI ?_) | (with_reducible refine' s_isN ?_) | (with_reducible refine' s_int ?_) | (with_reducible refine' s_abs ?_)
  | ((with_reducible refine' s_len ?e ?_); (case e => first | rfl | exact seqOf_m (by assumption) | exact seqOf_m mu_same))
  | ((with_reducible refine' s_ix ?e ?e2 ?_); (case e => first | rfl | exact seqOf_m (by assumption) | exact seqOf_m mu_same); (case e2 => first | rfl | assumption | exact atI_nat (j := 0) rfl | exact atI_nat (j := 1) rfl | exact atI_nat (j := 2) rfl | exact atI_nat (j := 3) rfl))
  | ((with_reducible refine' s_putL ?e ?e2 ?_); (case e => first | assumption | exact mu_same); (case e2 => first | rfl | assumption))
  | ((with_reducible refine' s_oL ?e ?_); (case e => first | assumption | exact mu_same))
  | ((with_reducible refine' s_dat ?e ?_); (case e => rfl)) | ((with_reducible refine' s_rng ?e ?_); (case e => exact ⟨by omega, by omega⟩))
  | ((with_reducible refine' s_I ?c ?_); (case c => first | assumption | exact ⟨by omega, by omega⟩ | exact ⟨by decide, by decide, by decide⟩ | exact Or.inl ⟨by omega, by omega⟩ | exact Or.inr ⟨by omega, by omega⟩ | (show (0 : Int) < _; omega) | (show (0 : Int) ≤ _; omega)))
  | (with_reducible refine' s_slT ?_) | (with_reducible refine' s_slL ?_) | (with_reducible refine' s_gC ?_) | ((with_reducible refine' s_gT ?e ?_); (case e => rfl))
  | ((with_reducible refine' s_tup ?e ?_); (case e => first | rfl | exact seqOf_m (by assumption) | exact seqOf_m mu_same))
  | ((with_reducible refine' s_list ?e ?_); (case e => first | rfl | exact seqOf_m (by assumption) | exact seqOf_m mu_same))
  | ((with_reducible refine' s_isi ?e ?e2 ?_); (case e => rfl); (case e2 => rfl))
  | (with_reducible refine' s_max ?_)
  | ((with_reducible refine' And.intro ?r ?_); (case r => with_reducible rfl)))
local macro_rules | `(tactic| walk_at "one") => `(tactic| first | (with_reducible refine' s_if ?_) | walk_at "st")
local macro_rules | `(tactic| walk_at "up") => `(tactic| repeat walk_at "st")
local macro_rules | `(tactic| walk_at "go") => `(tactic| repeat walk_at "one")
local macro_rules | `(tactic| walk_at "all") => `(tactic| repeat' (first | walk_at "one" | (refine s_ite (fun _ => ?_) (fun _ => ?_))))

theorem eqv_eM (a b : List Nat) : (eM a).eqv (eM b) = decide (a = b) := by
  have main : ∀ a b : List Nat, PyData.eqvAll (pyL (a.map fun i : Nat => D.int i)) (pyL (b.map fun i : Nat => D.int i)) = decide (a = b) := by
    intro a
    induction a with
    | nil =>
      intro b
      cases b with
      | nil => rw [List.map_nil]; rw [eqvAll_nil]; rfl
      | cons y s => rw [List.map_nil, List.map_cons, pyL, pyL]; simp [PyData.eqvAll]
    | cons x r ih =>
      intro b
      cases b with
      | nil => rw [List.map_nil, List.map_cons, pyL, pyL]; simp [PyData.eqvAll]
      | cons y s =>
        rw [List.map_cons, List.map_cons, eqvAll_cons, ih, eqv_int]
        by_cases h : x = y
        · subst h; simp
        · have : ¬ ((x : Int) = y) := by omega
          simp [h, this]
  unfold eM
  rw [eqv_tup, main]
theorem alike_eM (a b : List Nat) : alike (eM a).py (eM b).py = true := by
  have main : ∀ a b : List Nat, alikeAll (pyL (a.map fun i : Nat => D.int i)) (pyL (b.map fun i : Nat => D.int i)) = true := by
    intro a
    induction a with
    | nil => intro b; exact alikeAll_nil _
    | cons x r ih =>
      intro b
      cases b with
      | nil => rw [List.map_nil, List.map_cons, pyL, pyL]; simp [alikeAll]
      | cons y s => rw [List.map_cons, List.map_cons, alikeAll_cons, ih]; simp [D.py, alike]
  unfold eM
  rw [alike_tup, main]
def eB (b : Nat × List Nat) : D := .tup [.int b.1, eM b.2]
theorem lt_pair (c d : Nat) (o b : List Nat) : (eB (c, o)).lt (eB (d, b)) = decide (c < d ∨ (c = d ∧ ltL o b = true)) := by
  unfold eB D.lt
  rw [D.py, D.py, PySem.W.dataLt_tuple, pyL, pyL, pyL, pyL, pyL]
  rw [PySem.W.dataLt_cons (by rfl), PySem.W.dataLt_cons (alike_eM o b)]
  have e1 : PyData.eqv (D.int c).py (D.int d).py = decide ((c : Int) = d) := eqv_int _ _
  have e2 : PyData.eqv (eM o).py (eM b).py = decide (o = b) := eqv_eM _ _
  have e3 : dataLt (D.int c).py (D.int d).py = decide ((c : Int) < d) := PySem.W.dataLt_int _ _
  rw [e1, e2, e3, lt_eM]
  by_cases h : c = d
  · subst h
    rw [if_pos (by simp)]
    by_cases h2 : o = b
    · subst h2
      rw [if_pos (by simp), pyL, lex_irrefl, ltL_irr]; simp
    · rw [if_neg (by simpa using h2)]; simp
  · have : ¬ ((c : Int) = d) := by omega
    rw [if_neg (by simpa using this)]
    by_cases h2 : c < d
    · rw [decide_eq_true (by omega : (c : Int) < d), decide_eq_true (Or.inl h2)]
    · rw [decide_eq_false (by omega : ¬ (c : Int) < d), decide_eq_false (by simp [h, h2])]
section
variable {P : Program} {w : World} {K : PySem.W.Frag} {mg : Str → Option Value} {base : Heap}
abbrev s_law_best : Stmt := (topS 30)
theorem sc_law_best : FnScope ["mixture", "good", "best", "other", "changes", "k"] ["mixture", "good"] (defScope s_law_best) := ⟨rfl, rfl, rfl, by decide +kernel, rfl, by decide +kernel, by decide +kernel⟩

def bD : Option (Nat × List Nat) → D
  | none => .non
  | some b => eM b.2
def bB : Option (Nat × List Nat) → D
  | none => .non
  | some b => eB b
def R_best : AFn := fun sds ms k _ => ∃ (m : List Nat) (good : List (List Nat)), sds = [.d (eM m), .d (.lst (good.map eM))] ∧ m.length ≤ 4 ∧ (∀ o ∈ good, o.length = m.length) ∧ k (.d (bD (good.foldl (stepL m) none))) ms
theorem ok_best (T : Blt mg) {f : Addr} {fd : FuncData} (F : Fun K "_law_best" "_law_best" s_law_best f fd) : FnOk P w K mg base CX0 1 f fd ["mixture", "good"] (spA R_best) := by
  refine fnA F sc_law_best (fun sds ms k x h => ?_) (by decide) fun cdv A outer s H E hr => ⟨_, _, (ass_cons (as_set 2 sc_law_best.nd ae_non)
    (ass_cons (as_for PassesOwn.never rfl (ai_seq (ae_v 1)) (ag_name 3 sc_law_best.nd)
      (ass_cons (as_set 4 sc_law_best.nd (ae_callB call_len oa_len (by rfl) T.len (by decide +kernel) (aa_cons (ae_lc (own := [("k", 5)]) rfl sc_law_best.nd (ai_range1 (by rfl) T.range (ae_callB call_len oa_len (by rfl) T.len (by decide +kernel) (aa_cons (ae_v 3) aa_nil))) (blkOk_by (own := [("k", 5)]) (N := ["mixture", "good", "best", "other", "changes", "k"]) (sc := defScope s_law_best) (by decide +kernel)) (by decide) (fun _ _ _ _ _ => (ag_name 5 sc_law_best.nd)) (fun _ _ _ _ _ => (ats_one (at_cmp (opK_ne (K := K) rfl (u64 hr)) oa_ne (ae_ixK (K := K) rfl (u1 hr) (ae_v 3) (ae_v 5)) (ae_ixK (K := K) rfl (u1 hr) (ae_v 0) (ae_v 5)) (nomark _)))) (fun _ _ _ _ _ => (ae_v 5))) aa_nil)))
      (ass_one (as_if (AW.at (aw_or (at_cmp op_isN oa_isN (ae_v 2) ae_non (nomark _)) (aw_or1 (at_cmp (op_ltA (u64 hr)) oa_lt (ae_tup (aa_cons (ae_v 4) (aa_cons (ae_v 3) aa_nil))) (ae_v 2) (nomark _))))) (ass_one (as_set 2 sc_law_best.nd (ae_tup (aa_cons (ae_v 4) (aa_cons (ae_v 3) aa_nil))))) ass_nil))))
    (ass_cons (as_if (at_cmp op_isN oa_isN (ae_v 2) ae_non (nomark _)) (ass_one (as_ret ae_non)) ass_nil)
    (ass_one (as_ret (ae_ix (u1 hr) (ae_v 2) ae_int)))))), fun sds ms k x h => ?_⟩
  · obtain ⟨a, b, rfl, _⟩ := h; rfl
  · obtain ⟨m, good, rfl, hm4, hall, q⟩ := h
    dsimp only [gam]
    walk_at "go"
    refine forR_inv (fun i Γ ms' => ms' = ms ∧ ∃ g3 g4, Γ = [some (.d (eM m)), some (.d (.lst (good.map eM))), some (.d (bB ((good.take i).foldl (stepL m) none))), g3, g4, none]) ⟨rfl, _, _, rfl⟩ (fun i d Γ m1 hd hP N hN => ?_) fun Γ m1 hP => ?_
    · obtain ⟨rfl, g3, g4, rfl⟩ := hP
      rw [List.getElem?_map] at hd
      cases ho : good[i]? with
      | none => rw [ho] at hd; cases hd
      | some o =>
        rw [ho] at hd
        cases hd
        have hol := hall o (List.mem_of_getElem? ho)
        have hlm : (o.map fun i : Nat => D.int i).length = o.length := List.length_map ..
        have hst : (good.take (i + 1)).foldl (stepL m) none = stepL m ((good.take i).foldl (stepL m) none) o := by
          rw [List.take_add_one, ho, List.foldl_append]; rfl
        generalize (good.take i).foldl (stepL m) none = st at hst ⊢
        rw [hst] at hN
        walk_at "go"
        rw [hlm]
        refine lcI_fm (xs := List.range o.length) (enc := fun i : Nat => D.int (0 + (i : Int))) (f := fun i : Nat => D.int (0 + (i : Int))) (p := fun i => !decide (o.getD i 0 = m.getD i 0)) (small_len (by rw [List.length_range]; omega)) (fun i hi acc N2 hz hN2 => ?_) ?_
        · have hi := List.mem_range.mp hi
          have e1 : atI (o.map fun i : Nat => D.int i) (0 + (i : Int)) = some (.int (o.getD i 0 : Nat)) := by rw [Int.zero_add]; exact atI_nat (by rw [List.getElem?_map, getD_ok (x := 0) hi]; rfl)
          have e2 : atI (m.map fun i : Nat => D.int i) (0 + (i : Int)) = some (.int (m.getD i 0 : Nat)) := by rw [Int.zero_add]; exact atI_nat (by rw [List.getElem?_map, getD_ok (x := 0) (by omega)]; rfl)
          walk_at "go"
          refine s_ite (fun e => ?_) (fun e => ?_)
          · rw [if_pos (by simp at e ⊢; omega)] at hN2
            walk_at "go"
            exact ⟨hz, hN2⟩
          · rw [if_neg (by simp at e ⊢; omega), List.append_nil] at hN2
            exact hN2
        have hch : ((List.map (fun i : Nat => D.int (0 + (i : Int))) (List.filter (fun i => !decide (o.getD i 0 = m.getD i 0)) (List.range o.length))).length : Int) = (chg m o : Nat) := by rw [List.length_map]; rfl
        walk_at "up"
        rw [hch]
        cases st with
        | none =>
          walk_at "go"
          refine s_iteT rfl ?_
          walk_at "go"
          exact hN _ _ ⟨rfl, _, _, rfl⟩
        | some b =>
          obtain ⟨c, b⟩ := b
          walk_at "go"
          refine s_iteF rfl ?_
          walk_at "go"
          refine (show oLt m1 (.d (eB (chg m o, o))) (.d (eB (c, b))) _ from ?_)
          refine ⟨fit_tup (n := 63) fun d hd => ?_, fit_tup (n := 63) fun d hd => ?_, ?_, by unfold eB; rw [D.py]; exact fun e => PyData.noConfusion e, ?_⟩
          · simp only [List.mem_cons, List.not_mem_nil, or_false] at hd
            rcases hd with rfl | rfl
            · rfl
            · exact fit_eM _ _
          · simp only [List.mem_cons, List.not_mem_nil, or_false] at hd
            rcases hd with rfl | rfl
            · rfl
            · exact fit_eM _ _
          · unfold eB
            rw [alike_tup, alikeAll_cons, alikeAll_cons, alikeAll_nil, alike_eM]; rfl
          rw [lt_pair]
          walk_at "go"
          refine s_ite (fun e => ?_) (fun e => ?_)
          · have e := of_decide_eq_true e
            have e2 : stepL m (some (c, b)) o = some (chg m o, o) := if_pos e
            rw [e2] at hN
            walk_at "go"
            exact hN _ _ ⟨rfl, _, _, rfl⟩
          · have e := of_decide_eq_false e
            have e2 : stepL m (some (c, b)) o = some (c, b) := if_neg e
            rw [e2] at hN
            exact hN _ _ ⟨rfl, _, _, rfl⟩
    · obtain ⟨rfl, g3, g4, rfl⟩ := hP
      rw [List.length_map, List.take_length]
      cases hb : good.foldl (stepL m) none with
      | none =>
        rw [hb] at q
        walk_at "go"
        refine s_iteT rfl ?_
        walk_at "go"
        exact Out.here q
      | some b =>
        rw [hb] at q
        walk_at "go"
        refine s_iteF rfl ?_
        walk_at "go"
        exact Out.here q

/-! ### plain -/
abbrev s_law_plain : Stmt := (topS 23)
theorem sc_law_plain : FnScope ["thing", "one"] ["thing"] (defScope s_law_plain) := ⟨rfl, rfl, rfl, by decide +kernel, rfl, by decide +kernel, by decide +kernel⟩

def dAt (d : D) : Prop := d = .non ∨ (∃ b, d = .bl b) ∨ (∃ i, d = .int i) ∨ ∃ z, d = .str z
def dDp : Nat → D → Prop
  | 0 => dAt
  | n + 1 => fun d => dAt d ∨ (∃ l, (d = .tup l ∨ d = .lst l) ∧ l.length ≤ 1000 ∧ ∀ e ∈ l, dDp n e)
def R_plain (n : Nat) : AFn := fun sds ms k _ => ∃ d, sds = [.d d] ∧ dDp n d ∧ k (.d (plainD d)) ms
theorem ok_plain0 (T : Blt mg) (n : Nat) (G_law_plain : FnA P w K mg base CX0 n "_law_plain" (fun sds ms k x => ∃ m, n = m + 1 ∧ R_plain m sds ms k x)) {f : Addr} {fd : FuncData} (F : Fun K "_law_plain" "_law_plain" s_law_plain f fd) : FnOk P w K mg base CX0 (n + 1) f fd ["thing"] (spA (R_plain n)) := by
  refine fnA F sc_law_plain (fun sds ms k x h => ?_) (by decide) fun cdv A outer s H E hr => ⟨_, _, (ass_cons (as_if (at_val (ae_isi2 (ae_v 0) (by rfl) T.isinstance (by decide +kernel) (by rfl) T.list (by decide +kernel) (by rfl) T.tuple (by decide +kernel) (T := "") (U := "") (T' := "list") (U' := "tuple"))) (ass_one (as_ret (ae_tup (aa_cons (ae_callB call_isi oa_isi (by rfl) T.isinstance (by decide +kernel) (aa_cons (ae_v 0) (aa_cons (ae_bty (T := "list") (by rfl) T.list (by decide +kernel)) aa_nil))) (aa_cons (ae_lc (own := [("one", 1)]) rfl sc_law_plain.nd (ai_seq (ae_v 0)) (blkOk_by (own := [("one", 1)]) (N := ["thing", "one"]) (sc := defScope s_law_plain) (by decide +kernel)) (by decide) (fun _ _ _ _ _ => (ag_name 1 sc_law_plain.nd)) (fun _ _ _ _ _ => ats_nil) (fun _ _ _ _ _ => (ae_call G_law_plain (hr.mono (by first | decide | omega)) (fun _ => pass0At) (by rfl) (aa_cons (ae_v 1) aa_nil)))) aa_nil))))) ass_nil)
    (ass_one (as_ret (ae_tup (aa_cons (ae_callB call_isi oa_isi (by rfl) T.isinstance (by decide +kernel) (aa_cons (ae_v 0) (aa_cons (ae_bty (T := "bool") (by rfl) T.bool (by decide +kernel)) aa_nil))) (aa_cons (ae_v 0) aa_nil)))))), fun sds ms k x h => ?_⟩
  · obtain ⟨a, rfl, _⟩ := h; rfl
  · obtain ⟨d, rfl, hd, q⟩ := h
    have hd' : dAt d ∨ ∃ m l, n = m + 1 ∧ (d = .tup l ∨ d = .lst l) ∧ l.length ≤ 1000 ∧ ∀ e ∈ l, dDp m e := by
      cases n with
      | zero => exact .inl hd
      | succ m =>
        rcases hd with hd | ⟨l, h1, h2, h3⟩
        · exact .inl hd
        · exact .inr ⟨m, l, rfl, h1, h2, h3⟩
    dsimp only [gam]
    rcases hd' with (rfl | ⟨b, rfl⟩ | ⟨b, rfl⟩ | ⟨b, rfl⟩) | ⟨m, l, rfl, rfl | rfl, hl, hall⟩
    · rw [show plainD D.non = .tup [.bl false, .non] by simp [plainD]] at q
      walk_at "go"
      refine ⟨_, false, false, rfl, by decide, by decide, ?_⟩
      walk_at "go"
      refine s_iteF rfl ?_
      walk_at "go"
      exact Out.here q
    · rw [show plainD (D.bl b) = .tup [.bl true, .bl b] by simp [plainD]] at q
      walk_at "go"
      refine ⟨_, false, false, rfl, by decide, by decide, ?_⟩
      walk_at "go"
      refine s_iteF rfl ?_
      walk_at "go"
      exact Out.here q
    · rw [show plainD (D.int b) = .tup [.bl false, .int b] by simp [plainD]] at q
      walk_at "go"
      refine ⟨_, false, false, rfl, by decide, by decide, ?_⟩
      walk_at "go"
      refine s_iteF rfl ?_
      walk_at "go"
      exact Out.here q
    · rw [show plainD (D.str b) = .tup [.bl false, .str b] by simp [plainD]] at q
      walk_at "go"
      refine ⟨_, false, false, rfl, by decide, by decide, ?_⟩
      walk_at "go"
      refine s_iteF rfl ?_
      walk_at "go"
      exact Out.here q
    · rw [show plainD (D.tup l) = .tup [.bl false, .lst (l.map plainD)] by rw [plainD, plainL_map]] at q
      walk_at "go"
      refine ⟨_, false, true, rfl, by decide, by decide, ?_⟩
      walk_at "go"
      refine s_iteT rfl ?_
      walk_at "go"
      refine lcI_mapD (f := plainD) (small_len hl) (fun e he acc N hz hN => ?_) ?_
      · walk_at "go"
        exact ⟨m, rfl, e, rfl, hall e he, hz, hN⟩
      walk_at "go"
      exact Out.here q
    · rw [show plainD (D.lst l) = .tup [.bl true, .lst (l.map plainD)] by rw [plainD, plainL_map]] at q
      walk_at "go"
      refine ⟨_, true, false, rfl, by decide, by decide, ?_⟩
      walk_at "go"
      refine s_iteT rfl ?_
      walk_at "go"
      refine lcI_mapD (f := plainD) (small_len hl) (fun e he acc N hz hN => ?_) ?_
      · walk_at "go"
        exact ⟨m, rfl, e, rfl, hall e he, hz, hN⟩
      walk_at "go"
      exact Out.here q
end
end R76

/-! ## K76h -/
set_option Elab.async false
set_option linter.all false
set_option maxRecDepth 100000
set_option maxHeartbeats 4000000
namespace R76
open PySem PySem.Spec PyProof.Rows L2 AL
open Evl (Ex)
open PySem.W (keyToks keyToksAll alike alikeAll dataLt dataLe)
local macro_rules | `(tactic| walk_at "st") => `(tactic| first
  | (with_reducible refine' s_seq ?_) | (with_reducible refine' s_set ?_) | (with_reducible refine' s_nx ?_) | (with_reducible refine' s_ret ?_) | (with_reducible refine' s_drop ?_) | (with_reducible refine' s_asg ?_) | (with_reducible refine' s_for ?_) | (with_reducible refine' s_tt ?_) | (with_reducible refine' s_ff ?_) | (with_reducible refine' s_lcS ?_) | (with_reducible refine' s_put ?_) | (with_reducible refine' s_app ?_) | (with_reducible refine' s_ext ?_)
  | (with_reducible refine' s_gN ?_) | ((with_reducible refine' s_v ?e ?_); (case e => rfl)) | (with_reducible refine' s_asB ?_) | (with_reducible refine' s_asI ?_) | (with_reducible refine' s_asD ?_) | (with_reducible refine' s_nil ?_) | (with_reducible refine' s_cons ?_)
  | (with_reducible refine' s_addI ?_) | (with_reducible refine' s_I0 ?_) | (with_reducible refine' s_neg ?_) | (with_reducible refine' s_eqI ?_) | (with_reducible refine' s_eqS ?_) | (with_reducible refine' s_ltI ?_) | (with_reducible refine' s_isN ?_) | (with_reducible refine' s_int ?_) | (with_reducible refine' s_abs ?_)
  | ((with_reducible refine' s_len ?e ?_); (case e => first | rfl | exact seqOf_m (by assumption) | exact seqOf_m mu_same))
  | ((with_reducible refine' s_ix ?e ?e2 ?_); (case e => first | rfl | exact seqOf_m (by assumption) | exact seqOf_m mu_same); (case e2 => first | rfl | assumption | exact atI_nat (j := 0) rfl | exact atI_nat (j := 1) rfl | exact atI_nat (j := 2) rfl | exact atI_nat (j := 3) rfl))
  | ((with_reducible refine' s_putL ?e ?e2 ?_); (case e => first | assumption | exact mu_same); (case e2 => first | rfl | assumption))
  | ((with_reducible refine' s_oL ?e ?_); (case e => first | assumption | exact mu_same))
  | ((with_reducible refine' s_dat ?e ?_); (case e => rfl)) | ((with_reducible refine' s_rng ?e ?_); (case e => exact ⟨by omega, by omega⟩))
  | ((with_reducible refine' s_I ?c ?_); (case c => first | assumption | exact ⟨by omega, by omega⟩ | exact ⟨by decide, by decide, by decide⟩ | exact Or.inl ⟨by omega, by omega⟩ | exact Or.inr ⟨by omega, by omega⟩ | (show (0 : Int) < _; omega) | (show (0 : Int) ≤ _; omega)))
  | (with_reducible refine' s_slT ?_) | (with_reducible refine' s_slL ?_) | (with_reducible refine' s_gC ?_) | ((with_reducible refine' s_gT ?e ?_); (case e => rfl))
  | ((with_reducible refine' s_tup ?e ?_); (case e => first | rfl | exact seqOf_m (by assumption) | exact seqOf_m mu_same))
  | ((with_reducible refine' s_list ?e ?_); (case e => first | rfl | exact seqOf_m (by assumption) | exact seqOf_m mu_same))
  | ((with_reducible refine' s_isi ?e ?e2 ?_); (case e => rfl); (case e2 => rfl))
  | (with_reducible refine' s_max ?_)
  | ((with_reducible refine' And.intro ?r ?_); (case r => with_reducible rfl)))
local macro_rules | `(tactic| walk_at "one") => `(tactic| first | (with_reducible refine' s_if ?_) | walk_at "st")
local macro_rules | `(tactic| walk_at "up") => `(tactic| repeat walk_at "st")
local macro_rules | `(tactic| walk_at "go") => `(tactic| repeat walk_at "one")
local macro_rules | `(tactic| walk_at "all") => `(tactic| repeat' (first | walk_at "one" | (refine s_ite (fun _ => ?_) (fun _ => ?_))))

section
variable {P : Program} {w : World} {K : PySem.W.Frag} {mg : Str → Option Value} {base : Heap}
abbrev s_law_wanting : Stmt := (topS 32)
theorem sc_law_wanting : FnScope ["releases", "want", "line", "release", "wants", "one"] ["releases", "want"] (defScope s_law_wanting) := ⟨rfl, rfl, rfl, by decide +kernel, rfl, by decide +kernel, by decide +kernel⟩

def R_wanting : AFn := fun sds ms k _ => ∃ rels wn, sds = [.d (eLs rels), .d (eW wn)] ∧ RelsOk rels ∧ (∀ l ∈ rels, ∀ r ∈ l, r.2.length ≤ 5) ∧ wok wn ∧ ∀ rels', rels'.length = rels.length → RelsOk rels' → k (.d (eLs rels')) ms
theorem ok_wanting (T : Blt mg) {f : Addr} {fd : FuncData} (F : Fun K "_law_wanting" "_law_wanting" s_law_wanting f fd) : FnOk P w K mg base CX0 1 f fd ["releases", "want"] (spA R_wanting) := by
  refine fnA F sc_law_wanting (fun sds ms k x h => ?_) (by decide) fun cdv A outer s H E hr => ⟨_, _, (ass_cons (as_set 2 sc_law_wanting.nd (ae_lstM aa_nil))
    (ass_cons (as_for PassesOwn.never rfl (ai_seq (ae_ix (u1 hr) (ae_v 0) ae_int)) (ag_name 3 sc_law_wanting.nd)
      (ass_cons (as_setLc 4 (own := [("one", 5)]) rfl sc_law_wanting.nd (ai_seq (ae_ix (u1 hr) (ae_v 3) ae_int)) (blkOk_by (own := [("one", 5)]) (N := ["releases", "want", "line", "release", "wants", "one"]) (sc := defScope s_law_wanting) (by decide +kernel)) (by decide) (fun _ _ _ _ _ => (ag_name 5 sc_law_wanting.nd)) (fun _ _ _ _ _ => (ats_one (at_cmp (opK_ne (K := K) rfl (u64 hr)) oa_ne (ae_v 5) (ae_v 1) (nomark _)))) (fun _ _ _ _ _ => (ae_v 5)) (sw_true rfl rfl rfl (by decide +kernel)))
      (ass_one (as_expr (ae_append (ae_v 2) (ae_tup (aa_cons (ae_ix (u1 hr) (ae_v 3) ae_int) (aa_cons (ae_callTy call_tuple_of oa_tup (by rfl) T.tuple (by decide +kernel) (aa_cons (ae_callB (cr_sortedD (u80 hr)) oa_sorted (by rfl) T.sorted (by decide +kernel) (aa_cons (ae_bin op_addA oa_add (ae_v 4) (ae_lst (aa_cons (ae_v 1) aa_nil))) aa_nil)) aa_nil)) aa_nil))))))))
    (ass_one (as_ret (ae_bin op_addA oa_add (ae_tup (aa_cons (ae_callTy call_tuple_of oa_tup (by rfl) T.tuple (by decide +kernel) (aa_cons (ae_v 2) aa_nil)) aa_nil)) (ae_sl (ae_v 0) (ao_some ae_int) ao_none)))))), fun sds ms k x h => ?_⟩
  · obtain ⟨a, b, rfl, _⟩ := h; rfl
  · obtain ⟨rels, wn, rfl, hr, h5, hw, q⟩ := h
    cases rels with
    | nil => have := hr.n.1; simp at this
    | cons l0 rest =>
    have hl0 := hr.l l0 (List.mem_cons_self ..)
    have hr0 := hr.r l0 (List.mem_cons_self ..)
    have h50 := h5 l0 (List.mem_cons_self ..)
    have a1 : atI ((l0 :: rest).map eLn) 0 = some (eLn l0) := atI_nat (j := 0) rfl
    dsimp only [gam]
    walk_at "go"
    intro p hp
    walk_at "go"
    refine forR_inv (fun i Γ ms' => (∃ g3 g4 g5, Γ = [some (.d (eLs (l0 :: rest))), some (.d (eW wn)), some (.v (.ref p)), g3, g4, g5]) ∧ ∃ line : List Rel, ms' = mu ms p (.l (line.map eR)) ∧ line.length = i ∧ ∀ r ∈ line, RelOk r) ⟨⟨_, _, _, rfl⟩, [], rfl, rfl, by simp⟩ (fun i d Γ m1 hd hP N hN => ?_) fun Γ m1 hP => ?_
    · obtain ⟨⟨g3, g4, g5, rfl⟩, line, rfl, hl, hall⟩ := hP
      rw [List.getElem?_map] at hd
      cases hx : l0[i]? with
      | none => rw [hx] at hd; cases hd
      | some r =>
        rw [hx] at hd
        cases hd
        have hi := (List.getElem?_eq_some_iff.mp hx).1
        have hrm := List.mem_of_getElem? hx
        have hro := hr0 r hrm
        have hr5 := h50 r hrm
        walk_at "go"
        refine lcI_fm (xs := r.2) (enc := eW) (f := eW) (p := fun w => !decide (w = wn)) (small_len (by omega)) (fun w hwm acc N2 hz hN2 => ?_) ?_
        · walk_at "go"
          refine s_eqD (fit_eW (hro.w w hwm) 63) (fit_eW hw 63) ?_
          rw [eqv_eW]
          walk_at "go"
          refine s_ite (fun e => ?_) (fun e => ?_)
          · rw [if_pos (by simpa using e)] at hN2
            walk_at "go"
            exact ⟨hz, hN2⟩
          · rw [if_neg (by simpa using e), List.append_nil] at hN2
            exact hN2
        have hfl : (r.2.filter fun w => !decide (w = wn)).length ≤ 5 := Nat.le_trans (List.length_filter_le _ _) hr5
        have hfw : ∀ w ∈ r.2.filter (fun w => !decide (w = wn)), wok w := fun w h => hro.w w (List.mem_filter.mp h).1
        generalize r.2.filter (fun w => !decide (w = wn)) = ws at hfl hfw ⊢
        walk_at "go"
        refine s_addL ?_ ?_
        · exact small_len (by rw [List.length_map]; show ws.length + 1 ≤ _; omega)
        rw [show ws.map eW ++ [eW wn] = (ws ++ [wn]).map eW by rw [List.map_append]; rfl]
        refine s_sortW rfl (fun o ho => ?_) (by simp; omega) fun ws' hws => ?_
        · rcases List.mem_append.mp ho with h | h
          · exact hfw o h
          · rw [List.mem_singleton.mp h]; exact hw
        walk_at "go"
        refine s_oApp mu_same (small_len (by rw [List.length_map]; omega)) ?_
        rw [mu_mu]
        refine hN _ _ ⟨⟨_, _, _, rfl⟩, line ++ [(r.1, ws')], by rw [List.map_append]; rfl, by simp [hl], fun z hz => ?_⟩
        rcases List.mem_append.mp hz with h | h
        · exact hall z h
        · rw [List.mem_singleton.mp h]
          refine ⟨hro.n1, by rw [hws.length_eq]; simp; omega, hro.o, fun z hz => ?_⟩
          rcases List.mem_append.mp (hws.mem_iff.mp hz) with h | h
          · exact hfw z h
          · rw [List.mem_singleton.mp h]; exact hw
    · obtain ⟨⟨g3, g4, g5, rfl⟩, line, rfl, hl, hall⟩ := hP
      rw [List.length_map] at hl
      walk_at "go"
      refine s_slT ?_
      refine s_addT ?_ ?_
      · have e := cutD_drop ((l0 :: rest).map eLn) 1
        rw [show ((1 : Nat) : Int) = 1 from rfl] at e
        rw [e]
        have := hr.n.2
        exact small_len (by simp at this ⊢; omega)
      walk_at "go"
      refine out_md p ?_
      rw [md_mu hp]
      have e := cutD_drop ((l0 :: rest).map eLn) 1
      rw [show ((1 : Nat) : Int) = 1 from rfl] at e
      rw [e]
      refine q (line :: rest) rfl ⟨hr.n, fun l h => ?_, fun l h => ?_⟩
      · rcases List.mem_cons.mp h with rfl | h
        · rw [hl]; exact hl0
        · exact hr.l l (List.mem_cons_of_mem _ h)
      · rcases List.mem_cons.mp h with rfl | h
        · exact hall
        · exact hr.r l (List.mem_cons_of_mem _ h)
theorem Vm.set {sizes one m : List Nat} {k : Nat} (h1 : Vm sizes one) (h2 : Vm sizes m) : Vm sizes (one.set k (m.getD k 0)) := by
  refine ⟨by rw [List.length_set]; exact h1.1, fun i hi => ?_⟩
  rw [List.getD_eq_getElem?_getD, List.getElem?_set]
  by_cases e : k = i
  · subst e
    rw [if_pos rfl]
    have hk : k < one.length := by rw [h1.1]; exact hi
    rw [if_pos hk]
    exact h2.2 k hi
  · rw [if_neg e, ← List.getD_eq_getElem?_getD]
    exact h1.2 i hi
theorem eM_cut {one : List Nat} {k c : Nat} (hk : k < one.length) : D.tup (((one.map fun i : Nat => D.int i).take k ++ [.int c]) ++ (one.map fun i : Nat => D.int i).drop (k + 1)) = eM (one.set k c) := by
  unfold eM
  rw [List.set_eq_take_append_cons_drop, if_pos hk, List.map_append, List.map_cons, List.map_take, List.map_drop, List.append_assoc]
  rfl
abbrev s_law_mixture : Stmt := (topS 33)
theorem sc_law_mixture : FnScope ["source", "releases", "good", "mixture", "line", "k", "one"] ["source", "releases", "good"] (defScope s_law_mixture) := ⟨rfl, rfl, rfl, by decide +kernel, rfl, by decide +kernel, by decide +kernel⟩

def R_mixture : AFn := fun sds ms k _ => ∃ a rels, ∃ good : List (List Nat), sds = [.v (.ref a), .d (eLs rels), .d (.lst (good.map eM))] ∧ RelsOk rels ∧ (∀ m ∈ good, Vm (sizesOf rels) m) ∧ good.length ≤ 256 ∧ SrcAt ms a ∧ ∀ m ms', Vm (sizesOf rels) m → SB a ms ms' → k (.d (eM m)) ms'
theorem ok_mixture (T : Blt mg) (G_law_draw : FnA P w K mg base CX0 1 "_law_draw" R_draw) {f : Addr} {fd : FuncData} (F : Fun K "_law_mixture" "_law_mixture" s_law_mixture f fd) : FnOk P w K mg base CX0 2 f fd ["source", "releases", "good"] (spA R_mixture) := by
  refine fnA F sc_law_mixture (fun sds ms k x h => ?_) (by decide) fun cdv A outer s H E hr => ⟨_, _, (ass_cons (as_set 3 sc_law_mixture.nd (ae_callTy call_tuple_of oa_tup (by rfl) T.tuple (by decide +kernel) (aa_cons (ae_lc (own := [("line", 4)]) rfl sc_law_mixture.nd (ai_seq (ae_v 1)) (blkOk_by (own := [("line", 4)]) (N := ["source", "releases", "good", "mixture", "line", "k", "one"]) (sc := defScope s_law_mixture) (by decide +kernel)) (by decide) (fun _ _ _ _ _ => (ag_name 4 sc_law_mixture.nd)) (fun _ _ _ _ _ => ats_nil) (fun _ _ _ _ _ => (ae_call G_law_draw (hr.mono (by first | decide | omega)) (fun _ => pass0At) (by rfl) (aa_cons (ae_v 0) (aa_cons (ae_callB (callK_len (K := K) rfl) oa_len (by rfl) T.len (by decide +kernel) (aa_cons (ae_v 4) aa_nil)) aa_nil))))) aa_nil)))
    (ass_cons (as_if (AW.at (aw_and (at_cmp op_gt oa_gt (ae_callB call_len oa_len (by rfl) T.len (by decide +kernel) (aa_cons (ae_v 2) aa_nil)) ae_int (nomark _)) (aw_and1 (at_cmp (op_eqA (u64 hr)) oa_eq (ae_call G_law_draw (hr.mono (by first | decide | omega)) (fun _ => pass0At) (by rfl) (aa_cons (ae_v 0) (aa_cons ae_int aa_nil))) ae_int (nomark _))))) (ass_cons (as_set 5 sc_law_mixture.nd (ae_call G_law_draw (hr.mono (by first | decide | omega)) (fun _ => pass0At) (by rfl) (aa_cons (ae_v 0) (aa_cons (ae_callB call_len oa_len (by rfl) T.len (by decide +kernel) (aa_cons (ae_v 1) aa_nil)) aa_nil))))
      (ass_cons (as_set 6 sc_law_mixture.nd (ae_ix (u1 hr) (ae_v 2) (ae_call G_law_draw (hr.mono (by first | decide | omega)) (fun _ => pass0At) (by rfl) (aa_cons (ae_v 0) (aa_cons (ae_callB call_len oa_len (by rfl) T.len (by decide +kernel) (aa_cons (ae_v 2) aa_nil)) aa_nil)))))
      (ass_one (as_set 3 sc_law_mixture.nd (ae_bin op_addA oa_add (ae_bin op_addA oa_add (ae_sl (ae_v 6) ao_none (ao_some (ae_v 5))) (ae_tup (aa_cons (ae_ix (u1 hr) (ae_v 3) (ae_v 5)) aa_nil))) (ae_sl (ae_v 6) (ao_some (ae_bin op_addA oa_add (ae_v 5) ae_int)) ao_none)))))) ass_nil)
    (ass_one (as_ret (ae_v 3))))), fun sds ms k x h => ?_⟩
  · obtain ⟨a, b, c, rfl, _⟩ := h; rfl
  · obtain ⟨a, rels, good, rfl, hr, hg, hgl, hS, q⟩ := h
    have hsl : (sizesOf rels).length = rels.length := List.length_map ..
    have hr4 := hr.n.2
    dsimp only [gam]
    walk_at "go"
    refine lcI_inv (fun i acc ms' => SB a ms ms' ∧ ∃ m : List Nat, acc = (m.map fun i : Nat => D.int i) ∧ m.length = i ∧ ∀ j, j < i → m.getD j 0 < (sizesOf rels).getD j 0) ⟨SB.refl hS, [], rfl, rfl, by simp⟩ (fun i d acc m1 hd hP N hN => ?_) fun acc m1 hP => ?_
    · obtain ⟨hB1, m, rfl, hl, hall⟩ := hP
      rw [List.getElem?_map] at hd
      cases hx : rels[i]? with
      | none => rw [hx] at hd; cases hd
      | some l =>
        rw [hx] at hd
        cases hd
        have hi := (List.getElem?_eq_some_iff.mp hx).1
        have hl4 := hr.l l (List.mem_of_getElem? hx)
        have hlm : (l.map eR).length = l.length := List.length_map ..
        walk_at "go"
        refine dr hB1.1 (by omega) (by omega) fun v m2 h0 h4 hB2 => ?_
        rw [hlm] at h4
        obtain ⟨v, rfl⟩ := Int.eq_ofNat_of_zero_le h0
        walk_at "go"
        refine ⟨small_len (by rw [List.length_map]; omega), hN _ _ ⟨hB1.trans hB2, m ++ [v], by rw [List.map_append]; rfl, by simp [hl], fun j hj => ?_⟩⟩
        rw [List.getD_eq_getElem?_getD]
        by_cases q : j < i
        · rw [List.getElem?_append_left (by omega), ← List.getD_eq_getElem?_getD]; exact hall j q
        · have e : j = i := by omega
          subst e
          have e2 : (sizesOf rels).getD j 0 = l.length := by
            rw [List.getD_eq_getElem?_getD]; unfold sizesOf; rw [List.getElem?_map, hx]; rfl
          rw [e2, List.getElem?_append_right (by omega), hl, Nat.sub_self]
          show v < l.length
          omega
    obtain ⟨hB1, m, rfl, hl, hall⟩ := hP
    rw [List.length_map] at hl hall
    have hm : Vm (sizesOf rels) m := ⟨by rw [hl, hsl], fun i hi => hall i (by rw [← hsl]; exact hi)⟩
    have hgm : (good.map eM).length = good.length := List.length_map ..
    walk_at "up"
    (with_reducible refine' s_ifN (fun b ms1 => SB a ms ms1 ∧ (b = true → 0 < good.length)) ?_ ?_ ?_)
    · intro K hK
      walk_at "go"
      refine s_ite (fun e => ?_) (fun e => ?_)
      · have := of_decide_eq_true e
        walk_at "go"
        refine dr hB1.1 (by decide) (by decide) fun v m2 h0 h4 hB2 => ?_
        walk_at "go"
        exact hK _ _ ⟨hB1.trans hB2, fun _ => by omega⟩
      · walk_at "go"
        exact hK _ _ ⟨hB1, fun h => by cases h⟩
    · intro m2 hP
      obtain ⟨hB2, hg0⟩ := hP
      have hg0 := hg0 rfl
      have hrm : (rels.map eLn).length = rels.length := List.length_map ..
      have hrn := hr.n.1
      walk_at "go"
      refine dr hB2.1 (by omega) (by omega) fun v m3 h0 h4 hB3 => ?_
      rw [hrm] at h4
      obtain ⟨kk, rfl⟩ := Int.eq_ofNat_of_zero_le h0
      walk_at "go"
      refine dr hB3.1 (by omega) (by omega) fun v m4 h0 h5 hB4 => ?_
      obtain ⟨one, hone, _, ha⟩ := atI_map (f := eM) (l := good) h0 (by omega)
      have hkm : kk < m.length := by omega
      have hko : kk < one.length := by rw [(hg one hone).1]; omega
      have ha2 : atI (m.map fun i : Nat => D.int i) (kk : Int) = some (.int (m.getD kk 0 : Nat)) := atI_nat (by rw [List.getElem?_map, getD_ok (x := 0) hkm]; rfl)
      walk_at "go"
      refine s_slT ?_
      rw [cutD_take]
      walk_at "go"
      have hol : one.length ≤ 4 := by rw [(hg one hone).1, hsl]; exact hr4
      refine s_addT ?_ ?_
      · exact small_len (by rw [List.length_take, List.length_map]; show min kk one.length + 1 ≤ _; omega)
      walk_at "go"
      refine s_slT ?_
      rw [show ((kk : Int) + 1) = ((kk + 1 : Nat) : Int) from rfl, cutD_drop]
      refine s_addT ?_ ?_
      · exact small_len (by rw [List.length_append, List.length_take, List.length_drop, List.length_map]; show min kk one.length + 1 + _ ≤ _; omega)
      rw [eM_cut hko]
      walk_at "go"
      exact Out.here (q _ _ ((hg one hone).set hm) ((hB2.trans hB3).trans hB4))
    · intro m2 hP
      walk_at "go"
      exact Out.here (q m m2 hm hP.1)
end
end R76

/-! ## K76i -/
set_option Elab.async false
set_option linter.all false
set_option maxRecDepth 100000
set_option maxHeartbeats 4000000
namespace R76
open PySem PySem.Spec PyProof.Rows L2 AL
open Evl (Ex)
local macro_rules | `(tactic| walk_at "st") => `(tactic| first
  | (with_reducible refine' s_seq ?_) | (with_reducible refine' s_set ?_) | (with_reducible refine' s_nx ?_) | (with_reducible refine' s_ret ?_) | (with_reducible refine' s_drop ?_) | (with_reducible refine' s_asg ?_) | (with_reducible refine' s_for ?_) | (with_reducible refine' s_tt ?_) | (with_reducible refine' s_ff ?_) | (with_reducible refine' s_lcS ?_) | (with_reducible refine' s_put ?_) | (with_reducible refine' s_app ?_) | (with_reducible refine' s_ext ?_)
  | (with_reducible refine' s_gN ?_) | ((with_reducible refine' s_v ?e ?_); (case e => rfl)) | (with_reducible refine' s_asB ?_) | (with_reducible refine' s_asI ?_) | (with_reducible refine' s_asD ?_) | (with_reducible refine' s_nil ?_) | (with_reducible refine' s_cons ?_)
  | (with_reducible refine' s_addI ?_) | (with_reducible refine' s_I0 ?_) | (with_reducible refine' s_neg ?_) | (with_reducible refine' s_eqI ?_) | (with_reducible refine' s_eqS ?_) | (with_reducible refine' s_ltI ?_) | (with_reducible refine' s_isN ?_) | (with_reducible refine' s_int ?_) | (with_reducible refine' s_abs ?_)
  | ((with_reducible refine' s_len ?e ?_); (case e => first | rfl | exact seqOf_m (by assumption) | exact seqOf_m mu_same))
  | ((with_reducible refine' s_ix ?e ?e2 ?_); (case e => first | rfl | exact seqOf_m (by assumption) | exact seqOf_m mu_same); (case e2 => first | rfl | assumption | exact atI_nat (j := 0) rfl | exact atI_nat (j := 1) rfl | exact atI_nat (j := 2) rfl | exact atI_nat (j := 3) rfl))
  | ((with_reducible refine' s_putL ?e ?e2 ?_); (case e => first | assumption | exact mu_same); (case e2 => first | rfl | assumption))
  | ((with_reducible refine' s_oL ?e ?_); (case e => first | assumption | exact mu_same))
  | ((with_reducible refine' s_dat ?e ?_); (case e => rfl)) | ((with_reducible refine' s_rng ?e ?_); (case e => exact ⟨by omega, by omega⟩))
  | ((with_reducible refine' s_I ?c ?_); (case c => first | assumption | exact ⟨by omega, by omega⟩ | exact ⟨by decide, by decide, by decide⟩ | exact Or.inl ⟨by omega, by omega⟩ | exact Or.inr ⟨by omega, by omega⟩ | (show (0 : Int) < _; omega) | (show (0 : Int) ≤ _; omega)))
  | (with_reducible refine' s_slT ?_) | (with_reducible refine' s_slL ?_) | (with_reducible refine' s_gC ?_) | ((with_reducible refine' s_gT ?e ?_); (case e => rfl))
  | ((with_reducible refine' s_tup ?e ?_); (case e => first | rfl | exact seqOf_m (by assumption) | exact seqOf_m mu_same))
  | ((with_reducible refine' s_list ?e ?_); (case e => first | rfl | exact seqOf_m (by assumption) | exact seqOf_m mu_same))
  | ((with_reducible refine' s_isi ?e ?e2 ?_); (case e => rfl); (case e2 => rfl))
  | (with_reducible refine' s_max ?_)
  | ((with_reducible refine' And.intro ?r ?_); (case r => with_reducible rfl)))
local macro_rules | `(tactic| walk_at "one") => `(tactic| first | (with_reducible refine' s_if ?_) | walk_at "st")
local macro_rules | `(tactic| walk_at "up") => `(tactic| repeat walk_at "st")
local macro_rules | `(tactic| walk_at "go") => `(tactic| repeat walk_at "one")
local macro_rules | `(tactic| walk_at "all") => `(tactic| repeat' (first | walk_at "one" | (refine s_ite (fun _ => ?_) (fun _ => ?_))))

/-- what the top holds -/
structure TopC (K : PySem.W.Frag) (mg : Str → Option Value) extends Blt mg where
  C : Addr
  t1 : Tok
  t2 : Tok
  t3 : Tok
  c_SIGNS : mg "SIGNS" = some (.str SGN t1)
  c_MOST_DEVICES : mg "MOST_DEVICES" = some (.int 4 t2)
  c_MOST_RELEASES : mg "MOST_RELEASES" = some (.int 4 t3)
  cls_Course : Cls K C
  na_names : NoAttr K C "names"
  na_releases : NoAttr K C "releases"
theorem e26 : (cutS SGN (some 1) (some 27)).cps.toList = SG26 := by decide +kernel
theorem e1x : (cutS SGN (some 1) none).cps.toList = SG1 := by decide +kernel
theorem bls_true : ∀ l : List Nat, blsOf (l.map fun _ => D.bl true) = some (l.map fun _ => true)
  | [] => rfl
  | a :: r => by rw [List.map_cons, blsOf, bls_true r]; rfl
section
variable {P : Program} {w : World} {K : PySem.W.Frag} {mg : Str → Option Value} {base : Heap}
abbrev s_is_number : Stmt := (topS 10)
theorem sc_is_number : FnScope ["thing"] ["thing"] (defScope s_is_number) := ⟨rfl, rfl, rfl, by decide +kernel, rfl, by decide +kernel, by decide +kernel⟩

def R_isnum : AFn := fun sds ms k _ => ∃ i, sds = [.d (.int i)] ∧ k (.d (.bl true)) ms
theorem ok_isnum (T : Blt mg) {f : Addr} {fd : FuncData} (F : Fun K "is_number" "is_number" s_is_number f fd) : FnOk P w K mg base CX0 1 f fd ["thing"] (spA R_isnum) := by
  refine fnA F sc_is_number (fun sds ms k x h => ?_) (by decide) fun cdv A outer s H E hr => ⟨_, _, (ass_one (as_ret (ae_and (ae_callB call_isi oa_isi (by rfl) T.isinstance (by decide +kernel) (aa_cons (ae_v 0) (aa_cons (ae_bty (T := "int") (by rfl) T.int (by decide +kernel)) aa_nil))) (ae_one (ae_not (ae_callB call_isi oa_isi (by rfl) T.isinstance (by decide +kernel) (aa_cons (ae_v 0) (aa_cons (ae_bty (T := "bool") (by rfl) T.bool (by decide +kernel)) aa_nil)))))))), fun sds ms k x h => ?_⟩
  · obtain ⟨a, rfl, _⟩ := h; rfl
  · obtain ⟨i, rfl, q⟩ := h
    dsimp only [gam]
    walk_at "go"
    exact Out.here q
abbrev s_is_name : Stmt := (topS 11)
theorem sc_is_name : FnScope ["thing", "sign"] ["thing"] (defScope s_is_name) := ⟨rfl, rfl, rfl, by decide +kernel, rfl, by decide +kernel, by decide +kernel⟩

def R_isname : AFn := fun sds ms k _ => ∃ z, sds = [.d (.str z)] ∧ NameOk z ∧ k (.d (.bl true)) ms
theorem ok_isname (T : TopC K mg) {f : Addr} {fd : FuncData} (F : Fun K "is_name" "is_name" s_is_name f fd) : FnOk P w K mg base CX0 1 f fd ["thing"] (spA R_isname) := by
  refine fnA F sc_is_name (fun sds ms k x h => ?_) (by decide) fun cdv A outer s H E hr => ⟨_, _, (ass_cons (as_if (AW.at (aw_or (at_not (at_val (ae_callB call_isi oa_isi (by rfl) T.isinstance (by decide +kernel) (aa_cons (ae_v 0) (aa_cons (ae_bty (T := "str") (by rfl) T.str (by decide +kernel)) aa_nil))))) (aw_or1 (at_not (at_chain op_le oa_le op_le oa_le ae_int (ae_callB call_len oa_len (by rfl) T.len (by decide +kernel) (aa_cons (ae_v 0) aa_nil)) ae_int (fun p1 p2 p3 => pt_chain op_le op_le p1 p2 p3)))))) (ass_one (as_ret ae_bl)) ass_nil)
    (ass_one (as_ret (ae_and (ae_cmp (op_inA (u65 hr)) oa_in (ae_ix (u1 hr) (ae_v 0) ae_int) (ae_sl (ae_gstr (by rfl) T.c_SIGNS) (ao_some ae_int) (ao_some ae_int)) (by rfl)) (ae_one (ae_callB (cr_all rfl) oa_all (by rfl) T.all (by decide +kernel) (aa_cons (ae_lc (own := [("sign", 1)]) rfl sc_is_name.nd (ai_seq (ae_v 0)) (blkOk_by (own := [("sign", 1)]) (N := ["thing", "sign"]) (sc := defScope s_is_name) (by decide +kernel)) (by decide) (fun _ _ _ _ _ => (ag_name 1 sc_is_name.nd)) (fun _ _ _ _ _ => ats_nil) (fun _ _ _ _ _ => (ae_cmp (opK_in (K := K) rfl (u65 hr)) oa_in (ae_v 1) (ae_slK (K := K) rfl (ae_gstr (by rfl) T.c_SIGNS) (ao_some ae_int) ao_none) (by rfl)))) aa_nil))))))), fun sds ms k x h => ?_⟩
  · obtain ⟨a, rfl, _⟩ := h; rfl
  · obtain ⟨z, rfl, hz, q⟩ := h
    dsimp only [gam]
    walk_at "go"
    refine s_iteF rfl ?_
    have hzl : z.length ≤ sizeLine := small_len (by have := hz.n.2; omega)
    walk_at "go"
    refine s_lenS hzl ?_
    have h1 := hz.n.1
    have h9 := hz.n.2
    walk_at "go"
    refine s_iteT (decide_eq_true (by omega)) ?_
    walk_at "go"
    refine s_iteF (by simp; omega) ?_
    obtain ⟨c, r, hc, hc26⟩ := hz.h
    have hcat : atI z.cps.toList 0 = some c := atI_nat (j := 0) (by rw [hc]; rfl)
    walk_at "go"
    refine s_ixS hzl hcat ?_
    walk_at "go"
    refine s_slS (small_len (by decide)) ?_
    refine s_inC ?_
    rw [e26, decide_eq_true hc26]
    walk_at "go"
    refine s_iteT rfl ?_
    walk_at "go"
    refine lcI_map (xs := z.cps.toList) (enc := fun c => D.str ⟨#[c]⟩) (f := fun _ => D.bl true) (by rw [← str_len]; exact hzl) (fun c hc acc N hz1 hN => ?_) ?_
    · walk_at "go"
      refine s_slS (small_len (by decide)) ?_
      refine s_inC ?_
      rw [e1x, decide_eq_true (hz.a c hc)]
      exact ⟨hz1, hN⟩
    refine ⟨_, bls_true _, ?_⟩
    walk_at "go"
    refine Out.here ?_
    have e : (z.cps.toList.map fun _ => true).all id = true := by simp
    rw [e]
    exact q
abbrev s_check_names : Stmt := (topS 15)
theorem sc_check_names : FnScope ["names", "name", "number"] ["names"] (defScope s_check_names) := ⟨rfl, rfl, rfl, by decide +kernel, rfl, by decide +kernel, by decide +kernel⟩

def R_chkn : AFn := fun sds ms k _ => ∃ names : List Str, sds = [.d (eN names)] ∧ names.length ≤ 4 ∧ NamesOk names ∧ k (.d .non) ms
theorem any_str (l : List Str) (z : Str) : ((l.map D.str).any fun e => e.eqv (.str z)) = decide (z ∈ l) := by
  induction l with
  | nil => simp
  | cons a r ih =>
    rw [List.map_cons, List.any_cons, ih, eqv_str]
    by_cases h : a = z
    · subst h; simp
    · have h2 : ¬ z = a := fun e => h e.symm
      simp [h, h2]
theorem ok_chkn (T : TopC K mg) (Gis_name : FnA P w K mg base CX0 1 "is_name" R_isname) {f : Addr} {fd : FuncData} (F : Fun K "check_names" "check_names" s_check_names f fd) : FnOk P w K mg base CX0 2 f fd ["names"] (spA R_chkn) := by
  have G_is_name := Gis_name
  refine fnA F sc_check_names (fun sds ms k x h => ?_) (by decide) fun cdv A outer s H E hr => ⟨_, _, (ass_cons (as_if (at_cmp op_gt oa_gt (ae_callB call_len oa_len (by rfl) T.len (by decide +kernel) (aa_cons (ae_v 0) aa_nil)) (ae_gint (by rfl) T.c_MOST_DEVICES) (nomark _)) (ass_one as_never) ass_nil)
    (ass_cons (as_for PassesOwn.never rfl (ai_seq (ae_v 0)) (ag_name 1 sc_check_names.nd)
      (ass_one (as_if (at_not (at_val (ae_call G_is_name (hr.mono (by first | decide | omega)) (fun _ => pass0At) (by rfl) (aa_cons (ae_v 1) aa_nil)))) (ass_one as_never) ass_nil)))
    (ass_one (as_for PassesOwn.never rfl (ai_range1 (by rfl) T.range (ae_callB call_len oa_len (by rfl) T.len (by decide +kernel) (aa_cons (ae_v 0) aa_nil))) (ag_name 2 sc_check_names.nd)
      (ass_one (as_if (at_cmp (op_inA (u65 hr)) oa_in (ae_ix (u1 hr) (ae_v 0) (ae_v 2)) (ae_sl (ae_v 0) ao_none (ao_some (ae_v 2))) (by rfl)) (ass_one as_never) ass_nil)))))), fun sds ms k x h => ?_⟩
  · obtain ⟨a, rfl, _⟩ := h; rfl
  · obtain ⟨names, rfl, hn4, hn, q⟩ := h
    have hlm : (names.map D.str).length = names.length := List.length_map ..
    dsimp only [gam]
    walk_at "go"
    refine s_iteF (decide_eq_false (by omega)) ?_
    walk_at "go"
    refine forR_inv (fun i Γ ms' => ms' = ms ∧ ∃ g1, Γ = [some (.d (eN names)), g1, none]) ⟨rfl, _, rfl⟩ (fun i d Γ m1 hd hP N hN => ?_) fun Γ m1 hP => ?_
    · obtain ⟨rfl, g1, rfl⟩ := hP
      rw [List.getElem?_map] at hd
      cases hz : names[i]? with
      | none => rw [hz] at hd; cases hd
      | some z =>
        rw [hz] at hd
        cases hd
        walk_at "go"
        refine ⟨z, rfl, hn.a z (List.mem_of_getElem? hz), ?_⟩
        walk_at "go"
        refine s_iteF rfl ?_
        exact hN _ _ ⟨rfl, _, rfl⟩
    · obtain ⟨rfl, g1, rfl⟩ := hP
      walk_at "go"
      rw [hlm]
      refine forR_inv (fun i Γ ms' => ms' = m1 ∧ ∃ g2, Γ = [some (.d (eN names)), g1, g2]) ⟨rfl, _, rfl⟩ (fun i d Γ m2 hd hP N hN => ?_) fun Γ m2 hP => ?_
      · obtain ⟨rfl, g2, rfl⟩ := hP
        obtain ⟨hi, rfl⟩ := rng_get hd
        rw [Int.toNat_natCast] at hi
        obtain ⟨z, hz1, hz2, hz3⟩ := atI_map (f := D.str) (l := names) (i := i) (by omega) (by omega)
        have hz2 : names[i]? = some z := hz2
        walk_at "go"
        refine s_slT ?_
        rw [cutD_take, ← List.map_take]
        refine s_inS rfl (fit_str (hn.a z hz1).sok _) (fitL_of fun d hd => ?_) ?_
        · obtain ⟨y, hy, rfl⟩ := List.mem_map.mp hd
          exact fit_str (hn.a y (List.mem_of_mem_take hy)).sok _
        rw [any_str]
        have hni : ¬ z ∈ names.take i := fun h => by
          obtain ⟨j, hj⟩ := List.getElem?_of_mem h
          have hji : j < i := by
            have := (List.getElem?_eq_some_iff.mp hj).1
            rw [List.length_take] at this; omega
          rw [List.getElem?_take_of_lt hji] at hj
          have l1 := (List.getElem?_eq_some_iff.mp hj).1
          have l2 := (List.getElem?_eq_some_iff.mp hz2).1
          have := List.pairwise_iff_getElem.mp hn.d j i l1 l2 hji
          rw [List.getElem?_eq_getElem l1] at hj
          rw [List.getElem?_eq_getElem l2] at hz2
          exact this (Option.some.inj (hj.trans hz2.symm))
        rw [decide_eq_false hni]
        walk_at "go"
        refine s_iteF rfl ?_
        exact hN _ _ ⟨rfl, _, rfl⟩
      · obtain ⟨rfl, g2, rfl⟩ := hP
        exact Out.here q
abbrev s_check_releases : Stmt := (topS 16)
theorem sc_check_releases : FnScope ["names", "releases", "number"] ["names", "releases"] (defScope s_check_releases) := ⟨rfl, rfl, rfl, by decide +kernel, rfl, by decide +kernel, by decide +kernel⟩

def R_chkr : AFn := fun sds ms k _ => ∃ (names : List Str) (rels : List (List Rel)), sds = [.d (eN names), .d (eLs rels)] ∧ rels.length = names.length ∧ RelsOk rels ∧ k (.d .non) ms
theorem ok_chkr (T : TopC K mg) {f : Addr} {fd : FuncData} (F : Fun K "check_releases" "check_releases" s_check_releases f fd) : FnOk P w K mg base CX0 1 f fd ["names", "releases"] (spA R_chkr) := by
  refine fnA F sc_check_releases (fun sds ms k x h => ?_) (by decide) fun cdv A outer s H E hr => ⟨_, _, (ass_one (as_for PassesOwn.never rfl (ai_range1 (by rfl) T.range (ae_callB (call_max2 rfl) oa_max2 (by rfl) T.max (by decide +kernel) (aa_cons (ae_callB call_len oa_len (by rfl) T.len (by decide +kernel) (aa_cons (ae_v 0) aa_nil)) (aa_cons (ae_callB call_len oa_len (by rfl) T.len (by decide +kernel) (aa_cons (ae_v 1) aa_nil)) aa_nil)))) (ag_name 2 sc_check_releases.nd)
      (ass_one (as_if (AW.at (aw_or (at_cmp op_ge oa_ge (ae_v 2) (ae_callB call_len oa_len (by rfl) T.len (by decide +kernel) (aa_cons (ae_v 0) aa_nil)) (nomark _)) (aw_or (at_cmp op_ge oa_ge (ae_v 2) (ae_callB call_len oa_len (by rfl) T.len (by decide +kernel) (aa_cons (ae_v 1) aa_nil)) (nomark _)) (aw_or1 (at_not (at_chain op_le oa_le op_le oa_le ae_int (ae_callB call_len oa_len (by rfl) T.len (by decide +kernel) (aa_cons (ae_ix (u1 hr) (ae_v 1) (ae_v 2)) aa_nil)) (ae_gint (by rfl) T.c_MOST_RELEASES) (fun p1 p2 p3 => pt_chain op_le op_le p1 p2 p3))))))) (ass_one as_never) ass_nil)))), fun sds ms k x h => ?_⟩
  · obtain ⟨a, b, rfl, _⟩ := h; rfl
  · obtain ⟨names, rels, rfl, hl, hr, q⟩ := h
    have hlm : (names.map D.str).length = names.length := List.length_map ..
    have hlr : (rels.map eLn).length = rels.length := List.length_map ..
    have hr4 := hr.n.2
    dsimp only [gam]
    walk_at "go"
    rw [hlm, hlr, hl, Int.max_self]
    walk_at "go"
    refine forR_inv (fun i Γ ms' => ms' = ms ∧ ∃ g2, Γ = [some (.d (eN names)), some (.d (eLs rels)), g2]) ⟨rfl, _, rfl⟩ (fun i d Γ m1 hd hP N hN => ?_) fun Γ m1 hP => ?_
    · obtain ⟨rfl, g2, rfl⟩ := hP
      obtain ⟨hi, rfl⟩ := rng_get hd
      rw [Int.toNat_natCast] at hi
      obtain ⟨l, hl1, hl2, hl3⟩ := atI_map (f := eLn) (l := rels) (i := i) (by omega) (by omega)
      have h4 := hr.l l hl1
      have hle : (l.map eR).length = l.length := List.length_map ..
      walk_at "go"
      refine s_iteF (decide_eq_false (by omega)) ?_
      walk_at "go"
      refine s_iteF (decide_eq_false (by omega)) ?_
      walk_at "go"
      refine s_iteT (decide_eq_true (by omega)) ?_
      walk_at "go"
      refine s_iteF (by simp; omega) ?_
      exact hN _ _ ⟨rfl, _, rfl⟩
    · obtain ⟨rfl, g2, rfl⟩ := hP
      exact Out.here q
end
end R76

/-! ## K76j -/
set_option Elab.async false
set_option linter.all false
set_option maxRecDepth 100000
set_option maxHeartbeats 4000000
namespace R76
open PySem PySem.Spec PyProof.Rows L2 AL
open Evl (Ex)
local macro_rules | `(tactic| walk_at "st") => `(tactic| first
  | (with_reducible refine' s_seq ?_) | (with_reducible refine' s_set ?_) | (with_reducible refine' s_nx ?_) | (with_reducible refine' s_ret ?_) | (with_reducible refine' s_drop ?_) | (with_reducible refine' s_asg ?_) | (with_reducible refine' s_for ?_) | (with_reducible refine' s_tt ?_) | (with_reducible refine' s_ff ?_) | (with_reducible refine' s_lcS ?_) | (with_reducible refine' s_put ?_) | (with_reducible refine' s_app ?_) | (with_reducible refine' s_ext ?_)
  | (with_reducible refine' s_gN ?_) | ((with_reducible refine' s_v ?e ?_); (case e => rfl)) | (with_reducible refine' s_asB ?_) | (with_reducible refine' s_asI ?_) | (with_reducible refine' s_asD ?_) | (with_reducible refine' s_nil ?_) | (with_reducible refine' s_cons ?_)
  | (with_reducible refine' s_addI ?_) | (with_reducible refine' s_I0 ?_) | (with_reducible refine' s_neg ?_) | (with_reducible refine' s_eqI ?_) | (with_reducible refine' s_eqS ?_) | (with_reducible refine' s_ltI ?_) | (with_reducible refine' s_isN ?_) | (with_reducible refine' s_int ?_) | (with_reducible refine' s_abs ?_)
  | ((with_reducible refine' s_len ?e ?_); (case e => first | rfl | exact seqOf_m (by assumption) | exact seqOf_m mu_same))
  | ((with_reducible refine' s_ix ?e ?e2 ?_); (case e => first | rfl | exact seqOf_m (by assumption) | exact seqOf_m mu_same); (case e2 => first | rfl | assumption | exact atI_nat (j := 0) rfl | exact atI_nat (j := 1) rfl | exact atI_nat (j := 2) rfl | exact atI_nat (j := 3) rfl))
  | ((with_reducible refine' s_putL ?e ?e2 ?_); (case e => first | assumption | exact mu_same); (case e2 => first | rfl | assumption))
  | ((with_reducible refine' s_oL ?e ?_); (case e => first | assumption | exact mu_same))
  | ((with_reducible refine' s_dat ?e ?_); (case e => rfl)) | ((with_reducible refine' s_rng ?e ?_); (case e => exact ⟨by omega, by omega⟩))
  | ((with_reducible refine' s_I ?c ?_); (case c => first | assumption | exact ⟨by omega, by omega⟩ | exact ⟨by decide, by decide, by decide⟩ | exact Or.inl ⟨by omega, by omega⟩ | exact Or.inr ⟨by omega, by omega⟩ | (show (0 : Int) < _; omega) | (show (0 : Int) ≤ _; omega)))
  | (with_reducible refine' s_slT ?_) | (with_reducible refine' s_slL ?_) | (with_reducible refine' s_gC ?_) | ((with_reducible refine' s_gT ?e ?_); (case e => rfl))
  | ((with_reducible refine' s_tup ?e ?_); (case e => first | rfl | exact seqOf_m (by assumption) | exact seqOf_m mu_same))
  | ((with_reducible refine' s_list ?e ?_); (case e => first | rfl | exact seqOf_m (by assumption) | exact seqOf_m mu_same))
  | ((with_reducible refine' s_isi ?e ?e2 ?_); (case e => rfl); (case e2 => rfl))
  | (with_reducible refine' s_max ?_)
  | ((with_reducible refine' And.intro ?r ?_); (case r => with_reducible rfl)))
local macro_rules | `(tactic| walk_at "one") => `(tactic| first | (with_reducible refine' s_if ?_) | walk_at "st")
local macro_rules | `(tactic| walk_at "up") => `(tactic| repeat walk_at "st")
local macro_rules | `(tactic| walk_at "go") => `(tactic| repeat walk_at "one")
local macro_rules | `(tactic| walk_at "all") => `(tactic| repeat' (first | walk_at "one" | (refine s_ite (fun _ => ?_) (fun _ => ?_))))

theorem s_setF {A : AEnd} {Γ : Gam} {ms : MS} {C : Addr} {f : Str} {ro re : AER} (h : re Γ ms (fun v ms1 => ro Γ ms1 (fun u ms2 => asD (fun dv => ∃ p fs, u = .v (.ref p) ∧ ms2 p = some (.i C fs) ∧ fs.length < 1000 ∧ A.nx Γ (mu ms2 p (.i C (putD f dv fs)))) v) (A.x Γ)) (A.x Γ)) : rSetF C f ro re A Γ ms := h
section
variable {P : Program} {w : World} {K : PySem.W.Frag} {mg : Str → Option Value} {base : Heap}
abbrev s_Course_init : Stmt := (inClass (topS 17) 0)
theorem sc_Course_init : FnScope ["self", "names", "releases", "offers", "wants", "line"] ["self", "names", "releases"] (defScope s_Course_init) := ⟨rfl, rfl, rfl, by decide +kernel, rfl, by decide +kernel, by decide +kernel⟩

def scCrs : Scope := match (defBody s_Course_init).getD 3 (.Pass ⟨0, 0, 0, 0⟩) with
  | .Assign _ (.Call _ [.ListComp _ _ sc _] _ _) _ => sc
  | _ => { kind := .function, names := [], isGenerator := false, isCoroutine := false }
def crs (C : Addr) (names : List Str) (rels : List (List Rel)) : D := .ins C [("names", eN names), ("releases", eLs rels)]
def R_init (C : Addr) : AFn := fun sds ms k _ => ∃ p names rels, sds = [.v (.ref p), .d (eN names), .d (eLs rels)] ∧ ms p = some (.i C []) ∧ names.length ≤ 4 ∧ rels.length = names.length ∧ NamesOk names ∧ RelsOk rels ∧ k (.d .non) (mu ms p (.i C [("names", eN names), ("releases", eLs rels)]))
theorem ok_init (T : TopC K mg) (G_check_names : FnA P w K mg base CX0 2 "check_names" R_chkn) (G_check_releases : FnA P w K mg base CX0 1 "check_releases" R_chkr) {f : Addr} {fd : FuncData} (F : Fun K "__init__" "Course.__init__" s_Course_init f fd) : FnOk P w K mg base CX0 3 f fd ["self", "names", "releases"] (spA (R_init T.C)) := by
  refine fnA F sc_Course_init (fun sds ms k x h => ?_) (by decide) fun cdv A outer s H E hr => ⟨_, _, (ass_cons (as_expr (ae_call G_check_names (hr.mono (by first | decide | omega)) (fun _ => pass0At) (by rfl) (aa_cons (ae_v 1) aa_nil)))
    (ass_cons (as_expr (ae_call G_check_releases (hr.mono (by first | decide | omega)) (fun _ => pass0At) (by rfl) (aa_cons (ae_v 1) (aa_cons (ae_v 2) aa_nil))))
    (ass_cons (as_setF T.cls_Course T.na_names (ae_v 0) (ae_callTy call_tuple_of oa_tup (by rfl) T.tuple (by decide +kernel) (aa_cons (ae_v 1) aa_nil)))
    (ass_one (as_setF T.cls_Course T.na_releases (ae_v 0) (ae_callTy call_tuple_of oa_tup (by rfl) T.tuple (by decide +kernel) (aa_cons (ae_lc (own := [("line", 5)]) rfl sc_Course_init.nd (ai_seq (ae_v 2)) (blkOk_by (own := [("line", 5)]) (N := ["self", "names", "releases", "offers", "wants", "line"]) (sc := defScope s_Course_init) (by decide +kernel)) (by decide) (fun _ _ _ _ _ => (ag_name 5 sc_Course_init.nd)) (fun _ _ _ _ _ => ats_nil) (fun _ _ _ _ _ => (ae_callTy (callK_tuple (K := K) rfl) oa_tup (by rfl) T.tuple (by decide +kernel) (aa_cons (ae_lc (own := [("offers", 3), ("wants", 4)]) rfl sc_Course_init.nd (ai_seqK (K := K) rfl (ae_v 5)) (blkOk_by (own := [("offers", 3), ("wants", 4)]) (N := ["self", "names", "releases", "offers", "wants", "line"]) (sc := scCrs) (by decide +kernel)) (by decide) (fun _ _ _ _ _ => (ag_tupK (K := K) rfl rfl (ags_cons (ag_name 3 sc_Course_init.nd) (ags_cons (ag_name 4 sc_Course_init.nd) ags_nil)))) (fun _ _ _ _ _ => ats_nil) (fun _ _ _ _ _ => (ae_tup (aa_cons (ae_callTy (callK_tuple (K := K) rfl) oa_tup (by rfl) T.tuple (by decide +kernel) (aa_cons (ae_v 3) aa_nil)) (aa_cons (ae_callTy (callK_tuple (K := K) rfl) oa_tup (by rfl) T.tuple (by decide +kernel) (aa_cons (ae_v 4) aa_nil)) aa_nil))))) aa_nil)))) aa_nil))))))), fun sds ms k x h => ?_⟩
  · obtain ⟨a, b, c, rfl, _⟩ := h; rfl
  · obtain ⟨p, names, rels, rfl, hp, hn4, hl, hn, hr, q⟩ := h
    dsimp only [gam]
    walk_at "go"
    refine ⟨names, rfl, hn4, hn, ?_⟩
    walk_at "go"
    refine ⟨names, rels, rfl, hl, hr, ?_⟩
    walk_at "go"
    (with_reducible refine' s_setF ?_)
    walk_at "go"
    refine ⟨p, [], rfl, hp, by decide, ?_⟩
    walk_at "go"
    (with_reducible refine' s_setF ?_)
    walk_at "go"
    have hr4 := hr.n.2
    refine lcI_map (enc := eLn) (f := eLn) (xs := rels) (small_len (by omega)) (fun l hlm acc N hz hN => ?_) ?_
    · have hl4 := (hr.l l hlm).2
      walk_at "go"
      refine lcI_map (enc := eR) (f := eR) (xs := l) (small_len (by omega)) (fun r hrm acc N hz hN => ?_) ?_
      · walk_at "go"
        refine s_gT rfl ?_
        walk_at "go"
        exact ⟨hz, hN⟩
      walk_at "go"
      exact ⟨hz, hN⟩
    walk_at "go"
    refine ⟨p, _, rfl, mu_same, by show 1 < 1000; decide, ?_⟩
    rw [mu_mu]
    exact Out.here q
end
end R76

/-! ## K76k -/
set_option Elab.async false
set_option linter.all false
set_option maxRecDepth 100000
set_option maxHeartbeats 4000000
namespace R76
open PySem PySem.Spec PyProof.Rows L2 AL
open Evl (Ex)
local macro_rules | `(tactic| walk_at "st") => `(tactic| first
  | (with_reducible refine' s_seq ?_) | (with_reducible refine' s_set ?_) | (with_reducible refine' s_nx ?_) | (with_reducible refine' s_ret ?_) | (with_reducible refine' s_drop ?_) | (with_reducible refine' s_asg ?_) | (with_reducible refine' s_for ?_) | (with_reducible refine' s_tt ?_) | (with_reducible refine' s_ff ?_) | (with_reducible refine' s_lcS ?_) | (with_reducible refine' s_put ?_) | (with_reducible refine' s_app ?_) | (with_reducible refine' s_ext ?_)
  | (with_reducible refine' s_gN ?_) | ((with_reducible refine' s_v ?e ?_); (case e => rfl)) | (with_reducible refine' s_asB ?_) | (with_reducible refine' s_asI ?_) | (with_reducible refine' s_asD ?_) | (with_reducible refine' s_nil ?_) | (with_reducible refine' s_cons ?_)
  | (with_reducible refine' s_addI ?_) | (with_reducible refine' s_I0 ?_) | (with_reducible refine' s_neg ?_) | (with_reducible refine' s_eqI ?_) | (with_reducible refine' s_eqS ?_) | (with_reducible refine' s_ltI ?_) | (with_reducible refine' s_isN ?_) | (with_reducible refine' s_int ?_) | (with_reducible refine' s_abs ?_)
  | ((with_reducible refine' s_len ?e ?_); (case e => first | rfl | exact seqOf_m (by assumption) | exact seqOf_m mu_same))
  | ((with_reducible refine' s_ix ?e ?e2 ?_); (case e => first | rfl | exact seqOf_m (by assumption) | exact seqOf_m mu_same); (case e2 => first | rfl | assumption | exact atI_nat (j := 0) rfl | exact atI_nat (j := 1) rfl | exact atI_nat (j := 2) rfl | exact atI_nat (j := 3) rfl))
  | ((with_reducible refine' s_putL ?e ?e2 ?_); (case e => first | assumption | exact mu_same); (case e2 => first | rfl | assumption))
  | ((with_reducible refine' s_oL ?e ?_); (case e => first | assumption | exact mu_same))
  | ((with_reducible refine' s_dat ?e ?_); (case e => rfl)) | ((with_reducible refine' s_rng ?e ?_); (case e => exact ⟨by omega, by omega⟩))
  | ((with_reducible refine' s_I ?c ?_); (case c => first | assumption | exact ⟨by omega, by omega⟩ | exact ⟨by decide, by decide, by decide⟩ | exact Or.inl ⟨by omega, by omega⟩ | exact Or.inr ⟨by omega, by omega⟩ | (show (0 : Int) < _; omega) | (show (0 : Int) ≤ _; omega)))
  | (with_reducible refine' s_slT ?_) | (with_reducible refine' s_slL ?_) | (with_reducible refine' s_gC ?_) | ((with_reducible refine' s_gT ?e ?_); (case e => rfl))
  | ((with_reducible refine' s_tup ?e ?_); (case e => first | rfl | exact seqOf_m (by assumption) | exact seqOf_m mu_same))
  | ((with_reducible refine' s_list ?e ?_); (case e => first | rfl | exact seqOf_m (by assumption) | exact seqOf_m mu_same))
  | ((with_reducible refine' s_isi ?e ?e2 ?_); (case e => rfl); (case e2 => rfl))
  | (with_reducible refine' s_max ?_)
  | ((with_reducible refine' And.intro ?r ?_); (case r => with_reducible rfl)))
local macro_rules | `(tactic| walk_at "one") => `(tactic| first | (with_reducible refine' s_if ?_) | walk_at "st")
local macro_rules | `(tactic| walk_at "up") => `(tactic| repeat walk_at "st")
local macro_rules | `(tactic| walk_at "go") => `(tactic| repeat walk_at "one")
local macro_rules | `(tactic| walk_at "all") => `(tactic| repeat' (first | walk_at "one" | (refine s_ite (fun _ => ?_) (fun _ => ?_))))

/-- .. and the classes of errors -/
structure TopX (K : PySem.W.Frag) (mg : Str → Option Value) extends TopC K mg where
  CB : Addr
  fB : Addr
  CN : Addr
  fN : Addr
  x_BadMixture : PySem.X_BadMixture.Txt_BadMixture K mg CB fB
  x_NoWave : PySem.X_NoWave.Txt_NoWave K mg CN fN
theorem s_for1 {rg : AGR} {rb : ASR} {d : D} {A : AEnd} {Γ : Gam} {ms : MS} (h : rg (.d d) Γ ms fun Γ1 ms1 => rb { A with nx := A.nx, ct := A.nx, bk := A.nx } Γ1 ms1) : forR rg rb [d] A Γ ms := h
theorem zw_get {as bs : List D} {i : Nat} {d : D} (h : (List.zipWith (fun a b => D.tup [a, b]) as bs)[i]? = some d) : ∃ a b, as[i]? = some a ∧ bs[i]? = some b ∧ d = .tup [a, b] := by
  rw [List.getElem?_zipWith] at h
  cases ha : as[i]? with
  | none => rw [ha] at h; cases h
  | some a =>
    cases hb : bs[i]? with
    | none => rw [ha, hb] at h; cases h
    | some b => rw [ha, hb] at h; cases h; exact ⟨a, b, rfl, rfl, rfl⟩
theorem s_raise {C : Addr} {f : Str} {re : AER} {A : AEnd} {Γ : Gam} {ms : MS} (h : re Γ ms (fun sd ms1 => asD (fun dv => A.x Γ C f dv ms1) sd) (A.x Γ)) : rRaise C f re A Γ ms := h
section
variable {P : Program} {w : World} {K : PySem.W.Frag} {mg : Str → Option Value} {base : Heap}
abbrev s_Course_check_mixtures : Stmt := (inClass (topS 17) 1)
theorem sc_Course_check_mixtures : FnScope ["self", "mixtures", "mixture", "number", "line"] ["self", "mixtures"] (defScope s_Course_check_mixtures) := ⟨rfl, rfl, rfl, by decide +kernel, rfl, by decide +kernel, by decide +kernel⟩

theorem sb_chkm : StarB "check_mixtures" "Course.check_mixtures" s_Course_check_mixtures ["self"] "mixtures" := fun _ _ _ _ _ _ us rest hl => match us, hl, rest with
  | [_], _, [] => rfl
  | [_], _, _ :: _ => rfl
def R_chkm (C : Addr) : AFn := fun sds ms k _ => ∃ names rels m, sds = [.d (crs C names rels), .d (.tup [eM m])] ∧ rels.length = names.length ∧ RelsOk rels ∧ Vm (sizesOf rels) m ∧ k (.d .non) ms
theorem ok_chkm (T : TopC K mg) (G_is_number : FnA P w K mg base CX0 1 "is_number" R_isnum) {f : Addr} {fd : FuncData} (F : Fun K "check_mixtures" "Course.check_mixtures" s_Course_check_mixtures f fd) : FnR P w K mg base CX0 2 f (spA (rStar 1 (R_chkm T.C))) := by
  refine fnS F sc_Course_check_mixtures sb_chkm (fun sds ms k x h => ?_) fun cdv A outer s H E hr => ⟨_, _, (ass_one (as_for PassesOwn.never rfl (ai_seq (ae_v 1)) (ag_name 2 sc_Course_check_mixtures.nd)
      (ass_cons (as_if (AW.at (aw_or (at_not (at_val (ae_callB call_isi oa_isi (by rfl) T.isinstance (by decide +kernel) (aa_cons (ae_v 2) (aa_cons (ae_bty (T := "tuple") (by rfl) T.tuple (by decide +kernel)) aa_nil))))) (aw_or1 (at_cmp (op_neA (u64 hr)) oa_ne (ae_callB call_len oa_len (by rfl) T.len (by decide +kernel) (aa_cons (ae_v 2) aa_nil)) (ae_callB call_len oa_len (by rfl) T.len (by decide +kernel) (aa_cons (ae_fld T.cls_Course T.na_names (ae_v 0)) aa_nil)) (nomark _))))) (ass_one as_never) ass_nil)
      (ass_one (as_for PassesOwn.never rfl (ai_zip (by rfl) T.zip (ae_v 2) (ae_fld T.cls_Course T.na_releases (ae_v 0))) (ag_tup rfl (ags_cons (ag_name 3 sc_Course_check_mixtures.nd) (ags_cons (ag_name 4 sc_Course_check_mixtures.nd) ags_nil)))
        (ass_one (as_if (AW.at (aw_or (at_not (at_val (ae_call G_is_number (hr.mono (by first | decide | omega)) (fun _ => pass0At) (by rfl) (aa_cons (ae_v 3) aa_nil)))) (aw_or1 (at_not (at_chain op_le oa_le (op_ltA (u64 hr)) oa_lt ae_int (ae_v 3) (ae_callB call_len oa_len (by rfl) T.len (by decide +kernel) (aa_cons (ae_v 4) aa_nil)) (fun p1 p2 p3 => pt_chain op_le (op_ltA (u64 hr)) p1 p2 p3)))))) (ass_one as_never) ass_nil))))))), fun sds ms k x h => ?_⟩
  · obtain ⟨a, b, c, rfl, _⟩ := h; show 2 ≤ 5; decide
  · obtain ⟨names, rels, m, rfl, hl, hr, hm, q⟩ := h
    dsimp only [gam]
    walk_at "go"
    have hsl : (sizesOf rels).length = rels.length := List.length_map ..
    have hml : (m.map fun i : Nat => D.int i).length = m.length := List.length_map ..
    have hnl : (names.map D.str).length = names.length := List.length_map ..
    refine s_for1 ?_
    walk_at "go"
    refine s_iteF rfl ?_
    walk_at "go"
    refine s_fld rfl ?_
    walk_at "go"
    refine s_iteF (by rw [hml, hnl, hm.1, hsl, hl]; simp) ?_
    walk_at "go"
    refine s_fld rfl ?_
    refine ⟨_, _, rfl, rfl, ?_⟩
    refine forR_inv (fun i Γ ms' => ms' = ms ∧ ∃ g3 g4, Γ = [some (.d (crs T.C names rels)), some (.d (.tup [eM m])), some (.d (eM m)), g3, g4]) ⟨rfl, _, _, rfl⟩ (fun i d Γ m1 hd hP N hN => ?_) fun Γ m1 hP => ?_
    · obtain ⟨rfl, g3, g4, rfl⟩ := hP
      obtain ⟨a, b, ha, hb, rfl⟩ := zw_get hd
      rw [List.getElem?_map] at ha hb
      cases hx : m[i]? with
      | none => rw [hx] at ha; cases ha
      | some j =>
        cases hy : rels[i]? with
        | none => rw [hy] at hb; cases hb
        | some l =>
          rw [hx] at ha
          rw [hy] at hb
          cases ha
          cases hb
          have hll : (l.map eR).length = l.length := List.length_map ..
          have hj : j < l.length := by
            have h := hm.2 i (by rw [hsl]; exact (List.getElem?_eq_some_iff.mp hy).1)
            rw [List.getD_eq_getElem?_getD, List.getD_eq_getElem?_getD, hx] at h
            unfold sizesOf at h
            rw [List.getElem?_map, hy] at h
            exact h
          walk_at "go"
          refine ⟨j, rfl, ?_⟩
          walk_at "go"
          refine s_iteF rfl ?_
          walk_at "go"
          refine s_iteT (decide_eq_true (by omega)) ?_
          walk_at "go"
          refine s_iteF (by simp; omega) ?_
          exact hN _ _ ⟨rfl, _, _, rfl⟩
    · obtain ⟨rfl, g3, g4, rfl⟩ := hP
      exact Out.here q
/-! again: chkx -/
def Bad (names : List Str) (rels : List (List Rel)) (d : D) : Prop := (∃ l, d = .lst l) ∨ ∃ l : List Int, d = .tup (l.map .int) ∧ (l.length = names.length → ∃ (i : Nat) (j : Int) (ln : List Rel), l[i]? = some j ∧ rels[i]? = some ln ∧ ¬ (0 ≤ j ∧ j < ln.length))
def Rx_chkm (C CB : Addr) : AFn := fun sds ms k x => ∃ names rels d, sds = [.d (crs C names rels), .d (.tup [d])] ∧ rels.length = names.length ∧ RelsOk rels ∧ ((∃ m, d = eM m ∧ Vm (sizesOf rels) m ∧ k (.d .non) ms) ∨ (Bad names rels d ∧ x CB "mixture" d ms))
theorem okx_chkm (T : TopX K mg) (G_is_number : FnA P w K mg base CX0 1 "is_number" R_isnum) {f : Addr} {fd : FuncData} (F : Fun K "check_mixtures" "Course.check_mixtures" s_Course_check_mixtures f fd) : FnR P w K mg base (L2.CX P w) 2 f (spA (rStar 1 (Rx_chkm T.C T.CB))) := by
  refine fnSX F sc_Course_check_mixtures sb_chkm (fun sds ms k x h => ?_) fun cdv A outer s H E hr => ⟨_, _, (ass_one (as_for (passes_of rfl) rfl (ai_seq (ae_v 1)) (ag_name 2 sc_Course_check_mixtures.nd)
      (ass_cons (as_if (AW.at (aw_or (at_not (at_val (ae_callB call_isi oa_isi (by rfl) T.isinstance (by decide +kernel) (aa_cons (ae_v 2) (aa_cons (ae_bty (T := "tuple") (by rfl) T.tuple (by decide +kernel)) aa_nil))))) (aw_or1 (at_cmp (op_neA (u64 hr)) oa_ne (ae_callB call_len oa_len (by rfl) T.len (by decide +kernel) (aa_cons (ae_v 2) aa_nil)) (ae_callB call_len oa_len (by rfl) T.len (by decide +kernel) (aa_cons (ae_fld T.cls_Course T.na_names (ae_v 0)) aa_nil)) (nomark _))))) (ass_one (as_raise rfl (takes_of rfl rfl rfl rfl) (ae_v 2) (L2.pmk_low_BadMixture T.x_BadMixture hr (AA.pe (W := W0) (aa_cons (ae_v 2) aa_nil))))) ass_nil)
      (ass_one (as_for (passes_of rfl) rfl (ai_zip (by rfl) T.zip (ae_v 2) (ae_fld T.cls_Course T.na_releases (ae_v 0))) (ag_tup rfl (ags_cons (ag_name 3 sc_Course_check_mixtures.nd) (ags_cons (ag_name 4 sc_Course_check_mixtures.nd) ags_nil)))
        (ass_one (as_if (AW.at (aw_or (at_not (at_val (ae_call G_is_number (hr.mono (by first | decide | omega)) (fun _ => pass0At) (by rfl) (aa_cons (ae_v 3) aa_nil)))) (aw_or1 (at_not (at_chain op_le oa_le (op_ltA (u64 hr)) oa_lt ae_int (ae_v 3) (ae_callB call_len oa_len (by rfl) T.len (by decide +kernel) (aa_cons (ae_v 4) aa_nil)) (fun p1 p2 p3 => pt_chain op_le (op_ltA (u64 hr)) p1 p2 p3)))))) (ass_one (as_raise rfl (takes_of rfl rfl rfl rfl) (ae_v 2) (L2.pmk_low_BadMixture T.x_BadMixture hr (AA.pe (W := W0) (aa_cons (ae_v 2) aa_nil))))) ass_nil))))))), fun sds ms k x h => ?_⟩
  · obtain ⟨a, b, c, rfl, _⟩ := h; show 2 ≤ 5; decide
  · obtain ⟨names, rels, d, rfl, hl, hr, q⟩ := h
    have hsl : (sizesOf rels).length = rels.length := List.length_map ..
    have hnl : (names.map D.str).length = names.length := List.length_map ..
    dsimp only [gam]
    have key : (∃ l, d = .lst l ∧ x T.CB "mixture" d ms) ∨ ∃ l : List Int, d = .tup (l.map .int) ∧ ((l.length ≠ names.length ∧ x T.CB "mixture" d ms) ∨ (l.length = names.length ∧ ((∃ (i : Nat) (j : Int) (ln : List Rel), l[i]? = some j ∧ rels[i]? = some ln ∧ ¬ (0 ≤ j ∧ j < ln.length)) → x T.CB "mixture" d ms) ∧
        ((∀ (i : Nat) (j : Int) (ln : List Rel), l[i]? = some j → rels[i]? = some ln → 0 ≤ j ∧ j < ln.length) → k (.d .non) ms))) := by
      rcases q with ⟨m, rfl, hm, q⟩ | ⟨⟨l, rfl⟩ | ⟨l, rfl, hb⟩, q⟩
      · have hm1 : m.length = names.length := by rw [hm.1, hsl, hl]
        have hin : ∀ (i : Nat) (j : Int) (ln : List Rel), (m.map fun i : Nat => (i : Int))[i]? = some j → rels[i]? = some ln → 0 ≤ j ∧ j < ln.length := by
          intro i j ln hj hy
          rw [List.getElem?_map] at hj
          cases hx : m[i]? with
          | none => rw [hx] at hj; cases hj
          | some v =>
            rw [hx] at hj
            cases hj
            have h := hm.2 i (by rw [hsl]; exact (List.getElem?_eq_some_iff.mp hy).1)
            rw [List.getD_eq_getElem?_getD, List.getD_eq_getElem?_getD, hx] at h
            unfold sizesOf at h
            rw [List.getElem?_map, hy] at h
            have h : v < ln.length := h
            exact ⟨Int.natCast_nonneg _, by show (v : Int) < _; omega⟩
        refine .inr ⟨m.map fun i : Nat => (i : Int), by unfold eM; rw [List.map_map]; rfl, .inr ⟨by rw [List.length_map]; exact hm1, fun ⟨i, j, ln, h1, h2, h3⟩ => absurd (hin i j ln h1 h2) h3, fun _ => q⟩⟩
      · exact .inl ⟨l, rfl, q⟩
      · by_cases e : l.length = names.length
        · exact .inr ⟨l, rfl, .inr ⟨e, fun _ => q, fun h => by
            obtain ⟨i, j, ln, h1, h2, h3⟩ := hb e
            exact absurd (h i j ln h1 h2) h3⟩⟩
        · exact .inr ⟨l, rfl, .inl ⟨e, q⟩⟩
    clear q
    rcases key with ⟨l, rfl, q⟩ | ⟨l, rfl, q⟩
    · walk_at "go"
      refine s_for1 ?_
      walk_at "go"
      refine s_iteT rfl ?_
      walk_at "go"
      (with_reducible refine' s_raise ?_)
      walk_at "go"
      exact q
    · have hll : (l.map D.int).length = l.length := List.length_map ..
      walk_at "go"
      refine s_for1 ?_
      walk_at "go"
      refine s_iteF rfl ?_
      walk_at "go"
      refine s_fld rfl ?_
      walk_at "go"
      rcases q with ⟨e, q⟩ | ⟨e, qx, qk⟩
      · refine s_iteT (by rw [hll, hnl]; simp; omega) ?_
        (with_reducible refine' s_raise ?_)
        walk_at "go"
        exact q
      · refine s_iteF (by rw [hll, hnl, e]; simp) ?_
        walk_at "go"
        refine s_fld rfl ?_
        refine ⟨_, _, rfl, rfl, ?_⟩
        refine forR_inv (fun i Γ ms' => ms' = ms ∧ (∃ g3 g4, Γ = [some (.d (crs T.C names rels)), some (.d (.tup [.tup (l.map .int)])), some (.d (.tup (l.map .int))), g3, g4]) ∧ ∀ (i' : Nat) (j : Int) (ln : List Rel), i' < i → l[i']? = some j → rels[i']? = some ln → 0 ≤ j ∧ j < ln.length) ⟨rfl, ⟨_, _, rfl⟩, fun _ _ _ h => absurd h (Nat.not_lt_zero _)⟩ (fun i d Γ m1 hd hP N hN => ?_) fun Γ m1 hP => ?_
        · obtain ⟨rfl, ⟨g3, g4, rfl⟩, hp⟩ := hP
          obtain ⟨a, b, ha, hb, rfl⟩ := zw_get hd
          rw [List.getElem?_map] at ha hb
          cases hx : l[i]? with
          | none => rw [hx] at ha; cases ha
          | some j =>
            cases hy : rels[i]? with
            | none => rw [hy] at hb; cases hb
            | some ln =>
              rw [hx] at ha
              rw [hy] at hb
              cases ha
              cases hb
              have hlen : (ln.map eR).length = ln.length := List.length_map ..
              have bad : ¬ (0 ≤ j ∧ j < ln.length) → x T.CB "mixture" (.tup (l.map .int)) m1 := fun h => qx ⟨i, j, ln, hx, hy, h⟩
              walk_at "go"
              refine ⟨j, rfl, ?_⟩
              walk_at "go"
              refine s_iteF rfl ?_
              walk_at "go"
              refine s_ite (fun e1 => ?_) (fun e1 => ?_)
              · have e1 := of_decide_eq_true e1
                walk_at "go"
                refine s_ite (fun e2 => ?_) (fun e2 => ?_)
                · (with_reducible refine' s_raise ?_)
                  walk_at "go"
                  exact bad (by simp at e2; omega)
                · refine hN _ _ ⟨rfl, ⟨_, _, rfl⟩, fun i' j' ln' hi hj hln => ?_⟩
                  by_cases q : i' < i
                  · exact hp i' j' ln' q hj hln
                  · have e : i' = i := by omega
                    subst e
                    rw [hx] at hj; rw [hy] at hln
                    cases hj; cases hln
                    exact ⟨e1, by simp at e2; omega⟩
              · have e1 := of_decide_eq_false e1
                walk_at "go"
                refine s_iteT rfl ?_
                (with_reducible refine' s_raise ?_)
                walk_at "go"
                exact bad (by omega)
        · obtain ⟨rfl, ⟨g3, g4, rfl⟩, hp⟩ := hP
          refine Out.here (qk fun i j ln h1 h2 => hp i j ln ?_ h1 h2)
          rw [List.length_zipWith, List.length_map, List.length_map]
          have l1 := (List.getElem?_eq_some_iff.mp h1).1
          have l2 := (List.getElem?_eq_some_iff.mp h2).1
          omega
end
end R76

/-! ## K76l -/
set_option Elab.async false
set_option linter.all false
set_option maxRecDepth 100000
set_option maxHeartbeats 4000000
namespace AL
open PySem PySem.Spec PyProof.Rows L2
theorem lc2_inv {rg : AGR} {rt : ATR} {ri1 : AIR} {rg1 : AGR} {rt1 : ATR} {re : AER} {vs1 : List Nat} {Γ0 : Gam} {ms : MS} {kk : List D → MS → Prop} {ds acc : List D} (P : Nat → List D → MS → Prop) (h0 : P 0 acc ms)
    (hs : ∀ i d acc ms, ds[i]? = some d → P i acc ms → ∀ N : List D → MS → Prop, (∀ acc' ms', P (i + 1) acc' ms' → N acc' ms') → rg (.d d) Γ0 ms fun Γ1 ms1 => rt Γ1 ms1 (fun b ms2 => if b = true then ri1 Γ1 ms2 (fun es ms3 => lcI rg1 rt1 re (wipeG Γ1 vs1) es acc ms3 N) noX else N acc ms2) noX)
    (hd : ∀ acc ms, P ds.length acc ms → kk acc ms) : lc2I rg rt ri1 rg1 rt1 re vs1 Γ0 ds acc ms kk := by
  have main : ∀ n i acc ms, i + n = ds.length → P i acc ms → lc2I rg rt ri1 rg1 rt1 re vs1 Γ0 (ds.drop i) acc ms kk := by
    intro n
    induction n with
    | zero =>
      intro i acc ms hi hp
      have e : i = ds.length := by omega
      subst e
      rw [List.drop_length]
      exact hd acc ms hp
    | succ n ih =>
      intro i acc ms hi hp
      have hlt : i < ds.length := by omega
      rw [List.drop_eq_getElem_cons hlt]
      exact hs i _ acc ms (List.getElem?_eq_getElem hlt) hp _ fun acc2 ms2 h2 => ih (i + 1) acc2 ms2 (by omega) h2
  exact main ds.length 0 acc ms (by omega) h0
end AL
namespace R76
open PySem PySem.Spec PyProof.Rows L2 AL
open Evl (Ex)
local macro_rules | `(tactic| walk_at "st") => `(tactic| first
  | (with_reducible refine' s_seq ?_) | (with_reducible refine' s_set ?_) | (with_reducible refine' s_nx ?_) | (with_reducible refine' s_ret ?_) | (with_reducible refine' s_drop ?_) | (with_reducible refine' s_asg ?_) | (with_reducible refine' s_for ?_) | (with_reducible refine' s_tt ?_) | (with_reducible refine' s_ff ?_) | (with_reducible refine' s_lcS ?_) | (with_reducible refine' s_put ?_) | (with_reducible refine' s_app ?_) | (with_reducible refine' s_ext ?_)
  | (with_reducible refine' s_gN ?_) | ((with_reducible refine' s_v ?e ?_); (case e => rfl)) | (with_reducible refine' s_asB ?_) | (with_reducible refine' s_asI ?_) | (with_reducible refine' s_asD ?_) | (with_reducible refine' s_nil ?_) | (with_reducible refine' s_cons ?_)
  | (with_reducible refine' s_addI ?_) | (with_reducible refine' s_I0 ?_) | (with_reducible refine' s_neg ?_) | (with_reducible refine' s_eqI ?_) | (with_reducible refine' s_eqS ?_) | (with_reducible refine' s_ltI ?_) | (with_reducible refine' s_isN ?_) | (with_reducible refine' s_int ?_) | (with_reducible refine' s_abs ?_)
  | ((with_reducible refine' s_len ?e ?_); (case e => first | rfl | exact seqOf_m (by assumption) | exact seqOf_m mu_same))
  | ((with_reducible refine' s_ix ?e ?e2 ?_); (case e => first | rfl | exact seqOf_m (by assumption) | exact seqOf_m mu_same); (case e2 => first | rfl | assumption | exact atI_nat (j := 0) rfl | exact atI_nat (j := 1) rfl | exact atI_nat (j := 2) rfl | exact atI_nat (j := 3) rfl))
  | ((with_reducible refine' s_putL ?e ?e2 ?_); (case e => first | assumption | exact mu_same); (case e2 => first | rfl | assumption))
  | ((with_reducible refine' s_oL ?e ?_); (case e => first | assumption | exact mu_same))
  | ((with_reducible refine' s_dat ?e ?_); (case e => rfl)) | ((with_reducible refine' s_rng ?e ?_); (case e => exact ⟨by omega, by omega⟩))
  | ((with_reducible refine' s_I ?c ?_); (case c => first | assumption | exact ⟨by omega, by omega⟩ | exact ⟨by decide, by decide, by decide⟩ | exact Or.inl ⟨by omega, by omega⟩ | exact Or.inr ⟨by omega, by omega⟩ | (show (0 : Int) < _; omega) | (show (0 : Int) ≤ _; omega)))
  | (with_reducible refine' s_slT ?_) | (with_reducible refine' s_slL ?_) | (with_reducible refine' s_gC ?_) | ((with_reducible refine' s_gT ?e ?_); (case e => rfl))
  | ((with_reducible refine' s_tup ?e ?_); (case e => first | rfl | exact seqOf_m (by assumption) | exact seqOf_m mu_same))
  | ((with_reducible refine' s_list ?e ?_); (case e => first | rfl | exact seqOf_m (by assumption) | exact seqOf_m mu_same))
  | ((with_reducible refine' s_isi ?e ?e2 ?_); (case e => rfl); (case e2 => rfl))
  | (with_reducible refine' s_max ?_)
  | ((with_reducible refine' And.intro ?r ?_); (case r => with_reducible rfl)))
local macro_rules | `(tactic| walk_at "one") => `(tactic| first | (with_reducible refine' s_if ?_) | walk_at "st")
local macro_rules | `(tactic| walk_at "up") => `(tactic| repeat walk_at "st")
local macro_rules | `(tactic| walk_at "go") => `(tactic| repeat walk_at "one")
local macro_rules | `(tactic| walk_at "all") => `(tactic| repeat' (first | walk_at "one" | (refine s_ite (fun _ => ?_) (fun _ => ?_))))

section
variable {P : Program} {w : World} {K : PySem.W.Frag} {mg : Str → Option Value} {base : Heap}
abbrev s_Course_mixtures : Stmt := (inClass (topS 17) 2)
theorem sc_Course_mixtures : FnScope ["self", "found", "line", "mixture", "number"] ["self"] (defScope s_Course_mixtures) := ⟨rfl, rfl, rfl, by decide +kernel, rfl, by decide +kernel, by decide +kernel⟩

def R_mxs (C : Addr) : AFn := fun sds ms k _ => ∃ names rels, sds = [.d (crs C names rels)] ∧ RelsOk rels ∧ k (.d (.lst ((mixes (sizesOf rels)).map eM))) ms
theorem ok_mxs (T : TopC K mg) {f : Addr} {fd : FuncData} (F : Fun K "mixtures" "Course.mixtures" s_Course_mixtures f fd) : FnOk P w K mg base CX0 1 f fd ["self"] (spA (R_mxs T.C)) := by
  refine fnA F sc_Course_mixtures (fun sds ms k x h => ?_) (by decide) fun cdv A outer s H E hr => ⟨_, _, (ass_cons (as_set 1 sc_Course_mixtures.nd (ae_lst (aa_cons (ae_tup aa_nil) aa_nil)))
    (ass_cons (as_for PassesOwn.never rfl (ai_seq (ae_fld T.cls_Course T.na_releases (ae_v 0))) (ag_name 2 sc_Course_mixtures.nd)
      (ass_one (as_setLc2 1 (own := [("mixture", 3), ("number", 4)]) (vs1 := [4]) rfl sc_Course_mixtures.nd (ai_seq (ae_v 1)) (blkOk_by (own := [("mixture", 3), ("number", 4)]) (N := ["self", "found", "line", "mixture", "number"]) (sc := defScope s_Course_mixtures) (by decide +kernel)) (by decide) (by decide) (by decide) (fun _ _ _ _ _ => (ag_name 3 sc_Course_mixtures.nd)) (fun _ _ _ _ _ => ats_nil) (fun _ _ _ _ _ => (ai_range1 (by rfl) T.range (ae_callB (callK_len (K := K) rfl) oa_len (by rfl) T.len (by decide +kernel) (aa_cons (ae_v 2) aa_nil)))) (fun _ _ _ _ _ => (ag_name 4 sc_Course_mixtures.nd)) (fun _ _ _ _ _ => ats_nil) (fun _ _ _ _ _ => (ae_bin (opK_add (K := K) rfl) oa_add (ae_v 3) (ae_tup (aa_cons (ae_v 4) aa_nil)))) (sw_true rfl rfl rfl (by decide +kernel)))))
    (ass_one (as_ret (ae_v 1))))), fun sds ms k x h => ?_⟩
  · obtain ⟨a, b, rfl, _⟩ := h; rfl
  · obtain ⟨names, rels, rfl, hr, q⟩ := h
    have hsl : (sizesOf rels).length = rels.length := List.length_map ..
    dsimp only [gam]
    walk_at "go"
    refine s_fld rfl ?_
    walk_at "go"
    refine forR_inv (fun i Γ ms' => ms' = ms ∧ ∃ g2, Γ = [some (.d (crs T.C names rels)), some (.d (.lst ((mixes ((sizesOf rels).take i)).map eM))), g2, none, none]) ⟨rfl, _, rfl⟩ (fun i d Γ m1 hd hP N hN => ?_) fun Γ m1 hP => ?_
    · obtain ⟨rfl, g2, rfl⟩ := hP
      rw [List.getElem?_map] at hd
      cases hl : rels[i]? with
      | none => rw [hl] at hd; cases hd
      | some l =>
        rw [hl] at hd
        cases hd
        have hi := (List.getElem?_eq_some_iff.mp hl).1
        have hlm := List.mem_of_getElem? hl
        have h4 := (hr.l l hlm).2
        have hlen : (l.map eR).length = l.length := List.length_map ..
        have hfl : (mixes ((sizesOf rels).take i)).length ≤ 64 := by
          have h1 := mixes_len ((sizesOf rels).take i) fun s hs => sizes_le hr s (List.mem_of_mem_take hs)
          have h2 : ((sizesOf rels).take i).length ≤ 3 := by rw [List.length_take]; have := hr.n.2; omega
          have h3 : 4 ^ ((sizesOf rels).take i).length ≤ 4 ^ 3 := Nat.pow_le_pow_right (by decide) h2
          have : (4 ^ 3 : Nat) = 64 := rfl
          omega
        have hnext : mixes ((sizesOf rels).take (i + 1)) = (mixes ((sizesOf rels).take i)).flatMap fun m => (List.range l.length).map fun i => m ++ [i] := by
          rw [List.take_add_one, show (sizesOf rels)[i]? = some l.length by unfold sizesOf; rw [List.getElem?_map, hl]; rfl]
          exact mixes_snoc _ _
        have hfv : ∀ m ∈ mixes ((sizesOf rels).take i), m.length ≤ 4 := fun m hm => by
          rw [((mixes_ok _).1 m hm).1, List.length_take]; have := hr.n.2; omega
        generalize mixes ((sizesOf rels).take i) = found at hfl hnext hfv ⊢
        walk_at "go"
        refine lc2_inv (fun j acc ms' => ms' = m1 ∧ acc = ((found.take j).flatMap fun m => (List.range l.length).map fun i => m ++ [i]).map eM) ⟨rfl, rfl⟩ (fun j d acc m2 hd hP N' hN' => ?_) fun acc m2 hP => ?_
        · obtain ⟨rfl, rfl⟩ := hP
          rw [List.getElem?_map] at hd
          cases hm : found[j]? with
          | none => rw [hm] at hd; cases hd
          | some m =>
            rw [hm] at hd
            cases hd
            have hj := (List.getElem?_eq_some_iff.mp hm).1
            have hll : (((found.take j).flatMap fun m => (List.range l.length).map fun i => m ++ [i])).length ≤ 256 := by
              rw [List.length_flatMap]
              have e : ((found.take j).map fun m => ((List.range l.length).map fun i => m ++ [i]).length) = List.replicate (found.take j).length l.length := by
                apply List.eq_replicate_iff.mpr
                refine ⟨by simp, fun b hb => ?_⟩
                obtain ⟨m, _, rfl⟩ := List.mem_map.mp hb
                simp
              rw [e]
              have e2 : (List.replicate (found.take j).length l.length).sum = (found.take j).length * l.length := by simp
              rw [e2, List.length_take]
              have : min j found.length ≤ 64 := by omega
              exact Nat.le_trans (Nat.mul_le_mul this h4) (by decide)
            have hnx : ((found.take (j + 1)).flatMap fun m => (List.range l.length).map fun i => m ++ [i]) = ((found.take j).flatMap fun m => (List.range l.length).map fun i => m ++ [i]) ++ (List.range l.length).map fun i => m ++ [i] := by
              rw [List.take_add_one, hm, List.flatMap_append]; simp
            rw [hnx] at hN'
            generalize ((found.take j).flatMap fun m => (List.range l.length).map fun i => m ++ [i]) = done at hll hN' ⊢
            walk_at "go"
            rw [hlen]
            refine lcI_inv (fun t acc ms' => ms' = m2 ∧ acc = (done ++ (List.range t).map fun i => m ++ [i]).map eM) ⟨rfl, by simp⟩ (fun t d acc m3 hd hP N2 hN2 => ?_) fun acc m3 hP => ?_
            · obtain ⟨rfl, rfl⟩ := hP
              obtain ⟨ht, rfl⟩ := rng_get hd
              have ht : t < l.length := ht
              walk_at "go"
              refine s_addT ?_ ?_
              · have : m.length ≤ 4 := hfv m (List.mem_of_getElem? hm)
                exact small_len (by rw [List.length_map]; show m.length + 1 ≤ _; omega)
              rw [eM_snoc]
              refine ⟨Nat.lt_of_lt_of_le (by rw [List.length_map, List.length_append, List.length_map, List.length_range]; omega) (small_len (n := 270) (by omega)), hN2 _ _ ⟨rfl, ?_⟩⟩
              rw [List.range_succ]; simp
            · obtain ⟨rfl, rfl⟩ := hP
              rw [rng_len]
              exact hN' _ _ ⟨rfl, rfl⟩
        · obtain ⟨rfl, rfl⟩ := hP
          rw [List.length_map, List.take_length, ← hnext]
          exact hN _ _ ⟨rfl, _, rfl⟩
    · obtain ⟨rfl, g2, rfl⟩ := hP
      rw [List.length_map, ← hsl, List.take_length]
      walk_at "go"
      exact Out.here q
def wk (w : Wnt) : List Key := [.inr w.1, .inr w.2.1, .inl w.2.2.1, .inl w.2.2.2]
theorem wk_inj {a b : Wnt} : wk a = wk b ↔ a = b := by
  obtain ⟨a0, a1, a2, a3⟩ := a
  obtain ⟨b0, b1, b2, b3⟩ := b
  unfold wk
  simp
theorem valD_put {κ : Type} [DecidableEq κ] (kvs : List (κ × D)) (k k' : κ) (v : D) : (valD (putKD kvs k v) k').isSome = (decide (k = k') || (valD kvs k').isSome) := by
  have e : ∀ l : List (κ × D), (valD l k').isSome = l.any fun kv => decide (kv.1 = k') := fun l => by
    unfold valD
    rw [Option.isSome_map, List.isSome_find?]
  rw [e, e]
  unfold putKD
  split
  · rename_i h
    rw [List.any_map]
    have e2 : ((fun kv : κ × D => decide (kv.1 = k')) ∘ fun kv : κ × D => if kv.1 = k then (kv.1, v) else kv) = fun kv => decide (kv.1 = k') := funext fun kv => by
      show decide ((if kv.1 = k then (kv.1, v) else kv).1 = k') = _
      split <;> rfl
    rw [e2]
    by_cases q : k = k'
    · subst q; rw [h]; simp
    · simp [q]
  · rw [List.any_append]
    simp [Bool.or_comm]
theorem put_len {κ : Type} [DecidableEq κ] (kvs : List (κ × D)) (k : κ) (v : D) : (putKD kvs k v).length ≤ kvs.length + 1 := by
  unfold putKD
  split <;> simp
theorem z3_at {names : List Str} {rels : List (List Rel)} {m : List Nat} (ok : AllOk names rels m) {i : Nat} {d : D} (h : (zip3D (names.map D.str) (m.map fun i : Nat => D.int i) (rels.map eLn))[i]? = some d) :
    i < names.length ∧ d = .tup [.str (names.getD i ""), .int (m.getD i 0 : Nat), eLn (rels.getD i [])] := by
  rw [zip3D_get] at h
  split at h
  · rename_i a b c h1 h2 h3
    cases h
    have hi := (List.getElem?_eq_some_iff.mp h1).1
    rw [List.length_map] at hi
    obtain ⟨a1, a2, _⟩ := ok.at hi
    rw [List.getElem?_map, getD_ok (l := names) (x := ("" : Str)) hi] at h1
    rw [List.getElem?_map, getD_ok (l := m) (x := 0) a2] at h2
    rw [List.getElem?_map, getD_ok (l := rels) (x := []) a1] at h3
    cases h1; cases h2; cases h3
    exact ⟨hi, rfl⟩
  · cases h
theorem z3_len {names : List Str} {rels : List (List Rel)} {m : List Nat} (ok : AllOk names rels m) : (zip3D (names.map D.str) (m.map fun i : Nat => D.int i) (rels.map eLn)).length = names.length := by
  have hsl : (sizesOf rels).length = rels.length := List.length_map ..
  rw [zip3D_length, List.length_map, List.length_map, List.length_map, ok.m.1, hsl, ok.l]; simp
abbrev s_Course_missing : Stmt := (inClass (topS 17) 3)
theorem sc_Course_missing : FnScope ["self", "mixture", "offered", "name", "number", "line", "offer", "found", "want"] ["self", "mixture"] (defScope s_Course_missing) := ⟨rfl, rfl, rfl, by decide +kernel, rfl, by decide +kernel, by decide +kernel⟩

def R_miss (C : Addr) : AFn := fun sds ms k _ => ∃ names rels m, sds = [.d (crs C names rels), .d (eM m)] ∧ AllOk names rels m ∧ ∀ ds : List D, ds.length = (miss names rels m).length → k (.d (.tup ds)) ms
theorem ok_miss (T : TopC K mg) (GM_chk0 : MtA P w K mg base CX0 2 T.C "check_mixtures" (rStar 1 (R_chkm T.C))) {f : Addr} {fd : FuncData} (F : Fun K "missing" "Course.missing" s_Course_missing f fd) : FnOk P w K mg base CX0 3 f fd ["self", "mixture"] (spA (R_miss T.C)) := by
  refine fnA F sc_Course_missing (fun sds ms k x h => ?_) (by decide) fun cdv A outer s H E hr => ⟨_, _, (ass_cons (as_expr (ae_meth (ae_v 0) GM_chk0 (hr.mono (by first | decide | omega)) (fun _ => pass0At) (aa_cons (ae_v 1) aa_nil)))
    (ass_cons (as_set 2 sc_Course_missing.nd ae_dictT)
    (ass_cons (as_for PassesOwn.never rfl (ai_zip3 (by rfl) T.zip (ae_fld T.cls_Course T.na_names (ae_v 0)) (ae_v 1) (ae_fld T.cls_Course T.na_releases (ae_v 0))) (ag_tup rfl (ags_cons (ag_name 3 sc_Course_missing.nd) (ags_cons (ag_name 4 sc_Course_missing.nd) (ags_cons (ag_name 5 sc_Course_missing.nd) ags_nil))))
      (ass_one (as_for PassesOwn.never rfl (ai_seq (ae_ix (u1 hr) (ae_ix (u1 hr) (ae_v 5) (ae_v 4)) ae_int)) (ag_name 6 sc_Course_missing.nd)
        (ass_one (as_put (u1 hr) (ae_v 2) (ae_bin op_addA oa_add (ae_tup (aa_cons (ae_v 3) aa_nil)) (ae_v 6)) ae_bl)))))
    (ass_cons (as_set 7 sc_Course_missing.nd (ae_lstM aa_nil))
    (ass_cons (as_for PassesOwn.never rfl (ai_zip3 (by rfl) T.zip (ae_fld T.cls_Course T.na_names (ae_v 0)) (ae_v 1) (ae_fld T.cls_Course T.na_releases (ae_v 0))) (ag_tup rfl (ags_cons (ag_name 3 sc_Course_missing.nd) (ags_cons (ag_name 4 sc_Course_missing.nd) (ags_cons (ag_name 5 sc_Course_missing.nd) ags_nil))))
      (ass_one (as_expr (ae_extend (ae_v 7) (ae_lc (own := [("want", 8)]) rfl sc_Course_missing.nd (ai_seq (ae_ix (u1 hr) (ae_ix (u1 hr) (ae_v 5) (ae_v 4)) ae_int)) (blkOk_by (own := [("want", 8)]) (N := ["self", "mixture", "offered", "name", "number", "line", "offer", "found", "want"]) (sc := defScope s_Course_missing) (by decide +kernel)) (by decide) (fun _ _ _ _ _ => (ag_name 8 sc_Course_missing.nd)) (fun _ _ _ _ _ => (ats_one (AW.at (aw_or (at_cmp (opK_eq (K := K) rfl (u64 hr)) oa_eq (ae_ixK (K := K) rfl (u1 hr) (ae_v 8) ae_int) (ae_v 3) (nomark _)) (aw_or1 (at_cmp (opK_nin (K := K) rfl (u65 hr)) oa_nin (ae_v 8) (ae_v 2) (by rfl))))))) (fun _ _ _ _ _ => (ae_bin (opK_add (K := K) rfl) oa_add (ae_tup (aa_cons (ae_v 3) aa_nil)) (ae_v 8))))))))
    (ass_one (as_ret (ae_callTy call_tuple_of oa_tup (by rfl) T.tuple (by decide +kernel) (aa_cons (ae_callB (cr_sortedD (u80 hr)) oa_sorted (by rfl) T.sorted (by decide +kernel) (aa_cons (ae_v 7) aa_nil)) aa_nil))))))))), fun sds ms k x h => ?_⟩
  · obtain ⟨a, b, c, rfl, _⟩ := h; rfl
  · obtain ⟨names, rels, m, rfl, ok, q⟩ := h
    dsimp only [gam]
    have hn4 : names.length ≤ 4 := by rw [← ok.l]; exact ok.r.n.2
    walk_at "go"
    refine ⟨⟨rfl, rfl⟩, ?_⟩
    walk_at "go"
    refine ⟨[.d (crs T.C names rels)], [eM m], rfl, rfl, by show 1 ≤ sizeLine; decide, ⟨names, rels, m, rfl, ok.l, ok.r, ok.m, ?_⟩⟩
    walk_at "go"
    intro p hp
    walk_at "go"
    refine s_fld rfl ?_
    walk_at "go"
    refine s_fld rfl ?_
    refine ⟨_, _, _, rfl, rfl, rfl, ?_⟩
    refine forR_inv (fun i Γ ms' => (∃ g3 g4 g5 g6, Γ = [some (.d (crs T.C names rels)), some (.d (eM m)), some (.v (.ref p)), g3, g4, g5, g6, none, none]) ∧ ∃ kvs : List (List Key × D), ms' = mu ms p (.t kvs) ∧ kvs.length ≤ 4 * i ∧ ∀ wn : Wnt, (valD kvs (wk wn)).isSome = (List.range i).any fun k => decide (names.getD k "" = wn.1) && decide (wn.2 ∈ (rel rels m k).1)) ⟨⟨_, _, _, _, rfl⟩, [], rfl, by simp, fun _ => rfl⟩ (fun i d Γ m1 hd hP N hN => ?_) fun Γ m1 hP => ?_
    · obtain ⟨⟨g3, g4, g5, g6, rfl⟩, kvs, rfl, hkl, hkv⟩ := hP
      obtain ⟨hi, rfl⟩ := z3_at ok hd
      obtain ⟨a1, a2, a3, a4, a5, a6, a7, a8, a9, a10⟩ := ok.at hi
      have hro := ok.r.r _ a3 _ a5
      walk_at "go"
      have hof4 := hro.n1
      generalize hof : (rel rels m i).1 = ofs at hof4 ⊢
      refine forR_inv (fun j Γ ms' => (∃ g6, Γ = [some (.d (crs T.C names rels)), some (.d (eM m)), some (.v (.ref p)), some (.d (.str (names.getD i ""))), some (.d (.int (m.getD i 0 : Nat))), some (.d (eLn (rels.getD i []))), g6, none, none]) ∧ ∃ kvs : List (List Key × D), ms' = mu ms p (.t kvs) ∧ kvs.length ≤ 4 * i + j ∧ ∀ wn : Wnt, (valD kvs (wk wn)).isSome = (((List.range i).any fun k => decide (names.getD k "" = wn.1) && decide (wn.2 ∈ (rel rels m k).1)) || (decide (names.getD i "" = wn.1) && decide (wn.2 ∈ ofs.take j)))) ⟨⟨_, rfl⟩, kvs, rfl, hkl, fun wn => by rw [hkv]; simp⟩ (fun j d Γ m2 hd hP N' hN' => ?_) fun Γ m2 hP => ?_
      · obtain ⟨⟨g6, rfl⟩, kvs, rfl, hkl, hkv⟩ := hP
        rw [List.getElem?_map] at hd
        cases ho : ofs[j]? with
        | none => rw [ho] at hd; cases hd
        | some o =>
          rw [ho] at hd
          cases hd
          have hj := (List.getElem?_eq_some_iff.mp ho).1
          walk_at "go"
          refine s_addT ?_ ?_
          · exact small_len (n := 4) (by decide)
          walk_at "go"
          refine s_putT (kk := wk (names.getD i "", o)) mu_same rfl (Nat.lt_of_le_of_lt hkl (Nat.lt_of_lt_of_le (by omega) (small_len (n := 30) (by omega)))) ?_
          rw [mu_mu]
          refine hN' _ _ ⟨⟨_, rfl⟩, _, rfl, Nat.le_trans (put_len _ _ _) (by omega), fun wn => ?_⟩
          rw [valD_put, hkv, List.take_add_one, ho]
          have e1 : decide (wk (names.getD i "", o) = wk wn) = (decide (names.getD i "" = wn.1) && decide (wn.2 = o)) := by
            rw [← Bool.decide_and]
            refine decide_eq_decide.mpr ?_
            rw [wk_inj]
            constructor
            · rintro rfl; exact ⟨rfl, rfl⟩
            · rintro ⟨h1, h2⟩; rw [h1, ← h2]
          rw [e1]
          simp only [Option.toList_some, List.mem_append, List.mem_singleton, Bool.decide_or]
          cases (List.range i).any fun k => decide (names.getD k "" = wn.1) && decide (wn.2 ∈ (rel rels m k).1) <;> cases decide (names.getD i "" = wn.1) <;> cases decide (wn.2 = o) <;> cases decide (wn.2 ∈ ofs.take j) <;> rfl
      · obtain ⟨⟨g6, rfl⟩, kvs, rfl, hkl, hkv⟩ := hP
        rw [List.length_map] at hkl hkv
        rw [List.take_length] at hkv
        refine hN _ _ ⟨⟨_, _, _, _, rfl⟩, kvs, rfl, by omega, fun wn => ?_⟩
        rw [hkv, List.range_succ, List.any_append, ← hof]
        simp
    · obtain ⟨⟨g3, g4, g5, g6, rfl⟩, kvs, rfl, hkl, hkv⟩ := hP
      rw [z3_len ok] at hkv
      have hoff : ∀ wn, (valD kvs (wk wn)).isSome = offB names rels m wn := hkv
      walk_at "go"
      intro r hr0
      have hrp : r ≠ p := fun e => by subst e; rw [mu_same] at hr0; cases hr0
      have hrm : ms r = none := by rw [← mu_ne (ms := ms) (o := .t kvs) hrp]; exact hr0
      walk_at "go"
      refine s_fld rfl ?_
      walk_at "go"
      refine s_fld rfl ?_
      refine ⟨_, _, _, rfl, rfl, rfl, ?_⟩
      have hcm : ∀ X, mu (mu (mu ms p (.t kvs)) r X) p (.t kvs) = mu (mu ms p (.t kvs)) r X := fun X => mu_id (by rw [mu_ne hrp.symm, mu_same])
      refine forR_inv (fun i Γ ms' => (∃ g3 g4 g5 g8, Γ = [some (.d (crs T.C names rels)), some (.d (eM m)), some (.v (.ref p)), g3, g4, g5, g6, some (.v (.ref r)), g8]) ∧ ms' = mu (mu ms p (.t kvs)) r (.l (((List.range i).flatMap fun k => (lack names rels m k).map fun w => (names.getD k "", w)).map eX))) ⟨⟨_, _, _, _, rfl⟩, rfl⟩ (fun i d Γ m1 hd hP N hN => ?_) fun Γ m1 hP => ?_
      · obtain ⟨⟨g3, g4, g5, g8, rfl⟩, rfl⟩ := hP
        obtain ⟨hi, rfl⟩ := z3_at ok hd
        obtain ⟨a1, a2, a3, a4, a5, a6, a7, a8, a9, a10⟩ := ok.at hi
        have hro := ok.r.r _ a3 _ a5
        have hsn : ((List.range (i + 1)).flatMap fun k => (lack names rels m k).map fun w => (names.getD k "", w)) = ((List.range i).flatMap fun k => (lack names rels m k).map fun w => (names.getD k "", w)) ++ (lack names rels m i).map fun w => (names.getD i "", w) := by
          rw [List.range_succ, List.flatMap_append]; simp
        have hln := miss_len ok i (by omega)
        rw [hsn] at hN
        generalize ((List.range i).flatMap fun k => (lack names rels m k).map fun w => (names.getD k "", w)) = acc at hln hN ⊢
        have hpp : ∀ X, mu (mu ms p (.t kvs)) r X p = some (.t kvs) := fun X => by rw [mu_ne hrp.symm, mu_same]
        walk_at "go"
        refine lcI_fm (xs := (rel rels m i).2) (enc := eW) (f := fun w => eX (names.getD i "", w)) (p := fun w => decide (w.1 = names.getD i "") || !offB names rels m w) (small_len (by have := hro.n2; omega)) (fun w hwm acc2 N2 hz hN2 => ?_) ?_
        · have hwk := hro.w w hwm
          have add : (decide (w.1 = names.getD i "") || !offB names rels m w) = true → N2 (acc2 ++ [eX (names.getD i "", w)]) (mu (mu ms p (.t kvs)) r (.l (acc.map eX))) := fun e => by
            rw [if_pos e] at hN2; exact hN2
          walk_at "go"
          refine s_ite (fun e1 => ?_) (fun e1 => ?_)
          · walk_at "go"
            refine s_addT ?_ ?_
            · exact small_len (n := 5) (by decide)
            exact ⟨hz, add (by simp at e1; simp [e1])⟩
          · walk_at "go"
            refine s_inT (ks := wk w) (hpp _) rfl ?_
            rw [hoff]
            walk_at "go"
            refine s_ite (fun e2 => ?_) (fun e2 => ?_)
            · walk_at "go"
              refine s_addT ?_ ?_
              · exact small_len (n := 5) (by decide)
              exact ⟨hz, add (by simp at e2; simp [e2])⟩
            · rw [if_neg (by simp at e1 e2; simp [e1, e2]), List.append_nil] at hN2
              exact hN2
        have hlk : (lack names rels m i).length ≤ 6 := Nat.le_trans (List.length_filter_le _ _) hro.n2
        refine s_oExt (es := (lack names rels m i).map fun w => eX (names.getD i "", w)) rfl mu_same (small_len (by rw [List.length_map, List.length_map]; omega)) ?_
        rw [mu_mu]
        refine hN _ _ ⟨⟨_, _, _, _, rfl⟩, ?_⟩
        rw [List.map_append, List.map_map]
        rfl
      · obtain ⟨⟨g3, g4, g5, g8, rfl⟩, rfl⟩ := hP
        rw [z3_len ok]
        walk_at "go"
        refine s_sortX (lstOf_m mu_same) (fun o ho => ?_) (Nat.le_trans (miss_len ok _ (Nat.le_refl _)) (by omega)) fun ds hds => ?_
        · obtain ⟨k, hk, ho⟩ := List.mem_flatMap.mp ho
          obtain ⟨wn, hw, rfl⟩ := List.mem_map.mp ho
          obtain ⟨a1, a2, a3, a4, a5, a6, _⟩ := ok.at (List.mem_range.mp hk)
          exact ⟨ok.n _ a6, (ok.r.r _ a3 _ a5).w _ (List.mem_filter.mp hw).1⟩
        · walk_at "go"
          refine .inl ⟨ms, fun b o e => ?_, q ds hds⟩
          have h1 : b ≠ r := fun z => by subst z; rw [hrm] at e; cases e
          have h2 : b ≠ p := fun z => by subst z; rw [hp] at e; cases e
          rw [mu_ne h1, mu_ne h2]; exact e
end
end R76

/-! ## K76n -/
set_option Elab.async false
set_option linter.all false
set_option maxRecDepth 100000
set_option maxHeartbeats 4000000
namespace AL
open PySem PySem.Spec PyProof.Rows L2
section
variable {P : Program} {w : World} {K : PySem.W.Frag} {mg : Str → Option Value} {base : Heap} {x qual : Str} {st : Stmt} {f : Addr} {fd : FuncData} {N ps : List Str} {k : Nat} {R : AFn}
abbrev WN : WX := fun _ _ _ _ => False
/-- a def that catches what it meets -/
theorem fnA0 (F : Fun K x qual st f fd) (S : FnScope N ps (defScope st)) (len : ∀ sds ms k x, R sds ms k x → sds.length = ps.length) (hN : ps.length ≤ N.length)
    (hbody : ∀ (cdv : Value) (A : Around) (outer : List Env) (s : Shared) (H : Hp) (E : XK), Room k (A.deeper (envOfC qual (defScope st) s.heap.objs.size f cdv)) →
      ∃ t r, ASs (cxOf CX0 P w K mg base N qual (defScope st) f cdv A outer s H E).nox WN (defBody st) t r ∧ ∀ sds ms k x, R sds ms k x → r (aEnd k noX) (gam N sds) ms) :
    FnOk P w K mg base CX0 (k + 1) f fd ps (spA R) := by
  refine F.ok S (fun vs H Q E h => ?_) (fun cdv A outer s H vs Q E hr h => ?_)
  · obtain ⟨sds, G, F, ms, kk, xx, s, g, q, _⟩ := h
    rw [s.length, len _ _ _ _ q]
  · obtain ⟨t, r, hb, hR⟩ := hbody cdv A outer s H E hr
    refine ⟨t, hb.pe, ?_⟩
    obtain ⟨sds, G, F, ms, kk, xx, s, g, q, kq, xe⟩ := h
    have hl : sds.length ≤ N.length := by rw [len _ _ _ _ q]; exact hN
    exact hb.ok _ _ _ (hR sds ms kk xx q) _ H G F _ (by rw [gam_eq N sds hl]; exact eok_start s hl) g ⟨fun σ' H' G' Γ' ms' e' ev' g' q' => out_ok kq _ H' G' _ ms' e' g' (okd .non) q', out_ok kq, fun _ _ _ _ _ _ _ _ z => z.elim, fun _ _ _ _ _ _ _ _ z => z.elim, fun σ' Γ' G' e' ev' => xw_no⟩
end
end AL
namespace R76
open PySem PySem.Spec PyProof.Rows L2 AL
open Evl (Ex)
local macro_rules | `(tactic| walk_at "st") => `(tactic| first
  | (with_reducible refine' s_seq ?_) | (with_reducible refine' s_set ?_) | (with_reducible refine' s_nx ?_) | (with_reducible refine' s_ret ?_) | (with_reducible refine' s_drop ?_) | (with_reducible refine' s_asg ?_) | (with_reducible refine' s_for ?_) | (with_reducible refine' s_tt ?_) | (with_reducible refine' s_ff ?_) | (with_reducible refine' s_lcS ?_) | (with_reducible refine' s_put ?_) | (with_reducible refine' s_app ?_) | (with_reducible refine' s_ext ?_)
  | (with_reducible refine' s_gN ?_) | ((with_reducible refine' s_v ?e ?_); (case e => rfl)) | (with_reducible refine' s_asB ?_) | (with_reducible refine' s_asI ?_) | (with_reducible refine' s_asD ?_) | (with_reducible refine' s_nil ?_) | (with_reducible refine' s_cons ?_)
  | (with_reducible refine' s_addI ?_) | (with_reducible refine' s_I0 ?_) | (with_reducible refine' s_neg ?_) | (with_reducible refine' s_eqI ?_) | (with_reducible refine' s_eqS ?_) | (with_reducible refine' s_ltI ?_) | (with_reducible refine' s_isN ?_) | (with_reducible refine' s_int ?_) | (with_reducible refine' s_abs ?_)
  | ((with_reducible refine' s_len ?e ?_); (case e => first | rfl | exact seqOf_m (by assumption) | exact seqOf_m mu_same))
  | ((with_reducible refine' s_ix ?e ?e2 ?_); (case e => first | rfl | exact seqOf_m (by assumption) | exact seqOf_m mu_same); (case e2 => first | rfl | assumption | exact atI_nat (j := 0) rfl | exact atI_nat (j := 1) rfl | exact atI_nat (j := 2) rfl | exact atI_nat (j := 3) rfl))
  | ((with_reducible refine' s_putL ?e ?e2 ?_); (case e => first | assumption | exact mu_same); (case e2 => first | rfl | assumption))
  | ((with_reducible refine' s_oL ?e ?_); (case e => first | assumption | exact mu_same))
  | ((with_reducible refine' s_dat ?e ?_); (case e => rfl)) | ((with_reducible refine' s_rng ?e ?_); (case e => exact ⟨by omega, by omega⟩))
  | ((with_reducible refine' s_I ?c ?_); (case c => first | assumption | exact ⟨by omega, by omega⟩ | exact ⟨by decide, by decide, by decide⟩ | exact Or.inl ⟨by omega, by omega⟩ | exact Or.inr ⟨by omega, by omega⟩ | (show (0 : Int) < _; omega) | (show (0 : Int) ≤ _; omega)))
  | (with_reducible refine' s_slT ?_) | (with_reducible refine' s_slL ?_) | (with_reducible refine' s_gC ?_) | ((with_reducible refine' s_gT ?e ?_); (case e => rfl))
  | ((with_reducible refine' s_tup ?e ?_); (case e => first | rfl | exact seqOf_m (by assumption) | exact seqOf_m mu_same))
  | ((with_reducible refine' s_list ?e ?_); (case e => first | rfl | exact seqOf_m (by assumption) | exact seqOf_m mu_same))
  | ((with_reducible refine' s_isi ?e ?e2 ?_); (case e => rfl); (case e2 => rfl))
  | (with_reducible refine' s_max ?_)
  | ((with_reducible refine' And.intro ?r ?_); (case r => with_reducible rfl)))
local macro_rules | `(tactic| walk_at "one") => `(tactic| first | (with_reducible refine' s_if ?_) | walk_at "st")
local macro_rules | `(tactic| walk_at "up") => `(tactic| repeat walk_at "st")
local macro_rules | `(tactic| walk_at "go") => `(tactic| repeat walk_at "one")
local macro_rules | `(tactic| walk_at "all") => `(tactic| repeat' (first | walk_at "one" | (refine s_ite (fun _ => ?_) (fun _ => ?_))))

/-- .. which clause takes which error -/
structure TopE (K : PySem.W.Frag) (mg : Str → Option Value) extends TopX K mg where
  e_BN : PySem.W.exmOne K (.ref CB) (.ref CN) = some false
  e_BB : PySem.W.exmOne K (.ref CB) (.ref CB) = some true
  e_NN : PySem.W.exmOne K (.ref CN) (.ref CN) = some true
theorem s_byF {C : Addr} {f : Str} {a : Addr} {cls : Value} {d : Option Addr} {re : AER} {Γ : Gam} {ms : MS} {k : SD → MS → Prop} {x : AX} (h : re Γ ms (fun u ms1 => cls = .ref C ∧ ∃ dd dv, u = .e a C dd f dv ∧ d = some dd ∧ k (.d dv) ms1) x) : rByF C f a cls d re Γ ms k x := h
section
variable {P : Program} {w : World} {K : PySem.W.Frag} {mg : Str → Option Value} {base : Heap}
abbrev s_mend : Stmt := (topS 18)
theorem sc_mend : FnScope ["course", "mixture", "best", "other", "changes", "device"] ["course", "mixture"] (defScope s_mend) := ⟨rfl, rfl, rfl, by decide +kernel, rfl, by decide +kernel, by decide +kernel⟩

def R_mend (C CB CN : Addr) : AFn := fun sds ms k x => ∃ names rels d, sds = [.d (crs C names rels), .d d] ∧ rels.length = names.length ∧ RelsOk rels ∧ (∀ z ∈ names, sok z) ∧
  ((∃ m, d = eM m ∧ Vm (sizesOf rels) m ∧ (bestP names rels m = none → x CN "lot" (.tup []) ms) ∧ ∀ b, bestP names rels m = some b → k (.d (eM b.2)) ms) ∨ (Bad names rels d ∧ x CB "mixture" d ms))
theorem ok_mend (T : TopE K mg) (GM_check_mixtures : MtA P w K mg base (L2.CX P w) 2 T.C "check_mixtures" (rStar 1 (Rx_chkm T.C T.CB))) (GM_mixtures : MtA P w K mg base CX0 1 T.C "mixtures" (R_mxs T.C)) (GM_missing : MtA P w K mg base CX0 3 T.C "missing" (R_miss T.C))
    {f : Addr} {fd : FuncData} (F : Fun K "mend" "mend" s_mend f fd) : FnOk P w K mg base (L2.CX P w) 4 f fd ["course", "mixture"] (spA (R_mend T.C T.CB T.CN)) := by
  refine fnAX F sc_mend (fun sds ms k x h => ?_) (by decide) fun cdv A outer s H E hr => ⟨_, _, (ass_cons (as_expr (ae_meth (ae_v 0) GM_check_mixtures (hr.mono (by first | decide | omega)) (fun σ => passAt (takes_of rfl rfl rfl rfl) σ) (aa_cons (ae_v 1) aa_nil)))
    (ass_cons (as_set 2 sc_mend.nd ae_non)
    (ass_cons (as_for (passes_of rfl) rfl (ai_seq (ae_meth0 (ae_v 0) GM_mixtures (hr.mono (by first | decide | omega)) (fun _ => pass0At))) (ag_name 3 sc_mend.nd)
      (ass_one (as_if (at_cmp (op_eqA (u64 hr)) oa_eq (ae_callB call_len oa_len (by rfl) T.len (by decide +kernel) (aa_cons (ae_meth (ae_v 0) GM_missing (hr.mono (by first | decide | omega)) (fun _ => pass0At) (aa_cons (ae_v 3) aa_nil)) aa_nil)) ae_int (nomark _)) (ass_cons (as_set 4 sc_mend.nd (ae_callB call_len oa_len (by rfl) T.len (by decide +kernel) (aa_cons (ae_lc (own := [("device", 5)]) rfl sc_mend.nd (ai_range1 (by rfl) T.range (ae_callB call_len oa_len (by rfl) T.len (by decide +kernel) (aa_cons (ae_v 3) aa_nil))) (blkOk_by (own := [("device", 5)]) (N := ["course", "mixture", "best", "other", "changes", "device"]) (sc := defScope s_mend) (by decide +kernel)) (by decide) (fun _ _ _ _ _ => (ag_name 5 sc_mend.nd)) (fun _ _ _ _ _ => (ats_one (at_cmp (opK_ne (K := K) rfl (u64 hr)) oa_ne (ae_ixK (K := K) rfl (u1 hr) (ae_v 3) (ae_v 5)) (ae_ixK (K := K) rfl (u1 hr) (ae_v 1) (ae_v 5)) (nomark _)))) (fun _ _ _ _ _ => (ae_v 5))) aa_nil)))
        (ass_one (as_if (AW.at (aw_or (at_cmp op_isN oa_isN (ae_v 2) ae_non (nomark _)) (aw_or1 (at_cmp (op_ltA (u64 hr)) oa_lt (ae_v 4) (ae_ix (u1 hr) (ae_v 2) ae_int) (nomark _))))) (ass_one (as_set 2 sc_mend.nd (ae_tup (aa_cons (ae_v 4) (aa_cons (ae_v 3) aa_nil))))) ass_nil))) ass_nil)))
    (ass_cons (as_if (at_cmp op_isN oa_isN (ae_v 2) ae_non (nomark _)) (ass_one (as_raise rfl (takes_of rfl rfl rfl rfl) (ae_tup aa_nil) (L2.pmk_low_NoWave T.x_NoWave hr (AA.pe (W := W0) (aa_cons (ae_tup aa_nil) aa_nil))))) ass_nil)
    (ass_one (as_ret (ae_ix (u1 hr) (ae_v 2) ae_int))))))), fun sds ms k x h => ?_⟩
  · obtain ⟨a, b, c, rfl, _⟩ := h; rfl
  · obtain ⟨names, rels, d, rfl, hl, hr, hns, q⟩ := h
    have hsl : (sizesOf rels).length = rels.length := List.length_map ..
    dsimp only [gam]
    walk_at "go"
    refine ⟨⟨rfl, rfl⟩, ?_⟩
    walk_at "go"
    refine ⟨[.d (crs T.C names rels)], [d], rfl, rfl, by show 1 ≤ sizeLine; decide, names, rels, d, rfl, hl, hr, ?_⟩
    rcases q with ⟨m, rfl, hm, qn, qs⟩ | ⟨hb, q⟩
    · refine .inl ⟨m, rfl, hm, ?_⟩
      walk_at "go"
      refine ⟨⟨rfl, rfl⟩, ?_⟩
      refine ⟨names, rels, rfl, hr, ?_⟩
      refine s_dat rfl ?_
      have hfold : bestP names rels m = (mixes (sizesOf rels)).foldl (fun st o => if goodB names rels o = true then stepM m st o else st) none := best_eq m (goodB names rels) (sizesOf rels)
      have hall : ∀ o ∈ mixes (sizesOf rels), AllOk names rels o := fun o ho => ⟨hl, hr, hns, (mixes_ok _).1 o ho⟩
      generalize mixes (sizesOf rels) = ms0 at hfold hall ⊢
      refine forR_inv (fun i Γ ms' => ms' = ms ∧ ∃ g3 g4, Γ = [some (.d (crs T.C names rels)), some (.d (eM m)), some (.d (bB ((ms0.take i).foldl (fun st o => if goodB names rels o = true then stepM m st o else st) none))), g3, g4, none]) ⟨rfl, _, _, rfl⟩ (fun i d Γ m1 hd hP N hN => ?_) fun Γ m1 hP => ?_
      · obtain ⟨rfl, g3, g4, rfl⟩ := hP
        rw [List.getElem?_map] at hd
        cases ho : ms0[i]? with
        | none => rw [ho] at hd; cases hd
        | some o =>
          rw [ho] at hd
          cases hd
          have hok := hall o (List.mem_of_getElem? ho)
          have hst : (ms0.take (i + 1)).foldl (fun st o => if goodB names rels o = true then stepM m st o else st) none = if goodB names rels o = true then stepM m ((ms0.take i).foldl (fun st o => if goodB names rels o = true then stepM m st o else st) none) o else ((ms0.take i).foldl (fun st o => if goodB names rels o = true then stepM m st o else st) none) := by
            rw [List.take_add_one, ho, List.foldl_append]; rfl
          rw [hst] at hN
          generalize (ms0.take i).foldl (fun st o => if goodB names rels o = true then stepM m st o else st) none = st at hN ⊢
          have hlm : (o.map fun i : Nat => D.int i).length = o.length := List.length_map ..
          have hol : o.length = rels.length := by rw [hok.m.1, hsl]
          have hml : m.length = rels.length := by rw [hm.1, hsl]
          have hr4 := hr.n.2
          walk_at "go"
          refine ⟨⟨rfl, rfl⟩, ?_⟩
          walk_at "go"
          refine ⟨names, rels, o, rfl, hok, fun ds hds => ?_⟩
          walk_at "go"
          rw [hds]
          refine s_ite (fun e => ?_) (fun e => ?_)
          · have hg : goodB names rels o = true := by unfold goodB; simp at e ⊢; exact e
            rw [if_pos hg] at hN
            walk_at "go"
            rw [hlm]
            refine lcI_fm (xs := List.range o.length) (enc := fun i : Nat => D.int (0 + (i : Int))) (f := fun i : Nat => D.int (0 + (i : Int))) (p := fun i => !decide (o.getD i 0 = m.getD i 0)) (small_len (by rw [List.length_range]; omega)) (fun i hi acc N2 hz hN2 => ?_) ?_
            · have hi := List.mem_range.mp hi
              have e1 : atI (o.map fun i : Nat => D.int i) (0 + (i : Int)) = some (.int (o.getD i 0 : Nat)) := by rw [Int.zero_add]; exact atI_nat (by rw [List.getElem?_map, getD_ok (x := 0) hi]; rfl)
              have e2 : atI (m.map fun i : Nat => D.int i) (0 + (i : Int)) = some (.int (m.getD i 0 : Nat)) := by rw [Int.zero_add]; exact atI_nat (by rw [List.getElem?_map, getD_ok (x := 0) (by omega)]; rfl)
              walk_at "go"
              refine s_ite (fun e => ?_) (fun e => ?_)
              · rw [if_pos (by simp at e ⊢; omega)] at hN2
                walk_at "go"
                exact ⟨hz, hN2⟩
              · rw [if_neg (by simp at e ⊢; omega), List.append_nil] at hN2
                exact hN2
            have hch : ((List.map (fun i : Nat => D.int (0 + (i : Int))) (List.filter (fun i => !decide (o.getD i 0 = m.getD i 0)) (List.range o.length))).length : Int) = (chg m o : Nat) := by rw [List.length_map]; rfl
            walk_at "up"
            rw [hch]
            cases st with
            | none =>
              walk_at "go"
              refine s_iteT rfl ?_
              walk_at "go"
              exact hN _ _ ⟨rfl, _, _, rfl⟩
            | some b =>
              obtain ⟨c, b⟩ := b
              walk_at "go"
              refine s_iteF rfl ?_
              walk_at "go"
              refine s_ite (fun e => ?_) (fun e => ?_)
              · have e2 : stepM m (some (c, b)) o = some (chg m o, o) := if_pos (by simp at e; omega)
                rw [e2] at hN
                walk_at "go"
                exact hN _ _ ⟨rfl, _, _, rfl⟩
              · have e2 : stepM m (some (c, b)) o = some (c, b) := if_neg (by simp at e; omega)
                rw [e2] at hN
                exact hN _ _ ⟨rfl, _, _, rfl⟩
          · have hg : goodB names rels o = false := by unfold goodB; simp at e ⊢; exact e
            rw [if_neg (by rw [hg]; exact Bool.false_ne_true)] at hN
            exact hN _ _ ⟨rfl, _, _, rfl⟩
      · obtain ⟨rfl, g3, g4, rfl⟩ := hP
        rw [List.length_map, List.take_length, ← hfold]
        cases hb : bestP names rels m with
        | none =>
          walk_at "go"
          refine s_iteT rfl ?_
          (with_reducible refine' s_raise ?_)
          walk_at "go"
          exact qn hb
        | some b =>
          walk_at "go"
          refine s_iteF rfl ?_
          walk_at "go"
          exact Out.here (qs b hb)
    · exact .inr ⟨hb, q⟩
abbrev s_law_asked : Stmt := (topS 31)
theorem sc_law_asked : FnScope ["course", "mixture", "e"] ["course", "mixture"] (defScope s_law_asked) := ⟨rfl, rfl, rfl, by decide +kernel, rfl, by decide +kernel, by decide +kernel⟩

def R_asked (C : Addr) : AFn := fun sds ms k _ => ∃ names rels d, sds = [.d (crs C names rels), .d d] ∧ rels.length = names.length ∧ RelsOk rels ∧ (∀ z ∈ names, sok z) ∧
  ((∃ m, d = eM m ∧ Vm (sizesOf rels) m ∧ k (.d (outc names rels m)) ms) ∨ (Bad names rels d ∧ k (.d (.tup [.str "mixture", d])) ms))
theorem ok_asked (T : TopE K mg) (G_mend : FnA P w K mg base (L2.CX P w) 4 "mend" (R_mend T.C T.CB T.CN))
    {f : Addr} {fd : FuncData} (F : Fun K "_law_asked" "_law_asked" s_law_asked f fd) : FnOk P w K mg base CX0 5 f fd ["course", "mixture"] (spA (R_asked T.C)) := by
  refine fnA0 F sc_law_asked (fun sds ms k x h => ?_) (by decide) fun cdv A outer s H E hr => ⟨_, _, (ass_one (as_try rfl rfl takes0 (fun W pn xe tk => (ass_one (as_ret (ae_tup (aa_cons ae_str (aa_cons (ae_call G_mend (hr.mono (by first | decide | omega)) (fun σ => passAt tk σ) (by rfl) (aa_cons (ae_v 0) (aa_cons (ae_v 1) aa_nil))) aa_nil))))))
      (.named ⟨rfl, by decide, .inl T.x_NoWave.gC⟩ sc_law_asked.nd (i := 2) rfl rfl (fun a oe cls d pn hz hf => (ass_one (as_ret (ae_tup (aa_cons ae_str (aa_cons (ae_byF (ae_v 2) (L2.pe_byLow_NoWave T.x_NoWave hz hf (AE.pe (W := W0) (ae_v 2)))) aa_nil)))))) (.named ⟨rfl, by decide, .inl T.x_BadMixture.gC⟩ sc_law_asked.nd (i := 2) rfl rfl (fun a oe cls d pn hz hf => (ass_one (as_ret (ae_tup (aa_cons ae_str (aa_cons (ae_byF (ae_v 2) (L2.pe_byLow_BadMixture T.x_BadMixture hz hf (AE.pe (W := W0) (ae_v 2)))) aa_nil)))))) .nil)))), fun sds ms k x h => ?_⟩
  · obtain ⟨a, b, c, rfl, _⟩ := h; rfl
  · obtain ⟨names, rels, d, rfl, hl, hr, hns, q⟩ := h
    dsimp only [gam]
    walk_at "go"
    refine (show rRet _ _ _ _ from ?_)
    walk_at "go"
    refine ⟨names, rels, d, rfl, hl, hr, hns, ?_⟩
    rcases q with ⟨m, rfl, hm, q⟩ | ⟨hb, q⟩
    · refine .inl ⟨m, rfl, hm, fun hn => ?_, fun b hb => ?_⟩
      · refine ⟨true, T.e_NN, fun _ a dd => ?_, fun h => by cases h⟩
        have e : outc names rels m = .tup [.str "lot", .tup []] := by unfold outc; rw [hn]
        rw [e] at q
        refine s_ret ?_
        refine s_byF ?_
        refine s_v rfl ?_
        refine ⟨rfl, _, _, rfl, rfl, ?_⟩
        walk_at "go"
        exact Out.here q
      · have e : outc names rels m = .tup [.str "good", eM b.2] := by unfold outc; rw [hb]
        rw [e] at q
        walk_at "go"
        exact Out.here q
    · refine .inr ⟨hb, ?_⟩
      refine ⟨false, T.e_BN, ?_, ?_⟩
      · intro h; cases h
      intro _
      refine ⟨true, T.e_BB, fun _ a dd => ?_, fun h => by cases h⟩
      refine s_ret ?_
      refine s_byF ?_
      refine s_v rfl ?_
      refine ⟨rfl, _, _, rfl, rfl, ?_⟩
      walk_at "go"
      exact Out.here q
end
end R76

/-! ## K76o -/
set_option Elab.async false
set_option linter.all false
set_option maxRecDepth 100000
set_option maxHeartbeats 4000000
namespace R76
open PySem PySem.Spec PyProof.Rows L2 AL
open Evl (Ex)
local macro_rules | `(tactic| walk_at "st") => `(tactic| first
  | (with_reducible refine' s_seq ?_) | (with_reducible refine' s_set ?_) | (with_reducible refine' s_nx ?_) | (with_reducible refine' s_ret ?_) | (with_reducible refine' s_drop ?_) | (with_reducible refine' s_asg ?_) | (with_reducible refine' s_for ?_) | (with_reducible refine' s_tt ?_) | (with_reducible refine' s_ff ?_) | (with_reducible refine' s_lcS ?_) | (with_reducible refine' s_put ?_) | (with_reducible refine' s_app ?_) | (with_reducible refine' s_ext ?_)
  | (with_reducible refine' s_gN ?_) | ((with_reducible refine' s_v ?e ?_); (case e => rfl)) | (with_reducible refine' s_asB ?_) | (with_reducible refine' s_asI ?_) | (with_reducible refine' s_asD ?_) | (with_reducible refine' s_nil ?_) | (with_reducible refine' s_cons ?_)
  | (with_reducible refine' s_addI ?_) | (with_reducible refine' s_I0 ?_) | (with_reducible refine' s_neg ?_) | (with_reducible refine' s_eqI ?_) | (with_reducible refine' s_eqS ?_) | (with_reducible refine' s_ltI ?_) | (with_reducible refine' s_isN ?_) | (with_reducible refine' s_int ?_) | (with_reducible refine' s_abs ?_)
  | ((with_reducible refine' s_len ?e ?_); (case e => first | rfl | exact seqOf_m (by assumption) | exact seqOf_m mu_same))
  | ((with_reducible refine' s_ix ?e ?e2 ?_); (case e => first | rfl | exact seqOf_m (by assumption) | exact seqOf_m mu_same); (case e2 => first | rfl | assumption | exact atI_nat (j := 0) rfl | exact atI_nat (j := 1) rfl | exact atI_nat (j := 2) rfl | exact atI_nat (j := 3) rfl))
  | ((with_reducible refine' s_putL ?e ?e2 ?_); (case e => first | assumption | exact mu_same); (case e2 => first | rfl | assumption))
  | ((with_reducible refine' s_oL ?e ?_); (case e => first | assumption | exact mu_same))
  | ((with_reducible refine' s_dat ?e ?_); (case e => rfl)) | ((with_reducible refine' s_rng ?e ?_); (case e => exact ⟨by omega, by omega⟩))
  | ((with_reducible refine' s_I ?c ?_); (case c => first | assumption | exact ⟨by omega, by omega⟩ | exact ⟨by decide, by decide, by decide⟩ | exact Or.inl ⟨by omega, by omega⟩ | exact Or.inr ⟨by omega, by omega⟩ | (show (0 : Int) < _; omega) | (show (0 : Int) ≤ _; omega)))
  | (with_reducible refine' s_slT ?_) | (with_reducible refine' s_slL ?_) | (with_reducible refine' s_gC ?_) | ((with_reducible refine' s_gT ?e ?_); (case e => rfl))
  | ((with_reducible refine' s_tup ?e ?_); (case e => first | rfl | exact seqOf_m (by assumption) | exact seqOf_m mu_same))
  | ((with_reducible refine' s_list ?e ?_); (case e => first | rfl | exact seqOf_m (by assumption) | exact seqOf_m mu_same))
  | ((with_reducible refine' s_isi ?e ?e2 ?_); (case e => rfl); (case e2 => rfl))
  | (with_reducible refine' s_max ?_)
  | ((with_reducible refine' And.intro ?r ?_); (case r => with_reducible rfl)))
local macro_rules | `(tactic| walk_at "one") => `(tactic| first | (with_reducible refine' s_if ?_) | walk_at "st")
local macro_rules | `(tactic| walk_at "up") => `(tactic| repeat walk_at "st")
local macro_rules | `(tactic| walk_at "go") => `(tactic| repeat walk_at "one")
local macro_rules | `(tactic| walk_at "all") => `(tactic| repeat' (first | walk_at "one" | (refine s_ite (fun _ => ?_) (fun _ => ?_))))

theorem fold_min (m : List Nat) : ∀ (l : List (List Nat)) (st : Option (Nat × List Nat)) (c : Nat) (b : List Nat), l.foldl (stepL m) st = some (c, b) →
    ((b ∈ l ∧ c = chg m b) ∨ st = some (c, b)) ∧ (∀ o ∈ l, c ≤ chg m o) ∧ ∀ c0 b0, st = some (c0, b0) → c ≤ c0
  | [], st, c, b, h => by
    have h : st = some (c, b) := h
    subst h
    exact ⟨.inr rfl, by simp, fun c0 b0 e => by cases e; exact Nat.le_refl _⟩
  | o :: l, st, c, b, h => by
    rw [List.foldl_cons] at h
    obtain ⟨h1, h2, h3⟩ := fold_min m l _ c b h
    have hs : ∃ c1 b1, stepL m st o = some (c1, b1) ∧ c1 ≤ chg m o ∧ (∀ c0 b0, st = some (c0, b0) → c1 ≤ c0) ∧ ((b1 = o ∧ c1 = chg m o) ∨ st = some (c1, b1)) := by
      cases st with
      | none => exact ⟨_, _, rfl, Nat.le_refl _, fun _ _ e => by (cases e), .inl ⟨rfl, rfl⟩⟩
      | some p =>
        obtain ⟨c0, b0⟩ := p
        by_cases q : chg m o < c0 ∨ (chg m o = c0 ∧ ltL o b0 = true)
        · exact ⟨_, _, if_pos q, Nat.le_refl _, fun c1 b1 e => by cases e; omega, .inl ⟨rfl, rfl⟩⟩
        · exact ⟨c0, b0, if_neg q, by omega, fun c1 b1 e => by cases e; exact Nat.le_refl _, .inr rfl⟩
    obtain ⟨c1, b1, e, k1, k2, k3⟩ := hs
    have hc1 := h3 c1 b1 e
    refine ⟨?_, fun o' ho' => ?_, fun c0 b0 e0 => Nat.le_trans hc1 (k2 c0 b0 e0)⟩
    · rcases h1 with ⟨hb, hc⟩ | h1
      · exact .inl ⟨List.mem_cons_of_mem _ hb, hc⟩
      · rw [e] at h1
        cases h1
        rcases k3 with ⟨rfl, rfl⟩ | k3
        · exact .inl ⟨List.mem_cons_self .., rfl⟩
        · exact .inr k3
    · rcases List.mem_cons.mp ho' with rfl | h
      · exact Nat.le_trans hc1 k1
      · exact h2 o' h
theorem chg_self (m : List Nat) : chg m m = 0 := by
  unfold chg
  rw [List.length_eq_zero_iff, List.filter_eq_nil_iff]
  intro i _
  simp
theorem chg_zero {m o : List Nat} (hl : o.length = m.length) (h : chg m o = 0) : o = m := by
  unfold chg at h
  rw [List.length_eq_zero_iff, List.filter_eq_nil_iff] at h
  refine List.ext_getElem hl fun i h1 h2 => ?_
  have := h i (List.mem_range.mpr h1)
  simp at this
  rw [List.getElem?_eq_getElem h1, List.getElem?_eq_getElem h2] at this
  simpa using this
section
variable {names : List Str} {rels : List (List Rel)} {m : List Nat}
theorem goods_vm {o : List Nat} (h : o ∈ goods names rels) : Vm (sizesOf rels) o := (mixes_ok _).1 o (List.mem_filter.mp h).1
theorem best_mem {b : Nat × List Nat} (h : bestP names rels m = some b) : b.2 ∈ goods names rels := by
  obtain ⟨c, b⟩ := b
  rcases (fold_min m _ none c b h).1 with ⟨h, _⟩ | h
  · exact h
  · cases h
theorem best_none : bestP names rels m = none ↔ goods names rels = [] := by
  have h := fold_none m (goods names rels)
  constructor
  · intro e
    rw [show List.foldl (stepL m) none (goods names rels) = none from e] at h
    exact List.isEmpty_iff.mp h.symm
  · intro e
    unfold bestP
    rw [e]; rfl
/-- mend of a good mixture is itself -/
theorem best_self (h : m ∈ goods names rels) : ∃ c, bestP names rels m = some (c, m) := by
  cases e : bestP names rels m with
  | none => rw [best_none.mp e] at h; simp at h
  | some b =>
    obtain ⟨c, b⟩ := b
    obtain ⟨h1, h2, _⟩ := fold_min m _ none c b e
    have hc := h2 m h
    rw [chg_self] at hc
    rcases h1 with ⟨hb, hcb⟩ | h1
    · have := chg_zero (m := m) (o := b) (by rw [(goods_vm hb).1, (goods_vm h).1]) (by omega)
      subst this
      exact ⟨_, rfl⟩
    · cases h1
theorem outc_best {b : Nat × List Nat} (h : bestP names rels m = some b) : outc names rels b.2 = outc names rels m := by
  obtain ⟨c, e⟩ := best_self (best_mem h)
  unfold outc
  rw [h, e]
theorem goods_len (hr : RelsOk rels) : (goods names rels).length ≤ 256 := by
  refine Nat.le_trans (List.length_filter_le _ _) (Nat.le_trans (mixes_len _ (sizes_le hr)) (pow4 ?_))
  unfold sizesOf
  rw [List.length_map]
  exact hr.n.2
end
/-! ### depth of data -/
theorem dp_at {d : D} (h : dAt d) : ∀ n, dDp n d
  | 0 => h
  | _ + 1 => .inl h
theorem dp_int (i : Int) (n : Nat) : dDp n (.int i) := dp_at (.inr (.inr (.inl ⟨_, rfl⟩))) n
theorem dp_str (z : Str) (n : Nat) : dDp n (.str z) := dp_at (.inr (.inr (.inr ⟨_, rfl⟩))) n
theorem dp_tup {l : List D} {n : Nat} (hl : l.length ≤ 1000) (h : ∀ e ∈ l, dDp n e) : dDp (n + 1) (.tup l) := .inr ⟨l, .inl rfl, hl, h⟩
theorem dp_lst {l : List D} {n : Nat} (hl : l.length ≤ 1000) (h : ∀ e ∈ l, dDp n e) : dDp (n + 1) (.lst l) := .inr ⟨l, .inr rfl, hl, h⟩
theorem dp_eO (o : Off) (n : Nat) : dDp (n + 1) (eO o) := dp_tup (by simp) fun d hd => by
  simp only [List.mem_cons, List.not_mem_nil, or_false] at hd
  rcases hd with rfl | rfl | rfl
  · exact dp_str _ _
  · exact dp_int _ _
  · exact dp_int _ _
theorem dp_eW (o : Wnt) (n : Nat) : dDp (n + 1) (eW o) := dp_tup (by simp) fun d hd => by
  simp only [List.mem_cons, List.not_mem_nil, or_false] at hd
  rcases hd with rfl | rfl | rfl | rfl
  · exact dp_str _ _
  · exact dp_str _ _
  · exact dp_int _ _
  · exact dp_int _ _
theorem dp_eLs {rels : List (List Rel)} (h : RelsOk rels) (n : Nat) : dDp (n + 5) (eLs rels) := by
  refine dp_tup (by rw [List.length_map]; have := h.n.2; omega) fun d hd => ?_
  obtain ⟨l, hl, rfl⟩ := List.mem_map.mp hd
  refine dp_tup (by rw [List.length_map]; have := (h.l l hl).2; omega) fun d hd => ?_
  obtain ⟨r, hr, rfl⟩ := List.mem_map.mp hd
  have hro := h.r l hl r hr
  refine dp_tup (by simp) fun d hd => ?_
  simp only [List.mem_cons, List.not_mem_nil, or_false] at hd
  rcases hd with rfl | rfl
  · refine dp_tup (by rw [List.length_map]; have := hro.n1; omega) fun d hd => ?_
    obtain ⟨o, _, rfl⟩ := List.mem_map.mp hd
    exact dp_eO o n
  · refine dp_tup (by rw [List.length_map]; have := hro.n2; omega) fun d hd => ?_
    obtain ⟨o, _, rfl⟩ := List.mem_map.mp hd
    exact dp_eW o n
theorem dp_ints {l : List Int} (hl : l.length ≤ 1000) (n : Nat) : dDp (n + 1) (.tup (l.map .int)) ∧ dDp (n + 1) (.lst (l.map .int)) := by
  have h : ∀ e ∈ l.map D.int, dDp n e := fun e he => by
    obtain ⟨i, _, rfl⟩ := List.mem_map.mp he
    exact dp_int i n
  exact ⟨dp_tup (by rw [List.length_map]; exact hl) h, dp_lst (by rw [List.length_map]; exact hl) h⟩
theorem fit_ints (l : List Int) (n : Nat) : (D.tup (l.map .int)).fit (n + 1) = true ∧ (D.lst (l.map .int)).fit (n + 1) = true := by
  have h : ∀ e ∈ l.map D.int, e.fit n = true := fun e he => by
    obtain ⟨i, _, rfl⟩ := List.mem_map.mp he
    rfl
  exact ⟨fit_tup h, fit_lst h⟩
theorem eM_ints (m : List Nat) : eM m = .tup ((m.map fun i : Nat => (i : Int)).map .int) := by unfold eM; rw [List.map_map]; rfl
theorem tup2_ok {z : Str} {d : D} (hz : sok z) (hp : dDp 4 d) (hf : d.fit 9 = true) : dDp 6 (.tup [.str z, d]) ∧ (D.tup [.str z, d]).fit 10 = true := by
  have up : ∀ n (d : D), dDp n d → dDp (n + 1) d := by
    intro n
    induction n with
    | zero => exact fun d h => .inl h
    | succ n ih =>
      intro d h
      rcases h with h | ⟨l, h1, h2, h3⟩
      · exact .inl h
      · exact .inr ⟨l, h1, h2, fun e he => ih e (h3 e he)⟩
  refine ⟨dp_tup (by simp) fun e he => ?_, fit_tup fun e he => ?_⟩
  · simp only [List.mem_cons, List.not_mem_nil, or_false] at he
    rcases he with rfl | rfl
    · exact dp_str _ _
    · exact up _ _ hp
  · simp only [List.mem_cons, List.not_mem_nil, or_false] at he
    rcases he with rfl | rfl
    · exact fit_str hz _
    · exact hf
theorem outc_ok (names : List Str) (rels : List (List Rel)) (m : List Nat) (hr : RelsOk rels) : dDp 6 (outc names rels m) ∧ (outc names rels m).fit 10 = true := by
  unfold outc
  cases e : bestP names rels m with
  | none => exact tup2_ok (show (_ : Bool) = true by decide +kernel) (dp_tup (by simp) (by simp)) (fit_tup (by simp))
  | some b =>
    have hl : b.2.length ≤ 4 := by
      rw [(goods_vm (best_mem e)).1]
      unfold sizesOf
      rw [List.length_map]
      exact hr.n.2
    refine tup2_ok (show (_ : Bool) = true by decide +kernel) ?_ (fit_eM _ _)
    rw [eM_ints]
    exact (dp_ints (by rw [List.length_map]; omega) 3).1
/-- plain(x) != plain(x) is false -/
theorem s_plain {neg : Bool} {ms : MS} {d : D} {kz : SD → Prop} (hf : d.fit 20 = true) (h : kz (.d (.bl (neg ^^ true)))) : oEq neg ms (.d (plainD d)) (.d (plainD d)) kz := by
  have f1 := plain_fit d 20 hf
  refine s_eqD (fit_mono _ _ _ (by decide) f1) (fit_mono _ _ _ (by decide) f1) ?_
  rw [eqv_self f1]
  exact h
/-! ### the odd ones -/
theorem bad_list {names : List Str} {rels : List (List Rel)} (l : List D) : Bad names rels (.lst l) := .inl ⟨l, rfl⟩
theorem bad_long {names : List Str} {rels : List (List Rel)} {m : List Nat} (h : m.length = names.length) : Bad names rels (.tup ((m.map fun i : Nat => D.int i) ++ [.int 0])) := by
  refine .inr ⟨(m.map fun i : Nat => (i : Int)) ++ [0], by rw [List.map_append, List.map_map]; rfl, fun e => ?_⟩
  rw [List.length_append, List.length_map, h] at e
  simp at e
theorem bad_last {names : List Str} {rels : List (List Rel)} {m : List Nat} {j : Int} {ln : List Rel} (h : m.length = names.length) (hl : rels.length = names.length) (h1 : rels.getLast? = some ln) (hj : ¬ (0 ≤ j ∧ j < ln.length)) : Bad names rels (.tup ((m.map fun i : Nat => D.int i).dropLast ++ [.int j])) := by
  refine .inr ⟨(m.map fun i : Nat => (i : Int)).dropLast ++ [j], ?_, fun e => ⟨names.length - 1, j, ln, ?_, ?_, hj⟩⟩
  · rw [List.map_append, ← List.map_dropLast, ← List.map_dropLast, List.map_map]; rfl
  · rw [List.getElem?_append_right (by rw [List.length_dropLast, List.length_map]; omega), List.length_dropLast, List.length_map, h, Nat.sub_self]; rfl
  · rw [List.getLast?_eq_getElem?, hl] at h1; exact h1
end R76

/-! ## K76p -/
set_option Elab.async false
set_option linter.all false
set_option maxRecDepth 100000
set_option maxHeartbeats 4000000
namespace R76
open PySem PySem.Spec PyProof.Rows L2 AL
open Evl (Ex)
local macro_rules | `(tactic| walk_at "st") => `(tactic| first
  | (with_reducible refine' s_seq ?_) | (with_reducible refine' s_set ?_) | (with_reducible refine' s_nx ?_) | (with_reducible refine' s_ret ?_) | (with_reducible refine' s_drop ?_) | (with_reducible refine' s_asg ?_) | (with_reducible refine' s_for ?_) | (with_reducible refine' s_tt ?_) | (with_reducible refine' s_ff ?_) | (with_reducible refine' s_lcS ?_) | (with_reducible refine' s_put ?_) | (with_reducible refine' s_app ?_) | (with_reducible refine' s_ext ?_)
  | (with_reducible refine' s_gN ?_) | ((with_reducible refine' s_v ?e ?_); (case e => rfl)) | (with_reducible refine' s_asB ?_) | (with_reducible refine' s_asI ?_) | (with_reducible refine' s_asD ?_) | (with_reducible refine' s_nil ?_) | (with_reducible refine' s_cons ?_)
  | (with_reducible refine' s_addI ?_) | (with_reducible refine' s_I0 ?_) | (with_reducible refine' s_neg ?_) | (with_reducible refine' s_eqI ?_) | (with_reducible refine' s_eqS ?_) | (with_reducible refine' s_ltI ?_) | (with_reducible refine' s_isN ?_) | (with_reducible refine' s_int ?_) | (with_reducible refine' s_abs ?_)
  | ((with_reducible refine' s_len ?e ?_); (case e => first | rfl | exact seqOf_m (by assumption) | exact seqOf_m mu_same))
  | ((with_reducible refine' s_ix ?e ?e2 ?_); (case e => first | rfl | exact seqOf_m (by assumption) | exact seqOf_m mu_same); (case e2 => first | rfl | assumption | exact atI_nat (j := 0) rfl | exact atI_nat (j := 1) rfl | exact atI_nat (j := 2) rfl | exact atI_nat (j := 3) rfl))
  | ((with_reducible refine' s_putL ?e ?e2 ?_); (case e => first | assumption | exact mu_same); (case e2 => first | rfl | assumption))
  | ((with_reducible refine' s_oL ?e ?_); (case e => first | assumption | exact mu_same))
  | ((with_reducible refine' s_dat ?e ?_); (case e => rfl)) | ((with_reducible refine' s_rng ?e ?_); (case e => exact ⟨by omega, by omega⟩))
  | ((with_reducible refine' s_I ?c ?_); (case c => first | assumption | exact ⟨by omega, by omega⟩ | exact ⟨by decide, by decide, by decide⟩ | exact Or.inl ⟨by omega, by omega⟩ | exact Or.inr ⟨by omega, by omega⟩ | (show (0 : Int) < _; omega) | (show (0 : Int) ≤ _; omega)))
  | (with_reducible refine' s_slT ?_) | (with_reducible refine' s_slL ?_) | (with_reducible refine' s_gC ?_) | ((with_reducible refine' s_gT ?e ?_); (case e => rfl))
  | ((with_reducible refine' s_tup ?e ?_); (case e => first | rfl | exact seqOf_m (by assumption) | exact seqOf_m mu_same))
  | ((with_reducible refine' s_list ?e ?_); (case e => first | rfl | exact seqOf_m (by assumption) | exact seqOf_m mu_same))
  | ((with_reducible refine' s_isi ?e ?e2 ?_); (case e => rfl); (case e2 => rfl))
  | (with_reducible refine' s_max ?_)
  | ((with_reducible refine' And.intro ?r ?_); (case r => with_reducible rfl)))
local macro_rules | `(tactic| walk_at "one") => `(tactic| first | (with_reducible refine' s_if ?_) | walk_at "st")
local macro_rules | `(tactic| walk_at "up") => `(tactic| repeat walk_at "st")
local macro_rules | `(tactic| walk_at "go") => `(tactic| repeat walk_at "one")
local macro_rules | `(tactic| walk_at "all") => `(tactic| repeat' (first | walk_at "one" | (refine s_ite (fun _ => ?_) (fun _ => ?_))))

section
variable {P : Program} {w : World} {K : PySem.W.Frag} {mg : Str → Option Value} {base : Heap}
abbrev s_law : Stmt := (topS 34)
theorem sc_law : FnScope ["script", "source", "devices", "names", "releases", "nobody", "good", "one", "mixture", "course", "due", "step", "odd"] ["script"] (defScope s_law) := ⟨rfl, rfl, rfl, by decide +kernel, rfl, by decide +kernel, by decide +kernel⟩

def R_law (K : PySem.W.Frag) : AFn := fun sds ms k _ => ∃ (ns : List Int) (sd : SD), sds = [sd] ∧ Scr K sd ns ∧ ns.length ≤ 63 ∧ ∀ ms', k (.d (.bl true)) ms'
theorem ok_law (T : TopE K mg) (G_law_source : FnA P w K mg base CX0 1 "_law_source" (R_source K)) (G_law_draw : FnA P w K mg base CX0 1 "_law_draw" R_draw) (G_law_course : FnA P w K mg base CX0 3 "_law_course" R_course)
    (G_law_wanting : FnA P w K mg base CX0 1 "_law_wanting" R_wanting) (G_law_mixtures : FnA P w K mg base CX0 1 "_law_mixtures" R_mixtures) (G_law_missing : FnA P w K mg base CX0 2 "_law_missing" R_lmissing) (G_law_mixture : FnA P w K mg base CX0 2 "_law_mixture" R_mixture)
    (GC_Course : MkA P w K mg base CX0 3 "Course" T.C (R_init T.C)) (G_law_best : FnA P w K mg base CX0 1 "_law_best" R_best) (G_law_asked : FnA P w K mg base CX0 5 "_law_asked" (R_asked T.C)) (G_law_plain : FnA P w K mg base CX0 7 "_law_plain" (R_plain 6))
    {f : Addr} {fd : FuncData} (F : Fun K "law" "law" s_law f fd) : FnOk P w K mg base CX0 8 f fd ["script"] (spA (R_law K)) := by
  refine fnA F sc_law (fun sds ms k x h => ?_) (by decide) fun cdv A outer s H E hr => ⟨_, _, (ass_cons (as_set 1 sc_law.nd (ae_call G_law_source (hr.mono (by first | decide | omega)) (fun _ => pass0At) (by rfl) (aa_cons (ae_v 0) aa_nil)))
    (ass_cons (as_set 2 sc_law.nd (ae_bin op_addA oa_add ae_int (ae_call G_law_draw (hr.mono (by first | decide | omega)) (fun _ => pass0At) (by rfl) (aa_cons (ae_v 1) (aa_cons ae_int aa_nil)))))
    (ass_cons (as_asg (ae_call G_law_course (hr.mono (by first | decide | omega)) (fun _ => pass0At) (by rfl) (aa_cons (ae_v 1) (aa_cons (ae_v 2) (aa_cons (ae_bin op_addA oa_add ae_int (ae_call G_law_draw (hr.mono (by first | decide | omega)) (fun _ => pass0At) (by rfl) (aa_cons (ae_v 1) (aa_cons ae_int aa_nil)))) aa_nil)))) (ag_tup rfl (ags_cons (ag_name 3 sc_law.nd) (ags_cons (ag_name 4 sc_law.nd) (ags_cons (ag_name 5 sc_law.nd) ags_nil)))))
    (ass_cons (as_if (at_cmp (op_eqA (u64 hr)) oa_eq (ae_call G_law_draw (hr.mono (by first | decide | omega)) (fun _ => pass0At) (by rfl) (aa_cons (ae_v 1) (aa_cons ae_int aa_nil))) ae_int (nomark _)) (ass_one (as_set 4 sc_law.nd (ae_call G_law_wanting (hr.mono (by first | decide | omega)) (fun _ => pass0At) (by rfl) (aa_cons (ae_v 4) (aa_cons (ae_tup (aa_cons (ae_v 5) (aa_cons (ae_ix (u1 hr) (ae_v 3) ae_int) (aa_cons ae_int (aa_cons ae_int aa_nil))))) aa_nil))))) ass_nil)
    (ass_cons (as_setLc 6 (own := [("one", 7)]) rfl sc_law.nd (ai_seq (ae_call G_law_mixtures (hr.mono (by first | decide | omega)) (fun _ => pass0At) (by rfl) (aa_cons (ae_v 4) aa_nil))) (blkOk_by (own := [("one", 7)]) (N := ["script", "source", "devices", "names", "releases", "nobody", "good", "one", "mixture", "course", "due", "step", "odd"]) (sc := defScope s_law) (by decide +kernel)) (by decide) (fun _ _ _ _ _ => (ag_name 7 sc_law.nd)) (fun _ _ _ _ _ => (ats_one (at_cmp (opK_eq (K := K) rfl (u64 hr)) oa_eq (ae_callB (callK_len (K := K) rfl) oa_len (by rfl) T.len (by decide +kernel) (aa_cons (ae_call G_law_missing (hr.mono (by first | decide | omega)) (fun _ => pass0At) (by rfl) (aa_cons (ae_v 3) (aa_cons (ae_v 4) (aa_cons (ae_v 7) aa_nil)))) aa_nil)) ae_int (nomark _)))) (fun _ _ _ _ _ => (ae_v 7)) (sw_true rfl rfl rfl (by decide +kernel)))
    (ass_cons (as_set 8 sc_law.nd (ae_call G_law_mixture (hr.mono (by first | decide | omega)) (fun _ => pass0At) (by rfl) (aa_cons (ae_v 1) (aa_cons (ae_v 4) (aa_cons (ae_v 6) aa_nil)))))
    (ass_cons (as_set 9 sc_law.nd (ae_make GC_Course (hr.mono (by first | decide | omega)) (by rfl) (aa_cons (ae_v 3) (aa_cons (ae_v 4) aa_nil))))
    (ass_cons (as_set 10 sc_law.nd (ae_tup (aa_cons ae_str (aa_cons (ae_tup aa_nil) aa_nil))))
    (ass_cons (as_if (at_cmp op_gt oa_gt (ae_callB call_len oa_len (by rfl) T.len (by decide +kernel) (aa_cons (ae_v 6) aa_nil)) ae_int (nomark _)) (ass_one (as_set 10 sc_law.nd (ae_tup (aa_cons ae_str (aa_cons (ae_call G_law_best (hr.mono (by first | decide | omega)) (fun _ => pass0At) (by rfl) (aa_cons (ae_v 8) (aa_cons (ae_v 6) aa_nil))) aa_nil))))) ass_nil)
    (ass_cons (as_for PassesOwn.never rfl (ai_range1 (by rfl) T.range ae_int) (ag_name 11 sc_law.nd)
      (ass_one (as_if (at_cmp (op_neA (u64 hr)) oa_ne (ae_call G_law_plain (hr.mono (by first | decide | omega)) (fun _ => pass0At) (by rfl) (aa_cons (ae_call G_law_asked (hr.mono (by first | decide | omega)) (fun _ => pass0At) (by rfl) (aa_cons (ae_v 9) (aa_cons (ae_v 8) aa_nil))) aa_nil)) (ae_call G_law_plain (hr.mono (by first | decide | omega)) (fun _ => pass0At) (by rfl) (aa_cons (ae_v 10) aa_nil)) (nomark _)) (ass_one (as_ret ae_bl)) ass_nil)))
    (ass_cons (as_if (AW.at (aw_and (at_cmp op_gt oa_gt (ae_callB call_len oa_len (by rfl) T.len (by decide +kernel) (aa_cons (ae_v 6) aa_nil)) ae_int (nomark _)) (aw_and1 (at_cmp (op_neA (u64 hr)) oa_ne (ae_call G_law_plain (hr.mono (by first | decide | omega)) (fun _ => pass0At) (by rfl) (aa_cons (ae_call G_law_asked (hr.mono (by first | decide | omega)) (fun _ => pass0At) (by rfl) (aa_cons (ae_v 9) (aa_cons (ae_ix (u1 hr) (ae_v 10) ae_int) aa_nil))) aa_nil)) (ae_call G_law_plain (hr.mono (by first | decide | omega)) (fun _ => pass0At) (by rfl) (aa_cons (ae_v 10) aa_nil)) (nomark _))))) (ass_one (as_ret ae_bl)) ass_nil)
    (ass_cons (as_for PassesOwn.never rfl (ai_seq (ae_tup (aa_cons (ae_callTy call_list_of oa_list (by rfl) T.list (by decide +kernel) (aa_cons (ae_v 8) aa_nil)) (aa_cons (ae_bin op_addA oa_add (ae_v 8) (ae_tup (aa_cons ae_int aa_nil))) (aa_cons (ae_bin op_addA oa_add (ae_sl (ae_v 8) ao_none (ao_some (ae_un un_neg oa_neg ae_int))) (ae_tup (aa_cons (ae_un un_neg oa_neg ae_int) aa_nil))) (aa_cons (ae_bin op_addA oa_add (ae_sl (ae_v 8) ao_none (ao_some (ae_un un_neg oa_neg ae_int))) (ae_tup (aa_cons (ae_callB call_len oa_len (by rfl) T.len (by decide +kernel) (aa_cons (ae_ix (u1 hr) (ae_v 4) (ae_un un_neg oa_neg ae_int)) aa_nil)) aa_nil))) aa_nil)))))) (ag_name 12 sc_law.nd)
      (ass_one (as_if (at_cmp (op_neA (u64 hr)) oa_ne (ae_call G_law_plain (hr.mono (by first | decide | omega)) (fun _ => pass0At) (by rfl) (aa_cons (ae_call G_law_asked (hr.mono (by first | decide | omega)) (fun _ => pass0At) (by rfl) (aa_cons (ae_v 9) (aa_cons (ae_v 12) aa_nil))) aa_nil)) (ae_call G_law_plain (hr.mono (by first | decide | omega)) (fun _ => pass0At) (by rfl) (aa_cons (ae_tup (aa_cons ae_str (aa_cons (ae_v 12) aa_nil))) aa_nil)) (nomark _)) (ass_one (as_ret ae_bl)) ass_nil)))
    (ass_one (as_ret (ae_cmp (op_eqA (u64 hr)) oa_eq (ae_call G_law_plain (hr.mono (by first | decide | omega)) (fun _ => pass0At) (by rfl) (aa_cons (ae_callTy call_tuple_of oa_tup (by rfl) T.tuple (by decide +kernel) (aa_cons (ae_fld T.cls_Course T.na_releases (ae_v 9)) aa_nil)) aa_nil)) (ae_call G_law_plain (hr.mono (by first | decide | omega)) (fun _ => pass0At) (by rfl) (aa_cons (ae_v 4) aa_nil)) (nomark _)))))))))))))))), fun sds ms k x h => ?_⟩
  · obtain ⟨a, b, rfl, _⟩ := h; rfl
  · obtain ⟨ns, sd, rfl, hsc, hns, q⟩ := h
    dsimp only [gam]
    walk_at "go"
    refine ⟨ns, sd, rfl, hsc, hns, fun a l ha hok => ?_⟩
    have hS : SrcAt (mu ms a (.l l)) a := ⟨l, mu_same, hok⟩
    generalize mu ms a (.l l) = m0 at hS ⊢
    walk_at "go"
    refine dr hS (by decide) (by decide) fun v1 m1 h1 h1' hB1 => ?_
    obtain ⟨v1, rfl⟩ := Int.eq_ofNat_of_zero_le h1
    walk_at "go"
    refine dr hB1.1 (by decide) (by decide) fun v2 m2 h2 h2' hB2 => ?_
    walk_at "go"
    refine ⟨a, v1 + 1, 1 + v2, by rw [show ((v1 + 1 : Nat) : Int) = 1 + (v1 : Int) by omega], by omega, by omega, by omega, by omega, hB2.1, fun names rels nobody m3 hC hB3 => ?_⟩
    walk_at "up"
    (with_reducible refine' s_cutIf (fun Γ' ms' => ∃ rels', rels'.length = names.length ∧ RelsOk rels' ∧ SrcAt ms' a ∧ Γ' = [some sd, some (.v (.ref a)), some (.d (.int (1 + (v1 : Int)))), some (.d (eN names)), some (.d (eLs rels')), some (.d (.str nobody)), none, none, none, none, none, none, none]) ?_ ?_)
    · intro N hN
      walk_at "go"
      refine dr hB3.1 (by decide) (by decide) fun v4 m4 h4 h4' hB4 => ?_
      walk_at "go"
      refine s_ite (fun e => ?_) (fun e => ?_)
      · have hn0 : 0 < names.length := by rw [← hC.l]; exact hC.r.n.1
        obtain ⟨z, hz1, hz2, hz3⟩ := atI_map (f := D.str) (l := names) (i := 0) (by decide) (by omega)
        walk_at "go"
        refine ⟨rels, (nobody, z, 1, 2), rfl, hC.r, hC.f, ⟨hC.b, (hC.n.a z hz1).sok⟩, fun rels' hl' hr' => ?_⟩
        walk_at "go"
        exact hN _ _ ⟨rels', by rw [hl', hC.l], hr', hB4.1, rfl⟩
      · exact hN _ _ ⟨rels, hC.l, hC.r, hB4.1, rfl⟩
    intro Γ' m4 hP
    obtain ⟨rels', hl, hr', hS4, rfl⟩ := hP
    have hn := hC.n
    clear hC hB1 hB2 hB3
    revert hl hr' hS4
    generalize rels' = rels
    intro hl hrl hS4
    have hns' : ∀ z ∈ names, sok z := fun z hz => (hn.a z hz).sok
    have hn4 : names.length ≤ 4 := by rw [← hl]; exact hrl.n.2
    have hsl : (sizesOf rels).length = rels.length := List.length_map ..
    have hml : (mixes (sizesOf rels)).length ≤ 256 := Nat.le_trans (mixes_len _ (sizes_le hrl)) (pow4 (by rw [hsl]; exact hrl.n.2))
    walk_at "go"
    refine ⟨rels, rfl, hrl, ?_⟩
    refine s_dat rfl ?_
    refine lcI_fm (xs := mixes (sizesOf rels)) (enc := eM) (f := eM) (p := goodB names rels) (small_len (by omega)) (fun o ho acc N2 hz hN2 => ?_) ?_
    · walk_at "go"
      refine ⟨names, rels, o, rfl, ⟨hl, hrl, hns', (mixes_ok _).1 o ho⟩, fun ds hds => ?_⟩
      walk_at "go"
      rw [hds]
      refine s_ite (fun e => ?_) (fun e => ?_)
      · have hg : goodB names rels o = true := by unfold goodB; simp at e ⊢; exact e
        rw [if_pos hg] at hN2
        walk_at "go"
        exact ⟨hz, hN2⟩
      · have hg : goodB names rels o = false := by unfold goodB; simp at e ⊢; exact e
        rw [if_neg (by rw [hg]; exact Bool.false_ne_true), List.append_nil] at hN2
        exact hN2
    rw [show (mixes (sizesOf rels)).filter (goodB names rels) = goods names rels from rfl]
    walk_at "go"
    have hgl := goods_len (names := names) hrl
    refine ⟨a, rels, goods names rels, rfl, hrl, fun o ho => goods_vm ho, hgl, hS4, fun m m5 hm hB5 => ?_⟩
    walk_at "go"
    intro c hc
    refine ⟨c, names, rels, rfl, mu_same, hn4, hl, hn, hrl, rfl, _, mu_same, ?_⟩
    rw [mu_mu, md_mu hc]
    have hgm : ((goods names rels).map eM).length = (goods names rels).length := List.length_map ..
    have hm1 : m.length = names.length := by rw [hm.1, hsl, hl]
    walk_at "up"
    have hm4 : m.length ≤ 4 := by rw [hm1]; exact hn4
    (with_reducible refine' s_cutIf (fun Γ' ms' => ms' = m5 ∧ Γ' = [some sd, some (.v (.ref a)), some (.d (.int (1 + (v1 : Int)))), some (.d (eN names)), some (.d (eLs rels)), some (.d (.str nobody)), some (.d (.lst ((goods names rels).map eM))), none, some (.d (eM m)), some (.d (crs T.C names rels)), some (.d (outc names rels m)), none, none]) ?_ ?_)
    · intro N hN
      walk_at "go"
      rw [hgm]
      cases hb : bestP names rels m with
      | none =>
        have hg := best_none.mp hb
        refine s_iteF (by rw [hg]; rfl) ?_
        have eo : outc names rels m = .tup [.str "lot", .tup []] := by unfold outc; rw [hb]
        rw [eo] at hN
        exact hN _ _ ⟨rfl, rfl⟩
      | some b =>
        have hg : goods names rels ≠ [] := fun e => by rw [best_none.mpr e] at hb; cases hb
        have hgp : 0 < (goods names rels).length := List.length_pos_iff.mpr hg
        have eo : outc names rels m = .tup [.str "good", eM b.2] := by unfold outc; rw [hb]
        rw [eo] at hN
        refine s_iteT (decide_eq_true (by omega)) ?_
        walk_at "go"
        refine ⟨m, goods names rels, rfl, hm4, fun o ho => by rw [(goods_vm ho).1, hm.1], ?_⟩
        rw [show bD ((goods names rels).foldl (stepL m) none) = eM b.2 by rw [show (goods names rels).foldl (stepL m) none = some b from hb]; rfl]
        walk_at "go"
        exact hN _ _ ⟨rfl, rfl⟩
    intro Γ' m5' hP
    obtain ⟨e5, rfl⟩ := hP
    subst e5
    obtain ⟨oD, oF⟩ := outc_ok names rels m hrl
    walk_at "go"
    refine forR_inv (fun i Γ ms' => ms' = m5' ∧ ∃ g11, Γ = [some sd, some (.v (.ref a)), some (.d (.int (1 + (v1 : Int)))), some (.d (eN names)), some (.d (eLs rels)), some (.d (.str nobody)), some (.d (.lst ((goods names rels).map eM))), none, some (.d (eM m)), some (.d (crs T.C names rels)), some (.d (outc names rels m)), g11, none]) ⟨rfl, _, rfl⟩ (fun i d Γ m6 hd hP N hN => ?_) fun Γ m6 hP => ?_
    · obtain ⟨rfl, g11, rfl⟩ := hP
      walk_at "go"
      refine ⟨names, rels, eM m, rfl, hl, hrl, hns', .inl ⟨m, rfl, hm, ?_⟩⟩
      refine ⟨outc names rels m, rfl, oD, ?_⟩
      walk_at "go"
      refine ⟨outc names rels m, rfl, oD, ?_⟩
      refine s_plain (fit_mono _ _ _ (by decide) oF) ?_
      walk_at "go"
      refine s_iteF rfl ?_
      exact hN _ _ ⟨rfl, _, rfl⟩
    obtain ⟨rfl, g11, rfl⟩ := hP
    walk_at "up"
    (with_reducible refine' s_ifN (fun b ms1 => ms1 = m6 ∧ b = false) ?_ ?_ ?_)
    · intro N hN
      walk_at "go"
      rw [hgm]
      refine s_ite (fun e => ?_) (fun e => ?_)
      · have hg : goods names rels ≠ [] := fun q => by rw [q] at e; cases e
        cases hb : bestP names rels m with
        | none => exact absurd (best_none.mp hb) hg
        | some b =>
          have eo : outc names rels m = .tup [.str "good", eM b.2] := by unfold outc; rw [hb]
          have es : seqOf m6 (.d (outc names rels m)) = some [.str "good", eM b.2] := by rw [eo]; rfl
          walk_at "up"
          refine s_ix es (atI_nat (j := 1) rfl) ?_
          refine ⟨names, rels, eM b.2, rfl, hl, hrl, hns', .inl ⟨b.2, rfl, goods_vm (best_mem hb), ?_⟩⟩
          rw [outc_best hb]
          refine ⟨outc names rels m, rfl, oD, ?_⟩
          walk_at "go"
          refine ⟨outc names rels m, rfl, oD, ?_⟩
          refine s_plain (fit_mono _ _ _ (by decide) oF) ?_
          walk_at "go"
          exact hN _ _ ⟨rfl, rfl⟩
      · exact hN _ _ ⟨rfl, rfl⟩
    · intro m7 hP
      cases hP.2
    intro m7 hP
    obtain ⟨rfl, _⟩ := hP
    walk_at "up"
    have hml1 : (m.map fun i : Nat => D.int i).length = m.length := List.length_map ..
    refine s_addT ?_ ?_
    · exact small_len (by rw [hml1]; show m.length + 1 ≤ _; omega)
    walk_at "up"
    refine s_slT ?_
    rw [cutD_last]
    walk_at "up"
    refine s_addT ?_ ?_
    · exact small_len (by rw [List.length_dropLast, hml1]; show m.length - 1 + 1 ≤ _; omega)
    walk_at "up"
    refine s_slT ?_
    rw [cutD_last]
    walk_at "up"
    have hr1 := hrl.n.1
    obtain ⟨ln, hln⟩ : ∃ ln, rels.getLast? = some ln := by
      cases e : rels.getLast? with
      | some ln => exact ⟨ln, rfl⟩
      | none => rw [List.getLast?_eq_none_iff.mp e] at hr1; simp at hr1
    have hal : atI (rels.map eLn) (-1) = some (eLn ln) := atI_last (by rw [List.getLast?_map, hln]; rfl)
    have hll : (ln.map eR).length = ln.length := List.length_map ..
    refine s_ix rfl hal ?_
    walk_at "up"
    refine s_addT ?_ ?_
    · exact small_len (by rw [List.length_dropLast, hml1]; show m.length - 1 + 1 ≤ _; omega)
    walk_at "up"
    rw [hll]
    have hodd : ∀ d ∈ [D.lst (m.map fun i : Nat => D.int i), .tup ((m.map fun i : Nat => D.int i) ++ [.int 0]), .tup ((m.map fun i : Nat => D.int i).dropLast ++ [.int (-1)]), .tup ((m.map fun i : Nat => D.int i).dropLast ++ [.int (ln.length : Nat)])], Bad names rels d ∧ dDp 4 d ∧ d.fit 9 = true := by
      have e0 : (m.map fun i : Nat => D.int i) = (m.map fun i : Nat => (i : Int)).map D.int := by rw [List.map_map]; rfl
      have hli : (m.map fun i : Nat => (i : Int)).length = m.length := List.length_map ..
      have e1 : ∀ j : Int, (m.map fun i : Nat => D.int i) ++ [.int j] = ((m.map fun i : Nat => (i : Int)) ++ [j]).map D.int := fun j => by rw [List.map_append, ← e0]; rfl
      have e2 : ∀ j : Int, (m.map fun i : Nat => D.int i).dropLast ++ [.int j] = ((m.map fun i : Nat => (i : Int)).dropLast ++ [j]).map D.int := fun j => by rw [List.map_append, List.map_dropLast, ← e0]; rfl
      intro d hd
      simp only [List.mem_cons, List.not_mem_nil, or_false] at hd
      rcases hd with rfl | rfl | rfl | rfl
      · exact ⟨bad_list _, by rw [e0]; exact (dp_ints (by omega) 3).2, by rw [e0]; exact (fit_ints _ 8).2⟩
      · exact ⟨bad_long hm1, by rw [e1]; exact (dp_ints (by rw [List.length_append]; show _ + 1 ≤ _; omega) 3).1, by rw [e1]; exact (fit_ints _ 8).1⟩
      · exact ⟨bad_last hm1 hl hln (by omega), by rw [e2]; exact (dp_ints (by rw [List.length_append, List.length_dropLast]; show _ + 1 ≤ _; omega) 3).1, by rw [e2]; exact (fit_ints _ 8).1⟩
      · exact ⟨bad_last hm1 hl hln (by omega), by rw [e2]; exact (dp_ints (by rw [List.length_append, List.length_dropLast]; show _ + 1 ≤ _; omega) 3).1, by rw [e2]; exact (fit_ints _ 8).1⟩
    refine forR_inv (fun i Γ ms' => ms' = m7 ∧ ∃ g12, Γ = [some sd, some (.v (.ref a)), some (.d (.int (1 + (v1 : Int)))), some (.d (eN names)), some (.d (eLs rels)), some (.d (.str nobody)), some (.d (.lst ((goods names rels).map eM))), none, some (.d (eM m)), some (.d (crs T.C names rels)), some (.d (outc names rels m)), g11, g12]) ⟨rfl, _, rfl⟩ (fun i d Γ m8 hd hP N hN => ?_) fun Γ m8 hP => ?_
    · obtain ⟨rfl, g12, rfl⟩ := hP
      obtain ⟨hbad, hdp, hfit⟩ := hodd d (List.mem_of_getElem? hd)
      obtain ⟨tD, tF⟩ := tup2_ok (z := "mixture") (show (_ : Bool) = true by decide +kernel) hdp hfit
      walk_at "go"
      refine ⟨names, rels, d, rfl, hl, hrl, hns', .inr ⟨hbad, ?_⟩⟩
      refine ⟨_, rfl, tD, ?_⟩
      walk_at "go"
      refine ⟨_, rfl, tD, ?_⟩
      refine s_plain (fit_mono _ _ _ (by decide) tF) ?_
      walk_at "go"
      refine s_iteF rfl ?_
      exact hN _ _ ⟨rfl, _, rfl⟩
    obtain ⟨rfl, g12, rfl⟩ := hP
    walk_at "up"
    refine s_fld rfl ?_
    walk_at "up"
    refine ⟨_, rfl, dp_eLs hrl 1, ?_⟩
    walk_at "up"
    refine ⟨_, rfl, dp_eLs hrl 1, ?_⟩
    refine s_plain (fit_eLs hrl 15) ?_
    walk_at "up"
    exact Out.here (q _)
end
end R76

/-! ## K76q -/
set_option Elab.async false
set_option linter.all false
set_option maxRecDepth 100000
set_option maxHeartbeats 4000000
namespace AL
open PySem PySem.Spec PyProof.Rows L2
open Evl (Ex)
section
variable {P : Program} {w : World} {K : PySem.W.Frag} {mg : Str → Option Value} {base : Heap} {CX : CXT} {k : Nat} {x : Str} {f : Addr} {fd : FuncData} {ps : List Str} {R R' : AFn}
theorem FnA.of (hm : mg x = some (.ref f)) (F : FnOk P w K mg base CX k f fd ps (spA R)) (hb : Binds K fd ps []) (hk : PySem.W.keepIn K (.ref f) = true) : FnA P w K mg base CX k x R := ⟨⟨f, hm, AL.FnOk.toR F hb, hk⟩⟩
theorem spA_imp (h : ∀ sds ms kk xx, R' sds ms kk xx → R sds ms kk xx) {vs : List V} {H : Hp} {Q : VK} {E : XK} (s : spA R' vs H Q E) : spA R vs H Q E := by
  obtain ⟨sds, G, F, ms, kk, xx, a, b, c, d, e⟩ := s
  exact ⟨sds, G, F, ms, kk, xx, a, b, h _ _ _ _ c, d, e⟩
theorem FnA.weak (F : FnA P w K mg base CX k x R) (h : ∀ sds ms kk xx, R' sds ms kk xx → R sds ms kk xx) : FnA P w K mg base CX k x R' := by
  obtain ⟨f, h1, h2, h3⟩ := F.ex
  exact ⟨⟨f, h1, h2.imp fun vs H Q E s => spA_imp h s, h3⟩⟩
theorem exm_of {K : PySem.W.Frag} {S C : Addr} {b : Bool} (h1 : PySem.W.subIn K (.ref S) (.type "BaseException") = some true) (h2 : PySem.W.isClsIn K S = true) (h3 : PySem.W.typeIn K (.ref S) = some (.type "type")) (h4 : PySem.W.subIn K (.ref C) (.ref S) = some b) :
    PySem.W.exmOne K (.ref C) (.ref S) = some b := by
  have e1 : (PySem.W.subIn K (.ref S) (.type "BaseException") == some true) = true := by rw [h1] <;> rfl
  have e2 : ((PySem.W.clsIn K S).isSome && PySem.W.typeIn K (.ref S) == some (.type "type")) = true := by
    have h2' : (PySem.W.clsIn K S).isSome = true := h2
    rw [h2', h3] <;> rfl
  show (if (PySem.W.subIn K (.ref S) (.type "BaseException") == some true) = true then (if ((PySem.W.clsIn K S).isSome && PySem.W.typeIn K (.ref S) == some (.type "type")) = true then PySem.W.subIn K (.ref C) (.ref S) else none) else none) = some b
  rw [if_pos e1, if_pos e2]
  exact h4
/-- the script, as the law's head hands it over -/
theorem scr_sp {K : PySem.W.Frag} {R : AFn} {n : Nat} {H : Hp} {a : Addr} {ns : List Int} (hl : ns.length ≤ n) (hO : Only H) (hS : SqL K H a (ns.map V.int))
    (h : ∀ sd, Scr K sd ns → ns.length ≤ n → R [sd] (fun _ => none) (fun sd' _ => sd' = .d (.bl true)) (fun _ _ _ _ => False)) : spA R [.ref a] H (fun v _ => v = .bl true) fun _ _ _ => False := by
  have good : Good H H (fun _ => none) (fun _ => none) := ⟨Ex.refl H, fun _ _ e => (by cases e), fun _ _ e => (by cases e)⟩
  have kq : KE H (fun _ => none) (fun sd' _ => sd' = .d (.bl true)) (fun v _ => v = .bl true) := fun v H2 G2 sd ms2 _ _ s e => by
    subst e
    cases s; rfl
  rcases hS with (e | ⟨o, e⟩) | e
  · rcases hO a with z | ⟨o, xs, z⟩
    · rw [e] at z; cases z
    · rw [e] at z; cases z
  · exact ⟨[.d (.frl (ns.map .int))], H, fun _ => none, fun _ => none, _, _, .cons (okd (.frl e (shw_ints H ns))) .nil, good, h _ (.inl rfl) hl, kq, fun _ _ _ _ _ _ _ _ _ _ _ _ z => z⟩
  · exact ⟨[.v (.ref a)], H, fun _ => none, fun _ => none, _, _, .cons okv .nil, good, h _ (.inr ⟨a, rfl, e⟩) hl, kq, fun _ _ _ _ _ _ _ _ _ _ _ _ z => z⟩
end
end AL
namespace R76
open PySem PySem.Spec PyProof.Rows L2 AL
open PySem.W
open Evl (Ex)
theorem plain_all {P : Program} {w : World} {K : PySem.W.Frag} {mg : Str → Option Value} {base : Heap} (T : Blt mg) {f : Addr} {fd : FuncData} (F : Fun K "_law_plain" "_law_plain" s_law_plain f fd) (hb : Binds K fd ["thing"] []) (hm : mg "_law_plain" = some (.ref f)) (hk : PySem.W.keepIn K (.ref f) = true) :
    ∀ n, FnA P w K mg base CX0 (n + 1) "_law_plain" (R_plain n)
  | 0 => by
    have z : FnA P w K mg base CX0 0 "_law_plain" (fun sds ms k x => ∃ m, 0 = m + 1 ∧ R_plain m sds ms k x) := by
      refine ⟨⟨f, hm, ?_, hk⟩⟩
      intro A outer s H us vs Q E hr e0 r hs
      obtain ⟨sds, G, F, ms, kk, xx, a, b, ⟨m, h, _⟩, d, e⟩ := hs
      cases h
    exact FnA.of hm (ok_plain0 T 0 z F) hb hk
  | n + 1 => by
    have g := plain_all (P := P) (w := w) (base := base) T F hb hm hk n
    have z : FnA P w K mg base CX0 (n + 1) "_law_plain" (fun sds ms k x => ∃ m, n + 1 = m + 1 ∧ R_plain m sds ms k x) := g.weak fun sds ms kk xx h => by
      obtain ⟨m, h, q⟩ := h
      cases h
      exact q
    exact FnA.of hm (ok_plain0 T (n + 1) z F) hb hk
theorem all_mk {P : Program} {w : World} {K : PySem.W.Frag} {h : Heap} {mg : Str → Option Value} {fa : Addr} (X : K.In h) (G : h.Ns mainGlobals mg) (hfa : mg "law" = some (.ref fa))
    {C CB CN fB fN : Addr} {t1 t2 t3 : Tok}
    {nmB qB : Str} {NB : Addr} {bsB bmB : List Value} {snB : List Str} {subB : List Value} {abB : Bool} {colB : Option Bool} {ddB : Option Addr} {m0B m1B m2B m3B m5B : Option Value} {oeB : Value} {odeB aneB : Option Addr} {sleB : Array (Option Value)} {dceB pmeB cdeB cteB : Value}
    {nmN qN : Str} {NN : Addr} {bsN bmN : List Value} {snN : List Str} {subN : List Value} {abN : Bool} {colN : Option Bool} {ddN : Option Addr} {m0N m1N m2N m3N m5N : Option Value} {oeN : Value} {odeN aneN : Option Addr} {sleN : Array (Option Value)} {dceN pmeN cdeN cteN : Value}
    {f1 : Addr} {od1 an1 : Option Addr} {sl1 : Array (Option Value)} {oc1 kV1 dc1 pm1 cd1 ct1 : Value}
    {f2 : Addr} {od2 an2 : Option Addr} {sl2 : Array (Option Value)} {oc2 kV2 dc2 pm2 cd2 ct2 : Value}
    {f3 : Addr} {od3 an3 : Option Addr} {sl3 : Array (Option Value)} {oc3 kV3 dc3 pm3 cd3 ct3 : Value}
    {f4 : Addr} {od4 an4 : Option Addr} {sl4 : Array (Option Value)} {oc4 kV4 dc4 pm4 cd4 ct4 : Value}
    {f5 : Addr} {od5 an5 : Option Addr} {sl5 : Array (Option Value)} {oc5 kV5 dc5 pm5 cd5 ct5 : Value}
    {f6 : Addr} {od6 an6 : Option Addr} {sl6 : Array (Option Value)} {oc6 kV6 dc6 pm6 cd6 ct6 : Value}
    {f7 : Addr} {od7 an7 : Option Addr} {sl7 : Array (Option Value)} {oc7 kV7 dc7 pm7 cd7 ct7 : Value}
    {f8 : Addr} {od8 an8 : Option Addr} {sl8 : Array (Option Value)} {oc8 kV8 dc8 pm8 cd8 ct8 : Value}
    {f9 : Addr} {od9 an9 : Option Addr} {sl9 : Array (Option Value)} {oc9 kV9 dc9 pm9 cd9 ct9 : Value}
    {f10 : Addr} {od10 an10 : Option Addr} {sl10 : Array (Option Value)} {oc10 kV10 dc10 pm10 cd10 ct10 : Value}
    {f11 : Addr} {od11 an11 : Option Addr} {sl11 : Array (Option Value)} {oc11 kV11 dc11 pm11 cd11 ct11 : Value}
    {f12 : Addr} {od12 an12 : Option Addr} {sl12 : Array (Option Value)} {oc12 kV12 dc12 pm12 cd12 ct12 : Value}
    {f13 : Addr} {od13 an13 : Option Addr} {sl13 : Array (Option Value)} {oc13 kV13 dc13 pm13 cd13 ct13 : Value}
    {f14 : Addr} {od14 an14 : Option Addr} {sl14 : Array (Option Value)} {oc14 kV14 dc14 pm14 cd14 ct14 : Value}
    {f15 : Addr} {od15 an15 : Option Addr} {sl15 : Array (Option Value)} {oc15 kV15 dc15 pm15 cd15 ct15 : Value}
    {f16 : Addr} {od16 an16 : Option Addr} {sl16 : Array (Option Value)} {oc16 kV16 dc16 pm16 cd16 ct16 : Value}
    {f17 : Addr} {od17 an17 : Option Addr} {sl17 : Array (Option Value)} {oc17 kV17 dc17 pm17 cd17 ct17 : Value}
    {f18 : Addr} {od18 an18 : Option Addr} {sl18 : Array (Option Value)} {oc18 kV18 dc18 pm18 cd18 ct18 : Value}
    {f19 : Addr} {od19 an19 : Option Addr} {sl19 : Array (Option Value)} {oc19 kV19 dc19 pm19 cd19 ct19 : Value}
    {f20 : Addr} {od20 an20 : Option Addr} {sl20 : Array (Option Value)} {oc20 kV20 dc20 pm20 cd20 ct20 : Value}
    {f21 : Addr} {od21 an21 : Option Addr} {sl21 : Array (Option Value)} {oc21 kV21 dc21 pm21 cd21 ct21 : Value}
    {f22 : Addr} {od22 an22 : Option Addr} {sl22 : Array (Option Value)} {oc22 kV22 dc22 pm22 cd22 ct22 : Value}
    {f23 : Addr} {od23 an23 : Option Addr} {sl23 : Array (Option Value)} {oc23 kV23 dc23 pm23 cd23 ct23 : Value}
    {f24 : Addr} {od24 an24 : Option Addr} {sl24 : Array (Option Value)} {oc24 kV24 dc24 pm24 cd24 ct24 : Value}
    (b_len : PySem.W.nsIn K mainGlobals "len" = some none)
    (b_abs : PySem.W.nsIn K mainGlobals "abs" = some none)
    (b_int : PySem.W.nsIn K mainGlobals "int" = some none)
    (b_str : PySem.W.nsIn K mainGlobals "str" = some none)
    (b_tuple : PySem.W.nsIn K mainGlobals "tuple" = some none)
    (b_list : PySem.W.nsIn K mainGlobals "list" = some none)
    (b_bool : PySem.W.nsIn K mainGlobals "bool" = some none)
    (b_sorted : PySem.W.nsIn K mainGlobals "sorted" = some none)
    (b_isinstance : PySem.W.nsIn K mainGlobals "isinstance" = some none)
    (b_range : PySem.W.nsIn K mainGlobals "range" = some none)
    (b_zip : PySem.W.nsIn K mainGlobals "zip" = some none)
    (b_max : PySem.W.nsIn K mainGlobals "max" = some none)
    (b_all : PySem.W.nsIn K mainGlobals "all" = some none)
    (c_SIGNS : PySem.W.nsIn K mainGlobals "SIGNS" = some (some (.str SGN t1)))
    (c_MOST_DEVICES : PySem.W.nsIn K mainGlobals "MOST_DEVICES" = some (some (.int 4 t2)))
    (c_MOST_RELEASES : PySem.W.nsIn K mainGlobals "MOST_RELEASES" = some (some (.int 4 t3)))
    (aC : PySem.W.nsIn K mainGlobals "Course" = some (some (.ref C)))
    (pg : PySem.W.plainGet K C Str.empty = true)
    (hd : PySem.W.hasDictIn K C = true)
    (po : PySem.W.plainOver K C = true)
    (sa : PySem.W.findIn K (.ref C) "__setattr__" = some (some (.builtin "object.__setattr__")))
    (na1 : PySem.W.findIn K (.ref C) "names" = some none)
    (na2 : PySem.W.findIn K (.ref C) "releases" = some none)
    (mkC : PySem.W.makesIn K C = true)
    (kC : PySem.W.keepIn K (.ref C) = true)
    (eAB : PySem.W.nsIn K mainGlobals "BadMixture" = some (some (.ref CB)))
    (eLB : K.lookup CB = some (excClassObj nmB qB CB NB bsB bmB true snB subB abB colB ddB m0B m1B m2B m3B m5B "ValueError.__new__"))
    (eVB : PySem.HandSPX.refsVE bmB = true)
    (eSB : PySem.W.findIn K (.ref CB) "__setattr__" = some (some (.builtin "object.__setattr__")))
    (eGB : PySem.W.findIn K (.ref CB) "__getattribute__" = some (some (.builtin "BaseException.__getattribute__")))
    (eHB : PySem.W.findIn K (.ref CB) "__getattr__" = some none)
    (eNB : PySem.W.findIn K (.ref CB) "mixture" = some none)
    (eIB : PySem.W.findIn K (.ref CB) "__init__" = some (some (.ref fB)))
    (eTB : PySem.W.typeIn K (.ref fB) = some (.type "function"))
    (eFB : K.lookup fB = some ⟨oeB, odeB, .func (PySem.W.fnOf "__init__" "BadMixture.__init__" (PySem.X_BadMixture.iA ⟨26, 17, 26, 21⟩ ⟨26, 23, 26, 30⟩) (PySem.X_BadMixture.iB ⟨27, 8, 27, 12⟩ ⟨27, 8, 27, 20⟩ ⟨27, 23, 27, 30⟩ ⟨27, 8, 27, 30⟩) PySem.X_BadMixture.iS .none .none dceB pmeB aneB cdeB cteB), sleB⟩)
    (eDB : PySem.W.codeIn K cdeB "BadMixture.__init__" = true)
    (eKB : PySem.W.keepIn K (.ref CB) = true)
    (eBB : PySem.W.subIn K (.ref CB) (.type "BaseException") = some true)
    (eYB : PySem.W.typeIn K (.ref CB) = some (.type "type"))
    (eOB : PySem.W.hasDictIn K CB = true)
    (eCB : PySem.W.isClsIn K CB = true)
    (eXB : PySem.W.subIn K (.ref CB) (.ref CB) = some true)
    (eAN : PySem.W.nsIn K mainGlobals "NoWave" = some (some (.ref CN)))
    (eLN : K.lookup CN = some (excClassObj nmN qN CN NN bsN bmN true snN subN abN colN ddN m0N m1N m2N m3N m5N "ValueError.__new__"))
    (eVN : PySem.HandSPX.refsVE bmN = true)
    (eSN : PySem.W.findIn K (.ref CN) "__setattr__" = some (some (.builtin "object.__setattr__")))
    (eGN : PySem.W.findIn K (.ref CN) "__getattribute__" = some (some (.builtin "BaseException.__getattribute__")))
    (eHN : PySem.W.findIn K (.ref CN) "__getattr__" = some none)
    (eNN : PySem.W.findIn K (.ref CN) "lot" = some none)
    (eIN : PySem.W.findIn K (.ref CN) "__init__" = some (some (.ref fN)))
    (eTN : PySem.W.typeIn K (.ref fN) = some (.type "function"))
    (eFN : K.lookup fN = some ⟨oeN, odeN, .func (PySem.W.fnOf "__init__" "NoWave.__init__" (PySem.X_NoWave.iA ⟨30, 17, 30, 21⟩ ⟨30, 23, 30, 26⟩) (PySem.X_NoWave.iB ⟨31, 8, 31, 12⟩ ⟨31, 8, 31, 16⟩ ⟨31, 19, 31, 22⟩ ⟨31, 8, 31, 22⟩) PySem.X_NoWave.iS .none .none dceN pmeN aneN cdeN cteN), sleN⟩)
    (eDN : PySem.W.codeIn K cdeN "NoWave.__init__" = true)
    (eKN : PySem.W.keepIn K (.ref CN) = true)
    (eBN : PySem.W.subIn K (.ref CN) (.type "BaseException") = some true)
    (eYN : PySem.W.typeIn K (.ref CN) = some (.type "type"))
    (eON : PySem.W.hasDictIn K CN = true)
    (eCN : PySem.W.isClsIn K CN = true)
    (eXN : PySem.W.subIn K (.ref CN) (.ref CN) = some true)
    (eXBN : PySem.W.subIn K (.ref CB) (.ref CN) = some false)
    (a_is_number : PySem.W.nsIn K mainGlobals "is_number" = some (some (.ref f1)))
    (l_is_number : K.lookup f1 = some ⟨oc1, od1, .func (PySem.W.fnOf "is_number" "is_number" (defArgs s_is_number) (defBody s_is_number) (defScope s_is_number) .none kV1 dc1 pm1 an1 cd1 ct1), sl1⟩)
    (c_is_number_ : PySem.W.codeIn K cd1 "is_number" = true)
    (k_is_number : PySem.W.keepIn K (.ref f1) = true)
    (a_is_name : PySem.W.nsIn K mainGlobals "is_name" = some (some (.ref f2)))
    (l_is_name : K.lookup f2 = some ⟨oc2, od2, .func (PySem.W.fnOf "is_name" "is_name" (defArgs s_is_name) (defBody s_is_name) (defScope s_is_name) .none kV2 dc2 pm2 an2 cd2 ct2), sl2⟩)
    (c_is_name_ : PySem.W.codeIn K cd2 "is_name" = true)
    (k_is_name : PySem.W.keepIn K (.ref f2) = true)
    (a_check_names : PySem.W.nsIn K mainGlobals "check_names" = some (some (.ref f3)))
    (l_check_names : K.lookup f3 = some ⟨oc3, od3, .func (PySem.W.fnOf "check_names" "check_names" (defArgs s_check_names) (defBody s_check_names) (defScope s_check_names) .none kV3 dc3 pm3 an3 cd3 ct3), sl3⟩)
    (c_check_names_ : PySem.W.codeIn K cd3 "check_names" = true)
    (k_check_names : PySem.W.keepIn K (.ref f3) = true)
    (a_check_releases : PySem.W.nsIn K mainGlobals "check_releases" = some (some (.ref f4)))
    (l_check_releases : K.lookup f4 = some ⟨oc4, od4, .func (PySem.W.fnOf "check_releases" "check_releases" (defArgs s_check_releases) (defBody s_check_releases) (defScope s_check_releases) .none kV4 dc4 pm4 an4 cd4 ct4), sl4⟩)
    (c_check_releases_ : PySem.W.codeIn K cd4 "check_releases" = true)
    (k_check_releases : PySem.W.keepIn K (.ref f4) = true)
    (m_init : PySem.W.findIn K (.ref C) "__init__" = some (some (.ref f5)))
    (ml_init : K.lookup f5 = some ⟨oc5, od5, .func (PySem.W.fnOf "__init__" "Course.__init__" (defArgs s_Course_init) (defBody s_Course_init) (defScope s_Course_init) .none kV5 dc5 pm5 an5 cd5 ct5), sl5⟩)
    (mc_init : PySem.W.codeIn K cd5 "Course.__init__" = true)
    (mf_init : PySem.W.isFn K (.ref f5) = true)
    (mk_init : PySem.W.keepIn K (.ref f5) = true)
    (m_check_mixtures : PySem.W.findIn K (.ref C) "check_mixtures" = some (some (.ref f6)))
    (ml_check_mixtures : K.lookup f6 = some ⟨oc6, od6, .func (PySem.W.fnOf "check_mixtures" "Course.check_mixtures" (defArgs s_Course_check_mixtures) (defBody s_Course_check_mixtures) (defScope s_Course_check_mixtures) .none kV6 dc6 pm6 an6 cd6 ct6), sl6⟩)
    (mc_check_mixtures : PySem.W.codeIn K cd6 "Course.check_mixtures" = true)
    (mf_check_mixtures : PySem.W.isFn K (.ref f6) = true)
    (mk_check_mixtures : PySem.W.keepIn K (.ref f6) = true)
    (m_mixtures : PySem.W.findIn K (.ref C) "mixtures" = some (some (.ref f7)))
    (ml_mixtures : K.lookup f7 = some ⟨oc7, od7, .func (PySem.W.fnOf "mixtures" "Course.mixtures" (defArgs s_Course_mixtures) (defBody s_Course_mixtures) (defScope s_Course_mixtures) .none kV7 dc7 pm7 an7 cd7 ct7), sl7⟩)
    (mc_mixtures : PySem.W.codeIn K cd7 "Course.mixtures" = true)
    (mf_mixtures : PySem.W.isFn K (.ref f7) = true)
    (mk_mixtures : PySem.W.keepIn K (.ref f7) = true)
    (m_missing : PySem.W.findIn K (.ref C) "missing" = some (some (.ref f8)))
    (ml_missing : K.lookup f8 = some ⟨oc8, od8, .func (PySem.W.fnOf "missing" "Course.missing" (defArgs s_Course_missing) (defBody s_Course_missing) (defScope s_Course_missing) .none kV8 dc8 pm8 an8 cd8 ct8), sl8⟩)
    (mc_missing : PySem.W.codeIn K cd8 "Course.missing" = true)
    (mf_missing : PySem.W.isFn K (.ref f8) = true)
    (mk_missing : PySem.W.keepIn K (.ref f8) = true)
    (a_mend : PySem.W.nsIn K mainGlobals "mend" = some (some (.ref f9)))
    (l_mend : K.lookup f9 = some ⟨oc9, od9, .func (PySem.W.fnOf "mend" "mend" (defArgs s_mend) (defBody s_mend) (defScope s_mend) .none kV9 dc9 pm9 an9 cd9 ct9), sl9⟩)
    (c_mend_ : PySem.W.codeIn K cd9 "mend" = true)
    (k_mend : PySem.W.keepIn K (.ref f9) = true)
    (a_law_source : PySem.W.nsIn K mainGlobals "_law_source" = some (some (.ref f10)))
    (l_law_source : K.lookup f10 = some ⟨oc10, od10, .func (PySem.W.fnOf "_law_source" "_law_source" (defArgs s_law_source) (defBody s_law_source) (defScope s_law_source) .none kV10 dc10 pm10 an10 cd10 ct10), sl10⟩)
    (c_law_source_ : PySem.W.codeIn K cd10 "_law_source" = true)
    (k_law_source : PySem.W.keepIn K (.ref f10) = true)
    (a_law_draw : PySem.W.nsIn K mainGlobals "_law_draw" = some (some (.ref f11)))
    (l_law_draw : K.lookup f11 = some ⟨oc11, od11, .func (PySem.W.fnOf "_law_draw" "_law_draw" (defArgs s_law_draw) (defBody s_law_draw) (defScope s_law_draw) .none kV11 dc11 pm11 an11 cd11 ct11), sl11⟩)
    (c_law_draw_ : PySem.W.codeIn K cd11 "_law_draw" = true)
    (k_law_draw : PySem.W.keepIn K (.ref f11) = true)
    (a_law_names : PySem.W.nsIn K mainGlobals "_law_names" = some (some (.ref f12)))
    (l_law_names : K.lookup f12 = some ⟨oc12, od12, .func (PySem.W.fnOf "_law_names" "_law_names" (defArgs s_law_names) (defBody s_law_names) (defScope s_law_names) .none kV12 dc12 pm12 an12 cd12 ct12), sl12⟩)
    (c_law_names_ : PySem.W.codeIn K cd12 "_law_names" = true)
    (k_law_names : PySem.W.keepIn K (.ref f12) = true)
    (a_law_plain : PySem.W.nsIn K mainGlobals "_law_plain" = some (some (.ref f13)))
    (l_law_plain : K.lookup f13 = some ⟨oc13, od13, .func (PySem.W.fnOf "_law_plain" "_law_plain" (defArgs s_law_plain) (defBody s_law_plain) (defScope s_law_plain) .none kV13 dc13 pm13 an13 cd13 ct13), sl13⟩)
    (c_law_plain_ : PySem.W.codeIn K cd13 "_law_plain" = true)
    (k_law_plain : PySem.W.keepIn K (.ref f13) = true)
    (a_law_offers : PySem.W.nsIn K mainGlobals "_law_offers" = some (some (.ref f14)))
    (l_law_offers : K.lookup f14 = some ⟨oc14, od14, .func (PySem.W.fnOf "_law_offers" "_law_offers" (defArgs s_law_offers) (defBody s_law_offers) (defScope s_law_offers) .none kV14 dc14 pm14 an14 cd14 ct14), sl14⟩)
    (c_law_offers_ : PySem.W.codeIn K cd14 "_law_offers" = true)
    (k_law_offers : PySem.W.keepIn K (.ref f14) = true)
    (a_law_wants : PySem.W.nsIn K mainGlobals "_law_wants" = some (some (.ref f15)))
    (l_law_wants : K.lookup f15 = some ⟨oc15, od15, .func (PySem.W.fnOf "_law_wants" "_law_wants" (defArgs s_law_wants) (defBody s_law_wants) (defScope s_law_wants) .none kV15 dc15 pm15 an15 cd15 ct15), sl15⟩)
    (c_law_wants_ : PySem.W.codeIn K cd15 "_law_wants" = true)
    (k_law_wants : PySem.W.keepIn K (.ref f15) = true)
    (a_law_course : PySem.W.nsIn K mainGlobals "_law_course" = some (some (.ref f16)))
    (l_law_course : K.lookup f16 = some ⟨oc16, od16, .func (PySem.W.fnOf "_law_course" "_law_course" (defArgs s_law_course) (defBody s_law_course) (defScope s_law_course) .none kV16 dc16 pm16 an16 cd16 ct16), sl16⟩)
    (c_law_course_ : PySem.W.codeIn K cd16 "_law_course" = true)
    (k_law_course : PySem.W.keepIn K (.ref f16) = true)
    (a_law_mixtures : PySem.W.nsIn K mainGlobals "_law_mixtures" = some (some (.ref f17)))
    (l_law_mixtures : K.lookup f17 = some ⟨oc17, od17, .func (PySem.W.fnOf "_law_mixtures" "_law_mixtures" (defArgs s_law_mixtures) (defBody s_law_mixtures) (defScope s_law_mixtures) .none kV17 dc17 pm17 an17 cd17 ct17), sl17⟩)
    (c_law_mixtures_ : PySem.W.codeIn K cd17 "_law_mixtures" = true)
    (k_law_mixtures : PySem.W.keepIn K (.ref f17) = true)
    (a_law_offered : PySem.W.nsIn K mainGlobals "_law_offered" = some (some (.ref f18)))
    (l_law_offered : K.lookup f18 = some ⟨oc18, od18, .func (PySem.W.fnOf "_law_offered" "_law_offered" (defArgs s_law_offered) (defBody s_law_offered) (defScope s_law_offered) .none kV18 dc18 pm18 an18 cd18 ct18), sl18⟩)
    (c_law_offered_ : PySem.W.codeIn K cd18 "_law_offered" = true)
    (k_law_offered : PySem.W.keepIn K (.ref f18) = true)
    (a_law_missing : PySem.W.nsIn K mainGlobals "_law_missing" = some (some (.ref f19)))
    (l_law_missing : K.lookup f19 = some ⟨oc19, od19, .func (PySem.W.fnOf "_law_missing" "_law_missing" (defArgs s_law_missing) (defBody s_law_missing) (defScope s_law_missing) .none kV19 dc19 pm19 an19 cd19 ct19), sl19⟩)
    (c_law_missing_ : PySem.W.codeIn K cd19 "_law_missing" = true)
    (k_law_missing : PySem.W.keepIn K (.ref f19) = true)
    (a_law_best : PySem.W.nsIn K mainGlobals "_law_best" = some (some (.ref f20)))
    (l_law_best : K.lookup f20 = some ⟨oc20, od20, .func (PySem.W.fnOf "_law_best" "_law_best" (defArgs s_law_best) (defBody s_law_best) (defScope s_law_best) .none kV20 dc20 pm20 an20 cd20 ct20), sl20⟩)
    (c_law_best_ : PySem.W.codeIn K cd20 "_law_best" = true)
    (k_law_best : PySem.W.keepIn K (.ref f20) = true)
    (a_law_asked : PySem.W.nsIn K mainGlobals "_law_asked" = some (some (.ref f21)))
    (l_law_asked : K.lookup f21 = some ⟨oc21, od21, .func (PySem.W.fnOf "_law_asked" "_law_asked" (defArgs s_law_asked) (defBody s_law_asked) (defScope s_law_asked) .none kV21 dc21 pm21 an21 cd21 ct21), sl21⟩)
    (c_law_asked_ : PySem.W.codeIn K cd21 "_law_asked" = true)
    (k_law_asked : PySem.W.keepIn K (.ref f21) = true)
    (a_law_wanting : PySem.W.nsIn K mainGlobals "_law_wanting" = some (some (.ref f22)))
    (l_law_wanting : K.lookup f22 = some ⟨oc22, od22, .func (PySem.W.fnOf "_law_wanting" "_law_wanting" (defArgs s_law_wanting) (defBody s_law_wanting) (defScope s_law_wanting) .none kV22 dc22 pm22 an22 cd22 ct22), sl22⟩)
    (c_law_wanting_ : PySem.W.codeIn K cd22 "_law_wanting" = true)
    (k_law_wanting : PySem.W.keepIn K (.ref f22) = true)
    (a_law_mixture : PySem.W.nsIn K mainGlobals "_law_mixture" = some (some (.ref f23)))
    (l_law_mixture : K.lookup f23 = some ⟨oc23, od23, .func (PySem.W.fnOf "_law_mixture" "_law_mixture" (defArgs s_law_mixture) (defBody s_law_mixture) (defScope s_law_mixture) .none kV23 dc23 pm23 an23 cd23 ct23), sl23⟩)
    (c_law_mixture_ : PySem.W.codeIn K cd23 "_law_mixture" = true)
    (k_law_mixture : PySem.W.keepIn K (.ref f23) = true)
    (a_law : PySem.W.nsIn K mainGlobals "law" = some (some (.ref f24)))
    (l_law : K.lookup f24 = some ⟨oc24, od24, .func (PySem.W.fnOf "law" "law" (defArgs s_law) (defBody s_law) (defScope s_law) .none kV24 dc24 pm24 an24 cd24 ct24), sl24⟩)
    (c_law_ : PySem.W.codeIn K cd24 "law" = true)
    (k_law : PySem.W.keepIn K (.ref f24) = true)
    : ∃ fd : FuncData, (∀ (s : Shared) (v : Value), BindsTo s fd ⟨[v], []⟩ [("script", v)]) ∧ ∀ base : Heap, K.In base → base.Ns mainGlobals mg → FnOk P w K mg base CX0 8 fa fd ["script"] (spA (R_law K)) := by
  have e := hfa.symm.trans (PySem.W.mg_of X G a_law)
  cases e
  let T : TopE K mg := { len := PySem.W.mg_none_of X G b_len, abs := PySem.W.mg_none_of X G b_abs, int := PySem.W.mg_none_of X G b_int, str := PySem.W.mg_none_of X G b_str, tuple := PySem.W.mg_none_of X G b_tuple, list := PySem.W.mg_none_of X G b_list, bool := PySem.W.mg_none_of X G b_bool, sorted := PySem.W.mg_none_of X G b_sorted, isinstance := PySem.W.mg_none_of X G b_isinstance, range := PySem.W.mg_none_of X G b_range, zip := PySem.W.mg_none_of X G b_zip, max := PySem.W.mg_none_of X G b_max, all := PySem.W.mg_none_of X G b_all, C := C, t1 := t1, t2 := t2, t3 := t3, c_SIGNS := PySem.W.mg_of X G c_SIGNS, c_MOST_DEVICES := PySem.W.mg_of X G c_MOST_DEVICES, c_MOST_RELEASES := PySem.W.mg_of X G c_MOST_RELEASES, cls_Course := ⟨pg, hd, po, sa⟩, na_names := na1, na_releases := na2, CB := CB, fB := fB, CN := CN, fN := fN, x_BadMixture := { gC := PySem.W.mg_of X G eAB, cls := ⟨_, _, _, _, _, _, _, _, _, _, _, _, _, _, _, eLB, eVB⟩, sa := eSB, ga := eGB, gg := eHB, noN := eNB, iC := eIB, tC := eTB, kC := eKB, exC := eBB, tyC := eYB, hdC := eOB, te := exm_of eBB eCB eYB eXB, fn := ⟨_, _, _, _, _, _, _, _, _, _, _, _, _, _, eFB, eDB⟩ }, x_NoWave := { gC := PySem.W.mg_of X G eAN, cls := ⟨_, _, _, _, _, _, _, _, _, _, _, _, _, _, _, eLN, eVN⟩, sa := eSN, ga := eGN, gg := eHN, noN := eNN, iC := eIN, tC := eTN, kC := eKN, exC := eBN, tyC := eYN, hdC := eON, te := exm_of eBN eCN eYN eXN, fn := ⟨_, _, _, _, _, _, _, _, _, _, _, _, _, _, eFN, eDN⟩ }, e_BN := exm_of eBN eCN eYN eXBN, e_BB := exm_of eBB eCB eYB eXB, e_NN := exm_of eBN eCN eYN eXN }
  have F_is_number := fun_mk (st := s_is_number) l_is_number c_is_number_ k_is_number
  have B_is_number := F_is_number.binds (ps := ["thing"]) fun _ _ _ _ _ _ us hl => match us, hl with | [_], _ => rfl
  have F_is_name := fun_mk (st := s_is_name) l_is_name c_is_name_ k_is_name
  have B_is_name := F_is_name.binds (ps := ["thing"]) fun _ _ _ _ _ _ us hl => match us, hl with | [_], _ => rfl
  have F_check_names := fun_mk (st := s_check_names) l_check_names c_check_names_ k_check_names
  have B_check_names := F_check_names.binds (ps := ["names"]) fun _ _ _ _ _ _ us hl => match us, hl with | [_], _ => rfl
  have F_check_releases := fun_mk (st := s_check_releases) l_check_releases c_check_releases_ k_check_releases
  have B_check_releases := F_check_releases.binds (ps := ["names", "releases"]) fun _ _ _ _ _ _ us hl => match us, hl with | [_, _], _ => rfl
  have FI := fun_mk (st := s_Course_init) ml_init mc_init mk_init
  have BI := FI.binds (ps := ["self", "names", "releases"]) fun _ _ _ _ _ _ us hl => match us, hl with | [_, _, _], _ => rfl
  have FC := fun_mk (st := s_Course_check_mixtures) ml_check_mixtures mc_check_mixtures mk_check_mixtures
  have FX := fun_mk (st := s_Course_mixtures) ml_mixtures mc_mixtures mk_mixtures
  have BX := FX.binds (ps := ["self"]) fun _ _ _ _ _ _ us hl => match us, hl with | [_], _ => rfl
  have FM := fun_mk (st := s_Course_missing) ml_missing mc_missing mk_missing
  have BM := FM.binds (ps := ["self", "mixture"]) fun _ _ _ _ _ _ us hl => match us, hl with | [_, _], _ => rfl
  have F_mend := fun_mk (st := s_mend) l_mend c_mend_ k_mend
  have B_mend := F_mend.binds (ps := ["course", "mixture"]) fun _ _ _ _ _ _ us hl => match us, hl with | [_, _], _ => rfl
  have F_law_source := fun_mk (st := s_law_source) l_law_source c_law_source_ k_law_source
  have B_law_source := F_law_source.binds (ps := ["script"]) fun _ _ _ _ _ _ us hl => match us, hl with | [_], _ => rfl
  have F_law_draw := fun_mk (st := s_law_draw) l_law_draw c_law_draw_ k_law_draw
  have B_law_draw := F_law_draw.binds (ps := ["source", "below"]) fun _ _ _ _ _ _ us hl => match us, hl with | [_, _], _ => rfl
  have F_law_names := fun_mk (st := s_law_names) l_law_names c_law_names_ k_law_names
  have B_law_names := F_law_names.binds (ps := ["source", "count"]) fun _ _ _ _ _ _ us hl => match us, hl with | [_, _], _ => rfl
  have F_law_plain := fun_mk (st := s_law_plain) l_law_plain c_law_plain_ k_law_plain
  have B_law_plain := F_law_plain.binds (ps := ["thing"]) fun _ _ _ _ _ _ us hl => match us, hl with | [_], _ => rfl
  have F_law_offers := fun_mk (st := s_law_offers) l_law_offers c_law_offers_ k_law_offers
  have B_law_offers := F_law_offers.binds (ps := ["source", "known", "mode", "number"]) fun _ _ _ _ _ _ us hl => match us, hl with | [_, _, _, _], _ => rfl
  have F_law_wants := fun_mk (st := s_law_wants) l_law_wants c_law_wants_ k_law_wants
  have B_law_wants := F_law_wants.binds (ps := ["source", "k", "names", "known", "mode", "number", "nobody"]) fun _ _ _ _ _ _ us hl => match us, hl with | [_, _, _, _, _, _, _], _ => rfl
  have F_law_course := fun_mk (st := s_law_course) l_law_course c_law_course_ k_law_course
  have B_law_course := F_law_course.binds (ps := ["source", "devices", "most"]) fun _ _ _ _ _ _ us hl => match us, hl with | [_, _, _], _ => rfl
  have F_law_mixtures := fun_mk (st := s_law_mixtures) l_law_mixtures c_law_mixtures_ k_law_mixtures
  have B_law_mixtures := F_law_mixtures.binds (ps := ["releases"]) fun _ _ _ _ _ _ us hl => match us, hl with | [_], _ => rfl
  have F_law_offered := fun_mk (st := s_law_offered) l_law_offered c_law_offered_ k_law_offered
  have B_law_offered := F_law_offered.binds (ps := ["names", "releases", "mixture", "want"]) fun _ _ _ _ _ _ us hl => match us, hl with | [_, _, _, _], _ => rfl
  have F_law_missing := fun_mk (st := s_law_missing) l_law_missing c_law_missing_ k_law_missing
  have B_law_missing := F_law_missing.binds (ps := ["names", "releases", "mixture"]) fun _ _ _ _ _ _ us hl => match us, hl with | [_, _, _], _ => rfl
  have F_law_best := fun_mk (st := s_law_best) l_law_best c_law_best_ k_law_best
  have B_law_best := F_law_best.binds (ps := ["mixture", "good"]) fun _ _ _ _ _ _ us hl => match us, hl with | [_, _], _ => rfl
  have F_law_asked := fun_mk (st := s_law_asked) l_law_asked c_law_asked_ k_law_asked
  have B_law_asked := F_law_asked.binds (ps := ["course", "mixture"]) fun _ _ _ _ _ _ us hl => match us, hl with | [_, _], _ => rfl
  have F_law_wanting := fun_mk (st := s_law_wanting) l_law_wanting c_law_wanting_ k_law_wanting
  have B_law_wanting := F_law_wanting.binds (ps := ["releases", "want"]) fun _ _ _ _ _ _ us hl => match us, hl with | [_, _], _ => rfl
  have F_law_mixture := fun_mk (st := s_law_mixture) l_law_mixture c_law_mixture_ k_law_mixture
  have B_law_mixture := F_law_mixture.binds (ps := ["source", "releases", "good"]) fun _ _ _ _ _ _ us hl => match us, hl with | [_, _, _], _ => rfl
  have F_law := fun_mk (st := s_law) l_law c_law_ k_law
  refine ⟨PySem.W.fnOf "law" "law" (defArgs s_law) (defBody s_law) (defScope s_law) .none kV24 dc24 pm24 an24 cd24 ct24, fun s v => .of_eq rfl, fun base _ _ => ?_⟩
  have G_is_number := FnA.of (P := P) (w := w) (base := base) (PySem.W.mg_of X G a_is_number) (ok_isnum T.toBlt F_is_number) B_is_number k_is_number
  have G_is_name := FnA.of (P := P) (w := w) (base := base) (PySem.W.mg_of X G a_is_name) (ok_isname T.toTopC F_is_name) B_is_name k_is_name
  have G_check_names := FnA.of (P := P) (w := w) (base := base) (PySem.W.mg_of X G a_check_names) (ok_chkn T.toTopC G_is_name F_check_names) B_check_names k_check_names
  have G_check_releases := FnA.of (P := P) (w := w) (base := base) (PySem.W.mg_of X G a_check_releases) (ok_chkr T.toTopC F_check_releases) B_check_releases k_check_releases
  have GC_Course : MkA P w K mg base CX0 3 "Course" T.C (R_init T.C) := ⟨⟨_, PySem.W.mg_of X G aC, ⟨mkC, m_init, mf_init, kC⟩, AL.FnOk.toR (ok_init T.toTopC G_check_names G_check_releases FI) BI⟩⟩
  have GM_chk0 : MtA P w K mg base CX0 2 T.C "check_mixtures" (rStar 1 (R_chkm T.C)) := ⟨⟨_, ⟨m_check_mixtures, mf_check_mixtures, mk_check_mixtures⟩, ok_chkm T.toTopC G_is_number FC⟩, T.cls_Course⟩
  have GM_check_mixtures : MtA P w K mg base (L2.CX P w) 2 T.C "check_mixtures" (rStar 1 (Rx_chkm T.C T.CB)) := ⟨⟨_, ⟨m_check_mixtures, mf_check_mixtures, mk_check_mixtures⟩, okx_chkm T.toTopX G_is_number FC⟩, T.cls_Course⟩
  have GM_mixtures : MtA P w K mg base CX0 1 T.C "mixtures" (R_mxs T.C) := ⟨⟨_, ⟨m_mixtures, mf_mixtures, mk_mixtures⟩, AL.FnOk.toR (ok_mxs T.toTopC FX) BX⟩, T.cls_Course⟩
  have GM_missing : MtA P w K mg base CX0 3 T.C "missing" (R_miss T.C) := ⟨⟨_, ⟨m_missing, mf_missing, mk_missing⟩, AL.FnOk.toR (ok_miss T.toTopC GM_chk0 FM) BM⟩, T.cls_Course⟩
  have G_mend := FnA.of (P := P) (w := w) (base := base) (PySem.W.mg_of X G a_mend) (ok_mend T GM_check_mixtures GM_mixtures GM_missing F_mend) B_mend k_mend
  have G_law_source := FnA.of (P := P) (w := w) (base := base) (PySem.W.mg_of X G a_law_source) (ok_source T.toBlt F_law_source) B_law_source k_law_source
  have G_law_draw := FnA.of (P := P) (w := w) (base := base) (PySem.W.mg_of X G a_law_draw) (ok_draw T.toBlt F_law_draw) B_law_draw k_law_draw
  have G_law_names := FnA.of (P := P) (w := w) (base := base) (PySem.W.mg_of X G a_law_names) (ok_names T.toBlt G_law_draw F_law_names) B_law_names k_law_names
  have G_law_plain := plain_all T.toBlt F_law_plain B_law_plain (PySem.W.mg_of X G a_law_plain) k_law_plain (base := base) (P := P) (w := w) 6
  have G_law_offers := FnA.of (P := P) (w := w) (base := base) (PySem.W.mg_of X G a_law_offers) (ok_offers T.toBlt G_law_draw F_law_offers) B_law_offers k_law_offers
  have G_law_wants := FnA.of (P := P) (w := w) (base := base) (PySem.W.mg_of X G a_law_wants) (ok_wants T.toBlt G_law_draw F_law_wants) B_law_wants k_law_wants
  have G_law_course := FnA.of (P := P) (w := w) (base := base) (PySem.W.mg_of X G a_law_course) (ok_course T.toBlt G_law_draw G_law_names G_law_offers G_law_wants F_law_course) B_law_course k_law_course
  have G_law_mixtures := FnA.of (P := P) (w := w) (base := base) (PySem.W.mg_of X G a_law_mixtures) (ok_mixtures T.toBlt F_law_mixtures) B_law_mixtures k_law_mixtures
  have G_law_offered := FnA.of (P := P) (w := w) (base := base) (PySem.W.mg_of X G a_law_offered) (ok_offered T.toBlt F_law_offered) B_law_offered k_law_offered
  have G_law_missing := FnA.of (P := P) (w := w) (base := base) (PySem.W.mg_of X G a_law_missing) (ok_lmissing T.toBlt G_law_offered F_law_missing) B_law_missing k_law_missing
  have G_law_best := FnA.of (P := P) (w := w) (base := base) (PySem.W.mg_of X G a_law_best) (ok_best T.toBlt F_law_best) B_law_best k_law_best
  have G_law_asked := FnA.of (P := P) (w := w) (base := base) (PySem.W.mg_of X G a_law_asked) (ok_asked T G_mend F_law_asked) B_law_asked k_law_asked
  have G_law_wanting := FnA.of (P := P) (w := w) (base := base) (PySem.W.mg_of X G a_law_wanting) (ok_wanting T.toBlt F_law_wanting) B_law_wanting k_law_wanting
  have G_law_mixture := FnA.of (P := P) (w := w) (base := base) (PySem.W.mg_of X G a_law_mixture) (ok_mixture T.toBlt G_law_draw F_law_mixture) B_law_mixture k_law_mixture
  exact ok_law T G_law_source G_law_draw G_law_course G_law_wanting G_law_mixtures G_law_missing G_law_mixture GC_Course G_law_best G_law_asked G_law_plain F_law
end R76

/-! ## K76r -/
open PySem PySem.W PyProof.Rows
set_option Elab.async false
set_option maxRecDepth 100000
set_option maxHeartbeats 0
theorem PySem.Challenge.cw_romwright_k76_mended_holds : PySem.Challenge.rw_romwright_k76_mended.Holds := by
  w_on; o_law; k_head; (case hw => w_witness2)
  k_fill
  refine L2.walk_of (l := PySem.Challenge.rw_romwright_k76_mended) (n := 63) (k := 8) (x := "script") (CX := fun _ => L2.CX0) (sp := fun w => AL.spA (R76.R_law _)) rfl (by decide) rfl ⟨rfl, by decide, by decide⟩ (fun w h Y => PySem.W.kIn_of Y) ?F (fun _ _ a ns hl hO hS => AL.scr_sp hl hO hS fun sd h1 h2 => ⟨ns, sd, rfl, h1, h2, fun _ => rfl⟩) (fun _ _ _ _ _ z => z)
  case F =>
    intro w mg fa h KX G hmg
    refine' R76.all_mk KX G hmg ?b_len ?b_abs ?b_int ?b_str ?b_tuple ?b_list ?b_bool ?b_sorted ?b_isinstance ?b_range ?b_zip ?b_max ?b_all ?c_SIGNS ?c_MOST_DEVICES ?c_MOST_RELEASES ?aC ?pg ?hd ?po ?sa ?na1 ?na2 ?mkC ?kC ?eAB ?eLB ?eVB ?eSB ?eGB ?eHB ?eNB ?eIB ?eTB ?eFB ?eDB ?eKB ?eBB ?eYB ?eOB ?eCB ?eXB ?eAN ?eLN ?eVN ?eSN ?eGN ?eHN ?eNN ?eIN ?eTN ?eFN ?eDN ?eKN ?eBN ?eYN ?eON ?eCN ?eXN ?eXBN ?a_is_number ?l_is_number ?c_is_number_ ?k_is_number ?a_is_name ?l_is_name ?c_is_name_ ?k_is_name ?a_check_names ?l_check_names ?c_check_names_ ?k_check_names ?a_check_releases ?l_check_releases ?c_check_releases_ ?k_check_releases ?m_init ?ml_init ?mc_init ?mf_init ?mk_init ?m_check_mixtures ?ml_check_mixtures ?mc_check_mixtures ?mf_check_mixtures ?mk_check_mixtures ?m_mixtures ?ml_mixtures ?mc_mixtures ?mf_mixtures ?mk_mixtures ?m_missing ?ml_missing ?mc_missing ?mf_missing ?mk_missing ?a_mend ?l_mend ?c_mend_ ?k_mend ?a_law_source ?l_law_source ?c_law_source_ ?k_law_source ?a_law_draw ?l_law_draw ?c_law_draw_ ?k_law_draw ?a_law_names ?l_law_names ?c_law_names_ ?k_law_names ?a_law_plain ?l_law_plain ?c_law_plain_ ?k_law_plain ?a_law_offers ?l_law_offers ?c_law_offers_ ?k_law_offers ?a_law_wants ?l_law_wants ?c_law_wants_ ?k_law_wants ?a_law_course ?l_law_course ?c_law_course_ ?k_law_course ?a_law_mixtures ?l_law_mixtures ?c_law_mixtures_ ?k_law_mixtures ?a_law_offered ?l_law_offered ?c_law_offered_ ?k_law_offered ?a_law_missing ?l_law_missing ?c_law_missing_ ?k_law_missing ?a_law_best ?l_law_best ?c_law_best_ ?k_law_best ?a_law_asked ?l_law_asked ?c_law_asked_ ?k_law_asked ?a_law_wanting ?l_law_wanting ?c_law_wanting_ ?k_law_wanting ?a_law_mixture ?l_law_mixture ?c_law_mixture_ ?k_law_mixture ?a_law ?l_law ?c_law_ ?k_law
    (case b_len => k_is); (case b_abs => k_is); (case b_int => k_is); (case b_str => k_is); (case b_tuple => k_is); (case b_list => k_is)
    (case b_bool => k_is); (case b_sorted => k_is); (case b_isinstance => k_is); (case b_range => k_is); (case b_zip => k_is); (case b_max => k_is)
    (case b_all => k_is); (case c_SIGNS => k_is); (case c_MOST_DEVICES => k_is); (case c_MOST_RELEASES => k_is); (case aC => k_is); (case pg => k_is)
    (case hd => k_is); (case po => k_is); (case sa => k_is); (case na1 => k_is); (case na2 => k_is); (case mkC => k_is)
    (case kC => k_is); (case eAB => k_is); (case eLB => k_is); (case eVB => first | rfl | k_is | decide +kernel); (case eSB => k_is); (case eGB => k_is)
    (case eHB => k_is); (case eNB => k_is); (case eIB => k_is); (case eTB => k_is); (case eFB => k_is); (case eDB => k_is)
    (case eKB => k_is); (case eBB => k_is); (case eYB => k_is); (case eOB => k_is); (case eCB => k_is); (case eXB => first | rfl | k_is | decide +kernel)
    (case eAN => k_is); (case eLN => k_is); (case eVN => first | rfl | k_is | decide +kernel); (case eSN => k_is); (case eGN => k_is); (case eHN => k_is)
    (case eNN => k_is); (case eIN => k_is); (case eTN => k_is); (case eFN => k_is); (case eDN => k_is); (case eKN => k_is)
    (case eBN => k_is); (case eYN => k_is); (case eON => k_is); (case eCN => k_is); (case eXN => first | rfl | k_is | decide +kernel); (case eXBN => first | rfl | k_is | decide +kernel)
    (case a_is_number => k_is); (case l_is_number => k_is); (case c_is_number_ => k_is); (case k_is_number => k_is); (case a_is_name => k_is); (case l_is_name => k_is)
    (case c_is_name_ => k_is); (case k_is_name => k_is); (case a_check_names => k_is); (case l_check_names => k_is); (case c_check_names_ => k_is); (case k_check_names => k_is)
    (case a_check_releases => k_is); (case l_check_releases => k_is); (case c_check_releases_ => k_is); (case k_check_releases => k_is); (case m_init => k_is); (case ml_init => k_is)
    (case mc_init => k_is); (case mf_init => k_is); (case mk_init => k_is); (case m_check_mixtures => k_is); (case ml_check_mixtures => k_is); (case mc_check_mixtures => k_is)
    (case mf_check_mixtures => k_is); (case mk_check_mixtures => k_is); (case m_mixtures => k_is); (case ml_mixtures => k_is); (case mc_mixtures => k_is); (case mf_mixtures => k_is)
    (case mk_mixtures => k_is); (case m_missing => k_is); (case ml_missing => k_is); (case mc_missing => k_is); (case mf_missing => k_is); (case mk_missing => k_is)
    (case a_mend => k_is); (case l_mend => k_is); (case c_mend_ => k_is); (case k_mend => k_is); (case a_law_source => k_is); (case l_law_source => k_is)
    (case c_law_source_ => k_is); (case k_law_source => k_is); (case a_law_draw => k_is); (case l_law_draw => k_is); (case c_law_draw_ => k_is); (case k_law_draw => k_is)
    (case a_law_names => k_is); (case l_law_names => k_is); (case c_law_names_ => k_is); (case k_law_names => k_is); (case a_law_plain => k_is); (case l_law_plain => k_is)
    (case c_law_plain_ => k_is); (case k_law_plain => k_is); (case a_law_offers => k_is); (case l_law_offers => k_is); (case c_law_offers_ => k_is); (case k_law_offers => k_is)
    (case a_law_wants => k_is); (case l_law_wants => k_is); (case c_law_wants_ => k_is); (case k_law_wants => k_is); (case a_law_course => k_is); (case l_law_course => k_is)
    (case c_law_course_ => k_is); (case k_law_course => k_is); (case a_law_mixtures => k_is); (case l_law_mixtures => k_is); (case c_law_mixtures_ => k_is); (case k_law_mixtures => k_is)
    (case a_law_offered => k_is); (case l_law_offered => k_is); (case c_law_offered_ => k_is); (case k_law_offered => k_is); (case a_law_missing => k_is); (case l_law_missing => k_is)
    (case c_law_missing_ => k_is); (case k_law_missing => k_is); (case a_law_best => k_is); (case l_law_best => k_is); (case c_law_best_ => k_is); (case k_law_best => k_is)
    (case a_law_asked => k_is); (case l_law_asked => k_is); (case c_law_asked_ => k_is); (case k_law_asked => k_is); (case a_law_wanting => k_is); (case l_law_wanting => k_is)
    (case c_law_wanting_ => k_is); (case k_law_wanting => k_is); (case a_law_mixture => k_is); (case l_law_mixture => k_is); (case c_law_mixture_ => k_is); (case k_law_mixture => k_is)
    (case a_law => k_is); (case l_law => k_is); (case c_law_ => k_is); (case k_law => k_is)
#print axioms PySem.Challenge.cw_romwright_k76_mended_holds
