import PyProof.Rows.All
import Wide.All
import OpenK.AllK
import Wide.FinOn
import HandS.ForMost
import HandS.Wide
import HandS.Defaults
import HandS.Property
import HandS.IsInst
import HandS.DictComp
import HandS.SortInts
import HandS.More
import HandS.HeadHook1
import HandS.Strs
import HandS.SetBool
import HandS.SetKeys
import PyProof.Rows.RuleB_bool
import HandS.Deep
import HandS.List
import KE.GoesEnumKw
import KE.KDictList
import PyProof.DictValues
import HandS.Star
import HandS.ListItems
import HandS.Dict
import HandS.DictEq
import HandS.TryOnly
import KE.KDictWalk
import HandS.DeepEq
import HandS.HeadHook2
import HandS.HeadEnd
import HandS.Head2
import PySem.Challenge.RW_laprunners_k82_whole_scaled_races
set_option Elab.async false
set_option linter.all false
set_option maxRecDepth 100000
set_option maxHeartbeats 0
/-! ## L3A -/
/-! A layer of pure values over the hand layer: PV a value without addresses; a world W = what is frozen (D) and which cells are shared (M). -/
namespace L3
open PySem PySem.Spec PyProof.Rows L2

/-- pure values -/
inductive PV where
  | non | bl (b : Bool) | int (i : Int) | str (x : Str) | ty (n : String)
  | tup (l : List PV) | lst (l : List PV) | frz (l : List PV)
  | dic (l : List (Key × PV)) | dct (l : List (List Key × PV))
  | obj (c : Str) (fs : List (Str × PV))
  | cel
  | raw (a : Addr)

structure Wd where
  D : Hp
  M : Addr → Prop
structure Wd.le (W W' : Wd) : Prop where
  d : ∀ a o, W.D a = some o → W'.D a = some o
  m : ∀ a, W.M a → W'.M a
theorem Wd.le.refl (W : Wd) : W.le W := ⟨fun _ _ h => h, fun _ h => h⟩
theorem Wd.le.trans {A B C : Wd} (h : A.le B) (g : B.le C) : A.le C := ⟨fun a o e => g.d a o (h.d a o e), fun a e => g.m a (h.m a e)⟩

mutual
inductive Dat (K : PySem.W.Frag) (W : Wd) : V → PV → Prop
  | non : Dat K W .non .non
  | bl (b : Bool) : Dat K W (.bl b) (.bl b)
  | int (i : Int) : Dat K W (.int i) (.int i)
  | str (x : Str) : Dat K W (.str x) (.str x)
  | ty (n : String) : Dat K W (.ty n) (.ty n)
  | tup {a : Addr} {xs : List V} {l : List PV} (h : W.D a = some (.tup xs)) (r : DatL K W xs l) : Dat K W (.ref a) (.tup l)
  | lst {a : Addr} {xs : List V} {l : List PV} (h : W.D a = some (.lst xs)) (r : DatL K W xs l) : Dat K W (.ref a) (.lst l)
  | frz {a : Addr} {o : Obj} {xs : List V} {l : List PV} (h : SqL K W.D a xs) (r : DatL K W xs l) : Dat K W (.ref a) (.frz l)
  | dic {a : Addr} {xs : List (Key × V)} {l : List (Key × PV)} (h : W.D a = some (.dK xs)) (r : DatK K W xs l) : Dat K W (.ref a) (.dic l)
  | dct {a : Addr} {xs : List (List Key × V)} {l : List (List Key × PV)} (h : W.D a = some (.dT xs)) (r : DatT K W xs l) : Dat K W (.ref a) (.dct l)
  | obj {a dx : Addr} {c : Str} {xs : List (Str × V)} {l : List (Str × PV)} (h : W.D a = some (.ins (He.ga K c) dx xs)) (r : DatF K W xs l) : Dat K W (.ref a) (.obj c l)
  | cel {a : Addr} (h : W.M a) : Dat K W (.ref a) .cel
  | raw (a : Addr) : Dat K W (.ref a) (.raw a)
inductive DatL (K : PySem.W.Frag) (W : Wd) : List V → List PV → Prop
  | nil : DatL K W [] []
  | cons {v : V} {p : PV} {vs : List V} {ps : List PV} (h : Dat K W v p) (t : DatL K W vs ps) : DatL K W (v :: vs) (p :: ps)
inductive DatK (K : PySem.W.Frag) (W : Wd) : List (Key × V) → List (Key × PV) → Prop
  | nil : DatK K W [] []
  | cons {k : Key} {v : V} {p : PV} {vs : List (Key × V)} {ps : List (Key × PV)} (h : Dat K W v p) (t : DatK K W vs ps) : DatK K W ((k, v) :: vs) ((k, p) :: ps)
inductive DatT (K : PySem.W.Frag) (W : Wd) : List (List Key × V) → List (List Key × PV) → Prop
  | nil : DatT K W [] []
  | cons {k : List Key} {v : V} {p : PV} {vs : List (List Key × V)} {ps : List (List Key × PV)} (h : Dat K W v p) (t : DatT K W vs ps) : DatT K W ((k, v) :: vs) ((k, p) :: ps)
inductive DatF (K : PySem.W.Frag) (W : Wd) : List (Str × V) → List (Str × PV) → Prop
  | nil : DatF K W [] []
  | cons {k : Str} {v : V} {p : PV} {vs : List (Str × V)} {ps : List (Str × PV)} (h : Dat K W v p) (t : DatF K W vs ps) : DatF K W ((k, v) :: vs) ((k, p) :: ps)
end

section
variable {K : PySem.W.Frag} {W W' : Wd}
theorem SqL.monoD {D D' : Hp} (h : ∀ a o, D a = some o → D' a = some o) {a : Addr} {xs : List V} (s : SqL K D a xs) : SqL K D' a xs := by
  rcases s with (s | ⟨o, s⟩) | s
  · exact .inl (.inl (h _ _ s))
  · exact .inl (.inr ⟨o, h _ _ s⟩)
  · exact .inr s
mutual
theorem Dat.mono (le : W.le W') : ∀ {v : V} {p : PV}, Dat K W v p → Dat K W' v p
  | _, _, .non => .non
  | _, _, .bl b => .bl b
  | _, _, .int i => .int i
  | _, _, .str x => .str x
  | _, _, .ty n => .ty n
  | _, _, .tup h r => .tup (le.d _ _ h) (DatL.mono le r)
  | _, _, .lst h r => .lst (le.d _ _ h) (DatL.mono le r)
  | _, _, .frz (o := o) h r => .frz (o := o) (SqL.monoD le.d h) (DatL.mono le r)
  | _, _, .dic h r => .dic (le.d _ _ h) (DatK.mono le r)
  | _, _, .dct h r => .dct (le.d _ _ h) (DatT.mono le r)
  | _, _, .obj h r => .obj (le.d _ _ h) (DatF.mono le r)
  | _, _, .cel h => .cel (le.m _ h)
  | _, _, .raw a => .raw a
theorem DatL.mono (le : W.le W') : ∀ {v : List V} {p : List PV}, DatL K W v p → DatL K W' v p
  | _, _, .nil => .nil
  | _, _, .cons h t => .cons (Dat.mono le h) (DatL.mono le t)
theorem DatK.mono (le : W.le W') : ∀ {v : List (Key × V)} {p : List (Key × PV)}, DatK K W v p → DatK K W' v p
  | _, _, .nil => .nil
  | _, _, .cons h t => .cons (Dat.mono le h) (DatK.mono le t)
theorem DatT.mono (le : W.le W') : ∀ {v : List (List Key × V)} {p : List (List Key × PV)}, DatT K W v p → DatT K W' v p
  | _, _, .nil => .nil
  | _, _, .cons h t => .cons (Dat.mono le h) (DatT.mono le t)
theorem DatF.mono (le : W.le W') : ∀ {v : List (Str × V)} {p : List (Str × PV)}, DatF K W v p → DatF K W' v p
  | _, _, .nil => .nil
  | _, _, .cons h t => .cons (Dat.mono le h) (DatF.mono le t)
end
theorem DatL.length : ∀ {vs : List V} {ps : List PV}, DatL K W vs ps → vs.length = ps.length
  | _, _, .nil => rfl
  | _, _, .cons _ t => congrArg (· + 1) (DatL.length t)
theorem DatL.get : ∀ {vs : List V} {ps : List PV} {i : Nat} {v : V}, DatL K W vs ps → vs[i]? = some v → ∃ p, ps[i]? = some p ∧ Dat K W v p
  | _, _, _, _, .nil, e => by simp at e
  | _, _, 0, _, .cons h _, e => by simp at e; subst e; exact ⟨_, rfl, h⟩
  | _, _, i + 1, _, .cons _ t, e => by
    obtain ⟨p, h1, h2⟩ := DatL.get (i := i) t (by simpa using e)
    exact ⟨p, by simpa using h1, h2⟩
theorem DatL.getP : ∀ {vs : List V} {ps : List PV} {i : Nat} {p : PV}, DatL K W vs ps → ps[i]? = some p → ∃ v, vs[i]? = some v ∧ Dat K W v p
  | _, _, _, _, .nil, e => by simp at e
  | _, _, 0, _, .cons h _, e => by simp at e; subst e; exact ⟨_, rfl, h⟩
  | _, _, i + 1, _, .cons _ t, e => by
    obtain ⟨p, h1, h2⟩ := DatL.getP (i := i) t (by simpa using e)
    exact ⟨p, by simpa using h1, h2⟩
theorem DatL.append : ∀ {vs vs' : List V} {ps ps' : List PV}, DatL K W vs ps → DatL K W vs' ps' → DatL K W (vs ++ vs') (ps ++ ps')
  | _, _, _, _, .nil, s => s
  | _, _, _, _, .cons h t, s => .cons h (DatL.append t s)
theorem DatL.take : ∀ {vs : List V} {ps : List PV} (n : Nat), DatL K W vs ps → DatL K W (vs.take n) (ps.take n)
  | _, _, 0, _ => .nil
  | _, _, _ + 1, .nil => .nil
  | _, _, n + 1, .cons h t => .cons h (DatL.take n t)
theorem DatL.drop : ∀ {vs : List V} {ps : List PV} (n : Nat), DatL K W vs ps → DatL K W (vs.drop n) (ps.drop n)
  | _, _, 0, r => r
  | _, _, _ + 1, .nil => .nil
  | _, _, n + 1, .cons _ t => DatL.drop n t
theorem DatL.one {v : V} {p : PV} (h : Dat K W v p) : DatL K W [v] [p] := .cons h .nil
theorem DatK.length : ∀ {vs : List (Key × V)} {ps : List (Key × PV)}, DatK K W vs ps → vs.length = ps.length
  | _, _, .nil => rfl
  | _, _, .cons _ t => congrArg (· + 1) (DatK.length t)
theorem DatK.keys : ∀ {vs : List (Key × V)} {ps : List (Key × PV)}, DatK K W vs ps → vs.map (·.1) = ps.map (·.1)
  | _, _, .nil => rfl
  | _, _, .cons (k := k) _ t => congrArg (k :: ·) (DatK.keys t)
theorem DatF.look : ∀ {vs : List (Str × V)} {ps : List (Str × PV)} {f : Str} {p : PV}, DatF K W vs ps → ps.lookup f = some p → ∃ v, vs.lookup f = some v ∧ Dat K W v p
  | _, _, _, _, .nil, e => by simp at e
  | _, _, f, p, .cons (k := k) h t, e => by
    rw [List.lookup_cons] at e ⊢
    cases q : f == k with
    | true => rw [q] at e; cases e; exact ⟨_, rfl, h⟩
    | false => rw [q] at e; exact DatF.look t e
theorem DatF.lookN : ∀ {vs : List (Str × V)} {ps : List (Str × PV)} {f : Str}, DatF K W vs ps → ps.lookup f = none → vs.lookup f = none
  | _, _, _, .nil, _ => rfl
  | _, _, f, .cons (k := k) h t, e => by
    rw [List.lookup_cons] at e ⊢
    cases q : f == k with
    | true => rw [q] at e; cases e
    | false => rw [q] at e; exact DatF.lookN t e
end

/-- what is fixed through a law: the written part, what every shared cell keeps -/
structure Par where
  K : PySem.W.Frag
  PI : Hp → HO → Prop
  mono : ∀ D D' o, (∀ a u, D a = some u → D' a = some u) → PI D o → PI D' o

/-- a dict -/
def isD : HO → Prop
  | .dK _ => True
  | .dT _ => True
  | _ => False
structure Holds (Z : Par) (W : Wd) (H : Hp) : Prop where
  sub : ∀ a o, W.D a = some o → H a = some o ∨ (isD o ∧ ∃ ob, H a = some (.frz ob o))
  cel : ∀ a, W.M a → ∃ o, H a = some o ∧ Z.PI W.D o
  dis : ∀ a, W.M a → W.D a = none
section
variable {Z : Par} {W W' : Wd} {H H' : Hp}
theorem Holds.there (h : Holds Z W H) {a : Addr} {o : HO} (e : W.D a = some o) : ∃ u, H a = some u := by
  rcases h.sub a o e with q | ⟨_, ob, q⟩
  · exact ⟨_, q⟩
  · exact ⟨_, q⟩
theorem Holds.ex (h : Holds Z W H) {a : Addr} {o : HO} (e : W.D a = some o) (n : ¬ isD o) : H a = some o := by
  rcases h.sub a o e with q | ⟨d, _⟩
  · exact q
  · exact absurd d n
theorem Holds.rd (h : Holds Z W H) {a : Addr} {o : HO} (e : W.D a = some o) : Rd H a o := by
  rcases h.sub a o e with q | ⟨_, ob, q⟩
  · exact .inl q
  · exact .inr ⟨ob, q⟩
theorem Holds.new (h : Holds Z W H) {p : Addr} (n : H p = none) : W.D p = none := by
  cases e : W.D p with
  | none => rfl
  | some o =>
    obtain ⟨u, q⟩ := h.there e
    rw [n] at q; cases q
theorem Holds.newM (h : Holds Z W H) {p : Addr} (n : H p = none) : ¬ W.M p := fun m => by
  obtain ⟨o, q, _⟩ := h.cel p m
  rw [n] at q; cases q
end

structure Ext (Z : Par) (W : Wd) (H : Hp) (W' : Wd) (H' : Hp) : Prop where
  holds : Holds Z W' H'
  le : W.le W'
  base : ∀ a o, H a = some o → W.D a = none → ¬ W.M a → H' a = some o
  fr : ∀ a o, W'.D a = some o → W.D a = some o ∨ H a = none
  frM : ∀ a, W'.M a → W.M a ∨ H a = none
  fz : ∀ a od u, H a = some (.frz od u) → H' a = some (.frz od u)
/-- what only grows -/
structure Lt (W : Wd) (H : Hp) (W' : Wd) (H' : Hp) : Prop where
  le : W.le W'
  fz : ∀ a od u, H a = some (.frz od u) → H' a = some (.frz od u)
theorem Lt.refl (W : Wd) (H : Hp) : Lt W H W H := ⟨.refl W, fun _ _ _ h => h⟩
theorem Lt.trans {A B C : Wd} {H I J : Hp} (h : Lt A H B I) (g : Lt B I C J) : Lt A H C J := ⟨h.le.trans g.le, fun a o u e => g.fz a o u (h.fz a o u e)⟩
theorem Ext.lt {Z : Par} {W W' : Wd} {H H' : Hp} (e : Ext Z W H W' H') : Lt W H W' H' := ⟨e.le, e.fz⟩
section
variable {Z : Par} {W W1 W2 : Wd} {H H1 H2 : Hp}
theorem Ext.refl (h : Holds Z W H) : Ext Z W H W H := ⟨h, .refl W, fun _ _ e _ _ => e, fun _ _ e => .inl e, fun _ e => .inl e, fun _ _ _ e => e⟩
theorem Ext.nonE (e : Ext Z W H W1 H1) (h : Holds Z W H) {a : Addr} (n : H1 a = none) : H a = none := by
  cases q : H a with
  | none => rfl
  | some o =>
    by_cases m : W.M a
    · obtain ⟨u, z, _⟩ := e.holds.cel a (e.le.m a m)
      rw [n] at z; cases z
    · cases d : W.D a with
      | none => rw [e.base a o q d m] at n; cases n
      | some u =>
        obtain ⟨v, z⟩ := e.holds.there (e.le.d a u d)
        rw [n] at z; cases z
theorem Ext.trans (h : Holds Z W H) (e : Ext Z W H W1 H1) (f : Ext Z W1 H1 W2 H2) : Ext Z W H W2 H2 where
  holds := f.holds
  le := e.le.trans f.le
  base := fun a o q d n => by
    refine f.base a o (e.base a o q d n) ?_ fun m => ?_
    · cases r : W1.D a with
      | none => rfl
      | some u =>
        rcases e.fr a u r with z | z
        · rw [d] at z; cases z
        · rw [q] at z; cases z
    · rcases e.frM a m with z | z
      · exact n z
      · rw [q] at z; cases z
  fr := fun a o q => by
    rcases f.fr a o q with z | z
    · exact e.fr a o z
    · exact .inr (e.nonE h z)
  frM := fun a q => by
    rcases f.frM a q with z | z
    · exact e.frM a z
    · exact .inr (e.nonE h z)
  fz := fun a o u q => f.fz a o u (e.fz a o u q)
/-- a new tracked object, not frozen -/
theorem Holds.put (h : Holds Z W H) {p : Addr} {o : HO} (n : H p = none) : Holds Z W (upd H p o) where
  sub := fun a u e => by
    obtain ⟨v, q⟩ := h.there e
    rw [upd_ne (ne_of_none q n)]
    exact h.sub a u e
  cel := fun a m => by
    obtain ⟨u, q, r⟩ := h.cel a m
    exact ⟨u, by rw [upd_ne (ne_of_none q n)]; exact q, r⟩
  dis := h.dis
theorem Ext.put (h : Holds Z W H) {p : Addr} {o : HO} (n : H p = none) : Ext Z W H W (upd H p o) :=
  ⟨h.put n, .refl W, fun a u q _ _ => by rw [upd_ne (ne_of_none q n)]; exact q, fun _ _ e => .inl e, fun _ e => .inl e, fun a o u q => by rw [upd_ne (ne_of_none q n)]; exact q⟩
/-- freeze what stands at p -/
def Wd.add (W : Wd) (p : Addr) (o : HO) : Wd := ⟨upd W.D p o, W.M⟩
theorem Wd.le_add {p : Addr} {o : HO} (n : W.D p = none) : W.le (W.add p o) :=
  ⟨fun a u e => by show upd W.D p o a = _; rw [upd_ne (ne_of_none e n)]; exact e, fun _ m => m⟩
theorem Holds.freeze (h : Holds Z W H) {p : Addr} {o : HO} (n : W.D p = none) (m : ¬ W.M p) (e : H p = some o) : Holds Z (W.add p o) H where
  sub := fun a u q => by
    by_cases c : a = p
    · subst c
      have q' : upd W.D a o a = some u := q
      rw [upd_same] at q'
      cases q'
      exact .inl e
    · have q' : upd W.D p o a = some u := q
      rw [upd_ne c] at q'
      exact h.sub a u q'
  cel := fun a q => by
    obtain ⟨u, r, s⟩ := h.cel a q
    exact ⟨u, r, Z.mono _ _ _ (Wd.le_add n).d s⟩
  dis := fun a q => by
    show upd W.D p o a = none
    rw [upd_ne (fun c => m (by rw [← c]; exact q))]
    exact h.dis a q
/-- a new frozen object -/
theorem Ext.new (h : Holds Z W H) {p : Addr} {o : HO} (n : H p = none) : Ext Z W H (W.add p o) (upd H p o) where
  holds := (h.put n).freeze (h.new n) (h.newM n) upd_same
  le := Wd.le_add (h.new n)
  base := fun a u q _ _ => by rw [upd_ne (ne_of_none q n)]; exact q
  fr := fun a u q => by
    by_cases c : a = p
    · subst c; exact .inr n
    · have q' : upd W.D p o a = some u := q
      rw [upd_ne c] at q'
      exact .inl q'
  frM := fun a q => .inl q
  fz := fun a o u q => by rw [upd_ne (ne_of_none q n)]; exact q
/-- a frozen dict is locked -/
theorem Ext.lock (h : Holds Z W H) {d : Addr} {u : HO} (e : W.D d = some u) (i : isD u) (hd : H d = some u) (od : Obj) : Ext Z W H W (upd H d (.frz od u)) where
  holds :=
    { sub := fun a o q => by
        by_cases c : a = d
        · subst c
          rw [e] at q
          cases q
          exact .inr ⟨i, od, upd_same⟩
        · rw [upd_ne c]; exact h.sub a o q
      cel := fun a m => by
        obtain ⟨o, q, r⟩ := h.cel a m
        exact ⟨o, by rw [upd_ne (fun c => by rw [c] at m; rw [h.dis d m] at e; cases e)]; exact q, r⟩
      dis := h.dis }
  le := .refl W
  base := fun a o q n _ => by rw [upd_ne (fun c => by rw [c, e] at n; cases n)]; exact q
  fr := fun _ _ q => .inl q
  frM := fun _ q => .inl q
  fz := fun a o v q => by rw [upd_ne (fun c => by rw [c, hd] at q; cases q; exact i)]; exact q
theorem Wd.add_at {p : Addr} {o : HO} : (W.add p o).D p = some o := upd_same
end

/-! ### slots -/
inductive Slt where
  | no | val (p : PV) | own (p : PV)
/-- a list, dict, instance that the def alone holds -/
def OwnAt (K : PySem.W.Frag) (W : Wd) (H : Hp) (a : Addr) : PV → Prop
  | .lst l => ∃ xs, H a = some (.lst xs) ∧ DatL K W xs l
  | .dic l => ∃ xs, H a = some (.dK xs) ∧ DatK K W xs l
  | .dct l => ∃ xs, H a = some (.dT xs) ∧ DatT K W xs l
  | .obj c l => ∃ dx xs, H a = some (.ins (He.ga K c) dx xs) ∧ DatF K W xs l
  | _ => False
structure Slots (Z : Par) (W : Wd) (H0 H : Hp) (σ : L2.St) (ρ : List Slt) : Prop where
  len : σ.length = ρ.length
  val : ∀ (i : Nat) (p : PV), ρ[i]? = some (Slt.val p) → ∃ v, σ[i]? = some (some v) ∧ Dat Z.K W v p
  own : ∀ (i : Nat) (p : PV), ρ[i]? = some (Slt.own p) → ∃ a, σ[i]? = some (some (.ref a)) ∧ OwnAt Z.K W H a p ∧ H0 a = none ∧ W.D a = none ∧ ¬ W.M a
  dst : ∀ (i j : Nat) (a : Addr) (p q : PV), i ≠ j → ρ[i]? = some (Slt.own p) → ρ[j]? = some (Slt.own q) → σ[i]? = some (some (.ref a)) → σ[j]? = some (some (.ref a)) → False
section
variable {Z : Par} {W W' : Wd} {H0 H H' : Hp} {σ : L2.St} {ρ : List Slt}
theorem OwnAt.ob {K : PySem.W.Frag} {a : Addr} {p : PV} (h : OwnAt K W H a p) : ∃ o, H a = some o := by
  cases p <;> first | exact h.elim | (obtain ⟨xs, e, _⟩ := h; exact ⟨_, e⟩) | (obtain ⟨dx, xs, e, _⟩ := h; exact ⟨_, e⟩)
theorem OwnAt.mono {K : PySem.W.Frag} {a : Addr} {p : PV} (le : W.le W') (k : ∀ o, H a = some o → H' a = some o) (h : OwnAt K W H a p) : OwnAt K W' H' a p := by
  cases p with
  | lst l => obtain ⟨xs, e, r⟩ := h; exact ⟨xs, k _ e, r.mono le⟩
  | dic l => obtain ⟨xs, e, r⟩ := h; exact ⟨xs, k _ e, r.mono le⟩
  | dct l => obtain ⟨xs, e, r⟩ := h; exact ⟨xs, k _ e, r.mono le⟩
  | obj c l => obtain ⟨dx, xs, e, r⟩ := h; exact ⟨dx, xs, k _ e, r.mono le⟩
  | _ => exact h.elim
theorem Slots.ext (S : Slots Z W H0 H σ ρ) (e : Ext Z W H W' H') : Slots Z W' H0 H' σ ρ where
  len := S.len
  val := fun i p q => let ⟨v, h1, h2⟩ := S.val i p q; ⟨v, h1, h2.mono e.le⟩
  own := fun i p q => by
    obtain ⟨a, h1, h2, h3, h4, h5⟩ := S.own i p q
    obtain ⟨o, ho⟩ := h2.ob
    refine ⟨a, h1, h2.mono e.le (fun u hu => e.base a u hu h4 h5), h3, ?_, fun m => ?_⟩
    · cases r : W'.D a with
      | none => rfl
      | some u =>
        rcases e.fr a u r with z | z
        · rw [h4] at z; cases z
        · rw [ho] at z; cases z
    · rcases e.frM a m with z | z
      · exact h5 z
      · rw [ho] at z; cases z
  dst := S.dst
theorem Slots.setVal (S : Slots Z W H0 H σ ρ) (i : Nat) {v : V} {p : PV} (d : Dat Z.K W v p) : Slots Z W H0 H (σ.set i (some v)) (ρ.set i (Slt.val p)) where
  len := by rw [List.length_set, List.length_set]; exact S.len
  val := fun j q e => by
    by_cases c : i = j
    · subst c
      by_cases l : i < ρ.length
      · rw [List.getElem?_set_self l] at e
        cases e
        exact ⟨v, List.getElem?_set_self (by rw [S.len]; exact l), d⟩
      · rw [List.getElem?_eq_none (by simpa using l)] at e; cases e
    · rw [List.getElem?_set_ne c] at e ⊢
      exact S.val j q e
  own := fun j q e => by
    by_cases c : i = j
    · subst c
      by_cases l : i < ρ.length
      · rw [List.getElem?_set_self l] at e; cases e
      · rw [List.getElem?_eq_none (by simpa using l)] at e; cases e
    · rw [List.getElem?_set_ne c] at e ⊢
      exact S.own j q e
  dst := fun j k a q r n e f g h => by
    by_cases c : i = j
    · subst c
      by_cases l : i < ρ.length
      · rw [List.getElem?_set_self l] at e; cases e
      · rw [List.getElem?_eq_none (by simpa using l)] at e; cases e
    · by_cases c2 : i = k
      · subst c2
        by_cases l : i < ρ.length
        · rw [List.getElem?_set_self l] at f; cases f
        · rw [List.getElem?_eq_none (by simpa using l)] at f; cases f
      · rw [List.getElem?_set_ne c] at e g
        rw [List.getElem?_set_ne c2] at f h
        exact S.dst j k a q r n e f g h
/-- an own thing is stored -/
theorem Slots.setOwn (S : Slots Z W H0 H σ ρ) (i : Nat) {a : Addr} {p : PV} (d : OwnAt Z.K W H a p) (h0 : H0 a = none) (hD : W.D a = none) (hM : ¬ W.M a)
    (nw : ∀ (j : Nat) (q : PV), ρ[j]? = some (Slt.own q) → σ[j]? ≠ some (some (.ref a))) : Slots Z W H0 H (σ.set i (some (.ref a))) (ρ.set i (Slt.own p)) where
  len := by rw [List.length_set, List.length_set]; exact S.len
  val := fun j q e => by
    by_cases c : i = j
    · subst c
      by_cases l : i < ρ.length
      · rw [List.getElem?_set_self l] at e; cases e
      · rw [List.getElem?_eq_none (by simpa using l)] at e; cases e
    · rw [List.getElem?_set_ne c] at e ⊢
      exact S.val j q e
  own := fun j q e => by
    by_cases c : i = j
    · subst c
      by_cases l : i < ρ.length
      · rw [List.getElem?_set_self l] at e
        cases e
        exact ⟨a, List.getElem?_set_self (by rw [S.len]; exact l), d, h0, hD, hM⟩
      · rw [List.getElem?_eq_none (by simpa using l)] at e; cases e
    · rw [List.getElem?_set_ne c] at e ⊢
      exact S.own j q e
  dst := fun j k b q r n e f g h => by
    by_cases c : i = j
    · subst c
      rw [List.getElem?_set_ne n] at f h
      by_cases l : i < σ.length
      · rw [List.getElem?_set_self l] at g
        cases g
        exact nw k r f h
      · rw [List.getElem?_eq_none (by simpa using l)] at g; cases g
    · by_cases c2 : i = k
      · subst c2
        rw [List.getElem?_set_ne c] at e g
        by_cases l : i < σ.length
        · rw [List.getElem?_set_self l] at h
          cases h
          exact nw j q e g
        · rw [List.getElem?_eq_none (by simpa using l)] at h; cases h
      · rw [List.getElem?_set_ne c] at e g
        rw [List.getElem?_set_ne c2] at f h
        exact S.dst j k b q r n e f g h
theorem Slots.setNo (S : Slots Z W H0 H σ ρ) (i : Nat) : Slots Z W H0 H (σ.set i none) (ρ.set i Slt.no) where
  len := by rw [List.length_set, List.length_set]; exact S.len
  val := fun j q e => by
    by_cases c : i = j
    · subst c
      by_cases l : i < ρ.length
      · rw [List.getElem?_set_self l] at e; cases e
      · rw [List.getElem?_eq_none (by simpa using l)] at e; cases e
    · rw [List.getElem?_set_ne c] at e ⊢
      exact S.val j q e
  own := fun j q e => by
    by_cases c : i = j
    · subst c
      by_cases l : i < ρ.length
      · rw [List.getElem?_set_self l] at e; cases e
      · rw [List.getElem?_eq_none (by simpa using l)] at e; cases e
    · rw [List.getElem?_set_ne c] at e ⊢
      exact S.own j q e
  dst := fun j k a q r n e f g h => by
    by_cases c : i = j
    · subst c
      by_cases l : i < ρ.length
      · rw [List.getElem?_set_self l] at e; cases e
      · rw [List.getElem?_eq_none (by simpa using l)] at e; cases e
    · by_cases c2 : i = k
      · subst c2
        by_cases l : i < ρ.length
        · rw [List.getElem?_set_self l] at f; cases f
        · rw [List.getElem?_eq_none (by simpa using l)] at f; cases f
      · rw [List.getElem?_set_ne c] at e g
        rw [List.getElem?_set_ne c2] at f h
        exact S.dst j k a q r n e f g h
end
end L3

/-! ## L3B -/
/-! Judgements over pure values: expressions, tests, operators, calls. -/
namespace L3
open PySem PySem.Spec PyProof.Rows L2

abbrev PTE := List Slt → (PV → Prop) → Prop
abbrev PTT := List Slt → (Bool → Prop) → Prop
abbrev PTA := List Slt → (List PV → Prop) → Prop
def lift (Z : Par) (t : PTE) : TE := fun σ H Q => ∃ W H0 ρ Qp, Holds Z W H ∧ Slots Z W H0 H σ ρ ∧ t ρ Qp ∧ ∀ W' H' v p, Ext Z W H W' H' → Dat Z.K W' v p → Qp p → Q v H'
def liftT (Z : Par) (t : PTT) : TT := fun σ H Q => ∃ W H0 ρ Qp, Holds Z W H ∧ Slots Z W H0 H σ ρ ∧ t ρ Qp ∧ ∀ W' H' b, Ext Z W H W' H' → Qp b → Q b H'
def liftA (Z : Par) (t : PTA) : TA := fun σ H Q => ∃ W H0 ρ Qp, Holds Z W H ∧ Slots Z W H0 H σ ρ ∧ t ρ Qp ∧ ∀ W' H' vs ps, Ext Z W H W' H' → DatL Z.K W' vs ps → Qp ps → Q vs H'

section
variable {X : Cx}
theorem PEw {e : Expr} {t t' : TE} (h : PE X e t) (w : ∀ σ H Q, t' σ H Q → t σ H Q) : PE X e t' := ⟨fun pins s σ H Q I q => h.run pins s σ H Q I (w _ _ _ q)⟩
theorem PTw {e : Expr} {t t' : TT} (h : PT X e t) (w : ∀ σ H Q, t' σ H Q → t σ H Q) : PT X e t' := ⟨fun pins s σ H Q I q => h.run pins s σ H Q I (w _ _ _ q)⟩
theorem PWw {e : Expr} {t t' : TT} (h : PW X e t) (w : ∀ σ H Q, t' σ H Q → t σ H Q) : PW X e t' := ⟨fun whole pins s σ H Q I q => h.run whole pins s σ H Q I (w _ _ _ q)⟩
theorem PAw {e : List Expr} {t t' : TA} (h : PA X e t) (w : ∀ σ H Q, t' σ H Q → t σ H Q) : PA X e t' := ⟨fun pos pins s σ H Q I q => h.run pos pins s σ H Q I (w _ _ _ q)⟩
theorem PSw {e : Stmt} {t t' : TS} (h : PS X e t) (w : ∀ D σ H, t' D σ H → t D σ H) : PS X e t' := ⟨fun pins s σ H D I q => h.run pins s σ H D I (w _ _ _ q)⟩
theorem PSsw {e : List Stmt} {t t' : TS} (h : PSs X e t) (w : ∀ D σ H, t' D σ H → t D σ H) : PSs X e t' := ⟨fun pins s σ H D I q => h.run pins s σ H D I (w _ _ _ q)⟩
theorem PIw {tg e : Expr} {t t' : TI} (h : PI X tg e t) (w : ∀ σ H R, t' σ H R → t σ H R) : PI X tg e t' := ⟨fun pins s σ H R I q => h.run pins s σ H R I (w _ _ _ q)⟩
end

/-! ### atoms -/
def pVar (i : Nat) : PTE := fun ρ Q => match ρ[i]? with
  | some (.val p) => Q p
  | _ => False
def pC (p : PV) : PTE := fun _ Q => Q p
section
variable {X : Cx} {Z : Par}
theorem q_var {i : Nat} {x : Str} {pos : Pos} (hN : X.N[i]? = some x := by rfl) (hv : Vis X.env.scope x := by first | exact .inl rfl | exact .inr (.inl rfl) | exact .inr (.inr rfl)) (hd : (x == ("__debug__" : Str)) = false := by decide) (hcd : (x == ("__classdict__" : Str)) = false := by decide) :
    PE X (.Name x pos) (lift Z (pVar i)) := by
  refine PEw (pe_var hN hv hd hcd) fun σ H Q ⟨W, H0, ρ, Qp, h, S, t, q⟩ => ?_
  unfold pVar at t
  split at t
  · rename_i p e
    obtain ⟨v, h1, h2⟩ := S.val i p e
    exact ⟨v, h1, q W H v p (.refl h) h2 t⟩
  · exact t.elim
theorem q_const {e : Expr} {v : V} {p : PV} (h : PE X e (tC v)) (d : ∀ W, Dat Z.K W v p) : PE X e (lift Z (pC p)) :=
  PEw h fun σ H Q ⟨W, H0, ρ, Qp, h, S, t, q⟩ => q W H v p (.refl h) (d W) t
theorem q_int {i j pos} : PE X (.Constant (.int i) j pos) (lift Z (pC (.int i))) := q_const pe_int fun _ => .int _
theorem q_bl {b j pos} : PE X (.Constant (.bool b) j pos) (lift Z (pC (.bl b))) := q_const pe_bl fun _ => .bl _
theorem q_non {j pos} : PE X (.Constant .none j pos) (lift Z (pC .non)) := q_const pe_non fun _ => .non
theorem q_str {x j pos} : PE X (.Constant (.str x) j pos) (lift Z (pC (.str x))) := q_const pe_str fun _ => .str _
/-- a built-in class as a value -/
theorem q_ty {x : Str} {n : String} {pos : Pos} (hm : X.mg x = none) (hv : bootBuiltins x = some (.type n)) (hg : Gl X x := by rfl) (hn : x ≠ "__name__" := by decide) (hd : (x == ("__debug__" : Str)) = false := by decide) :
    PE X (.Name x pos) (lift Z (pC (.ty n))) := q_const (pe_bltn (v := .ty n) hg hm hv rfl hn hd) fun _ => .ty _
/-- a module's constant -/
theorem q_gint {x : Str} {i : Int} {pos : Pos} (hm : ∃ t, X.mg x = some (.int i t)) (hg : Gl X x := by rfl) (hd : (x == ("__debug__" : Str)) = false := by decide) : PE X (.Name x pos) (lift Z (pC (.int i))) :=
  let ⟨t, e⟩ := hm
  q_const (pe_glob (v := .int i) hg e ⟨t, rfl⟩ hd) fun _ => .int _
theorem q_gstr {x z : Str} {pos : Pos} (hm : ∃ t, X.mg x = some (.str z t)) (hg : Gl X x := by rfl) (hd : (x == ("__debug__" : Str)) = false := by decide) : PE X (.Name x pos) (lift Z (pC (.str z))) :=
  let ⟨t, e⟩ := hm
  q_const (pe_glob (v := .str z) hg e ⟨t, rfl⟩ hd) fun _ => .str _

/-! ### operators -/
abbrev PK2 := PV → PV → (PV → Prop) → Prop
structure OpP (Z : Par) (X : Cx) (f : Value → Value → Sem Value) (k : PK2) : Prop where
  ex : ∃ r : R2, OpR X f r ∧ ∀ W H x y p q Q Qp, Holds Z W H → Dat Z.K W x p → Dat Z.K W y q → k p q Qp → (∀ W' H' v r, Ext Z W H W' H' → Dat Z.K W' v r → Qp r → Q v H') → r x y H Q
def pBin (k : PK2) (ta tb : PTE) : PTE := fun ρ Q => ta ρ fun p => tb ρ fun q => k p q Q
theorem lift_bin {k : PK2} {r : R2} {ta tb : PTE} (w : ∀ W H x y p q Q Qp, Holds Z W H → Dat Z.K W x p → Dat Z.K W y q → k p q Qp → (∀ W' H' v r, Ext Z W H W' H' → Dat Z.K W' v r → Qp r → Q v H') → r x y H Q)
    (σ : L2.St) (H : Hp) (Q : VK) (h : lift Z (pBin k ta tb) σ H Q) : tOp r (lift Z ta) (lift Z tb) σ H Q := by
  obtain ⟨W, H0, ρ, Qp, hh, S, t, q⟩ := h
  refine ⟨W, H0, ρ, _, hh, S, t, fun W1 H1 v p e1 d1 t1 => ?_⟩
  refine ⟨W1, H0, ρ, _, e1.holds, S.ext e1, t1, fun W2 H2 u p2 e2 d2 t2 => ?_⟩
  exact w W2 H2 v u p p2 Q Qp e2.holds (d1.mono e2.le) d2 t2 fun W3 H3 z pz e3 d3 t3 => q W3 H3 z pz ((e1.trans hh e2).trans hh e3) d3 t3
theorem q_op {op : Operator} {k : PK2} {a b : Expr} {ta tb : PTE} {pos : Pos} (o : OpP Z X (binaryOp op) k) (ha : PE X a (lift Z ta)) (hb : PE X b (lift Z tb)) : PE X (.BinOp a op b pos) (lift Z (pBin k ta tb)) := by
  obtain ⟨r, ho, w⟩ := o.ex
  exact PEw (pe_op ho ha hb) fun σ H Q => lift_bin w σ H Q
theorem q_cmp {op : CmpOp} {k : PK2} {a b : Expr} {ta tb : PTE} {pos : Pos} (o : OpP Z X (compareOp op) k) (ha : PE X a (lift Z ta)) (hb : PE X b (lift Z tb))
    (hm : behindInMarks op b = false := by first | exact nobehind _ (by decide) (by decide) | rfl) : PE X (.Compare a [op] [b] pos) (lift Z (pBin k ta tb)) := by
  obtain ⟨r, ho, w⟩ := o.ex
  exact PEw (pe_cmpR ho ha hb hm) fun σ H Q => lift_bin w σ H Q
/-- a bool as a test -/
def pTst (t : PTE) : PTT := fun ρ Q => t ρ fun p => match p with
  | .bl b => Q b
  | _ => False
theorem tst_of {t : PTE} (σ : L2.St) (H : Hp) (Q : Bool → Hp → Prop) (h : liftT Z (pTst t) σ H Q) : lift Z t σ H fun x H' => ∃ k, x = .bl k ∧ Q k H' := by
  obtain ⟨W, H0, ρ, Qp, hh, S, t, q⟩ := h
  refine ⟨W, H0, ρ, _, hh, S, t, fun W1 H1 v p e1 d1 t1 => ?_⟩
  cases d1 with
  | bl b => exact ⟨b, rfl, q W1 H1 b e1 t1⟩
  | _ => exact t1.elim
theorem qt_cmp {op : CmpOp} {k : PK2} {a b : Expr} {ta tb : PTE} {pos : Pos} (o : OpP Z X (compareOp op) k) (ha : PE X a (lift Z ta)) (hb : PE X b (lift Z tb))
    (hm : behindInMarks op b = false := by first | exact nobehind _ (by decide) (by decide) | rfl) : PT X (.Compare a [op] [b] pos) (liftT Z (pTst (pBin k ta tb))) := by
  obtain ⟨r, ho, w⟩ := o.ex
  refine PTw (pt_cmpR ho ha hb hm) fun σ H Q h => ?_
  exact lift_bin w σ H _ (tst_of σ H Q h)
theorem qt_val {e : Expr} {t : PTE} (h : PE X e (lift Z t)) (he : ∀ whole, isTrue e X.env whole = (do let v ← whole; standAt e.pos; holding [v] (truthy v)) := by intro _; rfl) : PT X e (liftT Z (pTst t)) :=
  PTw (pt_val h he) fun σ H Q h => tst_of σ H Q h
/-- a chain -/
def pChain (k k' : PK2) (ta tb tc : PTE) : PTE := fun ρ Q => ta ρ fun p => tb ρ fun q => k p q fun r => match r with
  | .bl true => tc ρ fun z => k' q z Q
  | .bl false => Q (.bl false)
  | _ => False
theorem lift_chain {k k' : PK2} {r r' : R2} {ta tb tc : PTE} (w : ∀ W H x y p q Q Qp, Holds Z W H → Dat Z.K W x p → Dat Z.K W y q → k p q Qp → (∀ W' H' v r, Ext Z W H W' H' → Dat Z.K W' v r → Qp r → Q v H') → r x y H Q)
    (w' : ∀ W H x y p q Q Qp, Holds Z W H → Dat Z.K W x p → Dat Z.K W y q → k' p q Qp → (∀ W' H' v r, Ext Z W H W' H' → Dat Z.K W' v r → Qp r → Q v H') → r' x y H Q)
    (σ : L2.St) (H : Hp) (Q : VK) (h : lift Z (pChain k k' ta tb tc) σ H Q) : tChain r r' (lift Z ta) (lift Z tb) (lift Z tc) σ H Q := by
  obtain ⟨W, H0, ρ, Qp, hh, S, t, q⟩ := h
  refine ⟨W, H0, ρ, _, hh, S, t, fun W1 H1 v p e1 d1 t1 => ?_⟩
  refine ⟨W1, H0, ρ, _, e1.holds, S.ext e1, t1, fun W2 H2 u p2 e2 d2 t2 => ?_⟩
  refine w W2 H2 v u p p2 _ _ e2.holds (d1.mono e2.le) d2 t2 fun W3 H3 z pz e3 d3 t3 => ?_
  have E3 := (e1.trans hh e2).trans hh e3
  cases d3 with
  | bl b =>
    refine ⟨b, rfl, ?_⟩
    cases b with
    | true =>
      refine (if_pos rfl).mpr ⟨W3, H0, ρ, _, e3.holds, S.ext E3, t3, fun W4 H4 z4 p4 e4 d4 t4 => ?_⟩
      exact w' W4 H4 u z4 p2 p4 Q Qp e4.holds ((d2.mono e3.le).mono e4.le) d4 t4 fun W5 H5 z5 p5 e5 d5 t5 => q W5 H5 z5 p5 ((E3.trans hh e4).trans hh e5) d5 t5
    | false => exact (if_neg (by decide)).mpr (q W3 H3 _ _ E3 (.bl false) t3)
  | _ => exact t3.elim
theorem q_chain {op op' : CmpOp} {k k' : PK2} {a b c : Expr} {ta tb tc : PTE} {pos : Pos} (o : OpP Z X (compareOp op) k) (o' : OpP Z X (compareOp op') k') (ha : PE X a (lift Z ta)) (hb : PE X b (lift Z tb)) (hc : PE X c (lift Z tc))
    (hm : lastMarks [op, op'] [b, c] = false := by with_unfolding_all rfl) : PE X (.Compare a [op, op'] [b, c] pos) (lift Z (pChain k k' ta tb tc)) := by
  obtain ⟨r, ho, w⟩ := o.ex
  obtain ⟨r', ho', w'⟩ := o'.ex
  exact PEw (pe_chain ho ho' ha hb hc hm) fun σ H Q => lift_chain w w' σ H Q
theorem qt_chain {op op' : CmpOp} {k k' : PK2} {a b c : Expr} {ta tb tc : PTE} {pos : Pos} (o : OpP Z X (compareOp op) k) (o' : OpP Z X (compareOp op') k') (ha : PE X a (lift Z ta)) (hb : PE X b (lift Z tb)) (hc : PE X c (lift Z tc))
    (hm : lastMarks [op, op'] [b, c] = false := by with_unfolding_all rfl) : PT X (.Compare a [op, op'] [b, c] pos) (liftT Z (pTst (pChain k k' ta tb tc))) := by
  obtain ⟨r, ho, w⟩ := o.ex
  obtain ⟨r', ho', w'⟩ := o'.ex
  exact PTw (pt_chain ho ho' ha hb hc hm) fun σ H Q h => lift_chain w w' σ H _ (tst_of σ H Q h)

/-! ### and, or, not, if -/
def pAndT (a b : PTT) : PTT := fun ρ Q => a ρ fun c => match c with
  | true => b ρ Q
  | false => Q false
def pOrT (a b : PTT) : PTT := fun ρ Q => a ρ fun c => match c with
  | true => Q true
  | false => b ρ Q
def pNotT (a : PTT) : PTT := fun ρ Q => a ρ fun c => Q (!c)
theorem qw_and1 {a : Expr} {pos : Pos} {t : PTT} (ha : PT X a (liftT Z t)) : PW X (.BoolOp .And [a] pos) (liftT Z t) := pw_and1 ha
theorem qw_or1 {a : Expr} {pos : Pos} {t : PTT} (ha : PT X a (liftT Z t)) : PW X (.BoolOp .Or [a] pos) (liftT Z t) := pw_or1 ha
theorem qw_and {a b : Expr} {rest : List Expr} {pos : Pos} {t u : PTT} (ha : PT X a (liftT Z t)) (hb : PW X (.BoolOp .And (b :: rest) pos) (liftT Z u)) : PW X (.BoolOp .And (a :: b :: rest) pos) (liftT Z (pAndT t u)) :=
  PWw (pw_and ha hb) fun σ H Q ⟨W, H0, ρ, Qp, hh, S, t, q⟩ => by
    refine ⟨W, H0, ρ, _, hh, S, t, fun W1 H1 c e1 t1 => ?_⟩
    cases c with
    | true => exact (if_pos rfl).mpr ⟨W1, H0, ρ, _, e1.holds, S.ext e1, t1, fun W2 H2 b e2 t2 => q W2 H2 b (e1.trans hh e2) t2⟩
    | false => exact (if_neg (by decide)).mpr (q W1 H1 false e1 t1)
theorem qw_or {a b : Expr} {rest : List Expr} {pos : Pos} {t u : PTT} (ha : PT X a (liftT Z t)) (hb : PW X (.BoolOp .Or (b :: rest) pos) (liftT Z u)) : PW X (.BoolOp .Or (a :: b :: rest) pos) (liftT Z (pOrT t u)) :=
  PWw (pw_or ha hb) fun σ H Q ⟨W, H0, ρ, Qp, hh, S, t, q⟩ => by
    refine ⟨W, H0, ρ, _, hh, S, t, fun W1 H1 c e1 t1 => ?_⟩
    cases c with
    | true => exact (if_pos rfl).mpr (q W1 H1 true e1 t1)
    | false => exact (if_neg (by decide)).mpr ⟨W1, H0, ρ, _, e1.holds, S.ext e1, t1, fun W2 H2 b e2 t2 => q W2 H2 b (e1.trans hh e2) t2⟩
theorem qt_not {a : Expr} {pos : Pos} {t : PTT} (ha : PT X a (liftT Z t)) : PT X (.UnaryOp .Not a pos) (liftT Z (pNotT t)) :=
  PTw (pt_not ha) fun σ H Q ⟨W, H0, ρ, Qp, hh, S, t, q⟩ => ⟨W, H0, ρ, _, hh, S, t, fun W1 H1 c e1 t1 => q W1 H1 _ e1 t1⟩
/-- as values: all but the last bools -/
def pAndV (a b : PTE) : PTE := fun ρ Q => a ρ fun c => match c with
  | .bl true => b ρ Q
  | .bl false => Q (.bl false)
  | _ => False
def pOrV (a b : PTE) : PTE := fun ρ Q => a ρ fun c => match c with
  | .bl true => Q (.bl true)
  | .bl false => b ρ Q
  | _ => False
def pNotV (a : PTE) : PTE := fun ρ Q => a ρ fun c => match c with
  | .bl b => Q (.bl (!b))
  | _ => False
theorem q_one {op} {a : Expr} {pos : Pos} {t : PTE} (h : PE X a (lift Z t)) : PE X (.BoolOp op [a] pos) (lift Z t) := pe_one h
theorem q_and {a b : Expr} {rest : List Expr} {pos : Pos} {t u : PTE} (ha : PE X a (lift Z t)) (hb : PE X (.BoolOp .And (b :: rest) pos) (lift Z u)) : PE X (.BoolOp .And (a :: b :: rest) pos) (lift Z (pAndV t u)) :=
  PEw (pe_and ha hb) fun σ H Q ⟨W, H0, ρ, Qp, hh, S, t, q⟩ => by
    refine ⟨W, H0, ρ, _, hh, S, t, fun W1 H1 v p e1 d1 t1 => ?_⟩
    cases d1 with
    | bl c =>
      refine ⟨c, rfl, ?_⟩
      cases c with
      | true => exact (if_pos rfl).mpr ⟨W1, H0, ρ, _, e1.holds, S.ext e1, t1, fun W2 H2 v p e2 d2 t2 => q W2 H2 v p (e1.trans hh e2) d2 t2⟩
      | false => exact (if_neg (by decide)).mpr (q W1 H1 _ _ e1 (.bl false) t1)
    | _ => exact t1.elim
theorem q_or {a b : Expr} {rest : List Expr} {pos : Pos} {t u : PTE} (ha : PE X a (lift Z t)) (hb : PE X (.BoolOp .Or (b :: rest) pos) (lift Z u)) : PE X (.BoolOp .Or (a :: b :: rest) pos) (lift Z (pOrV t u)) :=
  PEw (pe_or ha hb) fun σ H Q ⟨W, H0, ρ, Qp, hh, S, t, q⟩ => by
    refine ⟨W, H0, ρ, _, hh, S, t, fun W1 H1 v p e1 d1 t1 => ?_⟩
    cases d1 with
    | bl c =>
      refine ⟨c, rfl, ?_⟩
      cases c with
      | true => exact (if_pos rfl).mpr (q W1 H1 _ _ e1 (.bl true) t1)
      | false => exact (if_neg (by decide)).mpr ⟨W1, H0, ρ, _, e1.holds, S.ext e1, t1, fun W2 H2 v p e2 d2 t2 => q W2 H2 v p (e1.trans hh e2) d2 t2⟩
    | _ => exact t1.elim
theorem q_not {a : Expr} {pos : Pos} {t : PTE} (ha : PE X a (lift Z t)) : PE X (.UnaryOp .Not a pos) (lift Z (pNotV t)) :=
  PEw (pe_not ha) fun σ H Q ⟨W, H0, ρ, Qp, hh, S, t, q⟩ => by
    refine ⟨W, H0, ρ, _, hh, S, t, fun W1 H1 v p e1 d1 t1 => ?_⟩
    cases d1 with
    | bl c => exact ⟨c, rfl, q W1 H1 _ _ e1 (.bl _) t1⟩
    | _ => exact t1.elim
def pIf (c : PTT) (a b : PTE) : PTE := fun ρ Q => c ρ fun k => match k with
  | true => a ρ Q
  | false => b ρ Q
theorem q_if {c a b : Expr} {pos : Pos} {tc : PTT} {t u : PTE} (hc : PT X c (liftT Z tc)) (ha : PE X a (lift Z t)) (hb : PE X b (lift Z u)) : PE X (.IfExp c a b pos) (lift Z (pIf tc t u)) :=
  PEw (pe_ifExp hc ha hb) fun σ H Q ⟨W, H0, ρ, Qp, hh, S, t, q⟩ => by
    refine ⟨W, H0, ρ, _, hh, S, t, fun W1 H1 c e1 t1 => ?_⟩
    cases c with
    | true => exact (if_pos rfl).mpr ⟨W1, H0, ρ, _, e1.holds, S.ext e1, t1, fun W2 H2 v p e2 d2 t2 => q W2 H2 v p (e1.trans hh e2) d2 t2⟩
    | false => exact (if_neg (by decide)).mpr ⟨W1, H0, ρ, _, e1.holds, S.ext e1, t1, fun W2 H2 v p e2 d2 t2 => q W2 H2 v p (e1.trans hh e2) d2 t2⟩
/-- an expression that is not reached -/
def pNever : PTE := fun _ _ => False
theorem q_never {e : Expr} : PE X e (lift Z pNever) := ⟨fun _ _ _ _ _ _ h => by obtain ⟨_, _, _, _, _, _, z, _⟩ := h; exact z.elim⟩

/-! ### argument lists, displays -/
def pNil : PTA := fun _ Q => Q []
def pCons (t : PTE) (u : PTA) : PTA := fun ρ Q => t ρ fun p => u ρ fun ps => Q (p :: ps)
theorem qa_nil : PA X [] (liftA Z pNil) := PAw pa_nil fun σ H Q ⟨W, H0, ρ, Qp, hh, S, t, q⟩ => q W H [] [] (.refl hh) .nil t
theorem qa_cons {e : Expr} {es : List Expr} {t : PTE} {u : PTA} (ha : PE X e (lift Z t)) (hr : PA X es (liftA Z u)) (hs : starEach (e :: es) X.env = (false, eval e X.env) :: starEach es X.env := by rfl) : PA X (e :: es) (liftA Z (pCons t u)) :=
  PAw (pa_cons ha hr hs) fun σ H Q ⟨W, H0, ρ, Qp, hh, S, t, q⟩ =>
    ⟨W, H0, ρ, _, hh, S, t, fun W1 H1 v p e1 d1 t1 => ⟨W1, H0, ρ, _, e1.holds, S.ext e1, t1, fun W2 H2 vs ps e2 d2 t2 => q W2 H2 _ _ (e1.trans hh e2) (.cons (d1.mono e2.le) d2) t2⟩⟩
def pTup (t : PTA) : PTE := fun ρ Q => t ρ fun ps => ps.length ≤ sizeLine ∧ Q (.tup ps)
def pLst (t : PTA) : PTE := fun ρ Q => t ρ fun ps => ps.length ≤ sizeLine ∧ Q (.lst ps)
theorem q_tup {es : List Expr} {x1} {pos : Pos} {t : PTA} (h : PA X es (liftA Z t)) : PE X (.Tuple es x1 pos) (lift Z (pTup t)) :=
  PEw (pe_tup h) fun σ H Q ⟨W, H0, ρ, Qp, hh, S, t, q⟩ =>
    ⟨W, H0, ρ, _, hh, S, t, fun W1 H1 vs ps e1 d1 t1 => ⟨by rw [d1.length]; exact t1.1, fun p n => by
      have e2 := Ext.new (o := .tup vs) e1.holds n
      exact q _ _ _ _ (e1.trans hh e2) (.tup Wd.add_at (d1.mono e2.le)) t1.2⟩⟩
theorem q_lst {es : List Expr} {pos : Pos} {t : PTA} (h : PA X es (liftA Z t)) : PE X (.List es pos) (lift Z (pLst t)) :=
  PEw (pe_lst h) fun σ H Q ⟨W, H0, ρ, Qp, hh, S, t, q⟩ =>
    ⟨W, H0, ρ, _, hh, S, t, fun W1 H1 vs ps e1 d1 t1 => ⟨by rw [d1.length]; exact t1.1, fun p n => by
      have e2 := Ext.new (o := .lst vs) e1.holds n
      exact q _ _ _ _ (e1.trans hh e2) (.lst Wd.add_at (d1.mono e2.le)) t1.2⟩⟩

/-! ### calls of built-ins -/
abbrev PKA := List PV → (PV → Prop) → Prop
structure CallP (Z : Par) (X : Cx) (f : Value) (k : PKA) : Prop where
  ex : ∃ r : List V → Hp → VK → Prop, CallR X f r ∧ ∀ W H xs ps Q Qp, Holds Z W H → DatL Z.K W xs ps → k ps Qp → (∀ W' H' v r, Ext Z W H W' H' → Dat Z.K W' v r → Qp r → Q v H') → r xs H Q
def pCallB (k : PKA) (t : PTA) : PTE := fun ρ Q => t ρ fun ps => k ps Q
theorem lift_callB {k : PKA} {r : List V → Hp → VK → Prop} {t : PTA} (w : ∀ W H xs ps Q Qp, Holds Z W H → DatL Z.K W xs ps → k ps Qp → (∀ W' H' v r, Ext Z W H W' H' → Dat Z.K W' v r → Qp r → Q v H') → r xs H Q)
    (σ : L2.St) (H : Hp) (Q : VK) (h : lift Z (pCallB k t) σ H Q) : tCB r (liftA Z t) σ H Q := by
  obtain ⟨W, H0, ρ, Qp, hh, S, t, q⟩ := h
  refine ⟨W, H0, ρ, _, hh, S, t, fun W1 H1 vs ps e1 d1 t1 => ?_⟩
  exact w W1 H1 vs ps Q Qp e1.holds d1 t1 fun W2 H2 v p e2 d2 t2 => q W2 H2 v p (e1.trans hh e2) d2 t2
theorem q_callB {id : String} {k : PKA} {x : Str} {p pos : Pos} {e : Expr} {es : List Expr} {t : PTA} (c : CallP Z X (.builtin id) k) (hm : X.mg x = none) (hv : bootBuiltins x = some (.builtin id)) (ha : PA X (e :: es) (liftA Z t)) (hg : Gl X x := by rfl)
    (hn : x ≠ "__name__" := by decide) (hdb : (x == ("__debug__" : Str)) = false := by decide) (he : starEach (e :: es) X.env = (false, eval e X.env) :: starEach es X.env := by rfl) (hpl : (backTo pos (starEach es X.env)).any (·.1) = false := by rfl) :
    PE X (.Call (.Name x p) (e :: es) [] pos) (lift Z (pCallB k t)) := by
  obtain ⟨r, hc, w⟩ := c.ex
  exact PEw (pe_callB hc hg hm hv ha hn hdb he hpl) fun σ H Q => lift_callB w σ H Q
theorem q_callTy {T : String} {k : PKA} {x : Str} {p pos : Pos} {e : Expr} {es : List Expr} {t : PTA} (c : CallP Z X (.type T) k) (hm : X.mg x = none) (hv : bootBuiltins x = some (.type T)) (ha : PA X (e :: es) (liftA Z t)) (hg : Gl X x := by rfl)
    (hn : x ≠ "__name__" := by decide) (hdb : (x == ("__debug__" : Str)) = false := by decide) (he : starEach (e :: es) X.env = (false, eval e X.env) :: starEach es X.env := by rfl) (hpl : (backTo pos (starEach es X.env)).any (·.1) = false := by rfl) :
    PE X (.Call (.Name x p) (e :: es) [] pos) (lift Z (pCallB k t)) := by
  obtain ⟨r, hc, w⟩ := c.ex
  exact PEw (pe_callTy hc hg hm hv ha hn hdb he hpl) fun σ H Q => lift_callB w σ H Q

/-! ### promises of defs -/
abbrev Con := List PV → (PV → Prop) → Prop
def spP (Z : Par) (Φ : Con) : Sp := fun vs H Q _ => ∃ W ps Qp, Holds Z W H ∧ DatL Z.K W vs ps ∧ Φ ps Qp ∧ ∀ W' H' v p, Ext Z W H W' H' → Dat Z.K W' v p → Qp p → Q v H'
/-- the def x of the module keeps Φ, at level k, with n arguments -/
structure FnC (P : Program) (w : World) (mg : Str → Option Value) (Z : Par) (x : Str) (k n : Nat) (Φ : Con) : Prop where
  ex : ∃ (f : Addr) (fd : FuncData) (ps : List Str), mg x = some (.ref f) ∧ PySem.W.keepIn Z.K (.ref f) = true ∧ Binds Z.K fd ps [] ∧ ps.length = n ∧ ∀ base : Heap, FnOk P w Z.K mg base CX0 k f fd ps (spP Z Φ)
def pCall (Φ : Con) (t : PTA) : PTE := fun ρ Q => t ρ fun ps => Φ ps Q
theorem lift_call {Φ : Con} {t : PTA} (σ : L2.St) (H : Hp) (Q : VK) (h : lift Z (pCall Φ t) σ H Q) : tCall (spP Z Φ) [] E0 (liftA Z t) σ H Q := by
  obtain ⟨W, H0, ρ, Qp, hh, S, t, q⟩ := h
  refine ⟨W, H0, ρ, _, hh, S, t, fun W1 H1 vs ps e1 d1 t1 => ?_⟩
  show spP Z Φ (vs ++ []) H1 Q E0
  rw [List.append_nil]
  exact ⟨W1, ps, Qp, e1.holds, d1, t1, fun W2 H2 v p e2 d2 t2 => q W2 H2 v p (e1.trans hh e2) d2 t2⟩
theorem q_call {x : Str} {k j n : Nat} {Φ : Con} {p pos : Pos} {e : Expr} {es : List Expr} {t : PTA} (c : FnC X.prog X.w X.mg Z x k n Φ) (hr : Room j X.A) (ha : PA X (e :: es) (liftA Z t)) (hK : X.K = Z.K := by rfl) (hj : k ≤ j := by decide) (hg : Gl X x := by rfl)
    (hdb : (x == ("__debug__" : Str)) = false := by decide) (he : starEach (e :: es) X.env = (false, eval e X.env) :: starEach es X.env := by rfl) (hpl : (backTo pos (starEach es X.env)).any (·.1) = false := by rfl) :
    PE X (.Call (.Name x p) (e :: es) [] pos) (lift Z (pCall Φ t)) := by
  obtain ⟨f, fd, ps, hm, kp, b, hn, F⟩ := c.ex
  rw [← hK] at kp b
  exact PEw (pe_call (hK ▸ F X.base) (hr.mono hj) hg hm kp b .nil pass0 ha hdb he hpl) fun σ H Q => lift_call σ H Q
end
end L3

/-! ## L3C -/
/-! Judgements over pure values: targets, statements, loops, comprehensions, defs. -/
namespace L3
open PySem PySem.Spec PyProof.Rows L2

abbrev PTG := PV → List Slt → (List Slt → Prop) → Prop
abbrev PTGs := List PV → List Slt → (List Slt → Prop) → Prop
/-- slots outside ws are as they were -/
def Only1 (ws : List Nat) (σ σ' : L2.St) : Prop := σ'.length = σ.length ∧ ∀ i, i ∉ ws → σ'[i]? = σ[i]?
def liftG (Z : Par) (ws : List Nat) (t : PTG) : TG := fun v σ H Q => ∃ W H0 ρ p Qp, Holds Z W H ∧ Slots Z W H0 H σ ρ ∧ Dat Z.K W v p ∧ t p ρ Qp ∧ ∀ σ' ρ', Only1 ws σ σ' → Slots Z W H0 H σ' ρ' → Qp ρ' → Q σ' H
def liftGs (Z : Par) (ws : List Nat) (t : PTGs) : TGs := fun vs σ H Q => ∃ W H0 ρ ps Qp, Holds Z W H ∧ Slots Z W H0 H σ ρ ∧ DatL Z.K W vs ps ∧ t ps ρ Qp ∧ ∀ σ' ρ', Only1 ws σ σ' → Slots Z W H0 H σ' ρ' → Qp ρ' → Q σ' H
def gNm (i : Nat) : PTG := fun p ρ Q => Q (ρ.set i (.val p))
def gNilP : PTGs := fun ps ρ Q => match ps with
  | [] => Q ρ
  | _ => False
def gConsP (t : PTG) (u : PTGs) : PTGs := fun ps ρ Q => match ps with
  | p :: r => t p ρ fun ρ1 => u r ρ1 Q
  | [] => False
def gTupP (n : Nat) (t : PTGs) : PTG := fun p ρ Q => match p with
  | .tup l => l.length = n ∧ t l ρ Q
  | _ => False
section
variable {X : Cx} {Z : Par}
theorem PGw {e : Expr} {t t' : TG} (h : PG X e t) (w : ∀ v σ H Q, t' v σ H Q → t v σ H Q) : PG X e t' := ⟨fun pins s σ H v u Q I r q => h.run pins s σ H v u Q I r (w _ _ _ _ q)⟩
theorem PGsw {e : List Expr} {t t' : TGs} (h : PGs X e t) (w : ∀ v σ H Q, t' v σ H Q → t v σ H Q) : PGs X e t' := ⟨fun pins s σ H v u Q I r q => h.run pins s σ H v u Q I r (w _ _ _ _ q)⟩
theorem Only1.refl {ws : List Nat} {σ : L2.St} : Only1 ws σ σ := ⟨rfl, fun _ _ => rfl⟩
theorem Only1.trans {ws ws' : List Nat} {a b c : L2.St} (h : Only1 ws a b) (g : Only1 ws' b c) : Only1 (ws ++ ws') a c :=
  ⟨g.1.trans h.1, fun i n => by
    rw [List.mem_append, not_or] at n
    exact (g.2 i n.2).trans (h.2 i n.1)⟩
theorem qg_name {i : Nat} {x : Str} {pos : Pos} (hN : X.N.Nodup) (hi : X.N[i]? = some x := by rfl) (hx : Loc X.env.scope x := by first | exact .inl rfl | exact .inr rfl) (hf : X.fn x = true ∨ X.env.scope.names.lookup x = some .local := by first | exact .inl rfl | exact .inr rfl) :
    PG X (.Name x pos) (liftG Z [i] (gNm i)) :=
  PGw (pg_name hN hi hx hf) fun v σ H Q ⟨W, H0, ρ, p, Qp, hh, S, d, t, q⟩ => q _ _ ⟨List.length_set, fun j n => List.getElem?_set_ne fun e => n (by simp [e])⟩ (S.setVal i d) t
theorem qgs_nil : PGs X [] (liftGs Z [] gNilP) :=
  PGsw pgs_nil fun v σ H Q ⟨W, H0, ρ, ps, Qp, hh, S, d, t, q⟩ => by
    cases d with
    | nil => exact ⟨rfl, q σ ρ .refl S t⟩
    | cons => exact t.elim
theorem qgs_cons {e : Expr} {es : List Expr} {t : PTG} {u : PTGs} {ws ws' : List Nat} (h1 : PG X e (liftG Z ws t)) (h2 : PGs X es (liftGs Z ws' u))
    (hs : (assignEach (e :: es) X.env).map (·.2) = assign e X.env :: (assignEach es X.env).map (·.2) := by rfl) : PGs X (e :: es) (liftGs Z (ws ++ ws') (gConsP t u)) :=
  PGsw (pgs_cons h1 h2 hs) fun v σ H Q ⟨W, H0, ρ, ps, Qp, hh, S, d, t, q⟩ => by
    cases d with
    | nil => exact t.elim
    | cons d1 d2 =>
      refine ⟨_, _, rfl, W, H0, ρ, _, _, hh, S, d1, t, fun σ1 ρ1 o1 S1 t1 => ?_⟩
      exact ⟨W, H0, ρ1, _, _, hh, S1, d2, t1, fun σ2 ρ2 o2 S2 t2 => q σ2 ρ2 (o1.trans o2) S2 t2⟩
theorem qg_tup {es : List Expr} {k : Nat} {t : PTGs} {ws : List Nat} {n : Nat} {pos : Pos} (h : PGs X es (liftGs Z ws t)) (hK : X.K = Z.K := by rfl) (hc : X.calm = true := by rfl)
    (hn : (assignEach es X.env).length = n := by rfl) (hst : (assignEach es X.env).findIdx? (·.1) = none := by rfl) : PG X (.Tuple es k pos) (liftG Z ws (gTupP n t)) :=
  PGw (pg_tup hc h hn hst) fun v σ H Q ⟨W, H0, ρ, p, Qp, hh, S, d, t, q⟩ => by
    cases d with
    | tup ha r => exact ⟨_, _, rfl, .of (hh.ex ha (fun z => z)), by rw [r.length]; exact t.1, W, H0, ρ, _, Qp, hh, S, r, t.2, q⟩
    | _ => exact t.elim

/-! ### ends -/
structure PEnds where
  nx : List Slt → Prop
  rt : PV → Prop
  bk : List Slt → Prop := fun _ => False
  ct : List Slt → Prop := fun _ => False
abbrev PTS := PEnds → List Slt → Prop
structure EndsOk (Z : Par) (W0 : Wd) (H0 : Hp) (Wb : Wd) (Hb : Hp) (E : PEnds) (D : Ends) : Prop where
  nx : ∀ W H σ ρ, Ext Z W0 H0 W H → Lt Wb Hb W H → Slots Z W H0 H σ ρ → E.nx ρ → D.nx σ H
  rt : ∀ W H v p, Ext Z W0 H0 W H → Dat Z.K W v p → E.rt p → D.rt v H
  bk : ∀ W H σ ρ, Ext Z W0 H0 W H → Lt Wb Hb W H → Slots Z W H0 H σ ρ → E.bk ρ → D.bk σ H
  ct : ∀ W H σ ρ, Ext Z W0 H0 W H → Lt Wb Hb W H → Slots Z W H0 H σ ρ → E.ct ρ → D.ct σ H
theorem EndsOk.up {W0 Wb Wb' : Wd} {H0 Hb Hb' : Hp} {E : PEnds} {D : Ends} (h : EndsOk Z W0 H0 Wb Hb E D) (le : Lt Wb Hb Wb' Hb') : EndsOk Z W0 H0 Wb' Hb' E D :=
  ⟨fun W H σ ρ e l => h.nx W H σ ρ e (le.trans l), h.rt, fun W H σ ρ e l => h.bk W H σ ρ e (le.trans l), fun W H σ ρ e l => h.ct W H σ ρ e (le.trans l)⟩
def liftS (Z : Par) (t : PTS) : TS := fun D σ H => ∃ W0 H0 W ρ E, Holds Z W0 H0 ∧ Ext Z W0 H0 W H ∧ Slots Z W H0 H σ ρ ∧ t E ρ ∧ EndsOk Z W0 H0 W H E D

def pNext : PTS := fun E ρ => E.nx ρ
def pSeq (t u : PTS) : PTS := fun E ρ => t { E with nx := u E } ρ
theorem qss_nil : PSs X [] (liftS Z pNext) := PSsw pss_nil fun D σ H ⟨W0, H0, W, ρ, E, h0, e, S, t, D1⟩ => D1.nx W H σ ρ e (.refl W H) S t
theorem qss_cons {st : Stmt} {rest : List Stmt} {t u : PTS} (h1 : PS X st (liftS Z t)) (h2 : PSs X rest (liftS Z u)) : PSs X (st :: rest) (liftS Z (pSeq t u)) :=
  PSsw (pss_cons h1 h2) fun D σ H ⟨W0, H0, W, ρ, E, h0, e, S, t, D1⟩ =>
    ⟨W0, H0, W, ρ, _, h0, e, S, t, ⟨fun W' H' σ' ρ' e' le S' t' => ⟨W0, H0, W', ρ', E, h0, e', S', t', D1.up le⟩, D1.rt, D1.bk, D1.ct⟩⟩
theorem qss_one {st : Stmt} {t : PTS} (h1 : PS X st (liftS Z t)) : PSs X [st] (liftS Z t) := pss_one h1
def pBreak : PTS := fun E ρ => E.bk ρ
def pCont : PTS := fun E ρ => E.ct ρ
theorem qs_pass {pos : Pos} : PS X (.Pass pos) (liftS Z pNext) := PSw ps_pass fun D σ H ⟨W0, H0, W, ρ, E, h0, e, S, t, D1⟩ => D1.nx W H σ ρ e (.refl W H) S t
theorem qs_break {pos : Pos} : PS X (.Break pos) (liftS Z pBreak) := PSw ps_break fun D σ H ⟨W0, H0, W, ρ, E, h0, e, S, t, D1⟩ => D1.bk W H σ ρ e (.refl W H) S t
theorem qs_continue {pos : Pos} : PS X (.Continue pos) (liftS Z pCont) := PSw ps_continue fun D σ H ⟨W0, H0, W, ρ, E, h0, e, S, t, D1⟩ => D1.ct W H σ ρ e (.refl W H) S t
def pDrop (te : PTE) : PTS := fun E ρ => te ρ fun _ => E.nx ρ
theorem qs_expr {e : Expr} {te : PTE} {pos : Pos} (he : PE X e (lift Z te)) (hs : swapsWith e none pos.line X.env = pure false := by rfl) : PS X (.Expr e pos) (liftS Z (pDrop te)) :=
  PSw (ps_expr he hs) fun D σ H ⟨W0, H0, W, ρ, E, h0, e, S, t, D1⟩ =>
    ⟨W, H0, ρ, _, e.holds, S, t, fun W1 H1 v p e1 d1 t1 => D1.nx W1 H1 σ ρ (e.trans h0 e1) e1.lt (S.ext e1) t1⟩
def pRet (te : PTE) : PTS := fun E ρ => te ρ E.rt
theorem qs_ret {e : Expr} {te : PTE} {pos : Pos} (he : PE X e (lift Z te)) : PS X (.Return (some e) pos) (liftS Z (pRet te)) :=
  PSw (ps_ret he) fun D σ H ⟨W0, H0, W, ρ, E, h0, e, S, t, D1⟩ =>
    ⟨W, H0, ρ, _, e.holds, S, t, fun W1 H1 v p e1 d1 t1 => D1.rt W1 H1 v p (e.trans h0 e1) d1 t1⟩
def pRetN : PTS := fun E _ => E.rt .non
theorem qs_retN {pos : Pos} : PS X (.Return none pos) (liftS Z pRetN) :=
  PSw ps_retN fun D σ H ⟨W0, H0, W, ρ, E, h0, e, S, t, D1⟩ => D1.rt W H _ _ e .non t
def pIfS (c : PTT) (t u : PTS) : PTS := fun E ρ => c ρ fun b => match b with
  | true => t E ρ
  | false => u E ρ
theorem qs_if {c : Expr} {a b : List Stmt} {tc : PTT} {t u : PTS} {pos : Pos} (hc : PT X c (liftT Z tc)) (ha : PSs X a (liftS Z t)) (hb : PSs X b (liftS Z u)) : PS X (.If c a b pos) (liftS Z (pIfS tc t u)) :=
  PSw (ps_if hc ha hb) fun D σ H ⟨W0, H0, W, ρ, E, h0, e, S, t, D1⟩ =>
    ⟨W, H0, ρ, _, e.holds, S, t, fun W1 H1 b e1 t1 => by
      cases b with
      | true => exact (if_pos rfl).mpr ⟨W0, H0, W1, ρ, E, h0, e.trans h0 e1, S.ext e1, t1, D1.up e1.lt⟩
      | false => exact (if_neg (by decide)).mpr ⟨W0, H0, W1, ρ, E, h0, e.trans h0 e1, S.ext e1, t1, D1.up e1.lt⟩⟩
def pNeverS : PTS := fun _ _ => False
theorem qs_never {st : Stmt} : PS X st (liftS Z pNeverS) := ⟨fun _ _ _ _ _ _ h => by obtain ⟨_, _, _, _, _, _, _, _, z, _⟩ := h; exact z.elim⟩
theorem qss_never {sts : List Stmt} : PSs X sts (liftS Z pNeverS) := ⟨fun _ _ _ _ _ _ h => by obtain ⟨_, _, _, _, _, _, _, _, z, _⟩ := h; exact z.elim⟩

/-! ### assignments -/
def pAsg (te : PTE) (g : PTG) : PTS := fun E ρ => te ρ fun p => g p ρ E.nx
theorem asg_of {te : PTE} {ws : List Nat} {g : PTG} (D : Ends) (σ : L2.St) (H : Hp) (h : liftS Z (pAsg te g) D σ H) : tAsg (lift Z te) (liftG Z ws g) D σ H := by
  obtain ⟨W0, H0, W, ρ, E, h0, e, S, t, D1⟩ := h
  exact ⟨W, H0, ρ, _, e.holds, S, t, fun W1 H1 v p e1 d1 t1 => ⟨W1, H0, ρ, p, _, e1.holds, S.ext e1, d1, t1, fun σ' ρ' o S' t' => D1.nx W1 H1 σ' ρ' (e.trans h0 e1) e1.lt S' t'⟩⟩
theorem qs_asg {tg e : Expr} {te : PTE} {ws : List Nat} {g : PTG} {pos : Pos} (he : PE X e (lift Z te)) (hg : PG X tg (liftG Z ws g)) (hs : swapsWithSole [tg] e pos.line X.env = pure false := by rfl) (hw : swappedStores [tg] e X.env = pure none := by rfl) (h1 : List.map (fun x => x.snd) (assignEach [tg] X.env) = [assign tg X.env] := by rfl) :
    PS X (.Assign [tg] e pos) (liftS Z (pAsg te g)) := PSw (ps_asg he hg hs hw h1) asg_of
theorem gname_of {i : Nat} (v : V) (σ : L2.St) (H : Hp) (Q : L2.St → Hp → Prop) (h : liftG Z [i] (gNm i) v σ H Q) : gName i v σ H Q := by
  obtain ⟨W, H0, ρ, p, Qp, hh, S, d, t, q⟩ := h
  exact q _ _ ⟨List.length_set, fun j n => List.getElem?_set_ne fun e => n (by simp [e])⟩ (S.setVal i d) t
theorem setw {i : Nat} {te : PTE} (D : Ends) (σ : L2.St) (H : Hp) (h : liftS Z (pAsg te (gNm i)) D σ H) : tAsg (lift Z te) (gName i) D σ H := by
  obtain ⟨W0, H0, W, ρ, E, h0, e, S, t, D1⟩ := h
  exact ⟨W, H0, ρ, _, e.holds, S, t, fun W1 H1 v p e1 d1 t1 => D1.nx W1 H1 _ _ (e.trans h0 e1) e1.lt ((S.ext e1).setVal i d1) t1⟩
theorem qs_set {i : Nat} {x : Str} {e : Expr} {te : PTE} {pos' pos : Pos} (hN : X.N.Nodup) (he : PE X e (lift Z te)) (hi : X.N[i]? = some x := by rfl) (hx : Loc X.env.scope x := by first | exact .inl rfl | exact .inr rfl) (hs : swapsWith e (some (.Name x pos')) pos.line X.env = pure false := by rfl)
    (hf : X.fn x = true ∨ X.env.scope.names.lookup x = some .local := by first | exact .inl rfl | exact .inr rfl) :
    PS X (.Assign [.Name x pos'] e pos) (liftS Z (pAsg te (gNm i))) := PSw (ps_set hN hi hx he hs hf) setw
def pPar (i j : Nat) (ta : PTA) : PTS := fun E ρ => ta ρ fun ps => match ps with
  | [p, q] => E.nx ((ρ.set i (.val p)).set j (.val q))
  | _ => False
theorem qs_par {i j : Nat} {x y : Str} {a b : Expr} {ta : PTA} {px py pt pos : Pos} {kt k2 pt2} (hN : X.N.Nodup) (ha : PA X [a, b] (liftA Z ta)) (hi : X.N[i]? = some x := by rfl) (hj : X.N[j]? = some y := by rfl) (hij : i ≠ j := by decide)
    (hx : X.env.scope.names.lookup x = some .local := by rfl) (hy : X.env.scope.names.lookup y = some .local := by rfl) (hc : X.calm = true := by rfl)
    (hw : swappedStores [.Tuple [.Name x px, .Name y py] kt pt] (.Tuple [a, b] k2 pt2) X.env = pure (some [x, y]) := by rfl)
    (hs : swapsWithSole [.Tuple [.Name x px, .Name y py] kt pt] (.Tuple [a, b] k2 pt2) pos.line X.env = pure false := by rfl) :
    PS X (.Assign [.Tuple [.Name x px, .Name y py] kt pt] (.Tuple [a, b] k2 pt2) pos) (liftS Z (pPar i j ta)) :=
  PSw (ps_par hc hN hi hj hij hx hy ha hw hs) fun D σ H ⟨W0, H0, W, ρ, E, h0, e, S, t, D1⟩ =>
    ⟨W, H0, ρ, _, e.holds, S, t, fun W1 H1 vs ps e1 d1 t1 => by
      cases d1 with
      | nil => exact t1.elim
      | cons d1 d2 => cases d2 with
        | nil => exact t1.elim
        | cons d2 d3 => cases d3 with
          | cons => exact t1.elim
          | nil => exact ⟨_, _, rfl, D1.nx W1 H1 _ _ (e.trans h0 e1) e1.lt (((S.ext e1).setVal i d1).setVal j d2) t1⟩⟩

/-! ### loops -/
def Serves (Z : Par) (W : Wd) (H : Hp) (J : It) (l : List PV) : Prop := ∀ W1 H1, Lt W H W1 H1 → Holds Z W1 H1 → (∀ i, l.length ≤ i → J.stop i H1) ∧ ∀ (i : Nat) (p : PV), l[i]? = some p → J.go i H1 ∧ ∀ x H2, J.yld i H1 x H2 → ∃ W2, Ext Z W1 H1 W2 H2 ∧ Dat Z.K W2 x p
abbrev PTI := List Slt → (List PV → Prop) → Prop
def liftI (Z : Par) (t : PTI) : TI := fun σ H R => ∃ W H0 ρ Qp, Holds Z W H ∧ Slots Z W H0 H σ ρ ∧ t ρ Qp ∧ ∀ W' H' J l, Ext Z W H W' H' → Serves Z W' H' J l → Qp l → R J H'
def pForL (g : PTG) (tb : PTS) (E : PEnds) : List PV → List Slt → Prop
  | [], ρ => E.nx ρ
  | p :: ps, ρ => g p ρ fun ρ1 => tb ⟨fun ρ2 => pForL g tb E ps ρ2, E.rt, E.nx, fun ρ2 => pForL g tb E ps ρ2⟩ ρ1
def pFor (ti : PTI) (g : PTG) (tb : PTS) : PTS := fun E ρ => ti ρ fun l => pForL g tb E l ρ
theorem drop_cons {α : Type} {l : List α} {i : Nat} (h : i < l.length) : l.drop i = l[i] :: l.drop (i + 1) := List.drop_eq_getElem_cons h
theorem for_of {ti : PTI} {ws : List Nat} {g : PTG} {tb : PTS} (D : Ends) (σ : L2.St) (H : Hp) (h : liftS Z (pFor ti g tb) D σ H) : tFor (liftI Z ti) (liftG Z ws g) (liftS Z tb) D σ H := by
  obtain ⟨W0, H0, W, ρ, E, h0, e, S, t, D1⟩ := h
  refine ⟨W, H0, ρ, _, e.holds, S, t, fun W1 H1 J l e1 sv t1 => ?_⟩
  have D2 := D1.up e1.lt
  refine ⟨fun i m σ' H' => m = l.length - i ∧ i ≤ l.length ∧ ∃ W' ρ', Ext Z W0 H0 W' H' ∧ Lt W1 H1 W' H' ∧ Slots Z W' H0 H' σ' ρ' ∧ pForL g tb E (l.drop i) ρ', ⟨l.length, rfl, Nat.zero_le _, W1, ρ, e.trans h0 e1, .refl W1 H1, S.ext e1, t1⟩, ?_⟩
  rintro i m σ' H' ⟨rfl, hi, W', ρ', e', le', S', t'⟩
  have sv' := sv W' H' le' e'.holds
  by_cases hlt : i < l.length
  · have g1 := sv'.2 i l[i] (by simp [hlt])
    rw [drop_cons hlt] at t'
    refine .inr ⟨g1.1, fun σ2 H2 => i < l.length ∧ ∃ W2 ρ2, Ext Z W0 H0 W2 H2 ∧ Lt W1 H1 W2 H2 ∧ Slots Z W2 H0 H2 σ2 ρ2 ∧ pForL g tb E (l.drop (i + 1)) ρ2, ?_, fun x H2 y => ?_⟩
    · rintro σ2 H2 ⟨_, W2, ρ2, a, b, c, d⟩
      exact ⟨l.length - (i + 1), by omega, rfl, hlt, W2, ρ2, a, b, c, d⟩
    · obtain ⟨W2, e2, d2⟩ := g1.2 x H2 y
      have E2 := e'.trans h0 e2
      refine ⟨W2, H0, ρ', l[i], _, e2.holds, S'.ext e2, d2, t', fun σ3 ρ3 o3 S3 t3 => ?_⟩
      refine ⟨W0, H0, W2, ρ3, _, h0, E2, S3, t3, ⟨fun W4 H4 σ4 ρ4 e4 le4 S4 t4 => ⟨hlt, W4, ρ4, e4, (le'.trans e2.lt).trans le4, S4, t4⟩, D1.rt, fun W4 H4 σ4 ρ4 e4 le4 S4 t4 => D2.nx W4 H4 σ4 ρ4 e4 ((le'.trans e2.lt).trans le4) S4 t4, fun W4 H4 σ4 ρ4 e4 le4 S4 t4 => ⟨hlt, W4, ρ4, e4, (le'.trans e2.lt).trans le4, S4, t4⟩⟩⟩
  · have ei : i = l.length := by omega
    subst ei
    rw [List.drop_length] at t'
    exact .inl ⟨sv'.1 _ (Nat.le_refl _), D2.nx W' H' σ' ρ' e' le' S' t'⟩
theorem qs_for {tg iter : Expr} {body : List Stmt} {ti : PTI} {ws : List Nat} {g : PTG} {tb : PTS} {pos : Pos} (hi : PI X tg iter (liftI Z ti)) (hg : PG X tg (liftG Z ws g)) (hb : PSs X body (liftS Z tb)) (hp : PassesOwn (model X.prog X.w) X.A X.env X.xe := by exact PassesOwn.never)
    (hc : X.calm = true := by rfl) (hs : ∀ x, foldedSetIterable iter X.env x = pure x := by intro _; rfl) : PS X (.For tg iter body [] pos) (liftS Z (pFor ti g tb)) :=
  PSw (ps_for hp hc hi hg hb hs) for_of
def pWhile (c : PTT) (tb : PTS) : PTS := fun E ρ => ∃ I : Nat → List Slt → Prop, (∃ m, I m ρ) ∧ ∀ m ρ, I m ρ → c ρ fun b => match b with
  | true => tb ⟨fun ρ2 => ∃ m', m' < m ∧ I m' ρ2, E.rt, E.nx, fun ρ2 => ∃ m', m' < m ∧ I m' ρ2⟩ ρ
  | false => E.nx ρ
theorem while_of {c : PTT} {tb : PTS} (D : Ends) (σ : L2.St) (H : Hp) (h : liftS Z (pWhile c tb) D σ H) : tWhile (liftT Z c) (liftS Z tb) D σ H := by
  obtain ⟨W0, H0, W, ρ, E, h0, e, S, ⟨I, ⟨m0, i0⟩, tt⟩, D1⟩ := h
  refine ⟨fun m σ' H' => ∃ W' ρ', Ext Z W0 H0 W' H' ∧ Lt W H W' H' ∧ Slots Z W' H0 H' σ' ρ' ∧ I m ρ', ⟨m0, W, ρ, e, .refl W H, S, i0⟩, ?_⟩
  rintro m σ' H' ⟨W', ρ', e', le', S', i'⟩
  refine ⟨W', H0, ρ', _, e'.holds, S', tt m ρ' i', fun W1 H1 b e1 t1 => ?_⟩
  have E1 := e'.trans h0 e1
  have L1 := le'.trans e1.lt
  cases b with
  | false => exact (if_neg (by decide)).mpr (D1.nx W1 H1 σ' ρ' E1 L1 (S'.ext e1) t1)
  | true =>
    refine (if_pos rfl).mpr ⟨fun σ2 H2 => ∃ m', m' < m ∧ ∃ W2 ρ2, Ext Z W0 H0 W2 H2 ∧ Lt W H W2 H2 ∧ Slots Z W2 H0 H2 σ2 ρ2 ∧ I m' ρ2, fun σ2 H2 ⟨m', a, b⟩ => ⟨m', a, b⟩, ?_⟩
    exact ⟨W0, H0, W1, ρ', _, h0, E1, S'.ext e1, t1, ⟨fun W2 H2 σ2 ρ2 e2 l2 S2 ⟨m', a, b⟩ => ⟨m', a, W2, ρ2, e2, L1.trans l2, S2, b⟩, D1.rt, fun W2 H2 σ2 ρ2 e2 l2 S2 t2 => D1.nx W2 H2 σ2 ρ2 e2 (L1.trans l2) S2 t2, fun W2 H2 σ2 ρ2 e2 l2 S2 ⟨m', a, b⟩ => ⟨m', a, W2, ρ2, e2, L1.trans l2, S2, b⟩⟩⟩
theorem qs_while {c : Expr} {body : List Stmt} {tc : PTT} {tb : PTS} {pos : Pos} (hc : PT X c (liftT Z tc)) (hb : PSs X body (liftS Z tb)) (hp : PassesOwn (model X.prog X.w) X.A X.env X.xe := by exact PassesOwn.never) : PS X (.While c body [] pos) (liftS Z (pWhile tc tb)) :=
  PSw (ps_while hp hc hb) while_of

/-! ### what is walked -/
def pIL (te : PTE) : PTI := fun ρ Q => te ρ fun p => match p with
  | .lst l => Q l
  | .frz l => Q l
  | _ => False
theorem serves_sq {K : PySem.W.Frag} {W : Wd} {H : Hp} {a : Addr} {xs : List V} {l : List PV} (hK : K = Z.K) (sq : ∀ W1 H1, W.le W1 → Holds Z W1 H1 → SqL K H1 a xs) (d : DatL Z.K W xs l) : Serves Z W H (Itl K a) l := fun W1 H1 le h1 =>
  ⟨fun i hi => ⟨xs, sq W1 H1 le.le h1, by rw [d.length]; exact hi⟩, fun i p hp => by
    obtain ⟨v, hv, dv⟩ := d.getP hp
    exact ⟨⟨xs, v, sq W1 H1 le.le h1, hv⟩, fun x H2 ⟨e, y⟩ => by
      subst e
      have z := y xs (sq W1 _ le.le h1)
      rw [hv] at z
      cases z
      exact ⟨W1, .refl h1, dv.mono le.le⟩⟩⟩
theorem SqL.holds {W : Wd} {H : Hp} {a : Addr} {xs : List V} (h : Holds Z W H) (s : SqL Z.K W.D a xs) : SqL Z.K H a xs := by
  rcases s with (s | ⟨o, s⟩) | s
  · exact .inl (.inl (h.ex s fun z => z))
  · exact .inl (.inr ⟨o, h.ex s fun z => z⟩)
  · exact .inr s
theorem qi_list {tg e : Expr} {te : PTE} (he : PE X e (lift Z te)) (hK : X.K = Z.K := by rfl) : PI X tg e (liftI Z (pIL te)) :=
  PIw (pi_list he) fun σ H R ⟨W, H0, ρ, Qp, hh, S, t, q⟩ => by
    refine ⟨W, H0, ρ, _, hh, S, t, fun W1 H1 v p e1 d1 t1 => ?_⟩
    cases d1 with
    | lst ha r => exact ⟨_, rfl, ⟨_, .of (e1.holds.ex ha fun z => z)⟩, q W1 H1 _ _ e1 (serves_sq hK (fun W2 H2 le h2 => .of (h2.ex (le.d _ _ ha) fun z => z)) r) t1⟩
    | frz ha r => exact ⟨_, rfl, ⟨_, by rw [hK]; exact SqL.holds e1.holds ha⟩, q W1 H1 _ _ e1 (serves_sq hK (fun W2 H2 le h2 => by rw [hK]; exact SqL.holds h2 (SqL.monoD le.d ha)) r) t1⟩
    | _ => exact t1.elim
def pIT (te : PTE) : PTI := fun ρ Q => te ρ fun p => match p with
  | .tup l => Q l
  | _ => False
theorem qi_tup {tg e : Expr} {te : PTE} (he : PE X e (lift Z te)) (hK : X.K = Z.K := by rfl) : PI X tg e (liftI Z (pIT te)) :=
  PIw (pi_tup he) fun σ H R ⟨W, H0, ρ, Qp, hh, S, t, q⟩ => by
    refine ⟨W, H0, ρ, _, hh, S, t, fun W1 H1 v p e1 d1 t1 => ?_⟩
    cases d1 with
    | tup ha r =>
      refine ⟨_, rfl, ⟨_, .of (e1.holds.ex ha fun z => z)⟩, q W1 H1 _ _ e1 (fun W2 H2 le h2 => ⟨fun i hi => ⟨_, .of (h2.ex (le.le.d _ _ ha) fun z => z), by rw [r.length]; exact hi⟩, fun i p hp => ?_⟩) t1⟩
      obtain ⟨v, hv, dv⟩ := r.getP hp
      exact ⟨⟨_, v, .of (h2.ex (le.le.d _ _ ha) fun z => z), hv⟩, fun x H3 ⟨e, y⟩ => by
        subst e
        have z := y _ (.of (h2.ex (le.le.d _ _ ha) fun z => z))
        rw [hv] at z
        cases z
        exact ⟨W2, .refl h2, dv.mono le.le⟩⟩
    | _ => exact t1.elim
def rngP (lo : Int) (n : Nat) : List PV := (List.range n).map fun i : Nat => PV.int (lo + (i : Int))
theorem serves_rng {W : Wd} {H : Hp} (lo : Int) (n : Nat) : Serves Z W H (Itr lo n) (rngP lo n) := fun W1 H1 le h1 =>
  ⟨fun i hi => by show n ≤ i; simpa [rngP] using hi, fun i p hp => by
    have hi : i < n := by
      have := (List.getElem?_eq_some_iff.mp hp).1
      simpa [rngP] using this
    refine ⟨hi, fun x H2 ⟨e, y⟩ => ?_⟩
    subst e y
    have e : p = .int (lo + i) := by
      have z : (rngP lo n)[i]? = some (.int (lo + i)) := by simp [rngP, List.getElem?_map, List.getElem?_range hi]
      rw [z] at hp
      exact (Option.some.inj hp).symm
    subst e
    exact ⟨W1, .refl h1, .int _⟩⟩
def pR1 (ta : PTA) : PTI := fun ρ Q => ta ρ fun ps => match ps with
  | [.int j] => -(2 ^ 62) ≤ j ∧ j < 2 ^ 62 ∧ Q (rngP 0 j.toNat)
  | _ => False
def pR2 (ta : PTA) : PTI := fun ρ Q => ta ρ fun ps => match ps with
  | [.int i, .int j] => (-(2 ^ 62) ≤ i ∧ i < 2 ^ 62 ∧ -(2 ^ 62) ≤ j ∧ j < 2 ^ 62) ∧ Q (rngP i (j - i).toNat)
  | _ => False
theorem qi_range1 {tg a : Expr} {ta : PTA} {p pos : Pos} (hm : X.mg "range" = none) (ha : PA X [a] (liftA Z ta)) (hg : Gl X "range" := by rfl) (hs : starEach [a] X.env = [(false, eval a X.env)] := by rfl) : PI X tg (.Call (.Name "range" p) [a] [] pos) (liftI Z (pR1 ta)) :=
  PIw (pi_range1 hg hm ha hs) fun σ H R ⟨W, H0, ρ, Qp, hh, S, t, q⟩ => by
    refine ⟨W, H0, ρ, _, hh, S, t, fun W1 H1 vs ps e1 d1 t1 => ?_⟩
    match ps, d1, t1 with
    | [.int j], .cons (.int _) .nil, t1 => exact ⟨j, rfl, t1.1, t1.2.1, q W1 H1 _ _ e1 (serves_rng 0 j.toNat) t1.2.2⟩
theorem qi_range2 {tg a b : Expr} {ta : PTA} {p pos : Pos} (hm : X.mg "range" = none) (ha : PA X [a, b] (liftA Z ta)) (hg : Gl X "range" := by rfl) (hs : starEach [a, b] X.env = [(false, eval a X.env), (false, eval b X.env)] := by rfl) (hs2 : starEach [b] X.env = [(false, eval b X.env)] := by rfl) : PI X tg (.Call (.Name "range" p) [a, b] [] pos) (liftI Z (pR2 ta)) :=
  PIw (pi_range2 hg hm ha hs hs2) fun σ H R ⟨W, H0, ρ, Qp, hh, S, t, q⟩ => by
    refine ⟨W, H0, ρ, _, hh, S, t, fun W1 H1 vs ps e1 d1 t1 => ?_⟩
    match ps, d1, t1 with
    | [.int i, .int j], .cons (.int _) (.cons (.int _) .nil), t1 => exact ⟨i, j, rfl, t1.1, q W1 H1 _ _ e1 (serves_rng i (j - i).toNat) t1.2⟩
end
end L3

/-! ## L3D -/
/-! Comprehensions, own lists and dicts, defs. -/
namespace L3
open PySem PySem.Spec PyProof.Rows L2

/-! ### a def -/
def startP (N : List Str) (as : List PV) : List Slt := as.map Slt.val ++ List.replicate (N.length - as.length) Slt.no
section
variable {Z : Par} {W : Wd} {H0 H : Hp}
theorem slots_start {N : List Str} {vs : List V} {as : List PV} (d : DatL Z.K W vs as) : Slots Z W H0 H (L2.start N vs) (startP N as) where
  len := by simp [L2.start, startP, d.length]
  val := fun i p e => by
    unfold startP at e
    unfold L2.start
    by_cases hi : i < as.length
    · rw [List.getElem?_append_left (by simpa using hi)] at e
      rw [List.getElem?_append_left (by rw [List.length_map, d.length]; exact hi)]
      rw [List.getElem?_map] at e
      cases q : as[i]? with
      | none => rw [q] at e; cases e
      | some p' =>
        rw [q] at e
        cases e
        obtain ⟨v, hv, dv⟩ := d.getP q
        exact ⟨v, by rw [List.getElem?_map, hv]; rfl, dv⟩
    · rw [List.getElem?_append_right (by simpa using hi)] at e
      rw [List.getElem?_replicate] at e
      split at e <;> cases e
  own := fun i p e => by
    unfold startP at e
    by_cases hi : i < as.length
    · rw [List.getElem?_append_left (by simpa using hi), List.getElem?_map] at e
      cases q : as[i]? with
      | none => rw [q] at e; cases e
      | some p' => rw [q] at e; cases e
    · rw [List.getElem?_append_right (by simpa using hi), List.getElem?_replicate] at e
      split at e <;> cases e
  dst := fun i j a p q n e _ _ _ => by
    unfold startP at e
    by_cases hi : i < as.length
    · rw [List.getElem?_append_left (by simpa using hi), List.getElem?_map] at e
      cases q : as[i]? with
      | none => rw [q] at e; cases e
      | some p' => rw [q] at e; cases e
    · rw [List.getElem?_append_right (by simpa using hi), List.getElem?_replicate] at e
      split at e <;> cases e
end
theorem okP {P : Program} {w : World} {mg : Str → Option Value} {base : Heap} {Z : Par} {x qual : Str} {params : Arguments} {body : List Stmt} {scope : Scope} {dvs : List V} {kws : List (Str × V)} {f : Addr} {fd : FuncData} {N ps : List Str} {k : Nat} {t : PTS} {Φ : Con}
    (F : FunD Z.K x qual params body scope dvs kws f fd) (S : FnScope N ps scope)
    (hb : ∀ (cdv : Value) (A : Around) (outer : List Env) (s : Shared) (H : Hp) (E : XK), Room k (A.deeper (envOfC qual scope s.heap.objs.size f cdv)) → PSs (cxOf CX0 P w Z.K mg base N qual scope f cdv A outer s H E).nox body (liftS Z t))
    (hp : ∀ as Q, Φ as Q → as.length = ps.length ∧ t ⟨fun _ => Q .non, Q, fun _ => False, fun _ => False⟩ (startP N as)) : FnOk P w Z.K mg base CX0 (k + 1) f fd ps (spP Z Φ) := by
  refine F.ok S (fun vs H Q E ⟨W, as, Qp, hh, d, φ, q⟩ => ?_) (fun cdv A outer s H vs Q E hr ⟨W, as, Qp, hh, d, φ, q⟩ => ⟨_, (hb cdv A outer s H E hr).nox, ?_⟩)
  · rw [d.length]; exact (hp as Qp φ).1
  · exact ⟨W, H, W, _, _, hh, .refl hh, slots_start d, (hp as Qp φ).2, ⟨fun W' H' σ' ρ' e le S' t' => q W' H' _ _ e .non t', fun W' H' v p e d' t' => q W' H' v p e d' t', fun _ _ _ _ _ _ _ z => z.elim, fun _ _ _ _ _ _ _ z => z.elim⟩⟩

/-! ### own things -/
section
variable {X : Cx} {Z : Par} {W W' W0 : Wd} {H0 H H' : Hp} {σ : L2.St} {ρ : List Slt} {a : Addr} {o : HO} {p : PV} {i : Nat}
theorem Holds.wr (h : Holds Z W H) (n : W.D a = none) (m : ¬ W.M a) : Holds Z W (upd H a o) where
  sub := fun b u e => by
    rw [upd_ne (ne_of_none e n)]
    exact h.sub b u e
  cel := fun b q => by
    obtain ⟨u, r, s⟩ := h.cel b q
    exact ⟨u, by rw [upd_ne (fun c => m (by rw [← c]; exact q))]; exact r, s⟩
  dis := h.dis
theorem Ext.wr (h : Ext Z W0 H0 W H) (n : W.D a = none) (m : ¬ W.M a) (h0 : H0 a = none) : Ext Z W0 H0 W (upd H a o) :=
  ⟨h.holds.wr n m, h.le, fun b u e d k => by rw [upd_ne (ne_of_none e h0)]; exact h.base b u e d k, h.fr, h.frM, fun b p u e => by rw [upd_ne (ne_of_none e h0)]; exact h.fz b p u e⟩
theorem Lt.wr {H1 : Hp} {W1 : Wd} (h : Lt W1 H1 W H) (nf : ∀ p u, H a ≠ some (.frz p u)) : Lt W1 H1 W (upd H a o) := ⟨h.le, fun b p u e => by
  have q := h.fz b p u e
  rw [upd_ne (fun c => by rw [c] at q; exact nf _ _ q)]
  exact q⟩
theorem OwnAt.ne {K : PySem.W.Frag} {b : Addr} {q : PV} (n : b ≠ a) (h : OwnAt K W H b q) : OwnAt K W (upd H a o) b q := h.mono (.refl W) fun u e => by rw [upd_ne n]; exact e
theorem Slots.wr (S : Slots Z W H0 H σ ρ) {q : PV} (e : ρ[i]? = some (.own q)) (ea : σ[i]? = some (some (.ref a))) (d : OwnAt Z.K W (upd H a o) a p) : Slots Z W H0 (upd H a o) σ (ρ.set i (.own p)) := by
  have hi : i < ρ.length := (List.getElem?_eq_some_iff.mp e).1
  refine ⟨by rw [List.length_set]; exact S.len, fun j r z => ?_, fun j r z => ?_, fun j k b r s n z1 z2 z3 z4 => ?_⟩
  · by_cases c : i = j
    · subst c; rw [List.getElem?_set_self hi] at z; cases z
    · rw [List.getElem?_set_ne c] at z; exact S.val j r z
  · by_cases c : i = j
    · subst c
      rw [List.getElem?_set_self hi] at z
      cases z
      obtain ⟨b, h1, h2, h3, h4, h5⟩ := S.own i q e
      rw [ea] at h1
      cases h1
      exact ⟨a, ea, d, h3, h4, h5⟩
    · rw [List.getElem?_set_ne c] at z
      obtain ⟨b, h1, h2, h3, h4, h5⟩ := S.own j r z
      exact ⟨b, h1, h2.ne fun c2 => S.dst i j a q r c e z ea (by rw [← c2]; exact h1), h3, h4, h5⟩
  · have at_ : ∀ (j : Nat) (r : PV), (ρ.set i (.own p))[j]? = some (.own r) → ∃ r', ρ[j]? = some (.own r') := fun j r z => by
      by_cases c : i = j
      · subst c; exact ⟨q, e⟩
      · rw [List.getElem?_set_ne c] at z; exact ⟨r, z⟩
    obtain ⟨r', y1⟩ := at_ j r z1
    obtain ⟨s', y2⟩ := at_ k s z2
    exact S.dst j k b r' s' n y1 y2 z3 z4
/-- an own thing is frozen -/
theorem Slots.frz (S : Slots Z W H0 H σ ρ) {q : PV} (e : ρ[i]? = some (.own q)) (ea : σ[i]? = some (some (.ref a))) (n : W.D a = none) (d : Dat Z.K (W.add a o) (.ref a) p) : Slots Z (W.add a o) H0 H σ (ρ.set i (.val p)) := by
  have hi : i < ρ.length := (List.getElem?_eq_some_iff.mp e).1
  have le := Wd.le_add (o := o) n
  refine ⟨by rw [List.length_set]; exact S.len, fun j r z => ?_, fun j r z => ?_, fun j k b r s n z1 z2 z3 z4 => ?_⟩
  · by_cases c : i = j
    · subst c
      rw [List.getElem?_set_self hi] at z
      cases z
      exact ⟨_, ea, d⟩
    · rw [List.getElem?_set_ne c] at z
      obtain ⟨v, h1, h2⟩ := S.val j r z
      exact ⟨v, h1, h2.mono le⟩
  · by_cases c : i = j
    · subst c; rw [List.getElem?_set_self hi] at z; cases z
    · rw [List.getElem?_set_ne c] at z
      obtain ⟨b, h1, h2, h3, h4, h5⟩ := S.own j r z
      have ne : b ≠ a := fun c2 => S.dst i j a q r c e z ea (by rw [← c2]; exact h1)
      exact ⟨b, h1, h2.mono le fun _ h => h, h3, by show upd W.D a o b = none; rw [upd_ne ne]; exact h4, h5⟩
  · by_cases c : i = j
    · subst c; rw [List.getElem?_set_self hi] at z1; cases z1
    · by_cases c2 : i = k
      · subst c2; rw [List.getElem?_set_self hi] at z2; cases z2
      · rw [List.getElem?_set_ne c] at z1
        rw [List.getElem?_set_ne c2] at z2
        exact S.dst j k b r s n z1 z2 z3 z4
theorem Ext.frz (h : Ext Z W0 H0 W H) (n : W.D a = none) (m : ¬ W.M a) (h0 : H0 a = none) (e : H a = some o) : Ext Z W0 H0 (W.add a o) H :=
  ⟨h.holds.freeze n m e, h.le.trans (Wd.le_add n), h.base, fun b u q => by
    by_cases c : b = a
    · subst c; exact .inr h0
    · have q' : upd W.D a o b = some u := q
      rw [upd_ne c] at q'
      exact h.fr b u q', h.frM, h.fz⟩
/-- what is frozen by the statement's reading, ahead of it -/
def pFrz (i : Nat) (t : PTS) : PTS := fun E ρ => match ρ[i]? with
  | some (.own p) => t E (ρ.set i (.val p))
  | _ => t E ρ
theorem own_frz (h0 : Holds Z W0 H0) (e : Ext Z W0 H0 W H) (S : Slots Z W H0 H σ ρ) {q : PV} (z : ρ[i]? = some (.own q)) : ∃ W1, W.le W1 ∧ Ext Z W0 H0 W1 H ∧ Slots Z W1 H0 H σ (ρ.set i (.val q)) := by
  obtain ⟨a, h1, h2, h3, h4, h5⟩ := S.own i q z
  cases q with
  | lst l =>
    obtain ⟨xs, ha, r⟩ := h2
    exact ⟨W.add a (.lst xs), Wd.le_add h4, e.frz h4 h5 h3 ha, S.frz z h1 h4 (.lst Wd.add_at (r.mono (Wd.le_add h4)))⟩
  | dic l =>
    obtain ⟨xs, ha, r⟩ := h2
    exact ⟨W.add a (.dK xs), Wd.le_add h4, e.frz h4 h5 h3 ha, S.frz z h1 h4 (.dic Wd.add_at (r.mono (Wd.le_add h4)))⟩
  | dct l =>
    obtain ⟨xs, ha, r⟩ := h2
    exact ⟨W.add a (.dT xs), Wd.le_add h4, e.frz h4 h5 h3 ha, S.frz z h1 h4 (.dct Wd.add_at (r.mono (Wd.le_add h4)))⟩
  | obj c l =>
    obtain ⟨dx, xs, ha, r⟩ := h2
    exact ⟨W.add a (.ins (He.ga Z.K c) dx xs), Wd.le_add h4, e.frz h4 h5 h3 ha, S.frz z h1 h4 (.obj Wd.add_at (r.mono (Wd.le_add h4)))⟩
  | _ => exact h2.elim
theorem qs_frz {st : Stmt} {t : PTS} (i : Nat) (h : PS X st (liftS Z t)) : PS X st (liftS Z (pFrz i t)) :=
  PSw h fun D σ H ⟨W0, H0, W, ρ, E, h0, e, S, t, D1⟩ => by
    unfold pFrz at t
    split at t
    · rename_i q z
      obtain ⟨W1, le, e1, S1⟩ := own_frz h0 e S z
      exact ⟨W0, H0, W1, _, E, h0, e1, S1, t, D1.up ⟨le, fun _ _ _ h => h⟩⟩
    · exact ⟨W0, H0, W, ρ, E, h0, e, S, t, D1⟩
/-- x = [] -/
def pNewL (i : Nat) : PTS := fun E ρ => E.nx (ρ.set i (.own (.lst [])))
theorem Slots.fresh_own (S : Slots Z W H0 H σ ρ) (n : H a = none) : ∀ (j : Nat) (q : PV), ρ[j]? = some (.own q) → σ[j]? ≠ some (some (.ref a)) := fun j q e z => by
  obtain ⟨b, h1, h2, _⟩ := S.own j q e
  rw [z] at h1
  cases h1
  obtain ⟨u, hu⟩ := h2.ob
  rw [n] at hu; cases hu
theorem new_own (h0 : Holds Z W0 H0) (e : Ext Z W0 H0 W H) (S : Slots Z W H0 H σ ρ) (i : Nat) (n : H a = none) (d : OwnAt Z.K W (upd H a o) a p) :
    Ext Z W0 H0 W (upd H a o) ∧ Slots Z W H0 (upd H a o) (σ.set i (some (.ref a))) (ρ.set i (.own p)) := by
  have x := Ext.put (o := o) e.holds n
  have ha := e.nonE h0 n
  refine ⟨e.trans h0 x, (S.ext x).setOwn i d ha (e.holds.new n) (e.holds.newM n) (S.fresh_own n)⟩
theorem qs_newL {i : Nat} {x : Str} {pos' pos pos2 : Pos} (hN : X.N.Nodup) (hi : X.N[i]? = some x := by rfl) (hx : Loc X.env.scope x := by first | exact .inl rfl | exact .inr rfl) (hs : swapsWith (.List [] pos2) (some (.Name x pos')) pos.line X.env = pure false := by rfl)
    (hf : X.fn x = true ∨ X.env.scope.names.lookup x = some .local := by first | exact .inl rfl | exact .inr rfl) :
    PS X (.Assign [.Name x pos'] (.List [] pos2) pos) (liftS Z (pNewL i)) :=
  PSw (ps_set hN hi hx (pe_lst pa_nil) hs hf) fun D σ H ⟨W0, H0, W, ρ, E, h0, e, S, t, D1⟩ =>
    ⟨Nat.zero_le _, fun p n => by
      obtain ⟨e1, S1⟩ := new_own (o := .lst []) (p := .lst []) h0 e S i n ⟨[], upd_same, .nil⟩
      exact D1.nx W _ _ _ e1 ⟨.refl W, fun b q v e => by rw [upd_ne (ne_of_none e n)]; exact e⟩ S1 t⟩
/-- x = [..] that will be changed -/
def pSetL (i : Nat) (ta : PTA) : PTS := fun E ρ => ta ρ fun ps => ps.length ≤ sizeLine ∧ E.nx (ρ.set i (.own (.lst ps)))
theorem qs_setL {i : Nat} {x : Str} {es : List Expr} {ta : PTA} {pos' pos pos2 : Pos} (hN : X.N.Nodup) (ha : PA X es (liftA Z ta)) (hi : X.N[i]? = some x := by rfl) (hx : Loc X.env.scope x := by first | exact .inl rfl | exact .inr rfl) (hs : swapsWith (.List es pos2) (some (.Name x pos')) pos.line X.env = pure false := by rfl)
    (hf : X.fn x = true ∨ X.env.scope.names.lookup x = some .local := by first | exact .inl rfl | exact .inr rfl) :
    PS X (.Assign [.Name x pos'] (.List es pos2) pos) (liftS Z (pSetL i ta)) :=
  PSw (ps_set hN hi hx (pe_lst ha) hs hf) fun D σ H ⟨W0, H0, W, ρ, E, h0, e, S, t, D1⟩ =>
    ⟨W, H0, ρ, _, e.holds, S, t, fun W1 H1 vs ps e1 d1 t1 => ⟨by rw [d1.length]; exact t1.1, fun p n => by
      obtain ⟨e2, S2⟩ := new_own (o := .lst vs) (p := .lst ps) h0 (e.trans h0 e1) (S.ext e1) i n ⟨vs, upd_same, d1⟩
      exact D1.nx W1 _ _ _ e2 ⟨e1.le, fun b q v e => by
        have z := e1.fz b q v e
        rw [upd_ne (ne_of_none z n)]
        exact z⟩ S2 t1.2⟩⟩
/-- x = {} -/
def pNewD (i : Nat) : PTS := fun E ρ => E.nx (ρ.set i (.own (.dic [])))
theorem qs_newD {i : Nat} {x : Str} {pos' pos pos2 : Pos} (hN : X.N.Nodup) (hi : X.N[i]? = some x := by rfl) (hx : Loc X.env.scope x := by first | exact .inl rfl | exact .inr rfl) (hs : swapsWith (.Dict [] [] pos2) (some (.Name x pos')) pos.line X.env = pure false := by rfl)
    (hf : X.fn x = true ∨ X.env.scope.names.lookup x = some .local := by first | exact .inl rfl | exact .inr rfl) :
    PS X (.Assign [.Name x pos'] (.Dict [] [] pos2) pos) (liftS Z (pNewD i)) :=
  PSw (ps_set hN hi hx pe_dnewK hs hf) fun D σ H ⟨W0, H0, W, ρ, E, h0, e, S, t, D1⟩ =>
    fun p n => by
      obtain ⟨e1, S1⟩ := new_own (o := .dK []) (p := .dic []) h0 e S i n ⟨[], upd_same, .nil⟩
      exact D1.nx W _ _ _ e1 ⟨.refl W, fun b q v e => by rw [upd_ne (ne_of_none e n)]; exact e⟩ S1 t
def pNewT (i : Nat) : PTS := fun E ρ => E.nx (ρ.set i (.own (.dct [])))
theorem qs_newT {i : Nat} {x : Str} {pos' pos pos2 : Pos} (hN : X.N.Nodup) (hi : X.N[i]? = some x := by rfl) (hx : Loc X.env.scope x := by first | exact .inl rfl | exact .inr rfl) (hs : swapsWith (.Dict [] [] pos2) (some (.Name x pos')) pos.line X.env = pure false := by rfl)
    (hf : X.fn x = true ∨ X.env.scope.names.lookup x = some .local := by first | exact .inl rfl | exact .inr rfl) :
    PS X (.Assign [.Name x pos'] (.Dict [] [] pos2) pos) (liftS Z (pNewT i)) :=
  PSw (ps_set hN hi hx pe_dnewT hs hf) fun D σ H ⟨W0, H0, W, ρ, E, h0, e, S, t, D1⟩ =>
    fun p n => by
      obtain ⟨e1, S1⟩ := new_own (o := .dT []) (p := .dct []) h0 e S i n ⟨[], upd_same, .nil⟩
      exact D1.nx W _ _ _ e1 ⟨.refl W, fun b q v e => by rw [upd_ne (ne_of_none e n)]; exact e⟩ S1 t
/-- x.append(e) -/
def pApp (i : Nat) (te : PTE) : PTS := fun E ρ => match ρ[i]? with
  | some (.own (.lst l)) => te ρ fun p => l.length < sizeLine ∧ E.nx (ρ.set i (.own (.lst (l ++ [p]))))
  | _ => False
theorem qs_append {i : Nat} {x : Str} {e : Expr} {te : PTE} {px apos pos pos2 : Pos} (he : PE X e (lift Z te)) (hi : X.N[i]? = some x := by rfl) (hv : Vis X.env.scope x := by first | exact .inl rfl | exact .inr (.inl rfl) | exact .inr (.inr rfl))
    (hd : (x == ("__debug__" : Str)) = false := by decide) (hcd : (x == ("__classdict__" : Str)) = false := by decide)
    (hbase : attributeBase (.Name x px) "append" X.env (eval (.Name x px) X.env) = eval (.Name x px) X.env := by rfl)
    (hfew : ((backTo pos (starEach [e] X.env)).all (fun x => !x.1) && (backToKw pos (keywordEach [] X.env)).all (fun x => x.1.isSome)
      && decide (([e] : List Expr).length + ([] : List Keyword).length + (if ([] : List Keyword).isEmpty then 0 else 1) < 30)) = true := by rfl)
    (hline : (apos.endLine == pos.line) = true := by rfl) (hs1 : starEach [e] X.env = (false, eval e X.env) :: starEach [] X.env := by rfl) (hplain : (backTo pos (starEach [] X.env)).any (·.1) = false := by rfl)
    (hs : swapsWith (.Call (.Attribute (.Name x px) "append" apos) [e] [] pos) none pos2.line X.env = pure false := by rfl) :
    PS X (.Expr (.Call (.Attribute (.Name x px) "append" apos) [e] [] pos) pos2) (liftS Z (pApp i te)) :=
  PSw (ps_expr (pe_bm PySem.F.plainAttrs_list PySem.F.slot_list_append PySem.F.type_list_append mt_append (pe_var hi hv hd hcd) (pa_cons he pa_nil hs1) hbase hfew hline hs1 hplain) hs) fun D σ H ⟨W0, H0, W, ρ, E, h0, e, S, t, D1⟩ => by
    unfold pApp at t
    split at t
    · rename_i l z
      obtain ⟨a, h1, ⟨xs, ha, r⟩, h3, h4, h5⟩ := S.own i _ z
      refine ⟨_, h1, .inl ⟨rfl, xs, .of ha⟩, W, H0, ρ, _, e.holds, S, t, fun W1 H1 v p e1 d1 t1 => ?_⟩
      obtain ⟨b, g1, ⟨ys, hb, r1⟩, g3, g4, g5⟩ := (S.ext e1).own i _ z
      rw [h1] at g1
      cases g1
      refine ⟨a, ys, v, rfl, rfl, hb, by rw [r1.length]; exact t1.1, ?_⟩
      have E1 := e.trans h0 e1
      exact D1.nx W1 _ _ _ (E1.wr g4 g5 g3) (e1.lt.wr fun p u z => by rw [hb] at z; cases z) ((S.ext e1).wr (p := .lst (l ++ [p])) z h1 ⟨_, upd_same, r1.append (.one d1)⟩) t1.2
    · exact t.elim
/-- x.extend(e) -/
def pExt (i : Nat) (te : PTE) : PTS := fun E ρ => match ρ[i]? with
  | some (.own (.lst l)) => te ρ fun p => match p with
    | .lst m => l.length + m.length ≤ sizeLine ∧ E.nx (ρ.set i (.own (.lst (l ++ m))))
    | _ => False
  | _ => False
theorem qs_extend {i : Nat} {x : Str} {e : Expr} {te : PTE} {px apos pos pos2 : Pos} (he : PE X e (lift Z te)) (hi : X.N[i]? = some x := by rfl) (hv : Vis X.env.scope x := by first | exact .inl rfl | exact .inr (.inl rfl) | exact .inr (.inr rfl))
    (hd : (x == ("__debug__" : Str)) = false := by decide) (hcd : (x == ("__classdict__" : Str)) = false := by decide)
    (hbase : attributeBase (.Name x px) "extend" X.env (eval (.Name x px) X.env) = eval (.Name x px) X.env := by rfl)
    (hfew : ((backTo pos (starEach [e] X.env)).all (fun x => !x.1) && (backToKw pos (keywordEach [] X.env)).all (fun x => x.1.isSome)
      && decide (([e] : List Expr).length + ([] : List Keyword).length + (if ([] : List Keyword).isEmpty then 0 else 1) < 30)) = true := by rfl)
    (hline : (apos.endLine == pos.line) = true := by rfl) (hs1 : starEach [e] X.env = (false, eval e X.env) :: starEach [] X.env := by rfl) (hplain : (backTo pos (starEach [] X.env)).any (·.1) = false := by rfl)
    (hs : swapsWith (.Call (.Attribute (.Name x px) "extend" apos) [e] [] pos) none pos2.line X.env = pure false := by rfl) :
    PS X (.Expr (.Call (.Attribute (.Name x px) "extend" apos) [e] [] pos) pos2) (liftS Z (pExt i te)) :=
  PSw (ps_expr (pe_bm PySem.F.plainAttrs_list PySem.F.slot_list_extend PySem.F.type_list_extend mt_extend (pe_var hi hv hd hcd) (pa_cons he pa_nil hs1) hbase hfew hline hs1 hplain) hs) fun D σ H ⟨W0, H0, W, ρ, E, h0, e, S, t, D1⟩ => by
    unfold pExt at t
    split at t
    · rename_i l z
      obtain ⟨a, h1, ⟨xs, ha, r⟩, h3, h4, h5⟩ := S.own i _ z
      refine ⟨_, h1, .inl ⟨rfl, xs, .of ha⟩, W, H0, ρ, _, e.holds, S, t, fun W1 H1 v p e1 d1 t1 => ?_⟩
      obtain ⟨b, g1, ⟨ys, hb, r1⟩, g3, g4, g5⟩ := (S.ext e1).own i _ z
      rw [h1] at g1
      cases g1
      cases d1 with
      | lst hz rz =>
        refine ⟨a, _, ys, _, rfl, rfl, hb, e1.holds.ex hz (fun z => z), by rw [r1.length, rz.length]; exact t1.1, ?_⟩
        have E1 := e.trans h0 e1
        exact D1.nx W1 _ _ _ (E1.wr g4 g5 g3) (e1.lt.wr fun p u z => by rw [hb] at z; cases z) ((S.ext e1).wr (p := .lst (l ++ _)) z h1 ⟨_, upd_same, r1.append rz⟩) t1.2
      | _ => exact t1.elim
    · exact t.elim
/-! ### tables -/
def putA {κ α : Type} [DecidableEq κ] (kvs : List (κ × α)) (k : κ) (v : α) : List (κ × α) :=
  if (kvs.any fun kv => decide (kv.1 = k)) = true then kvs.map (fun kv => if kv.1 = k then (kv.1, v) else kv) else kvs ++ [(k, v)]
def valA {κ α : Type} [DecidableEq κ] (kvs : List (κ × α)) (k : κ) : Option α := (kvs.find? fun kv => decide (kv.1 = k)).map (·.2)
theorem valA_nil {κ α : Type} [DecidableEq κ] {k : κ} : valA ([] : List (κ × α)) k = none := rfl
theorem valA_cons {κ α : Type} [DecidableEq κ] {p : κ × α} {r : List (κ × α)} {k : κ} : valA (p :: r) k = if p.1 = k then some p.2 else valA r k := by
  by_cases e : p.1 = k
  · simp [valA, List.find?_cons, e]
  · simp [valA, List.find?_cons, e]
theorem DatK.any {K : PySem.W.Frag} {W : Wd} {k : Key} : ∀ {vs : List (Key × V)} {ps : List (Key × PV)}, DatK K W vs ps → (vs.any fun kv => decide (kv.1 = k)) = (ps.any fun kv => decide (kv.1 = k))
  | _, _, .nil => rfl
  | _, _, .cons h t => by simp only [List.any_cons]; rw [DatK.any t]
theorem DatK.mapIf {K : PySem.W.Frag} {W : Wd} {k : Key} {v : V} {p : PV} (d : Dat K W v p) : ∀ {vs : List (Key × V)} {ps : List (Key × PV)}, DatK K W vs ps → DatK K W (vs.map fun kv => if kv.1 = k then (kv.1, v) else kv) (ps.map fun kv => if kv.1 = k then (kv.1, p) else kv)
  | _, _, .nil => .nil
  | _, _, .cons (k := k') h t => by
    simp only [List.map_cons]
    by_cases c : k' = k
    · rw [if_pos c, if_pos c]; exact .cons d (DatK.mapIf d t)
    · rw [if_neg c, if_neg c]; exact .cons h (DatK.mapIf d t)
theorem DatK.append {K : PySem.W.Frag} {W : Wd} : ∀ {vs vs' : List (Key × V)} {ps ps' : List (Key × PV)}, DatK K W vs ps → DatK K W vs' ps' → DatK K W (vs ++ vs') (ps ++ ps')
  | _, _, _, _, .nil, s => s
  | _, _, _, _, .cons h t, s => .cons h (DatK.append t s)
theorem DatK.put {K : PySem.W.Frag} {W : Wd} {k : Key} {v : V} {p : PV} {vs : List (Key × V)} {ps : List (Key × PV)} (r : DatK K W vs ps) (d : Dat K W v p) : DatK K W (putK vs k v) (putA ps k p) := by
  unfold putK putA
  rw [r.any]
  by_cases c : (ps.any fun kv => decide (kv.1 = k)) = true
  · rw [if_pos c, if_pos c]; exact r.mapIf d
  · rw [if_neg c, if_neg c]; exact r.append (.cons d .nil)
theorem DatK.val {K : PySem.W.Frag} {W : Wd} {k : Key} : ∀ {vs : List (Key × V)} {ps : List (Key × PV)}, DatK K W vs ps → (valV vs k = none ∧ valA ps k = none) ∨ ∃ v p, valV vs k = some v ∧ valA ps k = some p ∧ Dat K W v p
  | _, _, .nil => .inl ⟨rfl, rfl⟩
  | _, _, .cons (k := k') (v := v) (p := p) h t => by
    by_cases c : k' = k
    · exact .inr ⟨v, p, valV_pos c, by rw [valA_cons, if_pos c], h⟩
    · rw [valV_neg c, valA_cons, if_neg c]
      exact DatK.val t
theorem DatT.any {K : PySem.W.Frag} {W : Wd} {k : List Key} : ∀ {vs : List (List Key × V)} {ps : List (List Key × PV)}, DatT K W vs ps → (vs.any fun kv => decide (kv.1 = k)) = (ps.any fun kv => decide (kv.1 = k))
  | _, _, .nil => rfl
  | _, _, .cons h t => by simp only [List.any_cons]; rw [DatT.any t]
theorem DatT.mapIf {K : PySem.W.Frag} {W : Wd} {k : List Key} {v : V} {p : PV} (d : Dat K W v p) : ∀ {vs : List (List Key × V)} {ps : List (List Key × PV)}, DatT K W vs ps → DatT K W (vs.map fun kv => if kv.1 = k then (kv.1, v) else kv) (ps.map fun kv => if kv.1 = k then (kv.1, p) else kv)
  | _, _, .nil => .nil
  | _, _, .cons (k := k') h t => by
    simp only [List.map_cons]
    by_cases c : k' = k
    · rw [if_pos c, if_pos c]; exact .cons d (DatT.mapIf d t)
    · rw [if_neg c, if_neg c]; exact .cons h (DatT.mapIf d t)
theorem DatT.append {K : PySem.W.Frag} {W : Wd} : ∀ {vs vs' : List (List Key × V)} {ps ps' : List (List Key × PV)}, DatT K W vs ps → DatT K W vs' ps' → DatT K W (vs ++ vs') (ps ++ ps')
  | _, _, _, _, .nil, s => s
  | _, _, _, _, .cons h t, s => .cons h (DatT.append t s)
theorem DatT.put {K : PySem.W.Frag} {W : Wd} {k : List Key} {v : V} {p : PV} {vs : List (List Key × V)} {ps : List (List Key × PV)} (r : DatT K W vs ps) (d : Dat K W v p) : DatT K W (putK vs k v) (putA ps k p) := by
  unfold putK putA
  rw [r.any]
  by_cases c : (ps.any fun kv => decide (kv.1 = k)) = true
  · rw [if_pos c, if_pos c]; exact r.mapIf d
  · rw [if_neg c, if_neg c]; exact r.append (.cons d .nil)
theorem DatT.length {K : PySem.W.Frag} {W : Wd} : ∀ {vs : List (List Key × V)} {ps : List (List Key × PV)}, DatT K W vs ps → vs.length = ps.length
  | _, _, .nil => rfl
  | _, _, .cons _ t => congrArg (· + 1) (DatT.length t)
/-- a key as a value -/
def keyP : PV → Option Key
  | .int i => some (.inl i)
  | .str x => some (.inr x)
  | _ => none
def keysP : List PV → Option (List Key)
  | [] => some []
  | p :: r => match keyP p, keysP r with
    | some k, some ks => some (k :: ks)
    | _, _ => none
theorem Dat.key {K : PySem.W.Frag} {W : Wd} {v : V} {p : PV} {k : Key} (d : Dat K W v p) (e : keyP p = some k) : v = kV k := by
  cases d with
  | int i => cases e; rfl
  | str x => cases e; rfl
  | _ => cases e
theorem DatL.keys {K : PySem.W.Frag} {W : Wd} : ∀ {vs : List V} {ps : List PV} {ks : List Key}, DatL K W vs ps → keysP ps = some ks → vs = ks.map kV
  | _, _, _, .nil, e => by cases e; rfl
  | _, p :: r, ks, .cons h t, e => by
    unfold keysP at e
    split at e
    · rename_i k ks' e1 e2
      cases e
      rw [List.map_cons, h.key e1, t.keys e2]
    · cases e
/-- d[k] = e -/
def pDPut (i : Nat) (tk tv : PTE) : PTS := fun E ρ => match ρ[i]? with
  | some (.own (.dic l)) => tv ρ fun p => tk ρ fun q => match keyP q with
    | some k => l.length < sizeLine ∧ E.nx (ρ.set i (.own (.dic (putA l k p))))
    | none => False
  | some (.own (.dct l)) => tv ρ fun p => tk ρ fun q => match q with
    | .tup ks => (match keysP ks with
      | some k => l.length < sizeLine ∧ E.nx (ρ.set i (.own (.dct (putA l k p))))
      | none => False)
    | _ => False
  | _ => False
theorem qs_dput {i : Nat} {x : Str} {ek e : Expr} {tk tv : PTE} {px pos' pos : Pos} {j : Nat} (hr : Room j X.A) (hk : PE X ek (lift Z tk)) (he : PE X e (lift Z tv)) (hi : X.N[i]? = some x := by rfl) (hv : Vis X.env.scope x := by first | exact .inl rfl | exact .inr (.inl rfl) | exact .inr (.inr rfl))
    (hd : (x == ("__debug__" : Str)) = false := by decide) (hcd : (x == ("__classdict__" : Str)) = false := by decide) (hs : swapsWith e (some (.Subscript (.Name x px) ek pos')) pos.line X.env = pure false := by rfl) :
    PS X (.Assign [.Subscript (.Name x px) ek pos'] e pos) (liftS Z (pDPut i tk tv)) := by
  have hu : X.A.units + 1 < cLine := by have := hr.units; omega
  refine PSw (ps_dput hu (pe_var hi hv hd hcd) hk he hs) fun D σ H ⟨W0, H0, W, ρ, E, h0, e, S, t, D1⟩ => ?_
  unfold pDPut at t
  split at t
  · rename_i l z
    refine ⟨W, H0, ρ, _, e.holds, S, t, fun W1 H1 v p e1 d1 t1 => ?_⟩
    obtain ⟨a, h1, h2, h3, h4, h5⟩ := (S.ext e1).own i _ z
    refine ⟨_, h1, W1, H0, ρ, _, e1.holds, S.ext e1, t1, fun W2 H2 u q e2 d2 t2 => ?_⟩
    obtain ⟨b, g1, ⟨xs, hx, r⟩, g3, g4, g5⟩ := ((S.ext e1).ext e2).own i _ z
    rw [h1] at g1
    cases g1
    have E2 := (e.trans h0 e1).trans h0 e2
    split at t2
    · rename_i k ek
      refine ⟨a, _, rfl, by rw [d2.key ek]; exact .k hx (by rw [r.length]; exact t2.1), ?_⟩
      exact D1.nx W2 _ _ _ (E2.wr g4 g5 g3) ((e1.lt.trans e2.lt).wr fun p u z => by rw [hx] at z; cases z) (((S.ext e1).ext e2).wr (p := .dic (putA l k p)) z h1 ⟨_, upd_same, r.put (d1.mono e2.le)⟩) t2.2
    · exact t2.elim
  · rename_i l z
    refine ⟨W, H0, ρ, _, e.holds, S, t, fun W1 H1 v p e1 d1 t1 => ?_⟩
    obtain ⟨a, h1, h2, h3, h4, h5⟩ := (S.ext e1).own i _ z
    refine ⟨_, h1, W1, H0, ρ, _, e1.holds, S.ext e1, t1, fun W2 H2 u q e2 d2 t2 => ?_⟩
    obtain ⟨b, g1, ⟨xs, hx, r⟩, g3, g4, g5⟩ := ((S.ext e1).ext e2).own i _ z
    rw [h1] at g1
    cases g1
    have E2 := (e.trans h0 e1).trans h0 e2
    cases d2 with
    | tup hb rb =>
      dsimp only at t2
      split at t2
      · rename_i k ek
        have hb' := e2.holds.ex hb (fun z => z)
        rw [rb.keys ek] at hb'
        refine ⟨a, _, rfl, .t hx hb' (by rw [r.length]; exact t2.1), ?_⟩
        exact D1.nx W2 _ _ _ (E2.wr g4 g5 g3) ((e1.lt.trans e2.lt).wr fun p u z => by rw [hx] at z; cases z) (((S.ext e1).ext e2).wr (p := .dct (putA l k p)) z h1 ⟨_, upd_same, r.put (d1.mono e2.le)⟩) t2.2
      · exact t2.elim
    | _ => exact t2.elim
  · exact t.elim

/-! ### comprehensions -/
def wipeP (ρ : List Slt) : List Nat → List Slt
  | [] => ρ
  | v :: vs => (wipeP ρ vs).set v .no
theorem Slots.wipe {Z : Par} {W : Wd} {H0 H : Hp} {σ : L2.St} {ρ : List Slt} (S : Slots Z W H0 H σ ρ) : ∀ vs : List Nat, Slots Z W H0 H (L2.wipe σ vs) (wipeP ρ vs)
  | [] => S
  | v :: vs => (Slots.wipe S vs).setNo v
theorem wipe_only {ws vs : List Nat} {σ σ' : L2.St} (o : Only1 ws σ σ') (hs : ∀ i ∈ ws, i ∈ vs) : L2.wipe σ' vs = L2.wipe σ vs := by
  have at_ : ∀ (vs : List Nat) (σ : L2.St) (i : Nat), (L2.wipe σ vs)[i]? = if i < σ.length then (if i ∈ vs then some none else σ[i]?) else none := by
    intro vs
    induction vs with
    | nil =>
      intro σ i
      show σ[i]? = _
      by_cases h : i < σ.length
      · rw [if_pos h, if_neg (by simp)]
      · rw [if_neg h, List.getElem?_eq_none (by omega)]
    | cons v vs ih =>
      intro σ i
      show ((L2.wipe σ vs).set v none)[i]? = _
      by_cases c : v = i
      · subst c
        by_cases h : v < σ.length
        · rw [List.getElem?_set_self (by rw [wipe_length]; exact h), if_pos h, if_pos (by simp)]
        · rw [List.getElem?_eq_none (by rw [List.length_set, wipe_length]; omega), if_neg h]
      · rw [List.getElem?_set_ne c, ih]
        have m : i ∈ v :: vs ↔ i ∈ vs := by simp [Ne.symm c]
        simp only [m]
  apply List.ext_getElem?
  intro i
  rw [at_, at_, o.1]
  by_cases h : i < σ.length
  · rw [if_pos h, if_pos h]
    by_cases c : i ∈ vs
    · rw [if_pos c, if_pos c]
    · rw [if_neg c, if_neg c]
      exact o.2 i fun z => c (hs i z)
  · rw [if_neg h, if_neg h]
def pTsYes : PTT := fun _ Q => Q true
def pLcL (g : PTG) (tt : PTT) (te : PTE) (ρ : List Slt) (Q : List PV → Prop) : List PV → List PV → Prop
  | [], acc => Q acc
  | p :: ps, acc => g p ρ fun ρ1 => tt ρ1 fun b => match b with
    | true => te ρ1 fun r => acc.length < sizeLine ∧ pLcL g tt te ρ Q ps (acc ++ [r])
    | false => pLcL g tt te ρ Q ps acc
def pLc (ti : PTI) (g : PTG) (tt : PTT) (te : PTE) (vs : List Nat) : PTE := fun ρ Q => ti ρ fun l => pLcL g tt te (wipeP ρ vs) (fun acc => Q (.lst acc)) l []
theorem lc_of {ti : PTI} {ws vs : List Nat} {g : PTG} {tt : PTT} {te : PTE} (hs : ∀ i ∈ ws, i ∈ vs) (σ : L2.St) (H : Hp) (Q : VK) (h : lift Z (pLc ti g tt te vs) σ H Q) : tLc (liftI Z ti) (liftG Z ws g) (liftT Z tt) (lift Z te) vs σ H Q := by
  obtain ⟨W, H0, ρ, Qp, hh, S, t, q⟩ := h
  refine ⟨W, H0, ρ, _, hh, S, t, fun W1 H1 J l e1 sv t1 => fun D nD => ?_⟩
  have S1 := (S.ext e1).wipe vs
  have ePut := Ext.put (o := .lst []) e1.holds nD
  refine ⟨fun i m H' => m = l.length - i ∧ i ≤ l.length ∧ ∃ W' va acc, Ext Z W1 H1 W' H' ∧ H' D = some (.lst va) ∧ W'.D D = none ∧ ¬ W'.M D ∧ DatL Z.K W' va acc ∧ pLcL g tt te (wipeP ρ vs) (fun acc => Qp (.lst acc)) (l.drop i) acc,
    ⟨l.length, rfl, Nat.zero_le _, W1, [], [], ePut, upd_same, e1.holds.new nD, e1.holds.newM nD, .nil, t1⟩, ?_⟩
  rintro i m H' ⟨rfl, hi, W', va, acc, e', hD, nW, nM, da, t'⟩
  have sv' := sv W' H' e'.lt e'.holds
  by_cases hlt : i < l.length
  · have g1 := sv'.2 i l[i] (by simp [hlt])
    rw [drop_cons hlt] at t'
    refine .inr ⟨g1.1, fun H2 => i < l.length ∧ ∃ W2 va acc, Ext Z W1 H1 W2 H2 ∧ H2 D = some (.lst va) ∧ W2.D D = none ∧ ¬ W2.M D ∧ DatL Z.K W2 va acc ∧ pLcL g tt te (wipeP ρ vs) (fun acc => Qp (.lst acc)) (l.drop (i + 1)) acc, ?_, fun x H2 y => ?_⟩
    · rintro H2 ⟨_, r⟩
      exact ⟨l.length - (i + 1), by omega, rfl, hlt, r⟩
    · obtain ⟨W2, e2, d2⟩ := g1.2 x H2 y
      have keepD : ∀ {W3 : Wd} {H3 : Hp}, Ext Z W' H' W3 H3 → H3 D = some (.lst va) ∧ W3.D D = none ∧ ¬ W3.M D := fun {W3 H3} e3 => by
        refine ⟨e3.base D _ hD nW nM, ?_, fun z => ?_⟩
        · cases r : W3.D D with
          | none => rfl
          | some u =>
            rcases e3.fr D u r with z | z
            · rw [nW] at z; cases z
            · rw [hD] at z; cases z
        · rcases e3.frM D z with z | z
          · exact nM z
          · rw [hD] at z; cases z
      have S2 := (S1.ext e').ext e2
      refine ⟨W2, H0, wipeP ρ vs, l[i], _, e2.holds, S2, d2, t', fun σ3 ρ3 o3 S3 t3 => ⟨?_, ?_⟩⟩
      · rw [wipe_only o3 hs]
        exact wipe_only (ws := vs) (by
          constructor
          · exact wipe_length σ vs
          · intro i n
            exact wipe_out n) (fun _ h => h)
      · refine ⟨W2, H0, ρ3, _, e2.holds, S3, t3, fun W4 H4 b e4 t4 => ?_⟩
        have E4 := e2.trans e'.holds e4
        cases b with
        | false =>
          obtain ⟨k1, k2, k3⟩ := keepD E4
          exact (if_neg (by decide)).mpr ⟨hlt, W4, va, acc, e'.trans e1.holds E4, k1, k2, k3, da.mono E4.le, t4⟩
        | true =>
          refine (if_pos rfl).mpr ⟨W4, H0, ρ3, _, e4.holds, S3.ext e4, t4, fun W5 H5 v p e5 d5 t5 => ?_⟩
          have E5 := E4.trans e'.holds e5
          obtain ⟨k1, k2, k3⟩ := keepD E5
          refine ⟨va, k1, by rw [da.length]; exact t5.1, hlt, W5, va ++ [v], acc ++ [p], ?_, upd_same, k2, k3, (da.mono E5.le).append (.one d5), t5.2⟩
          exact (e'.trans e1.holds E5).wr k2 k3 nD
  · have ei : i = l.length := by omega
    subst ei
    rw [List.drop_length] at t'
    refine .inl ⟨sv'.1 _ (Nat.le_refl _), ?_⟩
    have e3 : Ext Z W1 H1 (W'.add D (.lst va)) H' := e'.frz nW nM nD hD
    exact q _ _ _ _ (e1.trans hh e3) (.lst Wd.add_at (da.mono (Wd.le_add nW))) t'
structure PTsP (Z : Par) (X : Cx) (ifs : List Expr) (t : PTT) : Prop where
  h : PTs X ifs (liftT Z t)
theorem qts_nil {X : Cx} : PTs X [] (liftT Z pTsYes) := ⟨fun pins s σ H Q I ⟨W, H0, ρ, Qp, hh, S, t, q⟩ => pts_nil.run pins s σ H Q I (q W H true (.refl hh) t)⟩
theorem qts_one {X : Cx} {c : Expr} {t : PTT} (h : PT X c (liftT Z t)) : PTs X [c] (liftT Z t) := pts_one h
theorem q_lc {elt tg iter : Expr} {ifs : List Expr} {scope : Scope} {own : List (Str × Nat)} {ws : List Nat} {pos : Pos} {ti : PTI} {g : PTG} {tt : PTT} {te : PTE} (hN : X.N.Nodup) (hi : PI X tg iter (liftI Z ti)) (ok : BlkOk X.N X.env.scope scope own)
    (hg : ∀ (s : Shared) (H : Hp) (C : Addr) (cl : List (Str × Addr)) (fp : List Addr), PG (X.blk s H scope (compEnvC scope cl C X.env) fp) tg (liftG Z ws g)) (ht : ∀ (s : Shared) (H : Hp) (C : Addr) (cl : List (Str × Addr)) (fp : List Addr), PTs (X.blk s H scope (compEnvC scope cl C X.env) fp) ifs (liftT Z tt))
    (he : ∀ (s : Shared) (H : Hp) (C : Addr) (cl : List (Str × Addr)) (fp : List Addr), PE (X.blk s H scope (compEnvC scope cl C X.env) fp) elt (lift Z te)) (hws : ∀ i ∈ ws, i ∈ own.map (·.2) := by decide) (hc : X.calm = true := by rfl) (hs : ∀ x, foldedSetIterable iter X.env x = pure x := by intro _; rfl) :
    PE X (.ListComp elt [⟨tg, iter, ifs, 0⟩] scope pos) (lift Z (pLc ti g tt te (own.map (·.2)))) :=
  PEw (pe_lc hc hN hi ok hg ht he hs) fun σ H Q => lc_of hws σ H Q
theorem qs_setLc {i : Nat} {y : Str} {py : Pos} {elt tg iter : Expr} {ifs : List Expr} {scope : Scope} {own : List (Str × Nat)} {ws : List Nat} {pos spos : Pos} {ti : PTI} {g : PTG} {tt : PTT} {te : PTE} (hN : X.N.Nodup)
    (hsw : swapsWith (.ListComp elt [⟨tg, iter, ifs, 0⟩] scope pos) (some (.Name y py)) spos.line X.env = pure true) (hi : PI X tg iter (liftI Z ti)) (ok : BlkOk X.N X.env.scope scope own)
    (hg : ∀ (s : Shared) (H : Hp) (C : Addr) (cl : List (Str × Addr)) (fp : List Addr), PG (X.blk s H scope (compEnvC scope cl C X.env) fp) tg (liftG Z ws g)) (ht : ∀ (s : Shared) (H : Hp) (C : Addr) (cl : List (Str × Addr)) (fp : List Addr), PTs (X.blk s H scope (compEnvC scope cl C X.env) fp) ifs (liftT Z tt))
    (he : ∀ (s : Shared) (H : Hp) (C : Addr) (cl : List (Str × Addr)) (fp : List Addr), PE (X.blk s H scope (compEnvC scope cl C X.env) fp) elt (lift Z te)) (hws : ∀ i ∈ ws, i ∈ own.map (·.2) := by decide) (hc : X.calm = true := by rfl) (hy : X.N[i]? = some y := by rfl) (hyl : X.env.scope.names.lookup y = some .local := by rfl) (hs : ∀ x, foldedSetIterable iter X.env x = pure x := by intro _; rfl) :
    PS X (.Assign [.Name y py] (.ListComp elt [⟨tg, iter, ifs, 0⟩] scope pos) spos) (liftS Z (pAsg (pLc ti g tt te (own.map (·.2))) (gNm i))) :=
  PSw (ps_setLc hc hN hy hyl hsw hi ok hg ht he hs) fun D σ H h => by
    obtain ⟨W0, H0, W, ρ, E, h0, e, S, t, D1⟩ := h
    exact lc_of hws σ H _ ⟨W, H0, ρ, _, e.holds, S, t, fun W1 H1 v p e1 d1 t1 => D1.nx W1 H1 _ _ (e.trans h0 e1) e1.lt ((S.ext e1).setVal i d1) t1⟩
end
end L3

/-! ## L3S -/
/-! Set comprehensions, whatever the element's kind (the rule of "add" is handed in), and sorted(a set of ints) of any size. -/
namespace L3
open PySem PySem.Spec PyProof.Rows L2

section
variable {X : Cx}
/-- what adding asks: D the set -/
abbrev AddR := Addr → V → Hp → (Hp → Prop) → Prop
def AddOk (P : Program) (w : World) (r : AddR) : Prop := ∀ (Y : Cx), Y.prog = P → Y.w = w → ∀ (pins : List (Addr × Obj)) (s : Shared) (σ : L2.St) (H : Hp) (D : Addr) (y : V) (u : Value) (Nx : Hp → Prop) (E : Value → Shared → Prop),
  Inv Y pins σ H s → RelV y u → r D y H Nx → wpAny (model P w) Y.A (call (.builtin "set.add") [.ref D, u]) (fun _ s' => ∃ H', Inv Y pins σ H' s' ∧ Nx H') E s
def tScG (mk : Addr → HO) (r : AddR) (wi : TI) (g : TG) (tt : TT) (te : TE) (vs : List Nat) : TE := fun σ H Q => wi σ H fun J H1 => ∀ D, H1 D = none → ∃ W : Nat → Nat → Hp → Prop, (∃ m, W 0 m (upd H1 D (mk D))) ∧ ∀ i m H, W i m H →
  (J.stop i H ∧ Q (.ref D) H) ∨ (J.go i H ∧ ∃ Nx : Hp → Prop, (∀ H', Nx H' → ∃ m', m' < m ∧ W (i + 1) m' H') ∧ ∀ x H', J.yld i H x H' → g x (L2.wipe σ vs) H' fun σ2 H2 => L2.wipe σ2 vs = L2.wipe σ vs ∧ tt σ2 H2 fun b H3 =>
    if b = true then te σ2 H3 fun y H4 => r D y H4 Nx else Nx H3)
abbrev emptySet (w : World) : Obj := { cls := .type "set", dict := none, data := .set #[] 0 (.fresh 0 0 (!w.params.followText "set-order")) }
theorem scG_core {mk : Addr → HO} {r : AddR} {pins : List (Addr × Obj)} {s : Shared} {σ : L2.St} {H : Hp} {Q : VK} {elt tg iter : Expr} {ifs : List Expr} {scope : Scope} {own : List (PySem.Str × Nat)} {pos pos' : Pos} {wi : TI} {g : TG} {tt : TT} {te : TE} {use : Option (Value → Sem Unit)} {Qf : Value → Shared → Prop}
    (hmk : ∀ (H' : Hp) (h : Heap), ObjOk X.prog X.w H' (h.push (emptySet X.w)) h.objs.size (mk h.objs.size)) (hadd : AddOk X.prog X.w r)
    (hc : X.calm = true) (hN : X.N.Nodup) (I : Inv X pins σ H s) (hi : PI X tg iter wi) (ok : BlkOk X.N X.env.scope scope own)
    (hg : ∀ (s : Shared) (H : Hp) (C : Addr) (cl : List (PySem.Str × Addr)) (fp : List Addr), PG (X.blk s H scope (compEnvC scope cl C X.env) fp) tg g)
    (ht : ∀ (s : Shared) (H : Hp) (C : Addr) (cl : List (PySem.Str × Addr)) (fp : List Addr), PTs (X.blk s H scope (compEnvC scope cl C X.env) fp) ifs tt)
    (he : ∀ (s : Shared) (H : Hp) (C : Addr) (cl : List (PySem.Str × Addr)) (fp : List Addr), PE (X.blk s H scope (compEnvC scope cl C X.env) fp) elt te) (hs : ∀ x, foldedSetIterable iter X.env x = pure x)
    (h : tScG mk r wi g tt te (own.map (·.2)) σ H Q)
    (hEnd : ∀ D C s' m H', Inv X pins σ H' s' → Q (.ref D) H' → s'.heap.Ns C m → FpOk X pins H' C → compPost (model X.prog X.w) X.A X.xe use Qf (.ref D) C (.ok .next) s') :
    wpAny (model X.prog X.w) X.A (comprehension (.SetComp elt [⟨tg, iter, ifs, 0⟩] scope pos) scope X.env pos' (newSet (.type "set")) false (eval iter X.env) use) Qf X.xe s := by
  have cellAt : ∀ y ∈ scope.names, y.2 = .free → ∃ c, X.env.cells.lookup y.1 = some c := fun y hy e => (ok.free y hy e).elim (fun k => I.ok.has _ (.inl k)) fun k => I.ok.has _ (.inr k)
  refine wpAny_comprehension_free (use := use) rfl hs (closure_ok cellAt) ok.kind (fun y hy e => by rw [ok.uniq y hy, e]) (thn (hi.run pins s σ H _ I h) fun xv a1 hx => thn hx fun itv a2 k2 => ?_)
  obtain ⟨it, fp, tn, J, H2, e, I2, T, at2, f2, q⟩ := k2
  subst e
  refine PpSet.newSet_ok (newEnv_comp ?_)
  -- the new set stands at D
  generalize hD : a2.heap.objs.size = D
  have nD : H2 D = none := I2.hok.fresh (Nat.le_of_eq hD)
  obtain ⟨W, ⟨m0, w0⟩, turn⟩ := q D nD
  generalize hs3 : ({ a2 with heap := a2.heap.push (emptySet X.w) } : Shared) = a3
  have I3 : Inv X pins σ (upd H2 D (mk D)) a3 := by
    rw [← hs3]
    exact I2.laid (t' := a2.toks) (fun b o e => Heap.get?_push_of_some _ e) (Nat.le_of_eq hD) (by rw [← hD]; exact hmk _ _)
  have h3 : a3.heap = a2.heap.push (emptySet X.w) := by rw [← hs3]
  have szf : ∀ b ∈ fp, b < a2.heap.objs.size := fun b hb => (T.obj _ _ at2 b hb).elim fun o z => Heap.lt_size z.1
  have f3 : ∀ b ∈ fp, FpOk X pins (upd H2 D (mk D)) b ∧ b < a3.heap.objs.size := fun b hb => by
    have lt := szf b hb
    exact ⟨⟨by rw [upd_ne (by rw [← hD]; exact Nat.ne_of_lt lt)]; exact (f2 b hb).1, (f2 b hb).2⟩, by rw [h3, Heap.size_push]; exact Nat.lt_succ_of_lt lt⟩
  have at3 : tn 0 a3.heap := T.keep _ _ _ at2 fun b _ o e => by rw [h3]; exact Heap.get?_push_of_some _ e
  have I4 := block_start I3 ok hN f3
  have pg := hg a3 (upd H2 D (mk D)) a3.heap.objs.size (cellsFrom (a3.heap.objs.size + 1) scope.names (cloFrom X.env.cells scope.names [])) fp
  have pt := ht a3 (upd H2 D (mk D)) a3.heap.objs.size (cellsFrom (a3.heap.objs.size + 1) scope.names (cloFrom X.env.cells scope.names [])) fp
  have pe := he a3 (upd H2 D (mk D)) a3.heap.objs.size (cellsFrom (a3.heap.objs.size + 1) scope.names (cloFrom X.env.cells scope.names [])) fp
  show codeAny _ _ (.compStart (.SetComp elt [⟨tg, iter, ifs, 0⟩] scope pos) 0 (.ref it) (.ref D) (compEnvC scope (cellsFrom (a3.heap.objs.size + 1) scope.names (cloFrom X.env.cells scope.names [])) a3.heap.objs.size X.env))
    (compPost (model X.prog X.w) X.A X.xe use Qf (.ref D) a3.heap.objs.size) { a3 with heap := pushCells (a3.heap.push { cls := .type "dict", data := .dict #[] }) scope.names }
  have nfp : ∀ b ∈ fp, (upd H2 D (mk D)) b = none := fun b hb => (f3 b hb).1.1
  generalize hce : compEnvC scope (cellsFrom (a3.heap.objs.size + 1) scope.names (cloFrom X.env.cells scope.names [])) a3.heap.objs.size X.env = ce at I4 pg pt pe ⊢
  have cL : ce.locals = a3.heap.objs.size := by subst hce; rfl
  generalize hH3 : upd H2 D (mk D) = H3 at I3 I4 pg pt pe w0 nfp f3
  generalize hs4 : ({ a3 with heap := pushCells (a3.heap.push { cls := .type "dict", data := .dict #[] }) scope.names } : Shared) = a4 at I4 ⊢
  have at4 : tn 0 a4.heap := T.keep _ _ _ at3 fun b _ o e => by rw [← hs4]; exact pushCells_keeps _ _ _ _ (Heap.get?_push_of_some _ e)
  have fpk : ∀ {σ' : L2.St} {H' : Hp} {s' : Shared}, Inv (X.blk a3 H3 scope ce fp) [] σ' H' s' → (∀ b ∈ fp, H' b = none) → ∀ b ∈ fp, FpOk (X.blk a3 H3 scope ce fp) [] H' b := fun {σ' H' s'} I' hn b hb =>
    ⟨hn b hb, (I'.ok.exf b hb).1, I'.ok.exfs b hb, .inl hb, fun x c e => (I'.ok.exf b hb).2 x c e, fun p hp => absurd (show p ∈ ([] : List (Addr × Obj)) ++ [] from hp) (by simp)⟩
  have loop : codeAny (model X.prog X.w) X.A (.compLoop (.SetComp elt [⟨tg, iter, ifs, 0⟩] scope pos) 0 (.ref it) (.ref D) ce) (compPost (model X.prog X.w) X.A X.xe use Qf (.ref D) a3.heap.objs.size) a4 := by
    refine PpSet.compLoopS_any (fun n s' => ∃ i H', Inv (X.blk a3 H3 scope ce fp) [] (L2.wipe σ (own.map (·.2))) H' s' ∧ tn i s'.heap ∧ (∀ b ∈ fp, H' b = none) ∧ W i n H') ?_ m0 ⟨0, H3, I4, at4, nfp, w0⟩
    rintro n a5 ⟨i, H5, I5, at5, n5, w5⟩
    rcases turn i n H5 w5 with ⟨stop, qq⟩ | ⟨go, Nx, hNx, step⟩
    · refine thnF (T.done (X.blk a3 H3 scope ce fp) rfl rfl rfl hc i [] a5 _ H5 (fun _ _ => False) I5 (fpk I5 n5) at5 stop) fun o a6 ⟨ho, I6⟩ => ?_
      subst ho
      have I7 : Inv X pins σ H5 a6 := I3.call' (ch := fp) I6.os I6.base I6.hok I6.bare fun b hb => ⟨(f3 b hb).1.2.2.2.1, (f3 b hb).1.2.1, (f3 b hb).1.2.2.2.2.1, (f3 b hb).1.2.2.2.2.2⟩
      have z : H5 ce.locals = none := I6.free
      obtain ⟨m, hn, _⟩ := I6.loc
      have hn : a6.heap.Ns ce.locals m := hn
      rw [cL] at z hn
      exact hEnd D a3.heap.objs.size a6 m H5 I7 qq hn (I3.fpOk (Nat.le_refl _) z)
    · refine thnF (T.item (X.blk a3 H3 scope ce fp) rfl rfl rfl hc i [] a5 _ H5 (fun _ _ => False) I5 (fpk I5 n5) at5 go) fun o a6 ⟨u, ho, k6⟩ => ?_
      subst ho
      refine thnF k6 fun _ a7 ⟨x, H7, I7, r7, y7, at7, n7⟩ => ?_
      have J7 := I7.pinned (fpk I7 n7) (T.obj _ _ at7)
      refine thnF (pg.run _ a7 _ H7 x u _ J7 r7 (step x H7 y7)) fun _ a8 ⟨σ8, H8, I8, hw8, q8⟩ => ?_
      refine thnF (pt.run _ a8 σ8 H8 _ I8 q8) fun b a9 ⟨H9, I9, q9⟩ => ?_
      have fin : ∀ {s' : Shared} {H' : Hp}, Inv (X.blk a3 H3 scope ce fp) ([] ++ pinsAt fp a7.heap) σ8 H' s' → Nx H' → ∃ m, m < n ∧ ∃ i H', Inv (X.blk a3 H3 scope ce fp) [] (L2.wipe σ (own.map (·.2))) H' s' ∧ tn i s'.heap ∧ (∀ b ∈ fp, H' b = none) ∧ W i m H' := fun {s' H'} I' nx => by
        obtain ⟨m', hm, w'⟩ := hNx H' nx
        have pinK : ∀ b ∈ fp, ∀ o, a7.heap.get? b = some o → s'.heap.get? b = some o ∧ H' b = none := fun b hb o e =>
          have z := I'.pin (b, o) (List.mem_append_right _ (List.mem_append_right _ (mem_pinsAt hb e)))
          ⟨z.1, z.2.1⟩
        refine ⟨m', hm, i + 1, H', (I'.unpinned (pins := [])).weak (by rw [← hw8, wipe_length]) (fun j v e => ?_), T.keep _ _ _ at7 fun b hb o e => (pinK b hb o e).1, fun b hb => (T.obj _ _ at7 b hb).elim fun o z => (pinK b hb o z.1).2, w'⟩
        rw [← hw8] at e
        exact (wipe_some e).1
      cases b with
      | false => exact fin I9 ((if_neg (by decide)).mp q9)
      | true =>
        refine thnF (pe.run _ a9 σ8 H9 _ I9 ((if_pos rfl).mp q9)) fun z a10 ⟨yv, H10, I10, r10, q10⟩ => ?_
        exact thnF (hadd (X.blk a3 H3 scope ce fp) rfl rfl _ a10 σ8 H10 D yv z Nx (fun _ _ => False) I10 r10 q10) fun _ a11 ⟨H11, I11, nx⟩ => fin I11 nx
  exact PpSet.codeAny_compStart_set loop (T.self X.A 0 _ _ _ at4 loop)
theorem pe_scG {mk : Addr → HO} {r : AddR} {elt tg iter : Expr} {ifs : List Expr} {scope : Scope} {own : List (PySem.Str × Nat)} {pos : Pos} {wi : TI} {g : TG} {tt : TT} {te : TE}
    (hmk : ∀ (H' : Hp) (h : Heap), ObjOk X.prog X.w H' (h.push (emptySet X.w)) h.objs.size (mk h.objs.size)) (hadd : AddOk X.prog X.w r)
    (hc : X.calm = true) (hN : X.N.Nodup) (hi : PI X tg iter wi) (ok : BlkOk X.N X.env.scope scope own)
    (hg : ∀ (s : Shared) (H : Hp) (C : Addr) (cl : List (PySem.Str × Addr)) (fp : List Addr), PG (X.blk s H scope (compEnvC scope cl C X.env) fp) tg g)
    (ht : ∀ (s : Shared) (H : Hp) (C : Addr) (cl : List (PySem.Str × Addr)) (fp : List Addr), PTs (X.blk s H scope (compEnvC scope cl C X.env) fp) ifs tt)
    (he : ∀ (s : Shared) (H : Hp) (C : Addr) (cl : List (PySem.Str × Addr)) (fp : List Addr), PE (X.blk s H scope (compEnvC scope cl C X.env) fp) elt te) (hs : ∀ x, foldedSetIterable iter X.env x = pure x := by intro _; rfl) :
    PE X (.SetComp elt [⟨tg, iter, ifs, 0⟩] scope pos) (tScG mk r wi g tt te (own.map (·.2))) :=
  ⟨fun pins s σ H Q I h => by
    rw [PpSet.eval_SetComp]
    refine scG_core hmk hadd hc hN I hi ok hg ht he hs h fun D C s' m H' I' q hn f => ⟨m, hn, fun h'' sb => ?_⟩
    obtain ⟨f0, f1, f2, f3, f4, f5⟩ := f
    exact ⟨.ref D, H', I'.turned (t' := s'.toks) (fun b o hb e => (sb.2 b hb).trans e) f0 f1 f3 f4 f5, rfl, q⟩⟩

/-! ### ints -/
def addI (w : World) : AddR := fun D y H Nx => ∃ (k : Int) (S : Int → Bool) (n : Nat), y = .int k ∧ H D = some (SetO w D S n) ∧ n + 1 < scanBound ∧ Nx (upd H D (SetO w D (fun j => S j || decide (j = k)) (if S k = true then n else n + 1)))
theorem addI_ok (P : Program) (w : World) : AddOk P w (addI w) := by
  intro Y hp hw pins s σ H D y u Nx E I ry ⟨k, S, n, ey, hD, room, nx⟩
  subst ey hp hw
  obtain ⟨tk, rfl⟩ := ry
  refine setR_add (setO_get I hD) room fun h' sb new => ?_
  have he : ∃ q, h'.get? D = some q := let ⟨o, _, _, _, ho, _⟩ := new; ⟨o, ho⟩
  exact ⟨_, I.write (e := D) (t' := s.toks + 1) (by rw [hD]; trivial) (.inl rfl) (fun b u hb hu => (sb.2 b hb).trans hu) he (setO_new new), nx⟩
theorem mkI_ok (P : Program) (w : World) (H' : Hp) (h : Heap) : ObjOk P w H' (h.push (emptySet w)) h.objs.size (SetO w h.objs.size (fun _ => false) 0) := setO_new (setR_fresh w)
/-- sorted(a set of ints), any size -/
theorem sorted_setAny {w : World} {P : Program} {A : Around} {E : Value → Shared → Prop} {s : Shared} {a : Addr} {S : Int → Bool} {n : Nat} {Q : Value → Shared → Prop} (R : SetR w s.heap a S n) (hh : A.handled = none)
    (hQ : ∀ s' p (out : Array Value) (c : Nat) (ns : List Int), (∀ b o, s.heap.get? b = some o → s'.heap.get? b = some o) → s'.gens = s.gens → s'.os = s.os → s.heap.objs.size ≤ p →
      s'.heap.get? p = some (seqObj "list" out c) → IntsAre out.toList ns → ns.Pairwise (· < ·) → (∀ k, k ∈ ns ↔ S k = true) → ns.length = n → Q (.ref p) s') :
    wpAny (model P w) A (call (.builtin "sorted") [.ref a]) Q E s := by
  obtain ⟨o, es, ep, t, ho, hex, hd, g, nd, hm, hb, hf, hn, hr, hl⟩ := R
  refine Calls.call_function_entry kind_sorted plain_sorted entry_sorted (args_sorted1 _) ?_
  unfold Builtin.«sorted»
  refine wpAny_bind (m := checkCount "sorted" 1 1 _) (wpAny_pure ?_)
  refine wpAny_bind (collect_set (A := A.in1) hh ⟨o, ho, hex.1, hd⟩ hf hb hr hl fun b1 vs k1 hz g1 o1 pm => ?_)
  have len : vs.length = n := by rw [pm.length_eq, List.length_map, Array.length_toList]; exact hn
  have hI : IntsAre vs (vs.map Builtin.Re.reRawOf) := ints_of vs fun v hv => by
    obtain ⟨e, he, q⟩ := List.mem_map.mp (pm.mem_iff.mp hv)
    obtain ⟨k, tk, z, _⟩ := g e he
    exact ⟨k, tk, by rw [← q]; exact z⟩
  have pk : (vs.map Builtin.Re.reRawOf).Perm (es.toList.map keyOf) := by
    have z := pm.map Builtin.Re.reRawOf
    rwa [List.map_map] at z
  have small : vs.length ≤ sizeLine := by
    rw [len, ← hn, sizeLine_eq]
    have : (scanBound : Nat) = 4096 := rfl
    omega
  refine wpAny_bind (wpAny_newList ?_ small)
  have hoL : (b1.heap.push (seqObj "list" vs.toArray 0)).get? b1.heap.objs.size = some (seqObj "list" vs.toArray 0) := Heap.get?_push_size _ rfl
  refine wpAny_bind (wpAny_holding (wpAny_call_entry slot_list_sort ⟨_, hoL, rfl⟩ entry_list_sort (SrtO.list_sort_ord SrtO.swo_int hoL small (fun h2 => SrtO.ints_sortable hI h2) fun out q1 q2 => ⟨_, rfl, ?_⟩) (args_list_sort _)))
  obtain ⟨c1, c2, c3⟩ := SrtO.ints_out hI q1 q2
  obtain ⟨c, hc⟩ := PyProof.Rows.sortedHeap_at (vs := vs) (out := out.toArray) hoL
  have pn : (out.map SrtO.iv).Perm (es.toList.map keyOf) := c2.trans pk
  refine wpAny_pure ⟨_, rfl, hQ _ b1.heap.objs.size out.toArray c (out.map SrtO.iv) (fun b u e => ?_) g1 o1 hz hc c1 (lt_of_le_nodup _ c3 (pn.nodup_iff.mpr nd)) (fun k => by rw [pn.mem_iff, ← hm k]) ?_⟩
  · have z := k1 b u e
    have lt := Heap.lt_size z
    show (PyProof.Rows.sortedHeap (b1.heap.push (seqObj "list" vs.toArray 0)) b1.heap.objs.size vs out.toArray).get? b = some u
    rw [PyProof.Rows.sortedHeap_old (Nat.ne_of_lt lt) (by rw [size_push']; exact Nat.lt_succ_of_lt lt)]
    exact Heap.get?_push_of_some _ z
  · rw [pn.length_eq, List.length_map, Array.length_toList]; exact hn
def rSortedSetA (w : World) : List V → Hp → VK → Prop := fun vs H Q => ∃ (a : Addr) (S : Int → Bool) (n : Nat), vs = [V.ref a] ∧ H a = some (SetO w a S n) ∧
  ∀ (ns : List Int) (p : Addr), ns.Pairwise (· < ·) → (∀ k : Int, k ∈ ns ↔ S k = true) → ns.length = n → H p = none → Q (.ref p) (upd H p (.lst (ns.map V.int)))
theorem cr_sortedSetA (hc : X.calm = true) : CallR X (.builtin "sorted") (rSortedSetA X.w) := by
  intro pins s σ H vs us Q I r h
  obtain ⟨a, S, n, rfl, ha, q⟩ := h
  have R := setO_get I ha
  have nb : n ≤ sizeLine := by
    obtain ⟨o, es, ep, t, _, _, _, _, _, _, hb, _, hn, _⟩ := R
    rw [← hn, sizeLine_eq]
    have : (scanBound : Nat) = 4096 := rfl
    omega
  rw [Vals.ref1 r]
  refine sorted_setAny R (I.ok.hd hc) fun s' p out c ns k g o hp hg hi hs hm hl => ?_
  have hn : H p = none := I.hok.fresh hp
  have J : Inv X pins σ (upd H p (.lst (ns.map V.int))) { s with heap := s'.heap, gens := s'.gens, drawn := s'.drawn, toks := s'.toks } :=
    I.call (ch := []) (Un.laid k hp hn) (I.hok.laid k hp ⟨by rw [List.length_map, hl]; exact nb, out.toList, c, vals_of_ints hi, hg⟩) (by rw [g]; exact I.bare) (fun _ z => nomatch z)
  have e : s' = { s with heap := s'.heap, gens := s'.gens, drawn := s'.drawn, toks := s'.toks } := by
    cases s'
    cases s
    cases o
    rfl
  rw [e]
  exact ⟨.ref p, _, J, rfl, q ns p hs hm hl hn⟩
end
end L3

/-! ## L3E -/
/-! Operators, subscripts and built-in calls over pure values. -/
namespace L3
open PySem PySem.Spec PyProof.Rows L2

section
variable {X : Cx} {Z : Par}
/-! ### arithmetic -/
def kII (C : Int → Int → Prop) (g : Int → Int → PV) : PK2 := fun p q Q => match p, q with
  | .int i, .int j => C i j ∧ Q (g i j)
  | _, _ => False
theorem opII {f : Value → Value → Sem Value} {C : Int → Int → Prop} {g : Int → Int → V} {g' : Int → Int → PV} (h : OpR X f (rI C g)) (d : ∀ W i j, Dat Z.K W (g i j) (g' i j)) : OpP Z X f (kII C g') :=
  ⟨_, h, fun W H x y p q Q Qp hh dx dy t k => by
    unfold kII at t
    split at t
    · cases dx; cases dy
      exact ⟨_, _, rfl, rfl, t.1, k W H _ _ (.refl hh) (d W _ _) t.2⟩
    · exact t.elim⟩
def kI0 (g : Int → Int → PV) : PK2 := fun p q Q => match p, q with
  | .int i, .int j => Q (g i j)
  | _, _ => False
theorem opI0' {f : Value → Value → Sem Value} {g : Int → Int → V} {g' : Int → Int → PV} (h : OpR X f (rI0 g)) (d : ∀ W i j, Dat Z.K W (g i j) (g' i j)) : OpP Z X f (kI0 g') :=
  ⟨_, h, fun W H x y p q Q Qp hh dx dy t k => by
    unfold kI0 at t
    split at t
    · cases dx; cases dy
      exact ⟨_, _, rfl, rfl, k W H _ _ (.refl hh) (d W _ _) t⟩
    · exact t.elim⟩
/-- two kinds -/
def kOr (k k' : PK2) : PK2 := fun p q Q => k p q Q ∨ k' p q Q
theorem opOr {f : Value → Value → Sem Value} {k k' : PK2} (a : OpP Z X f k) (b : OpP Z X f k') : OpP Z X f (kOr k k') := by
  obtain ⟨r, h1, w1⟩ := a.ex
  obtain ⟨r', h2, w2⟩ := b.ex
  refine ⟨_, h1.or h2, fun W H x y p q Q Qp hh dx dy t k => ?_⟩
  rcases t with t | t
  · exact .inl (w1 W H x y p q Q Qp hh dx dy t k)
  · exact .inr (w2 W H x y p q Q Qp hh dx dy t k)
theorem q_addI : OpP Z X (binaryOp .Add) (kI0 fun i j => .int (i + j)) := opI0' op_add fun _ _ _ => .int _
theorem q_subI : OpP Z X (binaryOp .Sub) (kI0 fun i j => .int (i - j)) := opI0' op_sub fun _ _ _ => .int _
abbrev MulOk (i j : Int) : Prop := i.natAbs.log2 + j.natAbs.log2 < 1000000
theorem q_mulI : OpP Z X (binaryOp .Mult) (kII MulOk fun i j => .int (i * j)) := opII (C := CMulW) op_mulW fun _ _ _ => .int _
abbrev DivOk (_ j : Int) : Prop := j ≠ 0 ∧ j.natAbs.log2 < 9000
theorem op_fdivA : OpR X (binaryOp .FloorDiv) (rI DivOk fun i j => .int (i.fdiv j)) := L2.opI fun _ _ _ _ _ _ _ hc q => floordiv_int hc.1 q (.inl (PyProof.noPylong_of_log2 hc.2))
theorem q_fdivI : OpP Z X (binaryOp .FloorDiv) (kII DivOk fun i j => .int (i.fdiv j)) := opII op_fdivA fun _ _ _ => .int _
abbrev ModOk (_ j : Int) : Prop := j ≠ 0
theorem q_modI : OpP Z X (binaryOp .Mod) (kII ModOk fun i j => .int (i.fmod j)) := opII op_modN fun _ _ _ => .int _
theorem q_powI : OpP Z X (binaryOp .Pow) (kII CPow fun i j => .int (i ^ j.toNat)) := opII op_pow fun _ _ _ => .int _
/-- a bool less a bool -/
def kBB : PK2 := fun p q Q => match p, q with
  | .bl a, .bl b => Q (.int (b2i a - b2i b))
  | _, _ => False
theorem op_subB : OpR X (binaryOp .Sub) (fun x y H Q => ∃ a b, x = .bl a ∧ y = .bl b ∧ Q (.int (b2i a - b2i b)) H) := by
  intro pins s σ H x y v u Q I rx ry h
  obtain ⟨a, b, rfl, rfl, q⟩ := h
  cases rx; cases ry
  exact sub_bool ⟨.int _, H, I.tok _, ⟨_, rfl⟩, q⟩
theorem q_subB : OpP Z X (binaryOp .Sub) kBB := ⟨_, op_subB, fun W H x y p q Q Qp hh dx dy t k => by
    unfold kBB at t
    split at t
    · cases dx; cases dy
      exact ⟨_, _, rfl, rfl, k W H _ _ (.refl hh) (.int _) t⟩
    · exact t.elim⟩
/-- lists joined -/
def kCat : PK2 := fun p q Q => match p, q with
  | .lst l, .lst m => l.length + m.length ≤ sizeLine ∧ Q (.lst (l ++ m))
  | _, _ => False
theorem q_cat : OpP Z X (binaryOp .Add) kCat := ⟨_, op_cat, fun W H x y p q Q Qp hh dx dy t k => by
    unfold kCat at t
    split at t
    · cases dx with
      | lst ha ra => cases dy with
        | lst hb rb =>
          refine ⟨_, _, _, _, rfl, rfl, hh.ex ha (fun z => z), hh.ex hb (fun z => z), by rw [ra.length, rb.length]; exact t.1, fun p n => ?_⟩
          exact k _ _ _ _ (Ext.new hh n) (.lst Wd.add_at ((ra.append rb).mono (Wd.le_add (hh.new n)))) t.2
    · exact t.elim⟩
def pUn (k : PV → (PV → Prop) → Prop) (t : PTE) : PTE := fun ρ Q => t ρ fun p => k p Q
def kNeg : PV → (PV → Prop) → Prop := fun p Q => match p with
  | .int i => Q (.int (-i))
  | _ => False
theorem q_neg {a : Expr} {pos : Pos} {t : PTE} (ha : PE X a (lift Z t)) : PE X (.UnaryOp .USub a pos) (lift Z (pUn kNeg t)) :=
  PEw (pe_un un_neg ha) fun σ H Q ⟨W, H0, ρ, Qp, hh, S, t, q⟩ => by
    refine ⟨W, H0, ρ, _, hh, S, t, fun W1 H1 v p e1 d1 t1 => ?_⟩
    cases d1 with
    | int i => exact ⟨i, rfl, q W1 H1 _ _ e1 (.int _) t1⟩
    | _ => exact t1.elim

/-! ### comparisons -/
theorem q_lt : OpP Z X (compareOp .Lt) (kI0 fun i j => .bl (decide (i < j))) := opI0' op_lt fun _ _ _ => .bl _
theorem q_le : OpP Z X (compareOp .LtE) (kI0 fun i j => .bl (decide (i ≤ j))) := opI0' op_le fun _ _ _ => .bl _
theorem q_gt : OpP Z X (compareOp .Gt) (kI0 fun i j => .bl (decide (j < i))) := opI0' op_gt fun _ _ _ => .bl _
theorem q_ge : OpP Z X (compareOp .GtE) (kI0 fun i j => .bl (decide (j ≤ i))) := opI0' op_ge fun _ _ _ => .bl _
def kLtS : PK2 := fun p q Q => match p, q with
  | .str a, .str b => Q (.bl (decide (a.cps.toList < b.cps.toList)))
  | _, _ => False
theorem q_ltS : OpP Z X (compareOp .Lt) kLtS := ⟨_, op_lt_str, fun W H x y p q Q Qp hh dx dy t k => by
    unfold kLtS at t
    split at t
    · cases dx; cases dy
      exact ⟨_, _, rfl, rfl, k W H _ _ (.refl hh) (.bl _) t⟩
    · exact t.elim⟩
/-! data of any depth -/
mutual
def toD : PV → Option PyData
  | .non => some .none
  | .bl b => some (.bool b)
  | .int i => some (.int i)
  | .str x => some (.str x)
  | .tup l => (toDs l).map .tuple
  | .lst l => (toDs l).map .list
  | _ => none
def toDs : List PV → Option (List PyData)
  | [] => some []
  | p :: r => match toD p, toDs r with
    | some d, some ds => some (d :: ds)
    | _, _ => none
end
section
variable {K : PySem.W.Frag} {W : Wd} {H : Hp}
mutual
theorem dp_of (hh : Holds Z W H) : ∀ (p : PV) (v : V) (d : PyData), Dat K W v p → toD p = some d → Dp K H v d
  | .non, _, _, h, e => by cases h; cases e; exact .non
  | .bl b, _, _, h, e => by cases h; cases e; exact .bl b
  | .int i, _, _, h, e => by cases h; cases e; exact .int i
  | .str x, _, _, h, e => by cases h; cases e; exact .str x
  | .tup l, _, _, h, e => by
    cases h with
    | tup ha r =>
      unfold toD at e
      cases q : toDs l with
      | none => rw [q] at e; cases e
      | some ds =>
        rw [q] at e
        cases e
        exact .tup (.of (hh.ex ha fun z => z)) (dps_of hh l _ ds r q)
  | .lst l, _, _, h, e => by
    cases h with
    | lst ha r =>
      unfold toD at e
      cases q : toDs l with
      | none => rw [q] at e; cases e
      | some ds =>
        rw [q] at e
        cases e
        exact .lst (.of (hh.ex ha fun z => z)) (dps_of hh l _ ds r q)
  | .ty _, _, _, _, e => by cases e
  | .frz _, _, _, _, e => by cases e
  | .dic _, _, _, _, e => by cases e
  | .dct _, _, _, _, e => by cases e
  | .obj _ _, _, _, _, e => by cases e
  | .cel, _, _, _, e => by cases e
  | .raw _, _, _, _, e => by cases e
theorem dps_of (hh : Holds Z W H) : ∀ (l : List PV) (vs : List V) (ds : List PyData), DatL K W vs l → toDs l = some ds → DpAll K H vs ds
  | [], _, _, h, e => by cases h; cases e; exact .nil
  | p :: r, _, _, h, e => by
    cases h with
    | cons h t =>
      unfold toDs at e
      cases q : toD p with
      | none => rw [q] at e; cases e
      | some d =>
        cases q2 : toDs r with
        | none => rw [q, q2] at e; cases e
        | some ds =>
          rw [q, q2] at e
          cases e
          exact .cons (dp_of hh p _ d h q) (dps_of hh r _ ds t q2)
end
end
theorem Dat.dp {K : PySem.W.Frag} {W : Wd} {H : Hp} (hh : Holds Z W H) {v : V} {p : PV} {d : PyData} (h : Dat K W v p) (e : toD p = some d) : Dp K H v d := dp_of hh p v d h e
def eqP (p q : PV) : Option Bool := match toD p, toD q with
  | some d, some e => if SeqAt.shaped d = true ∧ SeqAt.shaped e = true then some (PyData.eqv d e) else none
  | _, _ => none
def kEq : PK2 := fun p q Q => match eqP p q with
  | some b => Q (.bl b)
  | none => False
def kNe : PK2 := fun p q Q => match eqP p q with
  | some b => Q (.bl (!b))
  | none => False
theorem eqP_ok {p q : PV} {b : Bool} (e : eqP p q = some b) : ∃ d d', toD p = some d ∧ toD q = some d' ∧ SeqAt.shaped d = true ∧ SeqAt.shaped d' = true ∧ b = PyData.eqv d d' := by
  unfold eqP at e
  split at e
  · rename_i d d' e1 e2
    split at e
    · rename_i hs
      cases e
      exact ⟨d, d', e1, e2, hs.1, hs.2, rfl⟩
    · cases e
  · cases e
theorem q_eq {j : Nat} (hr : Room j X.A) (hK : X.K = Z.K := by rfl) : OpP Z X (compareOp .Eq) kEq := ⟨_, op_eqD hr.units, fun W H x y p q Q Qp hh dx dy t k => by
    unfold kEq at t
    split at t
    · rename_i b e
      obtain ⟨d, d', e1, e2, s1, s2, eb⟩ := eqP_ok e
      rw [hK]
      exact ⟨d, d', Dat.dp hh dx e1, Dat.dp hh dy e2, s1, s2, by rw [← eb]; exact k W H _ _ (.refl hh) (.bl _) t⟩
    · exact t.elim⟩
theorem q_ne {j : Nat} (hr : Room j X.A) (hK : X.K = Z.K := by rfl) : OpP Z X (compareOp .NotEq) kNe := ⟨_, op_neD hr.units, fun W H x y p q Q Qp hh dx dy t k => by
    unfold kNe at t
    split at t
    · rename_i b e
      obtain ⟨d, d', e1, e2, s1, s2, eb⟩ := eqP_ok e
      rw [hK]
      exact ⟨d, d', Dat.dp hh dx e1, Dat.dp hh dy e2, s1, s2, by rw [← eb]; exact k W H _ _ (.refl hh) (.bl _) t⟩
    · exact t.elim⟩
/-- is None, is not None -/
def isNonP : PV → Bool
  | .non => true
  | _ => false
theorem Dat.isNon {K : PySem.W.Frag} {W : Wd} {v : V} {p : PV} (d : Dat K W v p) : decide (v = .non) = isNonP p := by
  cases d <;> first | rfl | exact decide_eq_false (fun z => nomatch z)
def pIsN (t : PTE) : PTE := fun ρ Q => t ρ fun p => Q (.bl (isNonP p))
def pNotN (t : PTE) : PTE := fun ρ Q => t ρ fun p => Q (.bl (!isNonP p))
theorem q_isN {a : Expr} {j : Nat} {pos pos' : Pos} {t : PTE} (ha : PE X a (lift Z t)) : PE X (.Compare a [.Is] [.Constant .none j pos'] pos) (lift Z (pIsN t)) :=
  PEw (pe_cmp (pc_isN ha) (by first | exact nobehind _ (by decide) (by decide) | rfl)) fun σ H Q ⟨W, H0, ρ, Qp, hh, S, t, q⟩ =>
    ⟨W, H0, ρ, _, hh, S, t, fun W1 H1 v p e1 d1 t1 => by show Q (V.bl (decide (v = V.non))) H1; rw [d1.isNon]; exact q W1 H1 _ _ e1 (.bl _) t1⟩
theorem q_notN {a : Expr} {j : Nat} {pos pos' : Pos} {t : PTE} (ha : PE X a (lift Z t)) : PE X (.Compare a [.IsNot] [.Constant .none j pos'] pos) (lift Z (pNotN t)) :=
  PEw (pe_cmp (pc_notN ha) (by first | exact nobehind _ (by decide) (by decide) | rfl)) fun σ H Q ⟨W, H0, ρ, Qp, hh, S, t, q⟩ =>
    ⟨W, H0, ρ, _, hh, S, t, fun W1 H1 v p e1 d1 t1 => by show Q (V.bl (!decide (v = V.non))) H1; rw [d1.isNon]; exact q W1 H1 _ _ e1 (.bl _) t1⟩
theorem qt_isN {a : Expr} {j : Nat} {pos pos' : Pos} {t : PTE} (ha : PE X a (lift Z t)) : PT X (.Compare a [.Is] [.Constant .none j pos'] pos) (liftT Z (pTst (pIsN t))) :=
  PTw (pt_cmp (pc_isN ha) (by first | exact nobehind _ (by decide) (by decide) | rfl)) fun σ H Q ⟨W, H0, ρ, Qp, hh, S, t, q⟩ =>
    ⟨W, H0, ρ, _, hh, S, t, fun W1 H1 v p e1 d1 t1 => ⟨_, rfl, by rw [d1.isNon]; exact q W1 H1 _ e1 t1⟩⟩
theorem qt_notN {a : Expr} {j : Nat} {pos pos' : Pos} {t : PTE} (ha : PE X a (lift Z t)) : PT X (.Compare a [.IsNot] [.Constant .none j pos'] pos) (liftT Z (pTst (pNotN t))) :=
  PTw (pt_cmp (pc_notN ha) (by first | exact nobehind _ (by decide) (by decide) | rfl)) fun σ H Q ⟨W, H0, ρ, Qp, hh, S, t, q⟩ =>
    ⟨W, H0, ρ, _, hh, S, t, fun W1 H1 v p e1 d1 t1 => ⟨_, rfl, by rw [d1.isNon]; exact q W1 H1 _ e1 t1⟩⟩
/-- in a list of data -/
def inP (p : PV) (l : List PV) : Option Bool := match toD p, toDs l with
  | some d, some ds => if SeqAt.shaped d = true ∧ SeqAt.shaped (.list ds) = true then some (ds.any fun z => PyData.eqv z d) else none
  | _, _ => none
def kIn (neg : Bool) : PK2 := fun p q Q => match q with
  | .lst l => (match inP p l with
    | some b => Q (.bl (if neg = true then !b else b))
    | none => False)
  | _ => False
theorem q_in {j : Nat} (hr : Room (j + 1) X.A) (hK : X.K = Z.K := by rfl) : OpP Z X (compareOp .In) (kIn false) := ⟨_, op_inD (by have := hr.un; omega), fun W H x y p q Q Qp hh dx dy t k => by
    unfold kIn at t
    split at t
    · rename_i l
      split at t
      · rename_i b e
        unfold inP at e
        split at e
        · rename_i d ds e1 e2
          split at e
          · rename_i hs
            cases e
            rw [hK]
            refine ⟨d, ds, Dat.dp hh dx e1, Dat.dp hh dy (by simp only [toD, e2, Option.map_some]), hs.1, hs.2, ?_⟩
            exact k W H _ _ (.refl hh) (.bl _) t
          · cases e
        · cases e
      · exact t.elim
    · exact t.elim⟩
theorem q_notIn {j : Nat} (hr : Room (j + 1) X.A) (hK : X.K = Z.K := by rfl) : OpP Z X (compareOp .NotIn) (kIn true) := ⟨_, op_notInD (by have := hr.un; omega), fun W H x y p q Q Qp hh dx dy t k => by
    unfold kIn at t
    split at t
    · rename_i l
      split at t
      · rename_i b e
        unfold inP at e
        split at e
        · rename_i d ds e1 e2
          split at e
          · rename_i hs
            cases e
            rw [hK]
            refine ⟨d, ds, Dat.dp hh dx e1, Dat.dp hh dy (by simp only [toD, e2, Option.map_some]), hs.1, hs.2, ?_⟩
            exact k W H _ _ (.refl hh) (.bl _) t
          · cases e
        · cases e
      · exact t.elim
    · exact t.elim⟩
/-- a text in a text -/
def kInS (neg : Bool) : PK2 := fun p q Q => match p, q with
  | .str i, .str j => Q (.bl (if neg = true then !(!(Builtin.Str.occurrences j i 0 j.length 1).isEmpty) else !(Builtin.Str.occurrences j i 0 j.length 1).isEmpty))
  | _, _ => False
theorem q_inS : OpP Z X (compareOp .In) (kInS false) := ⟨_, op_in_str, fun W H x y p q Q Qp hh dx dy t k => by
    unfold kInS at t
    split at t
    · cases dx; cases dy
      exact ⟨_, _, rfl, rfl, k W H _ _ (.refl hh) (.bl _) t⟩
    · exact t.elim⟩
theorem q_notInS : OpP Z X (compareOp .NotIn) (kInS true) := ⟨_, op_notin_str, fun W H x y p q Q Qp hh dx dy t k => by
    unfold kInS at t
    split at t
    · cases dx; cases dy
      exact ⟨_, _, rfl, rfl, k W H _ _ (.refl hh) (.bl _) t⟩
    · exact t.elim⟩

/-! ### subscripts, slices -/
def kIx : PK2 := fun p q Q => match q with
  | .int i => (match p with
    | .lst l => (match atI l i with | some r => Q r | none => False)
    | .frz l => (match atI l i with | some r => Q r | none => False)
    | .tup l => (match atI l i with | some r => Q r | none => False)
    | .str z => z.length ≤ sizeLine ∧ (match atI z.cps.toList i with | some c => Q (.str ⟨#[c]⟩) | none => False)
    | _ => False)
  | _ => False
theorem DatL.atI {K : PySem.W.Frag} {W : Wd} {xs : List V} {l : List PV} {i : Int} {p : PV} (d : DatL K W xs l) (e : L2.atI l i = some p) : ∃ v, L2.atI xs i = some v ∧ Dat K W v p := by
  unfold L2.atI at e ⊢
  rw [d.length]
  cases h : ixN l.length i with
  | none => rw [h] at e; cases e
  | some j =>
    rw [h] at e
    exact d.getP e
theorem lift_ix (hK : X.K = Z.K) : ∀ W H x y p q Q Qp, Holds Z W H → Dat Z.K W x p → Dat Z.K W y q → kIx p q Qp → (∀ W' H' v r, Ext Z W H W' H' → Dat Z.K W' v r → Qp r → Q v H') → rIx X.K x y H Q := fun W H x y p q Q Qp hh dx dy t k => by
  unfold kIx at t
  split at t
  · rename_i i
    cases dy
    split at t
    · split at t
      · rename_i r e
        cases dx with
        | lst ha ra =>
          obtain ⟨v, hv, dv⟩ := ra.atI e
          exact .inl ⟨_, _, _, _, rfl, rfl, .of (hh.ex ha fun z => z), hv, k W H _ _ (.refl hh) dv t⟩
      · exact t.elim
    · split at t
      · rename_i r e
        cases dx with
        | frz ha ra =>
          obtain ⟨v, hv, dv⟩ := ra.atI e
          exact .inl ⟨_, _, _, _, rfl, rfl, by rw [hK]; exact SqL.holds hh ha, hv, k W H _ _ (.refl hh) dv t⟩
      · exact t.elim
    · split at t
      · rename_i r e
        cases dx with
        | tup ha ra =>
          obtain ⟨v, hv, dv⟩ := ra.atI e
          exact .inr (.inl ⟨_, _, _, _, rfl, rfl, .of (hh.ex ha fun z => z), hv, k W H _ _ (.refl hh) dv t⟩)
      · exact t.elim
    · obtain ⟨hz, t⟩ := t
      split at t
      · rename_i c e
        cases dx with
        | str z => exact .inr (.inr ⟨_, _, _, rfl, rfl, hz, e, k W H _ _ (.refl hh) (.str _) t⟩)
      · exact t.elim
    · exact t.elim
  · exact t.elim
theorem q_ix {a b : Expr} {ta tb : PTE} {pos : Pos} (ha : PE X a (lift Z ta)) (hb : PE X b (lift Z tb)) (hK : X.K = Z.K := by rfl) (hs : PlainIx b := by exact fun _ _ => rfl) : PE X (.Subscript a b pos) (lift Z (pBin kIx ta tb)) :=
  PEw (pe_ix ix_seq ha hb hs) fun σ H Q => lift_bin (lift_ix hK) σ H Q
/-- d[k] of a dict -/
def kDGet : PK2 := fun p q Q => match p, keyP q with
  | .dic l, some k => (match valA l k with | some r => Q r | none => False)
  | _, _ => False
theorem q_dget {a b : Expr} {ta tb : PTE} {pos : Pos} {j : Nat} (hr : Room j X.A) (ha : PE X a (lift Z ta)) (hb : PE X b (lift Z tb)) (hs : NoSl b := by exact fun _ _ => rfl) : PE X (.Subscript a b pos) (lift Z (pBin kDGet ta tb)) :=
  PEw (pe_dget (by have := hr.units; omega) ha hb hs) fun σ H Q ⟨W, H0, ρ, Qp, hh, S, t, q⟩ => by
    refine ⟨W, H0, ρ, _, hh, S, t, fun W1 H1 x p e1 d1 t1 => ⟨W1, H0, ρ, _, e1.holds, S.ext e1, t1, fun W2 H2 y p2 e2 d2 t2 => ?_⟩⟩
    unfold kDGet at t2
    split at t2
    · rename_i l k ek
      have dx := d1.mono e2.le
      cases dx with
      | dic ha r =>
        rcases r.val (k := k) with ⟨_, z⟩ | ⟨v, p, z1, z2, dv⟩
        · rw [z] at t2; exact t2.elim
        · rw [z2] at t2
          exact ⟨_, v, rfl, .inl ⟨_, k, e2.holds.rd ha, d2.key ek, z1.symm⟩, q W2 H2 _ _ (e1.trans hh e2) dv t2⟩
    · exact t2.elim
/-- k in d -/
def kDIn (neg : Bool) : PK2 := fun p q Q => match q, keyP p with
  | .dic l, some k => Q (.bl (if neg = true then !(valA l k).isSome else (valA l k).isSome))
  | _, _ => False
theorem din_of {ta tb : PTE} (σ : L2.St) (H : Hp) (Q : VK) (h : lift Z (pBin (kDIn false) ta tb) σ H Q) : tDIn (lift Z ta) (lift Z tb) σ H Q := by
  obtain ⟨W, H0, ρ, Qp, hh, S, t, q⟩ := h
  refine ⟨W, H0, ρ, _, hh, S, t, fun W1 H1 x p e1 d1 t1 => ⟨W1, H0, ρ, _, e1.holds, S.ext e1, t1, fun W2 H2 y p2 e2 d2 t2 => ?_⟩⟩
  unfold kDIn at t2
  split at t2
  · rename_i l k ek
    cases d2 with
    | dic ha r =>
      have ey := (d1.mono e2.le).key ek
      rcases r.val (k := k) with ⟨z1, z2⟩ | ⟨v, p, z1, z2, dv⟩
      · exact ⟨_, none, rfl, .inl ⟨_, k, e2.holds.rd ha, ey, z1.symm⟩, q W2 H2 _ _ (e1.trans hh e2) (.bl _) (by rw [z2] at t2; exact t2)⟩
      · exact ⟨_, some v, rfl, .inl ⟨_, k, e2.holds.rd ha, ey, z1.symm⟩, q W2 H2 _ _ (e1.trans hh e2) (.bl _) (by rw [z2] at t2; exact t2)⟩
  · exact t2.elim
theorem dnin_of {ta tb : PTE} (σ : L2.St) (H : Hp) (Q : VK) (h : lift Z (pBin (kDIn true) ta tb) σ H Q) : tDNotIn (lift Z ta) (lift Z tb) σ H Q := by
  obtain ⟨W, H0, ρ, Qp, hh, S, t, q⟩ := h
  refine ⟨W, H0, ρ, _, hh, S, t, fun W1 H1 x p e1 d1 t1 => ⟨W1, H0, ρ, _, e1.holds, S.ext e1, t1, fun W2 H2 y p2 e2 d2 t2 => ?_⟩⟩
  unfold kDIn at t2
  split at t2
  · rename_i l k ek
    cases d2 with
    | dic ha r =>
      have ey := (d1.mono e2.le).key ek
      rcases r.val (k := k) with ⟨z1, z2⟩ | ⟨v, p, z1, z2, dv⟩
      · exact ⟨_, none, rfl, .inl ⟨_, k, e2.holds.rd ha, ey, z1.symm⟩, q W2 H2 _ _ (e1.trans hh e2) (.bl _) (by rw [z2] at t2; exact t2)⟩
      · exact ⟨_, some v, rfl, .inl ⟨_, k, e2.holds.rd ha, ey, z1.symm⟩, q W2 H2 _ _ (e1.trans hh e2) (.bl _) (by rw [z2] at t2; exact t2)⟩
  · exact t2.elim
theorem q_din {a b : Expr} {ta tb : PTE} {pos : Pos} {j : Nat} (hr : Room j X.A) (ha : PE X a (lift Z ta)) (hb : PE X b (lift Z tb)) (hm : behindInMarks .In b = false := by rfl) : PE X (.Compare a [.In] [b] pos) (lift Z (pBin (kDIn false) ta tb)) :=
  PEw (pe_cmp (pc_din (by have := hr.units; omega) ha hb) hm) din_of
theorem q_dnin {a b : Expr} {ta tb : PTE} {pos : Pos} {j : Nat} (hr : Room j X.A) (ha : PE X a (lift Z ta)) (hb : PE X b (lift Z tb)) (hm : behindInMarks .NotIn b = false := by rfl) : PE X (.Compare a [.NotIn] [b] pos) (lift Z (pBin (kDIn true) ta tb)) :=
  PEw (pe_cmp (pc_dnotin (by have := hr.units; omega) ha hb) hm) dnin_of
theorem qt_din {a b : Expr} {ta tb : PTE} {pos : Pos} {j : Nat} (hr : Room j X.A) (ha : PE X a (lift Z ta)) (hb : PE X b (lift Z tb)) (hm : behindInMarks .In b = false := by rfl) : PT X (.Compare a [.In] [b] pos) (liftT Z (pTst (pBin (kDIn false) ta tb))) :=
  PTw (pt_cmp (pc_din (by have := hr.units; omega) ha hb) hm) fun σ H Q h => din_of σ H _ (tst_of σ H Q h)
theorem qt_dnin {a b : Expr} {ta tb : PTE} {pos : Pos} {j : Nat} (hr : Room j X.A) (ha : PE X a (lift Z ta)) (hb : PE X b (lift Z tb)) (hm : behindInMarks .NotIn b = false := by rfl) : PT X (.Compare a [.NotIn] [b] pos) (liftT Z (pTst (pBin (kDIn true) ta tb))) :=
  PTw (pt_cmp (pc_dnotin (by have := hr.units; omega) ha hb) hm) fun σ H Q h => dnin_of σ H _ (tst_of σ H Q h)
/-- slices -/
abbrev PTO := List Slt → (Option Int → Prop) → Prop
def liftO (Z : Par) (t : PTO) : TO := fun σ H Q => ∃ W H0 ρ Qp, Holds Z W H ∧ Slots Z W H0 H σ ρ ∧ t ρ Qp ∧ ∀ W' H' o, Ext Z W H W' H' → Qp o → Q o H'
def pNoPart : PTO := fun _ Q => Q none
def pPart (t : PTE) : PTO := fun ρ Q => t ρ fun p => match p with
  | .int i => Q (some i)
  | _ => False
theorem POw {e : Option Expr} {t t' : TO} (h : PO X e t) (w : ∀ σ H Q, t' σ H Q → t σ H Q) : PO X e t' := ⟨fun pins s σ H Q I q => h.run pins s σ H Q I (w _ _ _ q)⟩
theorem qo_none : PO X none (liftO Z pNoPart) := POw po_none fun σ H Q ⟨W, H0, ρ, Qp, hh, S, t, q⟩ => q W H none (.refl hh) t
theorem qo_some {e : Expr} {t : PTE} (h : PE X e (lift Z t)) : PO X (some e) (liftO Z (pPart t)) := POw (po_some h) fun σ H Q ⟨W, H0, ρ, Qp, hh, S, t, q⟩ =>
  ⟨W, H0, ρ, _, hh, S, t, fun W1 H1 v p e1 d1 t1 => by
    cases d1 with
    | int i => exact ⟨i, rfl, q W1 H1 _ e1 t1⟩
    | _ => exact t1.elim⟩
def cutP (l : List PV) (lo hi : Option Int) : List PV := (l.drop (HT.sIx l.length 0 lo)).take (HT.sIx l.length l.length hi - HT.sIx l.length 0 lo)
theorem DatL.cut {K : PySem.W.Frag} {W : Wd} {xs : List V} {l : List PV} (d : DatL K W xs l) (lo hi : Option Int) : DatL K W (cutV xs lo hi) (cutP l lo hi) := by
  unfold cutV cutP
  rw [d.length]
  exact (d.drop _).take _
def pSlL (te : PTE) (tl th : PTO) : PTE := fun ρ Q => te ρ fun p => tl ρ fun lo => th ρ fun hi => match p with
  | .lst l => Q (.lst (cutP l lo hi))
  | .frz l => Q (.lst (cutP l lo hi))
  | _ => False
theorem q_sliceL {e : Expr} {te : PTE} {lo hi : Option Expr} {tl th : PTO} {p2 pos : Pos} (he : PE X e (lift Z te)) (hl : PO X lo (liftO Z tl)) (hu : PO X hi (liftO Z th)) (hK : X.K = Z.K := by rfl) : PE X (.Subscript e (.Slice lo hi none p2) pos) (lift Z (pSlL te tl th)) :=
  PEw (pe_slice sl_list he hl hu) fun σ H Q ⟨W, H0, ρ, Qp, hh, S, t, q⟩ => by
    refine ⟨W, H0, ρ, _, hh, S, t, fun W1 H1 x p e1 d1 t1 => ⟨W1, H0, ρ, _, e1.holds, S.ext e1, t1, fun W2 H2 o2 e2 t2 => ⟨W2, H0, ρ, _, e2.holds, (S.ext e1).ext e2, t2, fun W3 H3 o3 e3 t3 => ?_⟩⟩⟩
    have dx := (d1.mono e2.le).mono e3.le
    have E3 := (e1.trans hh e2).trans hh e3
    cases dx with
    | lst ha ra =>
      refine ⟨_, _, rfl, .of (e3.holds.ex ha fun z => z), fun p n => ?_⟩
      exact q _ _ _ _ (E3.trans hh (Ext.new e3.holds n)) (.lst Wd.add_at ((ra.cut o2 o3).mono (Wd.le_add (e3.holds.new n)))) t3
    | frz ha ra =>
      refine ⟨_, _, rfl, by rw [hK]; exact SqL.holds e3.holds ha, fun p n => ?_⟩
      exact q _ _ _ _ (E3.trans hh (Ext.new e3.holds n)) (.lst Wd.add_at ((ra.cut o2 o3).mono (Wd.le_add (e3.holds.new n)))) t3
    | _ => exact t3.elim
/-- a tuple's slice that is not the whole -/
def pSlT (te : PTE) (tl th : PTO) : PTE := fun ρ Q => te ρ fun p => tl ρ fun lo => th ρ fun hi => match p with
  | .tup l => (cutP l lo hi).length ≠ l.length ∧ Q (.tup (cutP l lo hi))
  | _ => False

end
end L3

/-! ## L3Z -/
/-! zip(a, b, strict=False) over two lists. -/
namespace PySem
namespace F
theorem zipk_call (a b c : Value) : checkTypeCall "zip" ⟨[a, b], [(Str.ofString "strict", c)]⟩ = pure () := by kernel_rfl
theorem zipk_new (a b c : Value) : checkBuiltinCall "zip.__new__" ⟨[.type "zip", a, b], [(Str.ofString "strict", c)]⟩ = pure () := by kernel_rfl
theorem zipk_init (o a b c : Value) : argsOk "object.__init__" ⟨[o, a, b], [(Str.ofString "strict", c)]⟩ := by unfold argsOk; kernel_rfl
end F
theorem meets_zipk (l1 l2 : Addr) (xs ys : Array Value) :
    Meets (Builtin.«zip.__new__» ⟨[.type "zip", .ref l1, .ref l2], [(Str.ofString "strict", .bool false)]⟩) (fun _ R s => s.heap.IsList l1 xs ∧ s.heap.IsList l2 ys ∧
      R (.ok (.ret (.ref (zipH4 s.heap l1 l2).objs.size))) { s with heap := zipH5 s.heap l1 l2 }) :=
  .of_wp fun prog w A R s h => by
    obtain ⟨hp, g, d, tk, os⟩ := s
    obtain ⟨k1, k2, h⟩ := h
    have hsub := sub_zip
    have L1 : Heap.IsList (Shared.heap ⟨hp, g, d, tk, os⟩) l1 xs := k1
    have L2 : Heap.IsList (Shared.heap ⟨hp.push { cls := .type "list_iterator", data := .fields #[.ref l1, .int 0 0] }, g, d, tk, os⟩) l2 ys := Heap.IsList.push k2 _
    have e1 : (Str.ofString "strict" != ("strict" : Str)) = false := by decide +kernel
    wp_walk using wpAny_pyIter_list L1, wpAny_pyIter_list L2
    exact ⟨_, rfl, h⟩
section
variable {prog : Program} {w : World} {A : Around} {E : Value → Shared → Prop} {s : Shared}
theorem call_zipk {l1 l2 : Addr} {xs ys : Array Value} {Q : Value → Shared → Prop} (k1 : s.heap.IsList l1 xs) (k2 : s.heap.IsList l2 ys)
    (h : ∀ h', IsZip h' (s.heap.objs.size + 4) (s.heap.objs.size + 2) (s.heap.objs.size + 3) .none → IsPair h' (s.heap.objs.size + 2) (.ref s.heap.objs.size) (.ref (s.heap.objs.size + 1)) →
      IsPair h' (s.heap.objs.size + 3) .none .none → h'.IsListIter s.heap.objs.size l1 0 → h'.IsListIter (s.heap.objs.size + 1) l2 0 →
      (∀ c o, s.heap.get? c = some o → h'.get? c = some o) → Q (.ref (s.heap.objs.size + 4)) { s with heap := h' }) :
    wpAny (model prog w) A (call (.type "zip") [.ref l1, .ref l2] [(Str.ofString "strict", .bool false)]) Q E s := by
  refine callType_newKw F.called_zip (by decide) (F.zipk_call _ _ _) (F.zipk_new _ _ _) (fun o => F.zipk_init o _ _ _) F.entry_zip_new (meets_zipk l1 l2 xs ys) ⟨k1, k2, ?_⟩
  have n1 : (zipH1 s.heap l1).objs.size = s.heap.objs.size + 1 := Heap.size_push ..
  have n2 : (zipH2 s.heap l1 l2).objs.size = s.heap.objs.size + 2 := by rw [Heap.size_push, n1]
  have n3 : (zipH3 s.heap l1 l2).objs.size = s.heap.objs.size + 3 := by rw [Heap.size_push, n2]
  have n4 : (zipH4 s.heap l1 l2).objs.size = s.heap.objs.size + 4 := by rw [Heap.size_push, n3]
  have p5 : (zipH5 s.heap l1 l2).get? (zipH4 s.heap l1 l2).objs.size = some _ := Heap.get?_push_size _ rfl
  have p4 : (zipH5 s.heap l1 l2).get? (zipH3 s.heap l1 l2).objs.size = some _ := Heap.get?_push_of_some _ (Heap.get?_push_size _ rfl)
  have p3 : (zipH5 s.heap l1 l2).get? (zipH2 s.heap l1 l2).objs.size = some _ := Heap.get?_push_of_some _ (Heap.get?_push_of_some _ (Heap.get?_push_size _ rfl))
  have p2 : (zipH5 s.heap l1 l2).get? (zipH1 s.heap l1).objs.size = some _ := Heap.get?_push_of_some _ (Heap.get?_push_of_some _ (Heap.get?_push_of_some _ (Heap.get?_push_size _ rfl)))
  have p1 : (zipH5 s.heap l1 l2).get? s.heap.objs.size = some _ := Heap.get?_push_of_some _ (Heap.get?_push_of_some _ (Heap.get?_push_of_some _ (Heap.get?_push_of_some _ (Heap.get?_push_size _ rfl))))
  show _ ∧ _
  rw [n2, n3, n4] at p5
  rw [n1, n2] at p3
  rw [n3] at p4
  rw [n1] at p2
  rw [n4]
  exact ⟨⟨_, p5, rfl⟩, h _ p5 p3 p4 ⟨_, p1, rfl, rfl⟩ ⟨_, p2, rfl, rfl⟩ fun c o x =>
    Heap.get?_push_of_some _ (Heap.get?_push_of_some _ (Heap.get?_push_of_some _ (Heap.get?_push_of_some _ (Heap.get?_push_of_some _ x))))⟩
/-- a built-in class called with keywords -/
theorem callWith_typeK {M : Model} {A : Around} {E : Value → Shared → Prop} {s : Shared} {env : Env} {pos : Pos} {T : String} {e : Expr} {rest : List Expr} {kws : List Keyword} {Q : Value → Shared → Prop}
    (h : wpAny M A (spliced (backTo pos (starEach (e :: rest) env))) (fun vs s₁ => wpAny M A (evalAll ((backToKw pos (keywordEach kws env)).map (·.2)))
      (fun kvs s₂ => wpAny M A (call (.type T) vs (((backToKw pos (keywordEach kws env)).filterMap (·.1)).zip kvs)) Q E s₂) E s₁) E s)
    (he : backTo pos (starEach (e :: rest) env) = (false, eval e env) :: backTo pos (starEach rest env) := by rfl)
    (hplain : (backTo pos (starEach (e :: rest) env)).any (·.1) = false := by rfl)
    (hall : (backToKw pos (keywordEach kws env)).all (·.1.isSome) = true := by rfl)
    (hkw : (backToKw pos (keywordEach kws env)).any (·.1.isNone) = false := by rfl) :
    wpAny M A (callWith pos (.type T) [] (backTo pos (starEach (e :: rest) env)) (backToKw pos (keywordEach kws env))) Q E s := by
  unfold callWith
  rw [he] at h hplain ⊢
  refine wpAny_bind (wpAny_holding (wpAny_mono (PyProof.Rows.evalArgs_kwB (Q := fun a s₂ => wpAny M A (call (.type T) a.pos a.kw) Q E s₂) hall h) (fun a s₁ h₁ => wpAny_bind (wpAny_standAt ?_)) fun _ _ x => x))
  simp only [hplain, hkw, Bool.or_false]
  refine wpAny_bind (wpAny_pure ?_)
  exact wpAny_bind (wpAny_mono h₁ (fun r s₂ hr => wpAny_bind (wpAny_holding (wpAny_point (wpAny_pure hr)))) fun _ _ x => x)
end
end PySem
namespace L3
open PySem PySem.Spec PyProof.Rows L2
theorem pi_zipk {X : Cx} {e e2 : Expr} {ta : TA} {j : Nat} {p pos kp cp tpos : Pos} {elts : List Expr} {kk : Nat} (hm : X.mg "zip" = none) (ha : PA X [e, e2] ta) (hg : Gl X "zip" := by rfl)
    (hs : starEach [e, e2] X.env = (false, eval e X.env) :: starEach [e2] X.env := by rfl)
    (he : backTo pos (starEach [e, e2] X.env) = (false, eval e X.env) :: backTo pos (starEach [e2] X.env) := by rfl)
    (hpl : (backTo pos (starEach [e, e2] X.env)).any (·.1) = false := by rfl)
    (ht : eval (.Call (.Name "zip" p) [e, e2] [⟨some "strict", .Constant (.bool false) j cp, kp⟩] pos) X.env = (do
      let fv ← eval (.Name "zip" p) X.env
      callWith pos fv [] (backTo pos (starEach [e, e2] X.env)) (backToKw pos (keywordEach [⟨some "strict", .Constant (.bool false) j cp, kp⟩] X.env))) := by rfl) :
    PI X (.Tuple elts kk tpos) (.Call (.Name "zip" p) [e, e2] [⟨some "strict", .Constant (.bool false) j cp, kp⟩] pos) (iZip X.K ta) := by
  refine ⟨fun pins s σ H R I h => ?_⟩
  rw [ht]
  refine wpAny_bind (ld_blt I hg hm PyProof.Rows.boot_zip (callWith_typeK (thn (ha.run pos pins s σ H _ I h) fun us s1 ⟨vs, H1, I1, r1, q1⟩ => ?_) he hpl))
  refine kws_cons (Constant_bool (kws_nil ?_))
  obtain ⟨a, b, xs, ys, ex, hqx, hqy, q⟩ := q1
  subst ex
  cases r1 with
  | cons r rr =>
    cases rr with
    | cons r' rr =>
      cases rr
      cases r
      cases r'
      obtain ⟨its, rv, p1, _⟩ := I1.list hqx
      obtain ⟨its2, rv2, p2, _⟩ := I1.list hqy
      have la : a < s1.heap.objs.size := p1.lt
      have lb : b < s1.heap.objs.size := p2.lt
      refine call_zipk p1.isList p2.isList fun h' hz hTI hTO h1 h2 hk => wpAny_pyIter_zip hz ?_
      have I2 : Inv X pins σ H1 { s1 with heap := h' } := I1.kept (t' := s1.toks) hk
      refine ⟨s1.heap.objs.size + 4, [s1.heap.objs.size + 4, s1.heap.objs.size + 2, s1.heap.objs.size + 3, s1.heap.objs.size, s1.heap.objs.size + 1], _, _, H1, rfl, I2, turn_zip (PySem.W.ktu_apart s1.heap.objs.size a b la lb), ⟨hz, hTI, ⟨_, _, hTO⟩, h1, h2⟩, fun c hcm => ?_, q⟩
      have hle : s1.heap.objs.size ≤ c := by
        have e' : c = s1.heap.objs.size + 4 ∨ c = s1.heap.objs.size + 2 ∨ c = s1.heap.objs.size + 3 ∨ c = s1.heap.objs.size ∨ c = s1.heap.objs.size + 1 := by simpa using hcm
        rcases e' with z | z | z | z | z <;> rw [z] <;> first | exact Nat.le_refl _ | exact Nat.le_add_right _ _
      exact I1.fpOk hle (I1.hok.fresh hle)
def zipP : List PV → List PV → List PV
  | p :: ps, q :: qs => .tup [p, q] :: zipP ps qs
  | _, _ => []
theorem zipP_get : ∀ {l m : List PV} {i : Nat} {r : PV}, (zipP l m)[i]? = some r → ∃ p q, l[i]? = some p ∧ m[i]? = some q ∧ r = .tup [p, q]
  | [], _, i, r, h => by simp [zipP] at h
  | p :: l, [], i, r, h => by simp [zipP] at h
  | p :: l, q :: m, 0, r, h => by simp [zipP] at h; exact ⟨p, q, rfl, rfl, h.symm⟩
  | p :: l, q :: m, i + 1, r, h => by
    have h' : (zipP l m)[i]? = some r := by simpa [zipP] using h
    obtain ⟨a, b, h1, h2, h3⟩ := zipP_get h'
    exact ⟨a, b, by simpa using h1, by simpa using h2, h3⟩
theorem zipP_length : ∀ (l m : List PV), (zipP l m).length = min l.length m.length
  | [], _ => by simp [zipP]
  | p :: l, [] => by simp [zipP]
  | p :: l, q :: m => by simp only [zipP, List.length_cons, zipP_length l m]; omega
def pZip (ta : PTA) : PTI := fun ρ Q => ta ρ fun ps => match ps with
  | [.lst l, .lst m] => Q (zipP l m)
  | _ => False
section
variable {X : Cx} {Z : Par}
theorem serves_zip {K : PySem.W.Frag} {W : Wd} {H : Hp} {a b : Addr} {xs ys : List V} {l m : List PV} (ha : W.D a = some (.lst xs)) (hb : W.D b = some (.lst ys)) (da : DatL Z.K W xs l) (db : DatL Z.K W ys m) : Serves Z W H (Itz K a b) (zipP l m) := fun W1 H1 le h1 => by
  have ka : SqL K H1 a xs := .of (h1.ex (le.le.d _ _ ha) fun z => z)
  have kb : SqL K H1 b ys := .of (h1.ex (le.le.d _ _ hb) fun z => z)
  refine ⟨fun i hi => ⟨xs, ys, ka, kb, ?_⟩, fun i p hp => ?_⟩
  · rw [zipP_length] at hi
    rw [da.length, db.length]
    omega
  · obtain ⟨p1, p2, h2, h3, rfl⟩ := zipP_get hp
    obtain ⟨v1, hv1, d1⟩ := da.getP h2
    obtain ⟨v2, hv2, d2⟩ := db.getP h3
    refine ⟨⟨xs, ys, v1, v2, ka, kb, hv1, hv2⟩, fun x H2 ⟨T, x1, y1, e1, n, e2, g1, g2⟩ => ?_⟩
    subst e1 e2
    have z1 := g1 xs ka
    have z2 := g2 ys kb
    rw [hv1] at z1
    rw [hv2] at z2
    cases z1
    cases z2
    have e := Ext.new (o := .tup [v1, v2]) h1 n
    exact ⟨_, e, .tup Wd.add_at (.cons ((d1.mono le.le).mono e.le) (.cons ((d2.mono le.le).mono e.le) .nil))⟩
theorem qi_zipk {e e2 : Expr} {ta : PTA} {j : Nat} {p pos kp cp tpos : Pos} {elts : List Expr} {kk : Nat} (hm : X.mg "zip" = none) (ha : PA X [e, e2] (liftA Z ta)) (hg : Gl X "zip" := by rfl)
    (hs : starEach [e, e2] X.env = (false, eval e X.env) :: starEach [e2] X.env := by rfl)
    (he : backTo pos (starEach [e, e2] X.env) = (false, eval e X.env) :: backTo pos (starEach [e2] X.env) := by rfl)
    (hpl : (backTo pos (starEach [e, e2] X.env)).any (·.1) = false := by rfl)
    (ht : eval (.Call (.Name "zip" p) [e, e2] [⟨some "strict", .Constant (.bool false) j cp, kp⟩] pos) X.env = (do
      let fv ← eval (.Name "zip" p) X.env
      callWith pos fv [] (backTo pos (starEach [e, e2] X.env)) (backToKw pos (keywordEach [⟨some "strict", .Constant (.bool false) j cp, kp⟩] X.env))) := by rfl) :
    PI X (.Tuple elts kk tpos) (.Call (.Name "zip" p) [e, e2] [⟨some "strict", .Constant (.bool false) j cp, kp⟩] pos) (liftI Z (pZip ta)) :=
  PIw (pi_zipk hm ha hg hs he hpl ht) fun σ H R ⟨W, H0, ρ, Qp, hh, S, t, q⟩ => by
    refine ⟨W, H0, ρ, _, hh, S, t, fun W1 H1 vs ps e1 d1 t1 => ?_⟩
    split at t1
    · cases d1 with
      | cons d1 d2 => cases d1 with
        | lst h1 r1 => cases d2 with
          | cons d2 d3 => cases d2 with
            | lst h2 r2 => cases d3 with
              | nil => exact ⟨_, _, _, _, rfl, .of (e1.holds.ex h1 fun z => z), .of (e1.holds.ex h2 fun z => z), q W1 H1 _ _ e1 (serves_zip h1 h2 r1 r2) t1⟩
    · exact t1.elim
end
end L3

/-! ## L3F -/
/-! Built-in calls, instances, dicts walked, further comprehensions. -/
namespace L3
open PySem PySem.Spec PyProof.Rows L2

section
variable {X : Cx} {Z : Par}
/-! ### calls -/
def kLen : PKA := fun ps Q => match ps with
  | [.lst l] => Q (.int l.length)
  | [.frz l] => Q (.int l.length)
  | [.tup l] => Q (.int l.length)
  | [.str z] => z.length ≤ sizeLine ∧ Q (.int z.length)
  | _ => False
theorem c_len (hK : X.K = Z.K := by rfl) : CallP Z X (.builtin "len") kLen := ⟨_, call_len, fun W H xs ps Q Qp hh d t k => by
  unfold kLen at t
  split at t
  · cases d with
    | cons d1 d2 => cases d2; cases d1 with
      | lst ha r => exact ⟨_, _, rfl, .inl ⟨_, .of (hh.ex ha fun z => z), r.length.symm⟩, k W H _ _ (.refl hh) (.int _) t⟩
  · cases d with
    | cons d1 d2 => cases d2; cases d1 with
      | frz ha r => exact ⟨_, _, rfl, .inl ⟨_, by rw [hK]; exact SqL.holds hh ha, r.length.symm⟩, k W H _ _ (.refl hh) (.int _) t⟩
  · cases d with
    | cons d1 d2 => cases d2; cases d1 with
      | tup ha r => exact ⟨_, _, rfl, .inr ⟨_, .of (hh.ex ha fun z => z), r.length.symm⟩, k W H _ _ (.refl hh) (.int _) t⟩
  · cases d with
    | cons d1 d2 => cases d2; cases d1 with
      | str => exact ⟨_, _, rfl, ⟨t.1, rfl⟩, k W H _ _ (.refl hh) (.int _) t.2⟩
  · exact t.elim⟩
def kLenD : PKA := fun ps Q => match ps with
  | [.dic l] => Q (.int l.length)
  | _ => False
theorem call_lenDR : CallR X (.builtin "len") (fun xs H Q => ∃ a kvs, xs = [V.ref a] ∧ Rd H a (.dK kvs) ∧ Q (.int kvs.length) H) := by
  intro pins s σ H xs us Q I r h
  obtain ⟨a, kvs, rfl, ha, q⟩ := h
  obtain ⟨u, rfl, ru⟩ := vals1 r
  cases ru
  exact d_len I ha fun t s' I' => ⟨.int kvs.length, H, I', ⟨t, rfl⟩, q⟩
theorem c_lenD : CallP Z X (.builtin "len") kLenD := ⟨_, call_lenDR, fun W H xs ps Q Qp hh d t k => by
  unfold kLenD at t
  split at t
  · cases d with
    | cons d1 d2 => cases d2; cases d1 with
      | dic ha r => exact ⟨_, _, rfl, hh.rd ha, by rw [r.length]; exact k W H _ _ (.refl hh) (.int _) t⟩
  · exact t.elim⟩
def kAbs : PKA := fun ps Q => match ps with
  | [.int i] => Q (.int (if i < 0 then -i else i))
  | _ => False
theorem c_abs : CallP Z X (.builtin "abs") kAbs := ⟨_, call_abs, fun W H xs ps Q Qp hh d t k => by
  unfold kAbs at t
  split at t
  · cases d with
    | cons d1 d2 => cases d2; cases d1; exact ⟨_, rfl, k W H _ _ (.refl hh) (.int _) t⟩
  · exact t.elim⟩
def kMax2 : PKA := fun ps Q => match ps with
  | [.int i, .int j] => Q (.int (if j > i then j else i))
  | _ => False
theorem c_max2 (hc : X.calm = true := by rfl) : CallP Z X (.builtin "max") kMax2 := ⟨_, call_max2 hc, fun W H xs ps Q Qp hh d t k => by
  unfold kMax2 at t
  split at t
  · cases d with
    | cons d1 d2 => cases d2 with
      | cons d2 d3 => cases d3; cases d1; cases d2; exact ⟨_, _, rfl, k W H _ _ (.refl hh) (.int _) t⟩
  · exact t.elim⟩
def kMin2 : PKA := fun ps Q => match ps with
  | [.int i, .int j] => Q (.int (if j < i then j else i))
  | _ => False
theorem c_min2 (hc : X.calm = true := by rfl) : CallP Z X (.builtin "min") kMin2 := ⟨_, call_min2 hc, fun W H xs ps Q Qp hh d t k => by
  unfold kMin2 at t
  split at t
  · cases d with
    | cons d1 d2 => cases d2 with
      | cons d2 d3 => cases d3; cases d1; cases d2; exact ⟨_, _, rfl, k W H _ _ (.refl hh) (.int _) t⟩
  · exact t.elim⟩
def kInt : PKA := fun ps Q => match ps with
  | [.int i] => Q (.int i)
  | [.bl b] => Q (.int (if b then 1 else 0))
  | _ => False
theorem c_int : CallP Z X (.type "int") kInt := ⟨_, call_int1, fun W H xs ps Q Qp hh d t k => by
  unfold kInt at t
  split at t
  · cases d with
    | cons d1 d2 => cases d2; cases d1; exact .inl ⟨_, rfl, k W H _ _ (.refl hh) (.int _) t⟩
  · cases d with
    | cons d1 d2 => cases d2; cases d1; exact .inr ⟨_, rfl, k W H _ _ (.refl hh) (.int _) t⟩
  · exact t.elim⟩
/-- lists of ints, of bools, of texts -/
def intsP : List PV → Option (List Int)
  | [] => some []
  | .int i :: r => (intsP r).map (i :: ·)
  | _ => none
def blsP : List PV → Option (List Bool)
  | [] => some []
  | .bl b :: r => (blsP r).map (b :: ·)
  | _ => none
def strsP : List PV → Option (List Str)
  | [] => some []
  | .str x :: r => (strsP r).map (x :: ·)
  | _ => none
theorem DatL.ints {K : PySem.W.Frag} {W : Wd} : ∀ {vs : List V} {ps : List PV} {ns : List Int}, DatL K W vs ps → intsP ps = some ns → vs = ns.map V.int
  | _, _, _, .nil, e => by cases e; rfl
  | _, p :: r, ns, .cons h t, e => by
    unfold intsP at e
    split at e
    · rename_i z
      cases z
    · rename_i e1
      cases e1
      simp only [Option.map_eq_some_iff] at e
      obtain ⟨ms, e1, e2⟩ := e
      subst e2
      cases h
      rw [t.ints e1] <;> rfl
    · cases e
theorem DatL.bls {K : PySem.W.Frag} {W : Wd} : ∀ {vs : List V} {ps : List PV} {ns : List Bool}, DatL K W vs ps → blsP ps = some ns → vs = ns.map V.bl
  | _, _, _, .nil, e => by cases e; rfl
  | _, p :: r, ns, .cons h t, e => by
    unfold blsP at e
    split at e
    · rename_i z
      cases z
    · rename_i e1
      cases e1
      simp only [Option.map_eq_some_iff] at e
      obtain ⟨ms, e1, e2⟩ := e
      subst e2
      cases h
      rw [t.bls e1] <;> rfl
    · cases e
theorem DatL.strs {K : PySem.W.Frag} {W : Wd} : ∀ {vs : List V} {ps : List PV} {ns : List Str}, DatL K W vs ps → strsP ps = some ns → vs = ns.map V.str
  | _, _, _, .nil, e => by cases e; rfl
  | _, p :: r, ns, .cons h t, e => by
    unfold strsP at e
    split at e
    · rename_i z
      cases z
    · rename_i e1
      cases e1
      simp only [Option.map_eq_some_iff] at e
      obtain ⟨ms, e1, e2⟩ := e
      subst e2
      cases h
      rw [t.strs e1] <;> rfl
    · cases e
theorem DatL.ofInts {K : PySem.W.Frag} {W : Wd} : ∀ ns : List Int, DatL K W (ns.map V.int) (ns.map PV.int)
  | [] => .nil
  | n :: r => .cons (.int n) (DatL.ofInts r)
theorem DatL.ofStrs {K : PySem.W.Frag} {W : Wd} : ∀ ns : List Str, DatL K W (ns.map V.str) (ns.map PV.str)
  | [] => .nil
  | n :: r => .cons (.str n) (DatL.ofStrs r)
def kSum : PKA := fun ps Q => match ps with
  | [.lst l] => (match intsP l with | some ns => Q (.int ns.sum) | none => False)
  | _ => False
theorem c_sum (hK : X.K = Z.K := by rfl) (hc : X.calm = true := by rfl) : CallP Z X (.builtin "sum") kSum := ⟨_, cr_sum hc, fun W H xs ps Q Qp hh d t k => by
  unfold kSum at t
  split at t
  · split at t
    · rename_i ns e
      cases d with
      | cons d1 d2 => cases d2; cases d1 with
        | lst ha r => exact ⟨_, ns, rfl, .of (by rw [← r.ints e]; exact hh.ex ha fun z => z), k W H _ _ (.refl hh) (.int _) t⟩
    · exact t.elim
  · exact t.elim⟩
def kAll : PKA := fun ps Q => match ps with
  | [.lst l] => (match blsP l with | some ns => Q (.bl (ns.all id)) | none => False)
  | _ => False
def kAny : PKA := fun ps Q => match ps with
  | [.lst l] => (match blsP l with | some ns => Q (.bl (ns.any id)) | none => False)
  | _ => False
theorem c_all (hK : X.K = Z.K := by rfl) (hc : X.calm = true := by rfl) : CallP Z X (.builtin "all") kAll := ⟨_, cr_all hc, fun W H xs ps Q Qp hh d t k => by
  unfold kAll at t
  split at t
  · split at t
    · rename_i ns e
      cases d with
      | cons d1 d2 => cases d2; cases d1 with
        | lst ha r => exact ⟨_, ns, rfl, .of (by rw [← r.bls e]; exact hh.ex ha fun z => z), k W H _ _ (.refl hh) (.bl _) t⟩
    · exact t.elim
  · exact t.elim⟩
theorem c_any (hK : X.K = Z.K := by rfl) (hc : X.calm = true := by rfl) : CallP Z X (.builtin "any") kAny := ⟨_, cr_any hc, fun W H xs ps Q Qp hh d t k => by
  unfold kAny at t
  split at t
  · split at t
    · rename_i ns e
      cases d with
      | cons d1 d2 => cases d2; cases d1 with
        | lst ha r => exact ⟨_, ns, rfl, .of (by rw [← r.bls e]; exact hh.ex ha fun z => z), k W H _ _ (.refl hh) (.bl _) t⟩
    · exact t.elim
  · exact t.elim⟩
def kList : PKA := fun ps Q => match ps with
  | [.lst l] => Q (.lst l)
  | [.tup l] => Q (.lst l)
  | _ => False
theorem c_list (hK : X.K = Z.K := by rfl) : CallP Z X (.type "list") kList := ⟨_, call_list_of, fun W H xs ps Q Qp hh d t k => by
  unfold kList at t
  split at t
  · cases d with
    | cons d1 d2 => cases d2; cases d1 with
      | lst ha r => exact ⟨_, _, rfl, .inl (.of (hh.ex ha fun z => z)), fun p n => k _ _ _ _ (Ext.new hh n) (.lst Wd.add_at (r.mono (Wd.le_add (hh.new n)))) t⟩
  · cases d with
    | cons d1 d2 => cases d2; cases d1 with
      | tup ha r => exact ⟨_, _, rfl, .inr (.of (hh.ex ha fun z => z)), fun p n => k _ _ _ _ (Ext.new hh n) (.lst Wd.add_at (r.mono (Wd.le_add (hh.new n)))) t⟩
  · exact t.elim⟩
def keyPV : Key → PV
  | .inl i => .int i
  | .inr x => .str x
theorem DatL.ofKeys {K : PySem.W.Frag} {W : Wd} : ∀ {vs : List (Key × V)} {ps : List (Key × PV)}, DatK K W vs ps → DatL K W (vs.map fun kv => kV kv.1) (ps.map fun kv => keyPV kv.1)
  | _, _, .nil => .nil
  | _, _, .cons (k := .inl i) h t => .cons (.int i) (DatL.ofKeys t)
  | _, _, .cons (k := .inr i) h t => .cons (.str i) (DatL.ofKeys t)
def kListD : PKA := fun ps Q => match ps with
  | [.dic l] => Q (.lst (l.map fun kv => keyPV kv.1))
  | _ => False
theorem c_listD (hc : X.calm = true := by rfl) : CallP Z X (.type "list") kListD := ⟨_, call_listD hc, fun W H xs ps Q Qp hh d t k => by
  unfold kListD at t
  split at t
  · cases d with
    | cons d1 d2 => cases d2; cases d1 with
      | dic ha r => exact ⟨_, _, rfl, hh.rd ha, fun p n => k _ _ _ _ (Ext.new hh n) (.lst Wd.add_at (DatL.ofKeys (r.mono (Wd.le_add (hh.new n))))) t⟩
  · exact t.elim⟩
/-- sorted of ints -/
def kSortI : PKA := fun ps Q => match ps with
  | [.lst l] => (match intsP l with | some ns => ∀ ns' : List Int, ns'.Perm ns → ns'.Pairwise (· ≤ ·) → Q (.lst (ns'.map PV.int)) | none => False)
  | _ => False
theorem c_sortI (hK : X.K = Z.K := by rfl) : CallP Z X (.builtin "sorted") kSortI := ⟨_, cr_sortedI, fun W H xs ps Q Qp hh d t k => by
  unfold kSortI at t
  split at t
  · split at t
    · rename_i ns e
      cases d with
      | cons d1 d2 => cases d2; cases d1 with
        | lst ha r => exact ⟨_, ns, rfl, .of (by rw [← r.ints e]; exact hh.ex ha fun z => z), fun ns' p h1 h2 n => k _ _ _ _ (Ext.new hh n) (.lst Wd.add_at (DatL.ofInts ns')) (t ns' h1 h2)⟩
    · exact t.elim
  · exact t.elim⟩
/-- sorted of a dict's text keys -/
def keysS {α : Type} : List (Key × α) → Option (List Str)
  | [] => some []
  | (.inr x, _) :: r => (keysS r).map (x :: ·)
  | _ => none
theorem DatK.keysS {K : PySem.W.Frag} {W : Wd} : ∀ {vs : List (Key × V)} {ps : List (Key × PV)} {ks : List Str}, DatK K W vs ps → L3.keysS ps = some ks → vs.map (·.1) = ks.map Sum.inr
  | _, _, _, .nil, e => by cases e; rfl
  | _, _, ks, .cons (k := .inr x) h t, e => by
    simp only [L3.keysS, Option.map_eq_some_iff] at e
    obtain ⟨ms, e1, e2⟩ := e
    subst e2
    simp only [List.map_cons, DatK.keysS t e1]
  | _, _, _, .cons (k := .inl i) h t, e => by cases e
def kSortD : PKA := fun ps Q => match ps with
  | [.dic l] => (match keysS l with | some ks => ks.length < 64 ∧ ∀ ys : List Str, ys.Perm ks → sortedS ys = true → Q (.lst (ys.map PV.str)) | none => False)
  | _ => False
theorem c_sortD (hc : X.calm = true := by rfl) : CallP Z X (.builtin "sorted") kSortD := ⟨_, call_sortedD hc, fun W H xs ps Q Qp hh d t k => by
  unfold kSortD at t
  split at t
  · split at t
    · rename_i ks e
      cases d with
      | cons d1 d2 => cases d2; cases d1 with
        | dic ha r => exact ⟨_, _, ks, rfl, hh.rd ha, r.keysS e, t.1, fun ys p h1 h2 n => k _ _ _ _ (Ext.new hh n) (.lst Wd.add_at (DatL.ofStrs ys)) (t.2 ys h1 h2)⟩
    · exact t.elim
  · exact t.elim⟩
/-- sorted of texts -/
def kSortS : PKA := fun ps Q => match ps with
  | [.lst l] => (match strsP l with | some ks => ks.length < 64 ∧ ∀ ys : List Str, ys.Perm ks → sortedS ys = true → Q (.lst (ys.map PV.str)) | none => False)
  | _ => False
theorem c_sortS : CallP Z X (.builtin "sorted") kSortS := ⟨_, cr_sortedS, fun W H xs ps Q Qp hh d t k => by
  unfold kSortS at t
  split at t
  · split at t
    · rename_i ks e
      cases d with
      | cons d1 d2 => cases d2; cases d1 with
        | lst ha r => exact ⟨_, ks, rfl, .of (by rw [← r.strs e]; exact hh.ex ha fun z => z), t.1, fun ys p h1 h2 n => k _ _ _ _ (Ext.new hh n) (.lst Wd.add_at (DatL.ofStrs ys)) (t.2 ys h1 h2)⟩
    · exact t.elim
  · exact t.elim⟩

/-! ### isinstance -/
def tyP : PV → Option String
  | .non => some "NoneType"
  | .bl _ => some "bool"
  | .int _ => some "int"
  | .str _ => some "str"
  | .tup _ => some "tuple"
  | .lst _ => some "list"
  | .dic _ => some "dict"
  | _ => none
theorem tyP_ok {W : Wd} {H : Hp} {v : V} {p : PV} {n : String} (hh : Holds Z W H) (d : Dat Z.K W v p) (e : tyP p = some n) : TyX Z.K H v (.type n) := by
  cases d with
  | non => cases e; exact .base .non
  | bl => cases e; exact .base (.bl _)
  | int => cases e; exact .base (.int _)
  | str => cases e; exact .base (.str _)
  | tup h => cases e; exact .base (.tup (hh.ex h fun z => z))
  | lst h => cases e; exact .base (.lst (hh.ex h fun z => z))
  | dic h =>
    cases e
    rcases hh.rd h with q | ⟨o, q⟩
    · exact .base (.dK q)
    · exact .fDict q
  | _ => cases e
def kIsi : PKA := fun ps Q => match ps with
  | [p, .ty n] => (match tyP p with
    | some m => (match kitB m n with | some b => Q (.bl b) | none => False)
    | none => False)
  | _ => False
theorem c_isi (hK : X.K = Z.K := by rfl) : CallP Z X (.builtin "isinstance") kIsi := ⟨_, call_isi, fun W H xs ps Q Qp hh d t k => by
  unfold kIsi at t
  split at t
  · split at t
    · rename_i m e
      split at t
      · rename_i b eb
        cases d with
        | cons d1 d2 => cases d2 with
          | cons d2 d3 => cases d3; cases d2; exact ⟨_, _, .type m, _, b, rfl, .ty _, by rw [hK]; exact tyP_ok hh d1 e, kit_ty eb, k W H _ _ (.refl hh) (.bl _) t⟩
      · exact t.elim
    · exact t.elim
  · exact t.elim⟩
def kIsi2 : PKA := fun ps Q => match ps with
  | [p, .tup [.ty n, .ty n']] => (match tyP p with
    | some m => (match kitB m n, kitB m n' with | some b, some b' => Q (.bl (b || b')) | _, _ => False)
    | none => False)
  | _ => False
theorem c_isi2 (hK : X.K = Z.K := by rfl) : CallP Z X (.builtin "isinstance") kIsi2 := ⟨_, call_isiT, fun W H xs ps Q Qp hh d t k => by
  unfold kIsi2 at t
  split at t
  · split at t
    · rename_i m e
      split at t
      · rename_i b b' eb eb'
        cases d with
        | cons d1 d2 => cases d2 with
          | cons d2 d3 => cases d3; cases d2 with
            | tup h r => cases r with
              | cons r1 r2 => cases r2 with
                | cons r2 r3 => cases r1; cases r2; cases r3
                                refine ⟨_, _, _, .type m, _, b || b', rfl, hh.ex h (fun z => z), .cons (.ty _) (.cons (.ty _) .nil), by rw [hK]; exact tyP_ok hh d1 e, ?_, k W H _ _ (.refl hh) (.bl _) t⟩
                                refine kitAny_cons (kit_ty eb) (fun z => ?_) fun z => by rw [z]; rfl
                                refine kitAny_cons (kit_ty eb') (fun z2 => ?_) fun z2 => by rw [z2, Bool.or_true]
                                rw [z, z2]
                                exact kitAny_nil
      · exact t.elim
    · exact t.elim
  · exact t.elim⟩

/-! ### instances -/
/-- what the class named c needs -/
abbrev ClsP (Z : Par) (c : Str) : Prop := Cls Z.K (He.ga Z.K c)
def pFld (c f : Str) (t : PTE) : PTE := fun ρ Q => t ρ fun p => match p with
  | .obj c' fs => c' = c ∧ (match fs.lookup f with | some r => Q r | none => False)
  | _ => False
theorem q_fld {e : Expr} {c f : Str} {pos : Pos} {t : PTE} (cl : ClsP Z c) (na : NoAttr Z.K (He.ga Z.K c) f) (he : PE X e (lift Z t)) (hK : X.K = Z.K := by rfl) (hb : attributeBase e f X.env (eval e X.env) = eval e X.env := by rfl) : PE X (.Attribute e f pos) (lift Z (pFld c f t)) :=
  PEw (pe_fld he hb) fun σ H Q ⟨W, H0, ρ, Qp, hh, S, t, q⟩ => by
    refine ⟨W, H0, ρ, _, hh, S, t, fun W1 H1 v p e1 d1 t1 => ?_⟩
    split at t1
    · obtain ⟨ec, t1⟩ := t1
      subst ec
      split at t1
      · rename_i r er
        cases d1 with
        | obj ha rs =>
          obtain ⟨w, hw, dw⟩ := rs.look er
          exact ⟨_, _, _, _, w, rfl, e1.holds.ex ha (fun z => z), by rw [hK]; exact cl, by rw [hK]; exact na, hw, q W1 H1 _ _ e1 dw t1⟩
      · exact t1.elim
    · exact t1.elim
/-- a method (or property's getter, or special method) of the class named c keeps Φ -/
structure MtC (P : Program) (w : World) (mg : Str → Option Value) (Z : Par) (c m : Str) (k n : Nat) (Φ : Con) : Prop where
  ex : ∃ (f : Addr) (fd : FuncData) (ps : List Str), Meth Z.K (He.ga Z.K c) m f ∧ Binds Z.K fd ps [] ∧ ps.length = n ∧ ∀ base : Heap, FnOk P w Z.K mg base CX0 k f fd ps (spP Z Φ)
  cl : Cls Z.K (He.ga Z.K c)
def pMeth (c m : Str) (Φ : Con) (to : PTE) (t : PTA) : PTE := fun ρ Q => to ρ fun p => match p with
  | .obj c' fs => c' = c ∧ fs.lookup m = none ∧ t ρ fun ps => Φ (.obj c' fs :: ps) Q
  | _ => False
theorem lift_meth {c m : Str} {Φ : Con} {to : PTE} {t : PTA} (σ : L2.St) (H : Hp) (Q : VK) (h : lift Z (pMeth c m Φ to t) σ H Q) : tMeth (He.ga Z.K c) m (spP Z Φ) [] E0 (lift Z to) (liftA Z t) σ H Q := by
  obtain ⟨W, H0, ρ, Qp, hh, S, t, q⟩ := h
  refine ⟨W, H0, ρ, _, hh, S, t, fun W1 H1 v p e1 d1 t1 => ?_⟩
  split at t1
  · obtain ⟨ec, l, t1⟩ := t1
    subst ec
    have d1' := d1
    cases d1 with
    | obj ha rs =>
      refine ⟨_, _, _, rfl, e1.holds.ex ha (fun z => z), rs.lookN l, W1, H0, ρ, _, e1.holds, S.ext e1, t1, fun W2 H2 vs ps e2 d2 t2 => ?_⟩
      show spP Z Φ (_ :: (vs ++ [])) H2 Q E0
      rw [List.append_nil]
      exact ⟨W2, _, Qp, e2.holds, .cons (d1'.mono e2.le) d2, t2, fun W3 H3 v p e3 d3 t3 => q W3 H3 v p ((e1.trans hh e2).trans hh e3) d3 t3⟩
  · exact t1.elim
theorem q_meth {c m : Str} {k j n : Nat} {Φ : Con} {pos apos : Pos} {o e : Expr} {es : List Expr} {to : PTE} {t : PTA} {pl : Sem Bool} (M : MtC X.prog X.w X.mg Z c m k n Φ) (hr : Room j X.A) (he : PE X o (lift Z to)) (ha : PA X (e :: es) (liftA Z t)) (hK : X.K = Z.K := by rfl) (hj : k ≤ j := by decide)
    (hst : starEach (e :: es) X.env = (false, eval e X.env) :: starEach es X.env := by rfl) (hpl : (backTo pos (starEach es X.env)).any (·.1) = false := by rfl)
    (ht : eval (.Call (.Attribute o m apos) (e :: es) [] pos) X.env = (do
      let ov ← eval o X.env
      standAt apos.atName
      let (f, first) ← holding [ov] (getMethod ov m pl)
      callWith pos f first (backTo pos (starEach (e :: es) X.env)) (backToKw pos (keywordEach [] X.env))) := by rfl) :
    PE X (.Call (.Attribute o m apos) (e :: es) [] pos) (lift Z (pMeth c m Φ to t)) := by
  obtain ⟨f, fd, ps, hm, b, hn, F⟩ := M.ex
  have cl := M.cl
  rw [← hK] at hm b cl
  exact PEw (pe_meth he cl hm (hK ▸ F X.base) (hr.mono hj) b .nil pass0 ha hst hpl ht) fun σ H Q h => by rw [hK]; exact lift_meth σ H Q h
theorem q_meth0 {c m : Str} {k j n : Nat} {Φ : Con} {pos apos : Pos} {o : Expr} {to : PTE} {pl : Sem Bool} (M : MtC X.prog X.w X.mg Z c m k n Φ) (hr : Room j X.A) (he : PE X o (lift Z to)) (hK : X.K = Z.K := by rfl) (hj : k ≤ j := by decide)
    (ht : eval (.Call (.Attribute o m apos) [] [] pos) X.env = (do
      let ov ← eval o X.env
      standAt apos.atName
      let (f, first) ← holding [ov] (getMethod ov m pl)
      callWith pos f first (backTo pos (starEach [] X.env)) (backToKw pos (keywordEach [] X.env))) := by rfl) :
    PE X (.Call (.Attribute o m apos) [] [] pos) (lift Z (pMeth c m Φ to pNil)) := by
  obtain ⟨f, fd, ps, hm, b, hn, F⟩ := M.ex
  have cl := M.cl
  rw [← hK] at hm b cl
  refine PEw (pe_meth0 he cl hm (hK ▸ F X.base) (hr.mono hj) b .nil pass0 ht) fun σ H Q h => ?_
  rw [hK]
  have z := lift_meth σ H Q h
  obtain ⟨W, H0, ρ, Qp, hh, S, t, q⟩ := z
  refine ⟨W, H0, ρ, Qp, hh, S, t, fun W1 H1 v p e1 d1 t1 => ?_⟩
  obtain ⟨a, dx, fs, h1, h2, h3, W2, H2, ρ2, Qp2, hh2, S2, t2, q2⟩ := q W1 H1 v p e1 d1 t1
  exact ⟨a, dx, fs, h1, h2, h3, q2 W2 H1 [] [] (.refl hh2) .nil t2⟩
/-- a property -/
structure PrC (P : Program) (w : World) (mg : Str → Option Value) (Z : Par) (c f : Str) (k : Nat) (Φ : Con) : Prop where
  ex : ∃ (p g : Addr) (fd : FuncData) (ps : List Str), PropOf Z.K (He.ga Z.K c) f p g ∧ Binds Z.K fd ps [] ∧ ∀ base : Heap, FnOk P w Z.K mg base CX0 k g fd ps (spP Z Φ)
  cl : Cls Z.K (He.ga Z.K c)
def pProp (c : Str) (Φ : Con) (t : PTE) : PTE := fun ρ Q => t ρ fun p => match p with
  | .obj c' fs => c' = c ∧ Φ [.obj c' fs] Q
  | _ => False
theorem q_prop {e : Expr} {c f : Str} {k j : Nat} {Φ : Con} {pos : Pos} {t : PTE} (M : PrC X.prog X.w X.mg Z c f k Φ) (hr : Room j X.A) (he : PE X e (lift Z t)) (hK : X.K = Z.K := by rfl) (hj : k + 1 ≤ j := by decide) (hab : attributeBase e f X.env (eval e X.env) = eval e X.env := by rfl) :
    PE X (.Attribute e f pos) (lift Z (pProp c Φ t)) := by
  obtain ⟨p, g, fd, ps, hp, b, F⟩ := M.ex
  have cl := M.cl
  rw [← hK] at hp b cl
  refine PEw (pe_prop he cl hp (hK ▸ F X.base) (hr.mono hj) b .nil pass0 hab) fun σ H Q ⟨W, H0, ρ, Qp, hh, S, t, q⟩ => ?_
  refine ⟨W, H0, ρ, _, hh, S, t, fun W1 H1 v p e1 d1 t1 => ?_⟩
  split at t1
  · obtain ⟨ec, t1⟩ := t1
    subst ec
    have d1' := d1
    cases d1 with
    | obj ha rs => exact ⟨_, _, _, rfl, by rw [hK]; exact e1.holds.ex ha (fun z => z), W1, _, Qp, e1.holds, .cons d1' .nil, t1, fun W3 H3 v p e3 d3 t3 => q W3 H3 v p (e1.trans hh e3) d3 t3⟩
  · exact t1.elim
end
end L3

/-! ## L3G -/
/-! Own __contains__, dicts walked, values(), get, dict and set comprehensions, two clauses, stars. -/
namespace L3
open PySem PySem.Spec PyProof.Rows L2

section
variable {X : Cx} {Z : Par}
/-! ### in, by an own __contains__ -/
theorem own_contains {P : Program} {w : World} {K : PySem.W.Frag} {A : Around} {E : Value → Shared → Prop} {s : Shared} {a C g : Addr} {ox : Obj} {od : Option Obj} {x : Value} {Q : Bool → Shared → Prop} (X : K.In s.heap) (I : PySem.W.InstAt s.heap a ox C od)
    (hf : PySem.W.findIn K (.ref C) "__contains__" = some (some (.ref g))) (ht : PySem.W.typeIn K (.ref g) = some (.type "function"))
    (h : wpAny (model P w) A (call (.ref g) [.ref a, x]) (fun r s' => ∃ b, r = .bool b ∧ Q b s') E s) : wpAny (model P w) A (contains (.ref a) x) Q E s := by
  have L1 : PySem.W.Looks (model P w) s.heap (specialOf (.ref a) "__contains__") (some (.ref g)) := I.type.andThen (PySem.W.looks_findIn X hf)
  unfold contains
  refine wpAny_holding ?_
  rw [stdlibNamesSay?_ref]
  refine wpAny_bind (L1.here ?_)
  show wpAny _ _ (if (some (Value.ref g) == some Value.none) = true then _ else _) _ _ _
  rw [if_neg (by intro h; exact Bool.noConfusion h)]
  refine wpAny_bind ?_
  simp only [callSpecialUnlessNone?]
  refine wpAny_bind (L1.here ?_)
  refine wpAny_holding (wpAny_bind ((PySem.W.bind_fn X (.ref a) ht).here ?_))
  show wpAny _ _ (if (Value.ref g == Value.none) = true then _ else _) _ _ _
  rw [if_neg (by intro h; exact Bool.noConfusion h)]
  refine wpAny_bind (wpAny_mono h (fun r s' hr => ?_) fun _ _ e => e)
  obtain ⟨b, rfl, q⟩ := hr
  exact wpAny_pure (wpAny_truthy_bool q)
theorem isFn_type {K : PySem.W.Frag} {g : Addr} (h : PySem.W.isFn K (.ref g) = true) : PySem.W.typeIn K (.ref g) = some (.type "function") := beq_iff_eq.mp h
def rOwnIn (Z : Par) (c : Str) (Φ : Con) (neg : Bool) : R2 := fun x y H Q => ∃ a dx fs, y = .ref a ∧ H a = some (.ins (He.ga Z.K c) dx fs) ∧ spP Z Φ [y, x] H (fun v H' => ∃ b, v = .bl b ∧ Q (.bl (if neg = true then !b else b)) H') E0
theorem op_ownIn {c : Str} {k j n : Nat} {Φ : Con} (M : MtC X.prog X.w X.mg Z c "__contains__" k n Φ) (hr : Room j X.A) (hK : X.K = Z.K := by rfl) (hj : k ≤ j := by decide) : OpR X (compareOp .In) (rOwnIn Z c Φ false) := by
  intro pins s σ H x y v u Q I rx ry ⟨a, dx, fs, ey, ha, hs⟩
  subst ey
  obtain rfl : u = Value.ref a := ry
  obtain ⟨f, fd, ps, hm, b, hn, F⟩ := M.ex
  rw [← hK] at hm b
  obtain ⟨mA, O, _⟩ := ins_get I.hok ha
  obtain ⟨od, J, _⟩ := O.look
  refine wpAny_bind (own_contains I.kIn J (by rw [← hK]; exact hm.at_) (isFn_type hm.fn) (thn (run_fn (vs := [.ref a, x]) (us := [.ref a, v]) (hK ▸ F X.base) (hr.mono hj) b .nil pass0 I (.cons rfl (.cons rx .nil)) hs) fun r s' ⟨z, H', I', rz, b, ez, q⟩ => ?_))
  subst ez
  cases rz
  exact ⟨b, rfl, wpAny_pure ⟨.bl b, H', I', rfl, q⟩⟩
theorem op_ownNotIn {c : Str} {k j n : Nat} {Φ : Con} (M : MtC X.prog X.w X.mg Z c "__contains__" k n Φ) (hr : Room j X.A) (hK : X.K = Z.K := by rfl) (hj : k ≤ j := by decide) : OpR X (compareOp .NotIn) (rOwnIn Z c Φ true) := by
  intro pins s σ H x y v u Q I rx ry ⟨a, dx, fs, ey, ha, hs⟩
  subst ey
  obtain rfl : u = Value.ref a := ry
  obtain ⟨f, fd, ps, hm, b, hn, F⟩ := M.ex
  rw [← hK] at hm b
  obtain ⟨mA, O, _⟩ := ins_get I.hok ha
  obtain ⟨od, J, _⟩ := O.look
  refine wpAny_bind (own_contains I.kIn J (by rw [← hK]; exact hm.at_) (isFn_type hm.fn) (thn (run_fn (vs := [.ref a, x]) (us := [.ref a, v]) (hK ▸ F X.base) (hr.mono hj) b .nil pass0 I (.cons rfl (.cons rx .nil)) hs) fun r s' ⟨z, H', I', rz, b, ez, q⟩ => ?_))
  subst ez
  cases rz
  exact ⟨b, rfl, wpAny_pure ⟨.bl (!b), H', I', rfl, q⟩⟩
def kOwnIn (c : Str) (Φ : Con) (neg : Bool) : PK2 := fun p q Q => match q with
  | .obj c' fs => c' = c ∧ Φ [.obj c' fs, p] fun r => match r with
    | .bl b => Q (.bl (if neg = true then !b else b))
    | _ => False
  | _ => False
theorem ownIn_w {c : Str} {Φ : Con} {neg : Bool} : ∀ W H x y p q Q Qp, Holds Z W H → Dat Z.K W x p → Dat Z.K W y q → kOwnIn c Φ neg p q Qp → (∀ W' H' v r, Ext Z W H W' H' → Dat Z.K W' v r → Qp r → Q v H') → rOwnIn Z c Φ neg x y H Q := fun W H x y p q Q Qp hh dx dy t k => by
  unfold kOwnIn at t
  split at t
  · obtain ⟨ec, t⟩ := t
    subst ec
    have dy' := dy
    cases dy with
    | obj ha rs =>
      refine ⟨_, _, _, rfl, hh.ex ha (fun z => z), W, _, _, hh, .cons dy' (.cons dx .nil), t, fun W1 H1 v r e1 d1 t1 => ?_⟩
      cases d1 with
      | bl b => exact ⟨b, rfl, k W1 H1 _ _ e1 (.bl _) t1⟩
      | _ => exact t1.elim
  · exact t.elim
theorem q_ownIn {c : Str} {k j n : Nat} {Φ : Con} (M : MtC X.prog X.w X.mg Z c "__contains__" k n Φ) (hr : Room j X.A) (hK : X.K = Z.K := by rfl) (hj : k ≤ j := by decide) : OpP Z X (compareOp .In) (kOwnIn c Φ false) := ⟨_, op_ownIn M hr hK hj, ownIn_w⟩
theorem q_ownNotIn {c : Str} {k j n : Nat} {Φ : Con} (M : MtC X.prog X.w X.mg Z c "__contains__" k n Φ) (hr : Room j X.A) (hK : X.K = Z.K := by rfl) (hj : k ≤ j := by decide) : OpP Z X (compareOp .NotIn) (kOwnIn c Φ true) := ⟨_, op_ownNotIn M hr hK hj, ownIn_w⟩

/-! ### stars -/
def pStar (te : PTE) (t : PTA) : PTA := fun ρ Q => te ρ fun p => match p with
  | .lst l => t ρ fun ps => Q (l ++ ps)
  | .tup l => t ρ fun ps => Q (l ++ ps)
  | _ => False
theorem qa_star {e : Expr} {es : List Expr} {p : Pos} {te : PTE} {t : PTA} (he : PE X e (lift Z te)) (hr : PA X es (liftA Z t)) (hK : X.K = Z.K := by rfl) : PA X (.Starred e p :: es) (liftA Z (pStar te t)) :=
  PAw (StX.pa_star he hr) fun σ H Q ⟨W, H0, ρ, Qp, hh, S, t, q⟩ => by
    refine ⟨W, H0, ρ, _, hh, S, t, fun W1 H1 v p e1 d1 t1 => ?_⟩
    cases d1 with
    | lst ha r => exact ⟨_, _, rfl, .inr (.of (e1.holds.ex ha fun z => z)), W1, H0, ρ, _, e1.holds, S.ext e1, t1, fun W2 H2 vs ps e2 d2 t2 => q W2 H2 _ _ (e1.trans hh e2) ((r.mono e2.le).append d2) t2⟩
    | tup ha r => exact ⟨_, _, rfl, .inl (.of (e1.holds.ex ha fun z => z)), W1, H0, ρ, _, e1.holds, S.ext e1, t1, fun W2 H2 vs ps e2 d2 t2 => q W2 H2 _ _ (e1.trans hh e2) ((r.mono e2.le).append d2) t2⟩
    | _ => exact t1.elim

/-! ### dicts -/
/-- e, and the dict that it gives is locked from then on -/
theorem pe_lockd {e : Expr} {te : TE} (h : PE X e te) : PE X e (fun σ H Q => te σ H fun x H1 => ∃ d u, x = .ref d ∧ ((H1 d = some u ∧ Mut (some u) ∧ ∀ od, Q x (upd H1 d (.frz od u))) ∨ (∃ od, H1 d = some (.frz od u) ∧ Q x H1))) := by
  refine ⟨fun pins s σ H Q I hw => thn (h.run pins s σ H _ I hw) fun v s1 ⟨x, H1, I1, r, d, u, ex, k⟩ => ?_⟩
  rcases k with ⟨hd, mu, q⟩ | ⟨od, hd, q⟩
  · obtain ⟨od, I2⟩ := I1.lock hd mu
    exact ⟨x, _, I2, r, q od⟩
  · exact ⟨x, H1, I1, r, q⟩
def onDic (Qp : List (Key × PV) → Prop) : PV → Prop
  | .dic l => Qp l
  | _ => False
theorem lock_of {te : PTE} {R : V → Hp → Prop} (σ : L2.St) (H : Hp) {W : Wd} {H0 : Hp} {ρ : List Slt} {Qp : List (Key × PV) → Prop} (hh : Holds Z W H) (S : Slots Z W H0 H σ ρ) (t : te ρ (onDic Qp))
    (q : ∀ W' H' d od kvs l, Ext Z W H W' H' → W'.D d = some (.dK kvs) → H' d = some (.frz od (.dK kvs)) → DatK Z.K W' kvs l → Qp l → R (.ref d) H') :
    lift Z te σ H fun x H1 => ∃ d u, x = .ref d ∧ ((H1 d = some u ∧ Mut (some u) ∧ ∀ od, R x (upd H1 d (.frz od u))) ∨ (∃ od, H1 d = some (.frz od u) ∧ R x H1)) := by
  refine ⟨W, H0, ρ, _, hh, S, t, fun W1 H1 v p e1 d1 t1 => ?_⟩
  cases d1 with
  | @dic a xs _ ha r =>
    refine ⟨a, .dK xs, rfl, ?_⟩
    rcases e1.holds.sub _ _ ha with z | ⟨_, od, z⟩
    · exact .inl ⟨z, trivial, fun od => q W1 _ _ od xs _ (e1.trans hh (Ext.lock e1.holds ha trivial z od)) ha upd_same r t1⟩
    · exact .inr ⟨od, z, q W1 _ _ od xs _ e1 ha z r t1⟩
  | _ => exact t1.elim
theorem DatK.getP {K : PySem.W.Frag} {W : Wd} : ∀ {xs : List (Key × V)} {l : List (Key × PV)} {i : Nat} {k : Key} {p : PV}, DatK K W xs l → l[i]? = some (k, p) → ∃ v, xs[i]? = some (k, v) ∧ Dat K W v p
  | _, _, _, _, _, .nil, e => by simp at e
  | _, _, 0, _, _, .cons h _, e => by simp at e; obtain ⟨rfl, rfl⟩ := e; exact ⟨_, rfl, h⟩
  | _, _, i + 1, _, _, .cons _ t, e => by
    obtain ⟨v, h1, h2⟩ := DatK.getP (i := i) t (by simpa using e)
    exact ⟨v, by simpa using h1, h2⟩
/-- for v in d.values(), for k in d, for k, v in d.items() -/
def pIVals (te : PTE) : PTI := fun ρ Q => te ρ (onDic fun l => Q (l.map (·.2)))
def pIKeys (te : PTE) : PTI := fun ρ Q => te ρ (onDic fun l => Q (l.map fun kv => keyPV kv.1))
def pIItems (te : PTE) : PTI := fun ρ Q => te ρ (onDic fun l => Q (l.map fun kv => .tup [keyPV kv.1, kv.2]))
theorem datKey {K : PySem.W.Frag} {W : Wd} : ∀ k : Key, Dat K W (kV k) (keyPV k)
  | .inl i => .int i
  | .inr x => .str x
theorem qi_vals {tg e : Expr} {te : PTE} {apos cpos : Pos} (he : PE X e (lift Z te)) (hbase : attributeBase e "values" X.env (eval e X.env) = eval e X.env := by rfl) (hline : (apos.endLine == cpos.line) = true := by rfl) :
    PI X tg (.Call (.Attribute e "values" apos) [] [] cpos) (liftI Z (pIVals te)) :=
  PIw (pi_values (pe_lockd he) hbase hline) fun σ H R ⟨W, H0, ρ, Qp, hh, S, t, q⟩ => by
    refine lock_of (R := fun x H1 => ∃ d o kvs, x = .ref d ∧ H1 d = some (.frz o (.dK kvs)) ∧ R (Itd d o kvs) H1) σ H hh S (Qp := fun l : List (Key × PV) => Qp (l.map (·.2))) (by exact t) fun W1 H1 d od kvs l e1 hd hl r ql => ⟨d, od, kvs, rfl, hl, ?_⟩
    refine q W1 H1 _ _ e1 (fun W2 H2 lt h2 => ⟨fun i hi => ⟨lt.fz _ _ _ hl, by rw [r.length]; simpa using hi⟩, fun i p hp => ?_⟩) ql
    rw [List.getElem?_map] at hp
    cases z : l[i]? with
    | none => rw [z] at hp; cases hp
    | some kp =>
      rw [z] at hp
      cases hp
      obtain ⟨v, hv, dv⟩ := r.getP (k := kp.1) (p := kp.2) z
      refine ⟨⟨lt.fz _ _ _ hl, (List.getElem?_eq_some_iff.mp hv).1⟩, fun x H3 ⟨e3, k, hx⟩ => ?_⟩
      subst e3
      rw [hv] at hx
      cases hx
      exact ⟨W2, .refl h2, dv.mono lt.le⟩
theorem qi_keys {tg e : Expr} {te : PTE} (he : PE X e (lift Z te)) : PI X tg e (liftI Z (pIKeys te)) :=
  PIw (pi_keys (pe_lockd he)) fun σ H R ⟨W, H0, ρ, Qp, hh, S, t, q⟩ => by
    refine lock_of (R := fun x H1 => ∃ d o, x = .ref d ∧ ((∃ kvs, H1 d = some (.frz o (.dK kvs)) ∧ R (Itk d o kvs) H1) ∨ ∃ kvs, H1 d = some (.frz o (.dT kvs)) ∧ R (Itkt d o kvs) H1)) σ H hh S (Qp := fun l : List (Key × PV) => Qp (l.map fun kv => keyPV kv.1)) (by exact t) fun W1 H1 d od kvs l e1 hd hl r ql => ⟨d, od, rfl, .inl ⟨kvs, hl, ?_⟩⟩
    refine q W1 H1 _ _ e1 (fun W2 H2 lt h2 => ⟨fun i hi => ⟨lt.fz _ _ _ hl, by rw [r.length]; simpa using hi⟩, fun i p hp => ?_⟩) ql
    rw [List.getElem?_map] at hp
    cases z : l[i]? with
    | none => rw [z] at hp; cases hp
    | some kp =>
      rw [z] at hp
      cases hp
      obtain ⟨v, hv, dv⟩ := r.getP (k := kp.1) (p := kp.2) z
      refine ⟨⟨lt.fz _ _ _ hl, (List.getElem?_eq_some_iff.mp hv).1⟩, fun x H3 ⟨e3, k, v', hx, ex⟩ => ?_⟩
      subst e3 ex
      rw [hv] at hx
      cases hx
      exact ⟨W2, .refl h2, datKey _⟩
theorem qi_items {e : Expr} {te : PTE} {apos cpos tpos : Pos} {elts : List Expr} {kk : Nat} (he : PE X e (lift Z te)) (hbase : attributeBase e "items" X.env (eval e X.env) = eval e X.env := by rfl) (hline : (apos.endLine == cpos.line) = true := by rfl) :
    PI X (.Tuple elts kk tpos) (.Call (.Attribute e "items" apos) [] [] cpos) (liftI Z (pIItems te)) :=
  PIw (pi_items (pe_lockd he) hbase hline) fun σ H R ⟨W, H0, ρ, Qp, hh, S, t, q⟩ => by
    refine lock_of (R := fun x H1 => ∃ d o kvs, x = .ref d ∧ H1 d = some (.frz o (.dK kvs)) ∧ R (Iti d o kvs) H1) σ H hh S (Qp := fun l : List (Key × PV) => Qp (l.map fun kv => .tup [keyPV kv.1, kv.2])) (by exact t) fun W1 H1 d od kvs l e1 hd hl r ql => ⟨d, od, kvs, rfl, hl, ?_⟩
    refine q W1 H1 _ _ e1 (fun W2 H2 lt h2 => ⟨fun i hi => ⟨lt.fz _ _ _ hl, by rw [r.length]; simpa using hi⟩, fun i p hp => ?_⟩) ql
    rw [List.getElem?_map] at hp
    cases z : l[i]? with
    | none => rw [z] at hp; cases hp
    | some kp =>
      rw [z] at hp
      cases hp
      obtain ⟨v, hv, dv⟩ := r.getP (k := kp.1) (p := kp.2) z
      refine ⟨⟨lt.fz _ _ _ hl, (List.getElem?_eq_some_iff.mp hv).1⟩, fun x H3 ⟨T, k, v', hx, ex, n, e3⟩ => ?_⟩
      subst e3 ex
      rw [hv] at hx
      cases hx
      have e := Ext.new (o := .tup [kV kp.1, v]) h2 n
      exact ⟨_, e, .tup Wd.add_at (.cons (datKey _) (.cons ((dv.mono lt.le).mono e.le) .nil))⟩
/-- for c in s -/
def pIStr (te : PTE) : PTI := fun ρ Q => te ρ fun p => match p with
  | .str x => Q (x.cps.toList.map fun c => .str ⟨#[c]⟩)
  | _ => False
theorem qi_str {tg e : Expr} {te : PTE} (he : PE X e (lift Z te)) : PI X tg e (liftI Z (pIStr te)) :=
  PIw (pi_str he) fun σ H R ⟨W, H0, ρ, Qp, hh, S, t, q⟩ => by
    refine ⟨W, H0, ρ, _, hh, S, t, fun W1 H1 v p e1 d1 t1 => ?_⟩
    cases d1 with
    | str x =>
      refine ⟨x, rfl, q W1 H1 _ _ e1 (fun W2 H2 lt h2 => ⟨fun i hi => ?_, fun i p hp => ?_⟩) t1⟩
      · show x.cps.size ≤ i
        simpa using hi
      · rw [List.getElem?_map] at hp
        cases z : x.cps.toList[i]? with
        | none => rw [z] at hp; cases hp
        | some c =>
          rw [z] at hp
          cases hp
          have z' : x.cps[i]? = some c := by rw [← Array.getElem?_toList]; exact z
          refine ⟨?_, fun y H3 ⟨e3, c', hc, ey⟩ => ?_⟩
          · show i < x.cps.size
            exact (Array.getElem?_eq_some_iff.mp z').1
          · subst e3 ey
            rw [z'] at hc
            cases hc
            exact ⟨W2, .refl h2, .str _⟩
    | _ => exact t1.elim
/-- for i, x in enumerate(l) -/
def enumP (l : List PV) : List PV := l.zipIdx.map fun p => .tup [.int (p.2 : Nat), p.1]
theorem enumP_get {l : List PV} {i : Nat} {r : PV} (h : (enumP l)[i]? = some r) : ∃ p, l[i]? = some p ∧ r = .tup [.int (i : Nat), p] := by
  unfold enumP at h
  rw [List.getElem?_map, List.getElem?_zipIdx] at h
  cases z : l[i]? with
  | none => rw [z] at h; cases h
  | some p =>
    rw [z] at h
    simp at h
    exact ⟨p, rfl, h.symm⟩
def pEnum (ta : PTA) : PTI := fun ρ Q => ta ρ fun ps => match ps with
  | [.lst l] => Q (enumP l)
  | _ => False
theorem qi_enum {e : Expr} {ta : PTA} {p pos tpos : Pos} {elts : List Expr} {kk : Nat} (hm : X.mg "enumerate" = none) (ha : PA X [e] (liftA Z ta)) (hg : Gl X "enumerate" := by rfl) (hs : starEach [e] X.env = [(false, eval e X.env)] := by rfl) :
    PI X (.Tuple elts kk tpos) (.Call (.Name "enumerate" p) [e] [] pos) (liftI Z (pEnum ta)) :=
  PIw (pi_enum hg hm ha hs) fun σ H R ⟨W, H0, ρ, Qp, hh, S, t, q⟩ => by
    refine ⟨W, H0, ρ, _, hh, S, t, fun W1 H1 vs ps e1 d1 t1 => ?_⟩
    split at t1
    · cases d1 with
      | cons d1 d2 => cases d2; cases d1 with
        | @lst a xs l ha r =>
          refine ⟨_, _, rfl, .of (e1.holds.ex ha fun z => z), q W1 H1 _ _ e1 (fun W2 H2 lt h2 => ?_) t1⟩
          have ka : SqL X.K H2 a xs := .of (h2.ex (lt.le.d _ _ ha) fun z => z)
          refine ⟨fun i hi => ⟨xs, ka, ?_⟩, fun i p hp => ?_⟩
          · rw [r.length]
            simpa [enumP] using hi
          · obtain ⟨p2, hp2, rfl⟩ := enumP_get hp
            obtain ⟨v, hv, dv⟩ := r.getP hp2
            refine ⟨⟨xs, v, ka, hv⟩, fun x H3 ⟨T, y, ex, n, e3, g⟩ => ?_⟩
            subst ex e3
            have z := g xs ka
            rw [hv] at z
            cases z
            have e := Ext.new (o := .tup [.int (i : Nat), v]) h2 n
            exact ⟨_, e, .tup Wd.add_at (.cons (.int _) (.cons ((dv.mono lt.le).mono e.le) .nil))⟩
    · exact t1.elim
/-- list(d.values()) -/
theorem pe_listVals {e : Expr} {te : TE} {p apos cpos pos : Pos} (hc : X.calm = true) (he : PE X e te) (hg : Gl X "list") (hm : X.mg "list" = none) (hbase : attributeBase e "values" X.env (eval e X.env) = eval e X.env) (hline : (apos.endLine == cpos.line) = true)
    (hs : starEach [.Call (.Attribute e "values" apos) [] [] cpos] X.env = (false, eval (.Call (.Attribute e "values" apos) [] [] cpos) X.env) :: starEach [] X.env := by rfl) :
    PE X (.Call (.Name "list" p) [.Call (.Attribute e "values" apos) [] [] cpos] [] pos) (fun σ H Q => te σ H fun x H1 => ∃ d kvs, x = .ref d ∧ Rd H1 d (.dK kvs) ∧ ∀ q, H1 q = none → Q (.ref q) (upd H1 q (.lst (kvs.map (·.2))))) := by
  refine ⟨fun pins s σ H Q I hq => ?_⟩
  refine wpAny_Call_Name_kw (ld_blt I hg hm PyProof.Rows.boot_list ?_)
  refine PyProof.Rows.callWith_type1 ?_ hs rfl
  rw [hs]
  show wpAny _ _ (spliced ((false, eval (.Call (.Attribute e "values" apos) [] [] cpos) X.env) :: backTo pos (starEach [] X.env))) _ _ s
  refine Calls.spliced_cons ?_
  refine wpAny_Call_method (T := "dict") (id := "dict.values") hbase rfl hline F.plainAttrs_dict F.slot_dict_values F.type_dict_values (thn (he.run pins s σ H _ I hq) fun u s1 ⟨x, H1, I1, rx, d, kvs, ex, hd, q⟩ => ?_)
  subst ex
  obtain rfl : u = Value.ref d := rx
  obtain ⟨hz, hs0, vs, kv, hdo⟩ := dk_rd I1.hok hd
  obtain ⟨ep, hat⟩ := hdo.dictAt
  have I2 : Inv X pins σ H1 { s1 with heap := s1.heap.push { cls := .type "dict_values", data := .fields #[.ref d] } } := I1.kept (t' := s1.toks) fun b ob q => Heap.get?_push_of_some _ q
  refine ⟨hdo.typeIs, hdo.mapOf.noDict, ?_⟩
  show wpAny _ _ (callWith cpos (.builtin "dict.values") [.ref d] [] []) _ X.xe s1
  refine method_meetsIn F.slot_dict_values F.entry_dict_values rfl (PySem.evalArgs_none ⟨rfl, hdo.typeIs, F.args_dict_values_1 _, _, meets_dict_values (mixKind X.prog X.w) d hs0, ⟨vs, hdo⟩, ?_⟩)
  refine Calls.spliced_nil ?_
  refine PySem.W.kdl_call (PySem.W.kdl_values (knd := mixKind X.prog X.w) (kvs := vs) (ep := ep)) (I1.ok.hd hc) ⟨⟨_, Heap.get?_push_size _ rfl, rfl, rfl⟩, hat.push _⟩ (by rw [← Paired.length kv]; exact hz) fun h' tk acc c hk hS hacc => ?_
  have lk : kvs.length = vs.length := Paired.length kv
  have hv : Vals (kvs.map (·.2)) acc.toList := by
    have key : ∀ (n : Nat) (i : Nat), n = kvs.length - i → Vals ((kvs.map (·.2)).drop i) (acc.toList.drop i) := by
      intro n
      induction n with
      | zero =>
        intro i hn
        rw [List.drop_of_length_le (by rw [List.length_map]; omega), List.drop_of_length_le (by rw [Array.length_toList, hacc.1]; omega)]
        exact .nil
      | succ n ih =>
        intro i hn
        have h1 : i < (kvs.map (·.2)).length := by rw [List.length_map]; omega
        have h2 : i < acc.toList.length := by rw [Array.length_toList, hacc.1]; omega
        rw [List.drop_eq_getElem_cons h1, List.drop_eq_getElem_cons h2]
        refine .cons ?_ (ih (i + 1) (by omega))
        obtain ⟨k, e⟩ := hacc.2 i acc.toList[i] (by rw [← Array.getElem?_toList]; exact List.getElem?_eq_getElem h2)
        have h3 : i < kvs.length := by omega
        obtain ⟨y, e2, r1, r2⟩ := LiI.paired_get kv (List.getElem?_eq_getElem h3)
        rw [e] at e2
        cases e2
        simpa using r2
    exact key _ 0 rfl
  exact ⟨.ref _, upd H1 _ (.lst (kvs.map (·.2))), I2.laid (t' := tk) hk (Nat.le_refl _) ⟨by rw [List.length_map]; exact hz, acc.toList, c, hv, by rw [Array.toArray_toList]; exact hS⟩, rfl, q _ (I2.hok.fresh (Nat.le_refl _))⟩
def pListVals (te : PTE) : PTE := fun ρ Q => te ρ fun p => match p with
  | .dic l => Q (.lst (l.map (·.2)))
  | _ => False
theorem DatK.snd {K : PySem.W.Frag} {W : Wd} : ∀ {vs : List (Key × V)} {ps : List (Key × PV)}, DatK K W vs ps → DatL K W (vs.map (·.2)) (ps.map (·.2))
  | _, _, .nil => .nil
  | _, _, .cons h t => .cons h (DatK.snd t)
theorem q_listVals {e : Expr} {te : PTE} {p apos cpos pos : Pos} (hm : X.mg "list" = none) (he : PE X e (lift Z te)) (hc : X.calm = true := by rfl) (hg : Gl X "list" := by rfl) (hbase : attributeBase e "values" X.env (eval e X.env) = eval e X.env := by rfl) (hline : (apos.endLine == cpos.line) = true := by rfl)
    (hs : starEach [.Call (.Attribute e "values" apos) [] [] cpos] X.env = (false, eval (.Call (.Attribute e "values" apos) [] [] cpos) X.env) :: starEach [] X.env := by rfl) :
    PE X (.Call (.Name "list" p) [.Call (.Attribute e "values" apos) [] [] cpos] [] pos) (lift Z (pListVals te)) :=
  PEw (pe_listVals hc he hg hm hbase hline hs) fun σ H Q ⟨W, H0, ρ, Qp, hh, S, t, q⟩ => by
    refine ⟨W, H0, ρ, _, hh, S, t, fun W1 H1 v p e1 d1 t1 => ?_⟩
    cases d1 with
    | dic ha r => exact ⟨_, _, rfl, e1.holds.rd ha, fun p n => q _ _ _ _ (e1.trans hh (Ext.new e1.holds n)) (.lst Wd.add_at (r.snd.mono (Wd.le_add (e1.holds.new n)))) t1⟩
    | _ => exact t1.elim
/-- d.get(k) -/
def pDGet1 (td tk : PTE) : PTE := fun ρ Q => td ρ fun p => match p with
  | .dic l => tk ρ fun q => (match keyP q with
    | some k => Q ((valA l k).getD .non)
    | none => False)
  | _ => False
theorem q_dget1 {o e : Expr} {td tk : PTE} {apos cpos : Pos} {j : Nat} (hr : Room j X.A) (ho : PE X o (lift Z td)) (he : PE X e (lift Z tk)) (m : M1 X o "get" apos e cpos := by exact ⟨rfl, rfl, rfl, rfl⟩) : PE X (.Call (.Attribute o "get" apos) [e] [] cpos) (lift Z (pDGet1 td tk)) :=
  PEw (pe_dget1 (by have := hr.units; omega) ho he m) fun σ H Q ⟨W, H0, ρ, Qp, hh, S, t, q⟩ => by
    refine ⟨W, H0, ρ, _, hh, S, t, fun W1 H1 v p e1 d1 t1 => ?_⟩
    split at t1
    · have d1' := d1
      cases d1 with
      | dic ha r =>
        refine ⟨_, rfl, .inl ⟨_, e1.holds.rd ha⟩, W1, H0, ρ, _, e1.holds, S.ext e1, t1, fun W2 H2 y p2 e2 d2 t2 => ?_⟩
        split at t2
        · rename_i k ek
          have E2 := e1.trans hh e2
          have ha2 := e2.le.d _ _ ha
          rcases (r.mono e2.le).val (k := k) with ⟨z1, z2⟩ | ⟨v, p, z1, z2, dv⟩
          · rw [z2] at t2
            exact ⟨none, .inl ⟨_, k, e2.holds.rd ha2, d2.key ek, z1.symm⟩, q W2 H2 _ _ E2 .non t2⟩
          · rw [z2] at t2
            exact ⟨some v, .inl ⟨_, k, e2.holds.rd ha2, d2.key ek, z1.symm⟩, q W2 H2 _ _ E2 dv t2⟩
        · exact t2.elim
    · exact t1.elim
end
end L3

/-! ## L3H -/
/-! Dict comprehensions, sorted({..}), list comprehensions of two clauses, instances made. -/
namespace L3
open PySem PySem.Spec PyProof.Rows L2

section
variable {X : Cx} {Z : Par}
/-- a tracked object that is not frozen stays as it is -/
theorem Ext.keepD {W W3 : Wd} {H H3 : Hp} {D : Addr} {o : HO} (e3 : Ext Z W H W3 H3) (hD : H D = some o) (nW : W.D D = none) (nM : ¬ W.M D) : H3 D = some o ∧ W3.D D = none ∧ ¬ W3.M D := by
  refine ⟨e3.base D _ hD nW nM, ?_, fun z => ?_⟩
  · cases r : W3.D D with
    | none => rfl
    | some u =>
      rcases e3.fr D u r with z | z
      · rw [nW] at z; cases z
      · rw [hD] at z; cases z
  · rcases e3.frM D z with z | z
    · exact nM z
    · rw [hD] at z; cases z
theorem wipe_twice {σ : L2.St} {vs : List Nat} : L2.wipe (L2.wipe σ vs) vs = L2.wipe σ vs :=
  wipe_only (ws := vs) ⟨wipe_length σ vs, fun i n => wipe_out n⟩ fun _ h => h

/-! ### {k: v for ..} -/
def pDcL (g : PTG) (tt : PTT) (tk tv : PTE) (ρ : List Slt) (Q : List (Key × PV) → Prop) : List PV → List (Key × PV) → Prop
  | [], acc => Q acc
  | p :: ps, acc => g p ρ fun ρ1 => tt ρ1 fun b => match b with
    | true => tk ρ1 fun kp => tv ρ1 fun r => match keyP kp with
      | some k => acc.length < sizeLine ∧ pDcL g tt tk tv ρ Q ps (putA acc k r)
      | none => False
    | false => pDcL g tt tk tv ρ Q ps acc
def pDc (ti : PTI) (g : PTG) (tt : PTT) (tk tv : PTE) (vs : List Nat) : PTE := fun ρ Q => ti ρ fun l => pDcL g tt tk tv (wipeP ρ vs) (fun acc => Q (.dic acc)) l []
theorem dc_of {ti : PTI} {ws vs : List Nat} {g : PTG} {tt : PTT} {tk tv : PTE} (hs : ∀ i ∈ ws, i ∈ vs) (σ : L2.St) (H : Hp) (Q : VK) (h : lift Z (pDc ti g tt tk tv vs) σ H Q) : tDc (liftI Z ti) (liftG Z ws g) (liftT Z tt) (lift Z tk) (lift Z tv) vs σ H Q := by
  obtain ⟨W, H0, ρ, Qp, hh, S, t, q⟩ := h
  refine ⟨W, H0, ρ, _, hh, S, t, fun W1 H1 J l e1 sv t1 => fun D nD => ?_⟩
  have S1 := (S.ext e1).wipe vs
  have ePut := Ext.put (o := .dK []) e1.holds nD
  refine ⟨fun i m H' => m = l.length - i ∧ i ≤ l.length ∧ ∃ W' va acc, Ext Z W1 H1 W' H' ∧ H' D = some (.dK va) ∧ W'.D D = none ∧ ¬ W'.M D ∧ DatK Z.K W' va acc ∧ pDcL g tt tk tv (wipeP ρ vs) (fun acc => Qp (.dic acc)) (l.drop i) acc,
    ⟨l.length, rfl, Nat.zero_le _, W1, [], [], ePut, upd_same, e1.holds.new nD, e1.holds.newM nD, .nil, t1⟩, ?_⟩
  rintro i m H' ⟨rfl, hi, W', va, acc, e', hD, nW, nM, da, t'⟩
  have sv' := sv W' H' e'.lt e'.holds
  by_cases hlt : i < l.length
  · have g1 := sv'.2 i l[i] (by simp [hlt])
    rw [drop_cons hlt] at t'
    refine .inr ⟨g1.1, fun H2 => i < l.length ∧ ∃ W2 va acc, Ext Z W1 H1 W2 H2 ∧ H2 D = some (.dK va) ∧ W2.D D = none ∧ ¬ W2.M D ∧ DatK Z.K W2 va acc ∧ pDcL g tt tk tv (wipeP ρ vs) (fun acc => Qp (.dic acc)) (l.drop (i + 1)) acc, ?_, fun x H2 y => ?_⟩
    · rintro H2 ⟨_, r⟩
      exact ⟨l.length - (i + 1), by omega, rfl, hlt, r⟩
    · obtain ⟨W2, e2, d2⟩ := g1.2 x H2 y
      have S2 := (S1.ext e').ext e2
      refine ⟨W2, H0, wipeP ρ vs, l[i], _, e2.holds, S2, d2, t', fun σ3 ρ3 o3 S3 t3 => ⟨(wipe_only o3 hs).trans wipe_twice, ?_⟩⟩
      refine ⟨W2, H0, ρ3, _, e2.holds, S3, t3, fun W4 H4 b e4 t4 => ?_⟩
      have E4 := e2.trans e'.holds e4
      cases b with
      | false =>
        obtain ⟨k1, k2, k3⟩ := E4.keepD hD nW nM
        exact (if_neg (by decide)).mpr ⟨hlt, W4, va, acc, e'.trans e1.holds E4, k1, k2, k3, da.mono E4.le, t4⟩
      | true =>
        refine (if_pos rfl).mpr ⟨W4, H0, ρ3, _, e4.holds, S3.ext e4, t4, fun W5 H5 v p e5 d5 t5 => ⟨W5, H0, ρ3, _, e5.holds, (S3.ext e4).ext e5, t5, fun W6 H6 u r e6 d6 t6 => ?_⟩⟩
        have E6 := (E4.trans e'.holds e5).trans e'.holds e6
        obtain ⟨k1, k2, k3⟩ := E6.keepD hD nW nM
        split at t6
        · rename_i k ek
          refine ⟨va, k, d5.key ek, k1, by rw [da.length]; exact t6.1, hlt, W6, _, putA acc k r, ?_, upd_same, k2, k3, (da.mono E6.le).put d6, t6.2⟩
          exact (e'.trans e1.holds E6).wr k2 k3 nD
        · exact t6.elim
  · have ei : i = l.length := by omega
    subst ei
    rw [List.drop_length] at t'
    refine .inl ⟨sv'.1 _ (Nat.le_refl _), ?_⟩
    have e3 : Ext Z W1 H1 (W'.add D (.dK va)) H' := e'.frz nW nM nD hD
    exact q _ _ _ _ (e1.trans hh e3) (.dic Wd.add_at (da.mono (Wd.le_add nW))) t'
theorem q_dc {kx vx tg iter : Expr} {ifs : List Expr} {scope : Scope} {own : List (Str × Nat)} {ws : List Nat} {pos : Pos} {ti : PTI} {g : PTG} {tt : PTT} {tk tv : PTE} (hN : X.N.Nodup) (hi : PI X tg iter (liftI Z ti)) (ok : BlkOk X.N X.env.scope scope own)
    (hg : ∀ (s : Shared) (H : Hp) (C : Addr) (cl : List (Str × Addr)) (fp : List Addr), PG (X.blk s H scope (compEnvC scope cl C X.env) fp) tg (liftG Z ws g)) (ht : ∀ (s : Shared) (H : Hp) (C : Addr) (cl : List (Str × Addr)) (fp : List Addr), PTs (X.blk s H scope (compEnvC scope cl C X.env) fp) ifs (liftT Z tt))
    (hk : ∀ (s : Shared) (H : Hp) (C : Addr) (cl : List (Str × Addr)) (fp : List Addr), PE (X.blk s H scope (compEnvC scope cl C X.env) fp) kx (lift Z tk))
    (he : ∀ (s : Shared) (H : Hp) (C : Addr) (cl : List (Str × Addr)) (fp : List Addr), PE (X.blk s H scope (compEnvC scope cl C X.env) fp) vx (lift Z tv)) (hws : ∀ i ∈ ws, i ∈ own.map (·.2) := by decide) (hc : X.calm = true := by rfl) (hs : ∀ x, foldedSetIterable iter X.env x = pure x := by intro _; rfl) :
    PE X (.DictComp kx vx [⟨tg, iter, ifs, 0⟩] scope pos) (lift Z (pDc ti g tt tk tv (own.map (·.2)))) :=
  PEw (pe_dc hc hN hi ok hg ht hk he hs) fun σ H Q => dc_of hws σ H Q

/-! ### two clauses -/
/-- without what is tracked at D -/
def delH (H : Hp) (D : Addr) : Hp := fun a => if a = D then none else H a
theorem delH_at {H : Hp} {D : Addr} : delH H D D = none := if_pos rfl
theorem delH_ne {H : Hp} {D a : Addr} (h : a ≠ D) : delH H D a = H a := if_neg h
theorem delH_back {H : Hp} {D : Addr} {o : HO} (h : H D = some o) : upd (delH H D) D o = H := by
  funext a
  by_cases c : a = D
  · subst c; rw [upd_same, h]
  · rw [upd_ne c, delH_ne c]
theorem Holds.del {W : Wd} {H : Hp} {D : Addr} (h : Holds Z W H) (n : W.D D = none) (m : ¬ W.M D) : Holds Z W (delH H D) where
  sub := fun a o e => by rw [delH_ne (fun c => by rw [c, n] at e; cases e)]; exact h.sub a o e
  cel := fun a q => by rw [delH_ne (fun c => m (by rw [← c]; exact q))]; exact h.cel a q
  dis := h.dis
theorem Slots.mark {W : Wd} {H0 H : Hp} {σ : L2.St} {ρ : List Slt} {D : Addr} {o : HO} (S : Slots Z W H0 H σ ρ) (h : ∀ (i : Nat) (p : PV), ρ[i]? = some (.own p) → σ[i]? ≠ some (some (.ref D))) : Slots Z W (upd H0 D o) H σ ρ :=
  ⟨S.len, S.val, fun i p e => by
    obtain ⟨a, h1, h2, h3, h4, h5⟩ := S.own i p e
    exact ⟨a, h1, h2, by rw [upd_ne (fun c => h i p e (by rw [← c]; exact h1))]; exact h3, h4, h5⟩, S.dst⟩
theorem Slots.del {W : Wd} {H0 H : Hp} {σ : L2.St} {ρ : List Slt} {D : Addr} {o : HO} (S : Slots Z W (upd H0 D o) H σ ρ) : Slots Z W H0 (delH H D) σ ρ :=
  ⟨S.len, S.val, fun i p e => by
    obtain ⟨a, h1, h2, h3, h4, h5⟩ := S.own i p e
    have ne : a ≠ D := fun c => by rw [c, upd_same] at h3; cases h3
    rw [upd_ne ne] at h3
    exact ⟨a, h1, h2.mono (.refl W) fun u hu => by rw [delH_ne ne]; exact hu, h3, h4, h5⟩, S.dst⟩
theorem Slots.away {W : Wd} {H0 H : Hp} {σ : L2.St} {ρ : List Slt} {D : Addr} (S : Slots Z W H0 H σ ρ) (n : H D = none) : ∀ (i : Nat) (p : PV), ρ[i]? = some (.own p) → σ[i]? ≠ some (some (.ref D)) := S.fresh_own n
def pLc2L (g : PTG) (tt : PTT) (ti1 : PTI) (g1 : PTG) (tt1 : PTT) (te : PTE) (vs1 : List Nat) (ρ : List Slt) (Q : List PV → Prop) : List PV → List PV → Prop
  | [], acc => Q acc
  | p :: ps, acc => g p ρ fun ρ1 => tt ρ1 fun b => match b with
    | true => ti1 ρ1 fun l => pLcL g1 tt1 te (wipeP ρ1 vs1) (fun acc' => pLc2L g tt ti1 g1 tt1 te vs1 ρ Q ps acc') l acc
    | false => pLc2L g tt ti1 g1 tt1 te vs1 ρ Q ps acc
def pLc2 (ti : PTI) (g : PTG) (tt : PTT) (ti1 : PTI) (g1 : PTG) (tt1 : PTT) (te : PTE) (vs vs1 : List Nat) : PTE := fun ρ Q => ti ρ fun l => pLc2L g tt ti1 g1 tt1 te vs1 (wipeP ρ vs) (fun acc => Q (.lst acc)) l []
theorem lc2_of {ti ti1 : PTI} {ws vs ws1 vs1 : List Nat} {g g1 : PTG} {tt tt1 : PTT} {te : PTE} (hs : ∀ i ∈ ws, i ∈ vs) (hs1 : ∀ i ∈ ws1, i ∈ vs1) (σ : L2.St) (H : Hp) (Q : VK) (h : lift Z (pLc2 ti g tt ti1 g1 tt1 te vs vs1) σ H Q) :
    tLc2 (liftI Z ti) (liftG Z ws g) (liftT Z tt) (liftI Z ti1) (liftG Z ws1 g1) (liftT Z tt1) (lift Z te) vs vs1 σ H Q := by
  obtain ⟨W, H0, ρ, Qp, hh, S, t, q⟩ := h
  refine ⟨W, H0, ρ, _, hh, S, t, fun W1 H1 J l e1 sv t1 => fun D nD => ?_⟩
  have S1 := (S.ext e1).wipe vs
  have ePut := Ext.put (o := .lst []) e1.holds nD
  let Rest : List PV → List PV → Prop := pLc2L g tt ti1 g1 tt1 te vs1 (wipeP ρ vs) (fun acc => Qp (.lst acc))
  let At : Hp → Wd → List PV → Prop := fun H' W' acc => ∃ va, Ext Z W1 H1 W' H' ∧ H' D = some (.lst va) ∧ W'.D D = none ∧ ¬ W'.M D ∧ DatL Z.K W' va acc
  refine ⟨fun i m H' => m = l.length - i ∧ i ≤ l.length ∧ ∃ W' acc, At H' W' acc ∧ Rest (l.drop i) acc, ⟨l.length, rfl, Nat.zero_le _, W1, [], ⟨[], ePut, upd_same, e1.holds.new nD, e1.holds.newM nD, .nil⟩, t1⟩, ?_⟩
  rintro i m H' ⟨rfl, hi, W', acc, ⟨va, e', hD, nW, nM, da⟩, t'⟩
  have sv' := sv W' H' e'.lt e'.holds
  by_cases hlt : i < l.length
  · have g0 := sv'.2 i l[i] (by simp [hlt])
    have t' : pLc2L g tt ti1 g1 tt1 te vs1 (wipeP ρ vs) (fun acc => Qp (.lst acc)) (l.drop i) acc := t'
    rw [drop_cons hlt] at t'
    refine .inr ⟨g0.1, fun H2 => i < l.length ∧ ∃ W2 acc, At H2 W2 acc ∧ Rest (l.drop (i + 1)) acc, ?_, fun x H2 y => ?_⟩
    · rintro H2 ⟨_, r⟩
      exact ⟨l.length - (i + 1), by omega, rfl, hlt, r⟩
    · obtain ⟨W2, e2, d2⟩ := g0.2 x H2 y
      have S2 := ((S1.ext e').ext e2).mark (D := D) (o := .lst []) (S1.away nD)
      obtain ⟨i1, i2, i3⟩ := e2.keepD hD nW nM
      refine ⟨W2, _, wipeP ρ vs, l[i], _, e2.holds, S2, d2, t', fun σ3 ρ3 o3 S3 t3 => ⟨(wipe_only o3 hs).trans wipe_twice, ?_⟩⟩
      refine ⟨W2, _, ρ3, _, e2.holds, S3, t3, fun W4 H4 b e4 t4 => ?_⟩
      have E4 := e2.trans e'.holds e4
      cases b with
      | false =>
        obtain ⟨k1, k2, k3⟩ := E4.keepD hD nW nM
        exact (if_neg (by decide)).mpr ⟨hlt, W4, acc, ⟨va, e'.trans e1.holds E4, k1, k2, k3, da.mono E4.le⟩, t4⟩
      | true =>
        refine (if_pos rfl).mpr ⟨W4, _, ρ3, _, e4.holds, S3.ext e4, t4, fun W5 H5 J1 l1 e5 sv1 t5 => ?_⟩
        have E5 := E4.trans e'.holds e5
        obtain ⟨m1, m2, m3⟩ := E5.keepD hD nW nM
        -- the heap without D
        have hd : Holds Z W2 (delH H2 D) := e2.holds.del i2 i3
        have eb : Ext Z W2 (delH H2 D) W2 H2 := by
          have z := Ext.put (o := .lst va) hd delH_at
          rwa [delH_back i1] at z
        have Ed : Ext Z W2 (delH H2 D) W5 H5 := (eb.trans hd e4).trans hd e5
        have Sd : Slots Z W2 H0 (delH H2 D) (L2.wipe σ3 vs1) (wipeP ρ3 vs1) := S3.del.wipe vs1
        refine ⟨fun j k H6 => k = l1.length - j ∧ j ≤ l1.length ∧ ∃ W6 acc, At H6 W6 acc ∧ Ext Z W2 (delH H2 D) W6 H6 ∧ Lt W5 H5 W6 (upd H6 D (.lst va)) ∧ pLcL g1 tt1 te (wipeP ρ3 vs1) (fun acc' => Rest (l.drop (i + 1)) acc') (l1.drop j) acc,
          ⟨l1.length, rfl, Nat.zero_le _, W5, acc, ⟨va, e'.trans e1.holds E5, m1, m2, m3, da.mono E5.le⟩, Ed, ⟨.refl W5, fun a p u z => by rw [upd_ne (fun c => by rw [c, m1] at z; cases z)]; exact z⟩, t5⟩, ?_⟩
        rintro j k H6 ⟨rfl, hj, W6, acc6, ⟨va6, f', fD, fW, fM, fa⟩, F6, L6, t6⟩
        have L6' : Lt W5 H5 W6 H6 := ⟨L6.le, fun a p u z => by
          have y := L6.fz a p u z
          rw [upd_ne (fun c => by rw [c, m1] at z; cases z)] at y
          exact y⟩
        have sv6 := sv1 W6 H6 L6' f'.holds
        by_cases hjl : j < l1.length
        · have g6 := sv6.2 j l1[j] (by simp [hjl])
          rw [drop_cons hjl] at t6
          refine .inr ⟨g6.1, fun H7 => j < l1.length ∧ ∃ W7 acc, At H7 W7 acc ∧ Ext Z W2 (delH H2 D) W7 H7 ∧ Lt W5 H5 W7 (upd H7 D (.lst va)) ∧ pLcL g1 tt1 te (wipeP ρ3 vs1) (fun acc' => Rest (l.drop (i + 1)) acc') (l1.drop (j + 1)) acc, ?_, fun x7 H7 y7 => ?_⟩
          · rintro H7 ⟨_, r⟩
            exact ⟨l1.length - (j + 1), by omega, rfl, hjl, r⟩
          · obtain ⟨W7, e7, d7⟩ := g6.2 x7 H7 y7
            have S7 := (Sd.ext F6).ext e7
            have lt7 : ∀ {W8 : Wd} {H8 : Hp} {o : HO}, Ext Z W6 H6 W8 H8 → Lt W5 H5 W8 (upd (upd H8 D o) D (.lst va)) := fun {W8 H8 o} e8 => ⟨L6.le.trans e8.le, fun a p u z => by
              rw [upd_upd, upd_ne (fun c => by rw [c, m1] at z; cases z)]
              exact e8.fz a p u (L6'.fz a p u z)⟩
            have lt7' : ∀ {W8 : Wd} {H8 : Hp}, Ext Z W6 H6 W8 H8 → Lt W5 H5 W8 (upd H8 D (.lst va)) := fun {W8 H8} e8 => ⟨L6.le.trans e8.le, fun a p u z => by
              rw [upd_ne (fun c => by rw [c, m1] at z; cases z)]
              exact e8.fz a p u (L6'.fz a p u z)⟩
            refine ⟨W7, H0, wipeP ρ3 vs1, l1[j], _, e7.holds, S7, d7, t6, fun σ8 ρ8 o8 S8 t8 => ⟨(wipe_only o8 hs1).trans wipe_twice, ?_⟩⟩
            refine ⟨W7, H0, ρ8, _, e7.holds, S8, t8, fun W9 H9 b e9 t9 => ?_⟩
            have E9 := e7.trans f'.holds e9
            cases b with
            | false =>
              obtain ⟨k1, k2, k3⟩ := E9.keepD fD fW fM
              exact (if_neg (by decide)).mpr ⟨hjl, W9, acc6, ⟨va6, f'.trans e1.holds E9, k1, k2, k3, fa.mono E9.le⟩, F6.trans hd E9, lt7' E9, t9⟩
            | true =>
              refine (if_pos rfl).mpr ⟨W9, H0, ρ8, _, e9.holds, S8.ext e9, t9, fun Wa Ha v p ea dd ta => ?_⟩
              have Ea := E9.trans f'.holds ea
              obtain ⟨k1, k2, k3⟩ := Ea.keepD fD fW fM
              exact ⟨va6, k1, by rw [fa.length]; exact ta.1, hjl, Wa, acc6 ++ [p], ⟨va6 ++ [v], (f'.trans e1.holds Ea).wr k2 k3 nD, upd_same, k2, k3, (fa.mono Ea.le).append (.one dd)⟩, (F6.trans hd Ea).wr k2 k3 delH_at, lt7 Ea, ta.2⟩
        · have ej : j = l1.length := by omega
          subst ej
          rw [List.drop_length] at t6
          exact .inl ⟨sv6.1 _ (Nat.le_refl _), hlt, W6, acc6, ⟨va6, f', fD, fW, fM, fa⟩, t6⟩
  · have ei : i = l.length := by omega
    subst ei
    have t' : pLc2L g tt ti1 g1 tt1 te vs1 (wipeP ρ vs) (fun acc => Qp (.lst acc)) (l.drop l.length) acc := t'
    rw [List.drop_length] at t'
    refine .inl ⟨sv'.1 _ (Nat.le_refl _), ?_⟩
    have e3 : Ext Z W1 H1 (W'.add D (.lst va)) H' := e'.frz nW nM nD hD
    exact q _ _ _ _ (e1.trans hh e3) (.lst Wd.add_at (da.mono (Wd.le_add nW))) t'
theorem q_lc2 {elt tg iter tg1 iter1 : Expr} {ifs ifs1 : List Expr} {scope : Scope} {own : List (Str × Nat)} {vs1 ws ws1 : List Nat} {pos : Pos} {ti ti1 : PTI} {g g1 : PTG} {tt tt1 : PTT} {te : PTE} (hN : X.N.Nodup) (hi : PI X tg iter (liftI Z ti)) (ok : BlkOk X.N X.env.scope scope own)
    (hg : ∀ (s : Shared) (H : Hp) (C : Addr) (cl : List (Str × Addr)) (fp : List Addr), PG (X.blk s H scope (compEnvC scope cl C X.env) fp) tg (liftG Z ws g)) (ht : ∀ (s : Shared) (H : Hp) (C : Addr) (cl : List (Str × Addr)) (fp : List Addr), PTs (X.blk s H scope (compEnvC scope cl C X.env) fp) ifs (liftT Z tt))
    (hi1 : ∀ (s : Shared) (H : Hp) (C : Addr) (cl : List (Str × Addr)) (fp : List Addr), PI (X.blk s H scope (compEnvC scope cl C X.env) fp) tg1 iter1 (liftI Z ti1))
    (hg1 : ∀ (s : Shared) (H : Hp) (C : Addr) (cl : List (Str × Addr)) (fp : List Addr), PG (X.blk s H scope (compEnvC scope cl C X.env) fp) tg1 (liftG Z ws1 g1)) (ht1 : ∀ (s : Shared) (H : Hp) (C : Addr) (cl : List (Str × Addr)) (fp : List Addr), PTs (X.blk s H scope (compEnvC scope cl C X.env) fp) ifs1 (liftT Z tt1))
    (he : ∀ (s : Shared) (H : Hp) (C : Addr) (cl : List (Str × Addr)) (fp : List Addr), PE (X.blk s H scope (compEnvC scope cl C X.env) fp) elt (lift Z te)) (hv : ∀ i ∈ vs1, i ∈ own.map (·.2) := by decide) (hws : ∀ i ∈ ws, i ∈ own.map (·.2) := by decide) (hws1 : ∀ i ∈ ws1, i ∈ vs1 := by decide) (hc : X.calm = true := by rfl)
    (hs : ∀ x, foldedSetIterable iter X.env x = pure x := by intro _; rfl) (hs1 : ∀ env x, foldedSetIterable iter1 env x = pure x := by intro _ _; rfl) :
    PE X (.ListComp elt [⟨tg, iter, ifs, 0⟩, ⟨tg1, iter1, ifs1, 0⟩] scope pos) (lift Z (pLc2 ti g tt ti1 g1 tt1 te (own.map (·.2)) vs1)) :=
  PEw (pe_lc2 hc hN hi ok hv hg ht hi1 hg1 ht1 he hs hs1) fun σ H Q => lc2_of hws hws1 σ H Q
theorem qs_setLc2 {i : Nat} {y : Str} {py : Pos} {elt tg iter tg1 iter1 : Expr} {ifs ifs1 : List Expr} {scope : Scope} {own : List (Str × Nat)} {vs1 ws ws1 : List Nat} {pos spos : Pos} {ti ti1 : PTI} {g g1 : PTG} {tt tt1 : PTT} {te : PTE} (hN : X.N.Nodup)
    (hsw : swapsWith (.ListComp elt [⟨tg, iter, ifs, 0⟩, ⟨tg1, iter1, ifs1, 0⟩] scope pos) (some (.Name y py)) spos.line X.env = pure true) (hi : PI X tg iter (liftI Z ti)) (ok : BlkOk X.N X.env.scope scope own)
    (hg : ∀ (s : Shared) (H : Hp) (C : Addr) (cl : List (Str × Addr)) (fp : List Addr), PG (X.blk s H scope (compEnvC scope cl C X.env) fp) tg (liftG Z ws g)) (ht : ∀ (s : Shared) (H : Hp) (C : Addr) (cl : List (Str × Addr)) (fp : List Addr), PTs (X.blk s H scope (compEnvC scope cl C X.env) fp) ifs (liftT Z tt))
    (hi1 : ∀ (s : Shared) (H : Hp) (C : Addr) (cl : List (Str × Addr)) (fp : List Addr), PI (X.blk s H scope (compEnvC scope cl C X.env) fp) tg1 iter1 (liftI Z ti1))
    (hg1 : ∀ (s : Shared) (H : Hp) (C : Addr) (cl : List (Str × Addr)) (fp : List Addr), PG (X.blk s H scope (compEnvC scope cl C X.env) fp) tg1 (liftG Z ws1 g1)) (ht1 : ∀ (s : Shared) (H : Hp) (C : Addr) (cl : List (Str × Addr)) (fp : List Addr), PTs (X.blk s H scope (compEnvC scope cl C X.env) fp) ifs1 (liftT Z tt1))
    (he : ∀ (s : Shared) (H : Hp) (C : Addr) (cl : List (Str × Addr)) (fp : List Addr), PE (X.blk s H scope (compEnvC scope cl C X.env) fp) elt (lift Z te)) (hv : ∀ i ∈ vs1, i ∈ own.map (·.2) := by decide) (hws : ∀ i ∈ ws, i ∈ own.map (·.2) := by decide) (hws1 : ∀ i ∈ ws1, i ∈ vs1 := by decide) (hc : X.calm = true := by rfl)
    (hy : X.N[i]? = some y := by rfl) (hyl : X.env.scope.names.lookup y = some .local := by rfl) (hs : ∀ x, foldedSetIterable iter X.env x = pure x := by intro _; rfl) (hs1 : ∀ env x, foldedSetIterable iter1 env x = pure x := by intro _ _; rfl) :
    PS X (.Assign [.Name y py] (.ListComp elt [⟨tg, iter, ifs, 0⟩, ⟨tg1, iter1, ifs1, 0⟩] scope pos) spos) (liftS Z (pAsg (pLc2 ti g tt ti1 g1 tt1 te (own.map (·.2)) vs1) (gNm i))) :=
  PSw (ps_setLc2 hc hN hy hyl hsw hi ok hv hg ht hi1 hg1 ht1 he hs hs1) fun D σ H h => by
    obtain ⟨W0, H0, W, ρ, E, h0, e, S, t, D1⟩ := h
    exact lc2_of hws hws1 σ H _ ⟨W, H0, ρ, _, e.holds, S, t, fun W1 H1 v p e1 d1 t1 => D1.nx W1 H1 _ _ (e.trans h0 e1) e1.lt ((S.ext e1).setVal i d1) t1⟩
end
end L3

/-! ## L3I -/
/-! sorted({e for ..}) of ints; instances made. -/
namespace L3
open PySem PySem.Spec PyProof.Rows L2
section
variable {X : Cx} {Z : Par}
def pScL (g : PTG) (tt : PTT) (te : PTE) (ρ : List Slt) (Q : List Int → Prop) : List PV → List Int → Prop
  | [], acc => Q acc
  | p :: ps, acc => g p ρ fun ρ1 => tt ρ1 fun b => match b with
    | true => te ρ1 fun r => match r with
      | .int k => acc.length < 4000 ∧ pScL g tt te ρ Q ps (acc ++ [k])
      | _ => False
    | false => pScL g tt te ρ Q ps acc
def pSortSc (ti : PTI) (g : PTG) (tt : PTT) (te : PTE) (vs : List Nat) : PTE := fun ρ Q => ti ρ fun l => pScL g tt te (wipeP ρ vs) (fun acc => ∀ ns : List Int, ns.Pairwise (· < ·) → (∀ k : Int, k ∈ ns ↔ k ∈ acc) → Q (.lst (ns.map PV.int))) l []
theorem sc_of {w : World} {ti : PTI} {ws vs : List Nat} {g : PTG} {tt : PTT} {te : PTE} (hs : ∀ i ∈ ws, i ∈ vs) (σ : L2.St) (H : Hp) (Q : VK) (h : lift Z (pSortSc ti g tt te vs) σ H Q) :
    tScG (fun D => SetO w D (fun _ => false) 0) (addI w) (liftI Z ti) (liftG Z ws g) (liftT Z tt) (lift Z te) vs σ H fun x H1 => rSortedSetA w [x] H1 Q := by
  obtain ⟨W, H0, ρ, Qp, hh, S, t, q⟩ := h
  refine ⟨W, H0, ρ, _, hh, S, t, fun W1 H1 J l e1 sv t1 => fun D nD => ?_⟩
  have S1 := (S.ext e1).wipe vs
  have ePut := Ext.put (o := SetO w D (fun _ => false) 0) e1.holds nD
  let Rest : List PV → List Int → Prop := pScL g tt te (wipeP ρ vs) (fun acc => ∀ ns : List Int, ns.Pairwise (· < ·) → (∀ k : Int, k ∈ ns ↔ k ∈ acc) → Qp (.lst (ns.map PV.int)))
  let At : Hp → Wd → List Int → Prop := fun H' W' acc => ∃ S n, Ext Z W1 H1 W' H' ∧ H' D = some (SetO w D S n) ∧ W'.D D = none ∧ ¬ W'.M D ∧ (∀ k : Int, S k = true ↔ k ∈ acc) ∧ n ≤ acc.length
  refine ⟨fun i m H' => m = l.length - i ∧ i ≤ l.length ∧ ∃ W' acc, At H' W' acc ∧ Rest (l.drop i) acc, ⟨l.length, rfl, Nat.zero_le _, W1, [], ⟨_, 0, ePut, upd_same, e1.holds.new nD, e1.holds.newM nD, fun k => by simp, Nat.le_refl _⟩, t1⟩, ?_⟩
  rintro i m H' ⟨rfl, hi, W', acc, ⟨T, n, e', hD, nW, nM, mem, hn⟩, t'⟩
  have sv' := sv W' H' e'.lt e'.holds
  have t' : pScL g tt te (wipeP ρ vs) (fun acc => ∀ ns : List Int, ns.Pairwise (· < ·) → (∀ k : Int, k ∈ ns ↔ k ∈ acc) → Qp (.lst (ns.map PV.int))) (l.drop i) acc := t'
  by_cases hlt : i < l.length
  · have g1 := sv'.2 i l[i] (by simp [hlt])
    rw [drop_cons hlt] at t'
    refine .inr ⟨g1.1, fun H2 => i < l.length ∧ ∃ W2 acc, At H2 W2 acc ∧ Rest (l.drop (i + 1)) acc, ?_, fun x H2 y => ?_⟩
    · rintro H2 ⟨_, r⟩
      exact ⟨l.length - (i + 1), by omega, rfl, hlt, r⟩
    · obtain ⟨W2, e2, d2⟩ := g1.2 x H2 y
      have S2 := (S1.ext e').ext e2
      refine ⟨W2, H0, wipeP ρ vs, l[i], _, e2.holds, S2, d2, t', fun σ3 ρ3 o3 S3 t3 => ⟨(wipe_only o3 hs).trans wipe_twice, ?_⟩⟩
      refine ⟨W2, H0, ρ3, _, e2.holds, S3, t3, fun W4 H4 b e4 t4 => ?_⟩
      have E4 := e2.trans e'.holds e4
      cases b with
      | false =>
        obtain ⟨k1, k2, k3⟩ := E4.keepD hD nW nM
        exact (if_neg (by decide)).mpr ⟨hlt, W4, acc, ⟨T, n, e'.trans e1.holds E4, k1, k2, k3, mem, hn⟩, t4⟩
      | true =>
        refine (if_pos rfl).mpr ⟨W4, H0, ρ3, _, e4.holds, S3.ext e4, t4, fun W5 H5 v p e5 d5 t5 => ?_⟩
        have E5 := E4.trans e'.holds e5
        obtain ⟨k1, k2, k3⟩ := E5.keepD hD nW nM
        split at t5
        · rename_i k
          cases d5
          have sb : (scanBound : Nat) = 4096 := rfl
          refine ⟨k, T, n, rfl, k1, by have := t5.1; omega, hlt, W5, acc ++ [k], ⟨_, _, (e'.trans e1.holds E5).wr k2 k3 nD, upd_same, k2, k3, fun j => ?_, ?_⟩, t5.2⟩
          · rw [Bool.or_eq_true, mem j, decide_eq_true_eq, List.mem_append, List.mem_singleton]
          · rw [List.length_append]
            split
            · exact Nat.le_trans hn (Nat.le_add_right _ _)
            · exact Nat.succ_le_succ hn
        · exact t5.elim
  · have ei : i = l.length := by omega
    subst ei
    rw [List.drop_length] at t'
    refine .inl ⟨sv'.1 _ (Nat.le_refl _), D, T, n, rfl, hD, fun ns p h1 h2 h3 np => ?_⟩
    exact q _ _ _ _ (e1.trans hh (e'.trans e1.holds (Ext.new e'.holds np))) (.lst Wd.add_at (DatL.ofInts ns)) (t' ns h1 fun k => (h2 k).trans (mem k))
theorem q_sortSc {elt tg iter : Expr} {ifs : List Expr} {scope : Scope} {own : List (Str × Nat)} {ws : List Nat} {p pos pos2 : Pos} {ti : PTI} {g : PTG} {tt : PTT} {te : PTE} (hm : X.mg "sorted" = none) (hN : X.N.Nodup) (hi : PI X tg iter (liftI Z ti)) (ok : BlkOk X.N X.env.scope scope own)
    (hg : ∀ (s : Shared) (H : Hp) (C : Addr) (cl : List (Str × Addr)) (fp : List Addr), PG (X.blk s H scope (compEnvC scope cl C X.env) fp) tg (liftG Z ws g)) (ht : ∀ (s : Shared) (H : Hp) (C : Addr) (cl : List (Str × Addr)) (fp : List Addr), PTs (X.blk s H scope (compEnvC scope cl C X.env) fp) ifs (liftT Z tt))
    (he : ∀ (s : Shared) (H : Hp) (C : Addr) (cl : List (Str × Addr)) (fp : List Addr), PE (X.blk s H scope (compEnvC scope cl C X.env) fp) elt (lift Z te)) (hws : ∀ i ∈ ws, i ∈ own.map (·.2) := by decide) (hc : X.calm = true := by rfl) (hgl : Gl X "sorted" := by rfl) (hs : ∀ x, foldedSetIterable iter X.env x = pure x := by intro _; rfl)
    (hst : starEach [.SetComp elt [⟨tg, iter, ifs, 0⟩] scope pos2] X.env = (false, eval (.SetComp elt [⟨tg, iter, ifs, 0⟩] scope pos2) X.env) :: starEach [] X.env := by rfl) (hpl : (backTo pos (starEach [] X.env)).any (·.1) = false := by rfl) :
    PE X (.Call (.Name "sorted" p) [.SetComp elt [⟨tg, iter, ifs, 0⟩] scope pos2] [] pos) (lift Z (pSortSc ti g tt te (own.map (·.2)))) := by
  refine PEw (pe_callB (cr_sortedSetA hc) hgl hm PyProof.Rows.boot_sorted (pa_cons (pe_scG (mk := fun D => SetO X.w D (fun _ => false) 0) (r := addI X.w) (fun H' h => mkI_ok X.prog X.w H' h) (addI_ok X.prog X.w) hc hN hi ok hg ht he hs) pa_nil hst) (by decide) (by decide) hst hpl) fun σ H Q h => ?_
  exact sc_of (w := X.w) hws σ H Q h

/-! ### instances made -/
/-- what __init__ promises: from a bare instance (own to it) to the value Φ -/
def spMk (Z : Par) (c : Str) (Φ : Con) : Sp := fun vs H Q _ => ∃ x dx vs' W Hb ps Qp, vs = .ref x :: vs' ∧ Holds Z W Hb ∧ Hb x = none ∧ H = upd Hb x (.ins (He.ga Z.K c) dx []) ∧ DatL Z.K W vs' ps ∧ Φ ps Qp ∧
  ∀ W' H' p, Ext Z W Hb W' H' → Dat Z.K W' (.ref x) p → Qp p → Q .non H'
structure MkC (P : Program) (w : World) (mg : Str → Option Value) (Z : Par) (c : Str) (k n : Nat) (Φ : Con) : Prop where
  ex : ∃ (f : Addr) (fd : FuncData) (ps : List Str), mg c = some (.ref (He.ga Z.K c)) ∧ Mk Z.K (He.ga Z.K c) f ∧ Binds Z.K fd ps [] ∧ ps.length = n + 1 ∧ ∀ base : Heap, FnOk P w Z.K mg base CX0 k f fd ps (spMk Z c Φ)
theorem q_make {c : Str} {k j n : Nat} {Φ : Con} {p pos : Pos} {e : Expr} {es : List Expr} {t : PTA} (M : MkC X.prog X.w X.mg Z c k n Φ) (hr : Room j X.A) (ha : PA X (e :: es) (liftA Z t)) (hK : X.K = Z.K := by rfl) (hj : k + 1 ≤ j := by decide) (hg : Gl X c := by rfl)
    (hdb : (c == ("__debug__" : Str)) = false := by decide) (he : starEach (e :: es) X.env = (false, eval e X.env) :: starEach es X.env := by rfl) (hpl : (backTo pos (starEach es X.env)).any (·.1) = false := by rfl) :
    PE X (.Call (.Name c p) (e :: es) [] pos) (lift Z (pCall Φ t)) := by
  obtain ⟨f, fd, ps, hm, mk, b, hn, F⟩ := M.ex
  rw [← hK] at mk b
  refine PEw (pe_make mk (hK ▸ F X.base) (hr.mono hj) hg (by rw [hK]; exact hm) b .nil pass0 ha hdb he hpl) fun σ H Q ⟨W, H0, ρ, Qp, hh, S, t, q⟩ => ?_
  refine ⟨W, H0, ρ, _, hh, S, t, fun W1 H1 vs ps e1 d1 t1 => fun x dx nx ndx ne => ?_⟩
  have e2 := Ext.put (o := .own x) e1.holds ndx
  have nx2 : (upd H1 dx (.own x)) x = none := by rw [upd_ne (Ne.symm ne)]; exact nx
  refine ⟨x, dx, vs, W1, upd H1 dx (.own x), ps, Qp, by rw [List.append_nil], e2.holds, nx2, by rw [hK], d1, t1, fun W3 H3 p3 e3 d3 t3 => ⟨rfl, ?_⟩⟩
  exact q W3 H3 _ p3 (e1.trans hh (e2.trans e1.holds e3)) d3 t3
end
end L3

/-! ## L3J -/
/-! Names of kinds; += on ints; a tuple's slice; dict(pairs); the shared pool; two targets, one an own list. -/
namespace L3
open PySem PySem.Spec PyProof.Rows L2
abbrev kAddI : PK2 := kI0 fun i j => .int (i + j)
abbrev kSubI : PK2 := kI0 fun i j => .int (i - j)
abbrev kMulI : PK2 := kII MulOk fun i j => .int (i * j)
abbrev kFdI : PK2 := kII DivOk fun i j => .int (i.fdiv j)
abbrev kMdI : PK2 := kII ModOk fun i j => .int (i.fmod j)
abbrev kPowI : PK2 := kII CPow fun i j => .int (i ^ j.toNat)
abbrev kLtI : PK2 := kI0 fun i j => .bl (decide (i < j))
abbrev kLeI : PK2 := kI0 fun i j => .bl (decide (i ≤ j))
abbrev kGtI : PK2 := kI0 fun i j => .bl (decide (j < i))
abbrev kGeI : PK2 := kI0 fun i j => .bl (decide (j ≤ i))
section
variable {X : Cx} {Z : Par}
/-- x += e, whole numbers -/
def pAug (i : Nat) (te : PTE) : PTS := fun E ρ => match ρ[i]? with
  | some (.val (.int a)) => te ρ fun p => (match p with
    | .int b => E.nx (ρ.set i (.val (.int (a + b))))
    | _ => False)
  | _ => False
theorem qs_augAdd {i : Nat} {x : Str} {e : Expr} {te : PTE} {pos' pos : Pos} (hN : X.N.Nodup) (he : PE X e (lift Z te)) (hi : X.N[i]? = some x := by rfl) (hx : Loc X.env.scope x := by first | exact .inl rfl | exact .inr rfl)
    (hf : X.fn x = true ∨ X.env.scope.names.lookup x = some .local := by first | exact .inl rfl | exact .inr rfl) :
    PS X (.AugAssign (.Name x pos') .Add e pos) (liftS Z (pAug i te)) :=
  PSw (ps_aug hN hi hx he ip_add hf) fun D σ H ⟨W0, H0, W, ρ, E, h0, e, S, t, D1⟩ => by
    unfold pAug at t
    split at t
    · rename_i a z
      obtain ⟨v, h1, h2⟩ := S.val i _ z
      cases h2
      refine ⟨_, h1, W, H0, ρ, _, e.holds, S, t, fun W1 H1 v p e1 d1 t1 => ?_⟩
      cases d1 with
      | int b => exact ⟨a, b, rfl, rfl, D1.nx W1 H1 _ _ (e.trans h0 e1) e1.lt ((S.ext e1).setVal i (.int _)) t1⟩
      | _ => exact t1.elim
    · exact t.elim
theorem q_sliceT {e : Expr} {te : PTE} {lo hi : Option Expr} {tl th : PTO} {p2 pos : Pos} (he : PE X e (lift Z te)) (hl : PO X lo (liftO Z tl)) (hu : PO X hi (liftO Z th)) (hK : X.K = Z.K := by rfl) : PE X (.Subscript e (.Slice lo hi none p2) pos) (lift Z (pSlT te tl th)) :=
  PEw (pe_slice sl_tup he hl hu) fun σ H Q ⟨W, H0, ρ, Qp, hh, S, t, q⟩ => by
    refine ⟨W, H0, ρ, _, hh, S, t, fun W1 H1 x p e1 d1 t1 => ⟨W1, H0, ρ, _, e1.holds, S.ext e1, t1, fun W2 H2 o2 e2 t2 => ⟨W2, H0, ρ, _, e2.holds, (S.ext e1).ext e2, t2, fun W3 H3 o3 e3 t3 => ?_⟩⟩⟩
    have dx := (d1.mono e2.le).mono e3.le
    have E3 := (e1.trans hh e2).trans hh e3
    cases dx with
    | tup ha ra =>
      refine ⟨_, _, rfl, .of (e3.holds.ex ha fun z => z), fun hq => ?_, fun p n => ?_⟩
      · refine t3.1 ?_
        rw [ra.length] at hq
        simp [cutP, hq.1, hq.2]
      · exact q _ _ _ _ (E3.trans hh (Ext.new e3.holds n)) (.tup Wd.add_at ((ra.cut o2 o3).mono (Wd.le_add (e3.holds.new n)))) t3.2
    | _ => exact t3.elim
def kGtS : PK2 := fun p q Q => match p, q with
  | .str a, .str b => Q (.bl (decide (b.cps.toList < a.cps.toList)))
  | _, _ => False
theorem q_gtS : OpP Z X (compareOp .Gt) kGtS := ⟨_, op_gt_str, fun W H x y p q Q Qp hh dx dy t k => by
    unfold kGtS at t
    split at t
    · cases dx; cases dy
      exact ⟨_, _, rfl, rfl, k W H _ _ (.refl hh) (.bl _) t⟩
    · exact t.elim⟩

/-! ### dict(pairs) -/
def pairsP : List PV → Option (List (Key × PV))
  | [] => some []
  | .tup [k, v] :: r => match keyP k, pairsP r with
    | some k, some ks => some ((k, v) :: ks)
    | _, _ => none
  | _ => none
def mergeP (kvs more : List (Key × PV)) : List (Key × PV) := more.foldl (fun acc kv => putA acc kv.1 kv.2) kvs
theorem DatK.merge {K : PySem.W.Frag} {W : Wd} : ∀ (ms : List (Key × V)) {qs : List (Key × PV)} {vs : List (Key × V)} {ps : List (Key × PV)}, DatK K W ms qs → DatK K W vs ps → DatK K W (mergeK vs ms) (mergeP ps qs)
  | [], _, _, _, d, h => by cases d; exact h
  | _ :: ms, _, _, _, d, h => by
    cases d with
    | @cons k _ _ _ _ d t =>
      have z := DatK.merge ms t (h.put (k := k) d)
      exact z
theorem pairs_ok {W : Wd} {H : Hp} (hh : Holds Z W H) : ∀ {xs : List V} {l : List PV} {kvs : List (Key × PV)}, DatL Z.K W xs l → pairsP l = some kvs → ∃ (ps : List Addr) (ms : List (Key × V)), xs = ps.map V.ref ∧ Paired (fun p kv => SqT Z.K H p [kV kv.1, kv.2]) ps ms ∧ DatK Z.K W ms kvs
  | _, _, _, .nil, e => by cases e; exact ⟨[], [], rfl, .nil, .nil⟩
  | _, p :: r, kvs, .cons d t, e => by
    unfold pairsP at e
    split at e
    · rename_i z; cases z
    · rename_i k v r' z
      cases z
      split at e
      · rename_i k' ks e1 e2
        cases e
        obtain ⟨ps, ms, h1, h2, h3⟩ := pairs_ok hh t e2
        cases d with
        | @tup a xs _ ha ra =>
          cases ra with
          | @cons u _ us _ d1 ra => cases ra with
            | @cons v' _ vs _ d2 ra => cases ra with
              | nil =>
                refine ⟨a :: ps, (k', v') :: ms, by rw [h1]; rfl, .cons ?_ h2, .cons d2 h3⟩
                show SqT Z.K H a [kV k', v']
                rw [← d1.key e1]
                exact .of (hh.ex ha fun z => z)
      · cases e
    · cases e
def kDict : PKA := fun ps Q => match ps with
  | [.lst l] => (match pairsP l with | some kvs => Q (.dic (mergeP [] kvs)) | none => False)
  | _ => False
theorem c_dict (hK : X.K = Z.K := by rfl) (hc : X.calm = true := by rfl) : CallP Z X (.type "dict") kDict := ⟨_, call_dictP hc, fun W H xs ps Q Qp hh d t k => by
  unfold kDict at t
  split at t
  · split at t
    · rename_i kvs e
      cases d with
      | cons d1 d2 => cases d2; cases d1 with
        | lst ha r =>
          obtain ⟨as, ms, h1, h2, h3⟩ := pairs_ok hh r e
          refine ⟨_, as, ms, rfl, .of (by rw [← h1]; exact hh.ex ha fun z => z), by rw [hK]; exact h2, fun p n => k _ _ _ _ (Ext.new hh n) (.dic Wd.add_at (DatK.merge ms (h3.mono (Wd.le_add (hh.new n))) .nil)) t⟩
    · exact t.elim
  · exact t.elim⟩
/-- x = dict(pairs), an own one -/
def pOwnD (i : Nat) (ta : PTA) : PTS := fun E ρ => ta ρ fun ps => match ps with
  | [.lst l] => (match pairsP l with | some kvs => E.nx (ρ.set i (.own (.dic (mergeP [] kvs)))) | none => False)
  | _ => False
theorem qs_ownD {i : Nat} {x : Str} {ea : Expr} {ta : PTA} {pf pos' pos pos2 : Pos} (hN : X.N.Nodup) (hm : X.mg "dict" = none) (ha : PA X [ea] (liftA Z ta)) (hK : X.K = Z.K := by rfl) (hc : X.calm = true := by rfl) (hg : Gl X "dict" := by rfl)
    (he : starEach [ea] X.env = (false, eval ea X.env) :: starEach [] X.env := by rfl) (hpl : (backTo pos2 (starEach [] X.env)).any (·.1) = false := by rfl)
    (hi : X.N[i]? = some x := by rfl) (hx : Loc X.env.scope x := by first | exact .inl rfl | exact .inr rfl) (hs : swapsWith (.Call (.Name "dict" pf) [ea] [] pos2) (some (.Name x pos')) pos.line X.env = pure false := by rfl)
    (hf : X.fn x = true ∨ X.env.scope.names.lookup x = some .local := by first | exact .inl rfl | exact .inr rfl) :
    PS X (.Assign [.Name x pos'] (.Call (.Name "dict" pf) [ea] [] pos2) pos) (liftS Z (pOwnD i ta)) :=
  PSw (ps_set hN hi hx (pe_callTy (call_dictP hc) hg hm rfl ha (by decide) (by decide) he hpl) hs hf) fun D σ H ⟨W0, H0, W, ρ, E, h0, e, S, t, D1⟩ =>
    ⟨W, H0, ρ, _, e.holds, S, t, fun W1 H1 vs ps e1 d1 t1 => by
      split at t1
      · split at t1
        · rename_i kvs ek
          cases d1 with
          | cons d1 d2 => cases d2; cases d1 with
            | lst ha r =>
              obtain ⟨as, ms, h1, h2, h3⟩ := pairs_ok e1.holds r ek
              refine ⟨_, as, ms, rfl, .of (by rw [← h1]; exact e1.holds.ex ha fun z => z), by rw [hK]; exact h2, fun p n => ?_⟩
              obtain ⟨e2, S2⟩ := new_own (o := .dK (mergeK [] ms)) (p := .dic (mergeP [] kvs)) h0 (e.trans h0 e1) (S.ext e1) i n ⟨_, upd_same, DatK.merge ms h3 .nil⟩
              exact D1.nx W1 _ _ _ e2 ⟨e1.le, fun b q v e => by
                have z := e1.fz b q v e
                rw [upd_ne (ne_of_none z n)]
                exact z⟩ S2 t1
        · exact t1.elim
      · exact t1.elim⟩

/-! ### a, b = [..], e with a own; a, b = e, [] with b own -/
def pParL (i j : Nat) (ta : PTA) (te : PTE) : PTS := fun E ρ => ta ρ fun ps => ps.length ≤ sizeLine ∧ te ρ fun q => E.nx ((ρ.set i (.own (.lst ps))).set j (.val q))
theorem qs_parL {i j : Nat} {x y : Str} {es : List Expr} {b : Expr} {ta : PTA} {te : PTE} {px py pt pos lp : Pos} {kt k2 pt2} (hN : X.N.Nodup) (ha : PA X es (liftA Z ta)) (hb : PE X b (lift Z te)) (hi : X.N[i]? = some x := by rfl) (hj : X.N[j]? = some y := by rfl) (hij : i ≠ j := by decide)
    (hx : X.env.scope.names.lookup x = some .local := by rfl) (hy : X.env.scope.names.lookup y = some .local := by rfl) (hc : X.calm = true := by rfl)
    (h1 : starEach [.List es lp, b] X.env = (false, eval (.List es lp) X.env) :: starEach [b] X.env := by rfl) (h2 : starEach [b] X.env = (false, eval b X.env) :: starEach [] X.env := by rfl)
    (hw : swappedStores [.Tuple [.Name x px, .Name y py] kt pt] (.Tuple [.List es lp, b] k2 pt2) X.env = pure (some [x, y]) := by rfl)
    (hs : swapsWithSole [.Tuple [.Name x px, .Name y py] kt pt] (.Tuple [.List es lp, b] k2 pt2) pos.line X.env = pure false := by rfl) :
    PS X (.Assign [.Tuple [.Name x px, .Name y py] kt pt] (.Tuple [.List es lp, b] k2 pt2) pos) (liftS Z (pParL i j ta te)) :=
  PSw (ps_par hc hN hi hj hij hx hy (pa_cons (pe_lst ha) (pa_cons hb pa_nil h2) h1) hw hs) fun D σ H ⟨W0, H0, W, ρ, E, h0, e, S, t, D1⟩ =>
    ⟨W, H0, ρ, _, e.holds, S, t, fun W1 H1 vs ps e1 d1 t1 => ⟨by rw [d1.length]; exact t1.1, fun p n => by
      have S1 := S.ext e1
      have ep := Ext.put (o := .lst vs) e1.holds n
      refine ⟨W1, H0, ρ, _, ep.holds, S1.ext ep, t1.2, fun W2 H2 v q e2 d2 t2 => ⟨_, _, rfl, ?_⟩⟩
      obtain ⟨k1, k2, k3⟩ := e2.keepD upd_same (e1.holds.new n) (e1.holds.newM n)
      have E2 := ((e.trans h0 e1).trans h0 ep).trans h0 e2
      have hp0 : H0 p = none := (e.trans h0 e1).nonE h0 n
      have fr : ∀ (k : Nat) (r : PV), ρ[k]? = some (.own r) → σ[k]? ≠ some (some (.ref p)) := S1.fresh_own n
      exact D1.nx W2 H2 _ _ E2 ((e1.lt.trans ep.lt).trans e2.lt) ((((S1.ext ep).ext e2).setOwn i (a := p) (p := .lst ps) ⟨vs, k1, d1.mono e2.le⟩ hp0 k2 k3 fr).setVal j d2) t2⟩⟩
def pParR (i j : Nat) (te : PTE) (ta : PTA) : PTS := fun E ρ => te ρ fun q => ta ρ fun ps => ps.length ≤ sizeLine ∧ E.nx ((ρ.set i (.val q)).set j (.own (.lst ps)))
theorem qs_parR {i j : Nat} {x y : Str} {es : List Expr} {b : Expr} {ta : PTA} {te : PTE} {px py pt pos lp : Pos} {kt k2 pt2} (hN : X.N.Nodup) (hb : PE X b (lift Z te)) (ha : PA X es (liftA Z ta)) (hi : X.N[i]? = some x := by rfl) (hj : X.N[j]? = some y := by rfl) (hij : i ≠ j := by decide)
    (hx : X.env.scope.names.lookup x = some .local := by rfl) (hy : X.env.scope.names.lookup y = some .local := by rfl) (hc : X.calm = true := by rfl)
    (h1 : starEach [b, .List es lp] X.env = (false, eval b X.env) :: starEach [.List es lp] X.env := by rfl) (h2 : starEach [.List es lp] X.env = (false, eval (.List es lp) X.env) :: starEach [] X.env := by rfl)
    (hw : swappedStores [.Tuple [.Name x px, .Name y py] kt pt] (.Tuple [b, .List es lp] k2 pt2) X.env = pure (some [x, y]) := by rfl)
    (hs : swapsWithSole [.Tuple [.Name x px, .Name y py] kt pt] (.Tuple [b, .List es lp] k2 pt2) pos.line X.env = pure false := by rfl) :
    PS X (.Assign [.Tuple [.Name x px, .Name y py] kt pt] (.Tuple [b, .List es lp] k2 pt2) pos) (liftS Z (pParR i j te ta)) :=
  PSw (ps_par hc hN hi hj hij hx hy (pa_cons hb (pa_cons (pe_lst ha) pa_nil h2) h1) hw hs) fun D σ H ⟨W0, H0, W, ρ, E, h0, e, S, t, D1⟩ =>
    ⟨W, H0, ρ, _, e.holds, S, t, fun W1 H1 v q e1 d1 t1 => ⟨W1, H0, ρ, _, e1.holds, S.ext e1, t1, fun W2 H2 vs ps e2 d2 t2 => ⟨by rw [d2.length]; exact t2.1, fun p n => ⟨_, _, rfl, by
      have S2 := ((S.ext e1).ext e2).setVal i (d1.mono e2.le)
      obtain ⟨e3, S3⟩ := new_own (o := .lst vs) (p := .lst ps) h0 ((e.trans h0 e1).trans h0 e2) S2 j n ⟨vs, upd_same, d2⟩
      exact D1.nx W2 _ _ _ e3 ⟨(e1.le).trans e2.le, fun b q v e => by
        have z := e2.fz b q v (e1.fz b q v e)
        rw [upd_ne (ne_of_none z n)]
        exact z⟩ S3 t2.2⟩⟩⟩⟩
end

/-! ### the pool: a list of two ints, shared -/
def PoolI : Hp → HO → Prop := fun _ o => ∃ c s : Int, o = .lst [.int c, .int s] ∧ 0 ≤ s ∧ s < 2147483648
def Zp (K : PySem.W.Frag) : Par := ⟨K, PoolI, fun _ _ _ _ h => h⟩
section
variable {X : Cx} {K : PySem.W.Frag}
def pCel (v : Nat) (i : Int) : PTE := fun ρ Q => match ρ[v]? with
  | some (.val .cel) => (i = 0 ∧ ∀ c : Int, Q (.int c)) ∨ (i = 1 ∧ ∀ s : Int, 0 ≤ s → s < 2147483648 → Q (.int s))
  | _ => False
theorem q_cel {v : Nat} {i : Int} {x : Str} {j : Nat} {px pi pos : Pos} (hK : X.K = K := by rfl) (hN : X.N[v]? = some x := by rfl) (hv : Vis X.env.scope x := by first | exact .inl rfl | exact .inr (.inl rfl) | exact .inr (.inr rfl)) (hd : (x == ("__debug__" : Str)) = false := by decide) (hcd : (x == ("__classdict__" : Str)) = false := by decide) :
    PE X (.Subscript (.Name x px) (.Constant (.int i) j pi) pos) (lift (Zp K) (pCel v i)) :=
  PEw (pe_ix ix_seq (pe_var hN hv hd hcd) pe_int (fun _ _ => rfl)) fun σ H Q ⟨W, H0, ρ, Qp, hh, S, t, q⟩ => by
    unfold pCel at t
    split at t
    · rename_i z
      obtain ⟨u, h1, h2⟩ := S.val v _ z
      refine ⟨u, h1, ?_⟩
      cases h2 with
      | cel hm =>
        obtain ⟨o, ho, c, s, rfl, s0, s1⟩ := hh.cel _ hm
        rcases t with ⟨rfl, t⟩ | ⟨rfl, t⟩
        · exact .inl ⟨_, _, _, _, rfl, rfl, .of ho, rfl, q W H _ _ (.refl hh) (.int _) (t c)⟩
        · exact .inl ⟨_, _, _, _, rfl, rfl, .of ho, rfl, q W H _ _ (.refl hh) (.int _) (t s s0 s1)⟩
    · exact t.elim
theorem Ext.wrM {W : Wd} {H : Hp} {a : Addr} {o : HO} (h : Holds (Zp K) W H) (m : W.M a) (p : PoolI W.D o) : Ext (Zp K) W H W (upd H a o) where
  holds :=
    { sub := fun b u e => by
        rw [upd_ne (fun c => by rw [c, h.dis a m] at e; cases e)]
        exact h.sub b u e
      cel := fun b q => by
        by_cases c : b = a
        · subst c; exact ⟨o, upd_same, p⟩
        · obtain ⟨u, r, s⟩ := h.cel b q
          exact ⟨u, by rw [upd_ne c]; exact r, s⟩
      dis := h.dis }
  le := .refl W
  base := fun b u e _ n => by rw [upd_ne (fun c => n (by rw [c]; exact m))]; exact e
  fr := fun _ _ q => .inl q
  frM := fun _ q => .inl q
  fz := fun b od u e => by
    rw [upd_ne (fun c => by
      obtain ⟨o', ho, c', s', rfl, _⟩ := h.cel a m
      rw [c, ho] at e; cases e)]
    exact e
def pCelSet (v : Nat) (i : Int) (te : PTE) : PTS := fun E ρ => match ρ[v]? with
  | some (.val .cel) => te ρ fun p => (match p with
    | .int n => (i = 0 ∨ (i = 1 ∧ 0 ≤ n ∧ n < 2147483648)) ∧ E.nx ρ
    | _ => False)
  | _ => False
theorem qs_celSet {v : Nat} {i : Int} {x : Str} {j : Nat} {e : Expr} {te : PTE} {px pi pos' pos : Pos} (he : PE X e (lift (Zp K) te)) (hN : X.N[v]? = some x := by rfl) (hv : Vis X.env.scope x := by first | exact .inl rfl | exact .inr (.inl rfl) | exact .inr (.inr rfl)) (hd : (x == ("__debug__" : Str)) = false := by decide) (hcd : (x == ("__classdict__" : Str)) = false := by decide)
    (hs : swapsWithSole [.Subscript (.Name x px) (.Constant (.int i) j pi) pos'] e pos.line X.env = pure false := by rfl) (hw : swappedStores [.Subscript (.Name x px) (.Constant (.int i) j pi) pos'] e X.env = pure none := by rfl)
    (h1 : List.map (fun x => x.snd) (assignEach [.Subscript (.Name x px) (.Constant (.int i) j pi) pos'] X.env) = [assign (.Subscript (.Name x px) (.Constant (.int i) j pi) pos') X.env] := by rfl) :
    PS X (.Assign [.Subscript (.Name x px) (.Constant (.int i) j pi) pos'] e pos) (liftS (Zp K) (pCelSet v i te)) :=
  PSw (ps_asg he (pg_sub (pe_var hN hv hd hcd) pe_int set_list) hs hw h1) fun D σ H ⟨W0, H0, W, ρ, E, h0, e, S, t, D1⟩ => by
    unfold pCelSet at t
    split at t
    · rename_i z
      refine ⟨W, H0, ρ, _, e.holds, S, t, fun W1 H1 y p e1 d1 t1 => ?_⟩
      cases d1 with
      | int n =>
        obtain ⟨u, h1, h2⟩ := (S.ext e1).val v _ z
        refine ⟨u, h1, ?_⟩
        cases h2 with
        | @cel a hm =>
          obtain ⟨o, ho, c, s, rfl, s0, s1⟩ := e1.holds.cel _ hm
          obtain ⟨hc, t1⟩ := t1
          rcases hc with rfl | ⟨rfl, n0, n1⟩
          · have ew := Ext.wrM (o := .lst [.int n, .int s]) e1.holds hm ⟨n, s, rfl, s0, s1⟩
            exact ⟨a, _, 0, 0, rfl, rfl, ho, rfl, D1.nx W1 _ σ ρ ((e.trans h0 e1).trans h0 ew) (e1.lt.trans ew.lt) ((S.ext e1).ext ew) t1⟩
          · have ew := Ext.wrM (o := .lst [.int c, .int n]) e1.holds hm ⟨c, n, rfl, n0, n1⟩
            exact ⟨a, _, 1, 1, rfl, rfl, ho, rfl, D1.nx W1 _ σ ρ ((e.trans h0 e1).trans h0 ew) (e1.lt.trans ew.lt) ((S.ext e1).ext ew) t1⟩
      | _ => exact t1.elim
    · exact t.elim
/-- [c, s], shared from here on -/
def pNewCel (ta : PTA) : PTE := fun ρ Q => ta ρ fun ps => match ps with
  | [.int _, .int s] => 0 ≤ s ∧ s < 2147483648 ∧ Q .cel
  | _ => False
theorem Ext.newCel {W : Wd} {H : Hp} {p : Addr} {o : HO} (h : Holds (Zp K) W H) (n : H p = none) (i : PoolI W.D o) : Ext (Zp K) W H ⟨W.D, fun a => W.M a ∨ a = p⟩ (upd H p o) where
  holds :=
    { sub := (h.put n).sub
      cel := fun a q => by
        by_cases c : a = p
        · subst c; exact ⟨o, upd_same, i⟩
        · exact (h.put n).cel a (q.resolve_right c)
      dis := fun a q => by
        rcases q with q | q
        · exact h.dis a q
        · rw [q]; exact h.new n }
  le := ⟨fun _ _ e => e, fun _ m => .inl m⟩
  base := fun a u q _ _ => by rw [upd_ne (ne_of_none q n)]; exact q
  fr := fun _ _ q => .inl q
  frM := fun a q => by
    rcases q with q | q
    · exact .inl q
    · exact .inr (by rw [q]; exact n)
  fz := fun a o u q => by rw [upd_ne (ne_of_none q n)]; exact q
theorem q_newCel {es : List Expr} {pos : Pos} {t : PTA} (h : PA X es (liftA (Zp K) t)) : PE X (.List es pos) (lift (Zp K) (pNewCel t)) :=
  PEw (pe_lst h) fun σ H Q ⟨W, H0, ρ, Qp, hh, S, t, q⟩ =>
    ⟨W, H0, ρ, _, hh, S, t, fun W1 H1 vs ps e1 d1 t1 => by
      split at t1
      · obtain ⟨s0, s1, t1⟩ := t1
        cases d1 with
        | cons d1 d2 => cases d2 with
          | cons d2 d3 => cases d1; cases d2; cases d3
                          exact ⟨by rw [sizeLine_eq]; exact Nat.le_of_ble_eq_true rfl, fun p n => q _ _ _ _ (e1.trans hh (Ext.newCel (o := .lst [.int _, .int _]) e1.holds n ⟨_, _, rfl, s0, s1⟩)) (.cel (.inr rfl)) t1⟩
      · exact t1.elim⟩
end
end L3

/-! ## L3M -/
/-! __init__: an instance under the making, with one own dict in a field at the most. -/
namespace L3
open PySem PySem.Spec PyProof.Rows L2

abbrev Isd := Option (Str × List (Key × PV))
def IslD (Z : Par) (W : Wd) (Hb H Hs : Hp) (x : Addr) (xs : List (Str × V)) (fs : List (Str × PV)) : Isd → Prop
  | none => DatF Z.K W xs fs
  | some (f, l) => ∃ ys d kvs, xs = ys ++ [(f, .ref d)] ∧ DatF Z.K W ys fs ∧ fs.lookup f = none ∧ d ≠ x ∧ H d = some (.dK kvs) ∧ DatK Z.K W kvs l ∧ Hb d = none ∧ W.D d = none ∧ ¬ W.M d ∧ Hs d ≠ none
structure Isl (Z : Par) (c : Str) (x dx : Addr) (W : Wd) (Hb H Hs : Hp) (fs : List (Str × PV)) (dd : Isd) : Prop where
  ex : ∃ xs, H x = some (.ins (He.ga Z.K c) dx xs) ∧ IslD Z W Hb H Hs x xs fs dd
  b0 : Hb x = none
  nD : W.D x = none
  nM : ¬ W.M x
  s0 : Hs x ≠ none
  hb : ∀ a, Hb a ≠ none → Hs a ≠ none
abbrev ITN := List Slt → List (Str × PV) → Isd → Prop
abbrev ITS := ITN → ITN
structure NSt (Z : Par) (c : Str) (x dx : Addr) (W0 : Wd) (Hb : Hp) (W : Wd) (H : Hp) (σ : L2.St) (ρ : List Slt) (fs : List (Str × PV)) (dd : Isd) : Prop where
  h0 : Holds Z W0 Hb
  e : Ext Z W0 Hb W H
  z : ρ[0]? = some (.val (.raw x))
  ex : ∃ Hs, Slots Z W Hs H σ ρ ∧ Isl Z c x dx W Hb H Hs fs dd
def liftN (Z : Par) (c : Str) (x dx : Addr) (t : ITS) : TS := fun D σ H => ∃ W0 Hb W ρ fs dd nx, NSt Z c x dx W0 Hb W H σ ρ fs dd ∧ t nx ρ fs dd ∧
  ∀ W' H' σ' ρ' fs' dd', Lt W H W' H' → NSt Z c x dx W0 Hb W' H' σ' ρ' fs' dd' → nx ρ' fs' dd' → D.nx σ' H'
section
variable {X : Cx} {Z : Par} {c : Str} {x dx : Addr}
theorem Isl.ext {W W' : Wd} {Hb H H' Hs : Hp} {fs : List (Str × PV)} {dd : Isd} (I : Isl Z c x dx W Hb H Hs fs dd) (e : Ext Z W H W' H') : Isl Z c x dx W' Hb H' Hs fs dd := by
  obtain ⟨⟨xs, hx, hd⟩, b0, nD, nM, s0, hb⟩ := I
  obtain ⟨k1, k2, k3⟩ := e.keepD hx nD nM
  refine ⟨⟨xs, k1, ?_⟩, b0, k2, k3, s0, hb⟩
  cases dd with
  | none => exact DatF.mono e.le hd
  | some fl =>
    obtain ⟨f, l⟩ := fl
    obtain ⟨ys, d, kvs, h1, h2, hf, h3, h4, h5, h6, h7, h8, h9⟩ := hd
    obtain ⟨q1, q2, q3⟩ := e.keepD h4 h7 h8
    exact ⟨ys, d, kvs, h1, h2.mono e.le, hf, h3, q1, h5.mono e.le, h6, q2, q3, h9⟩
theorem NSt.self {W0 W : Wd} {Hb H : Hp} {σ : L2.St} {ρ : List Slt} {fs : List (Str × PV)} {dd : Isd} (S : NSt Z c x dx W0 Hb W H σ ρ fs dd) : σ[0]? = some (some (.ref x)) := by
  obtain ⟨Hs, S1, _⟩ := S.ex
  obtain ⟨v, h1, h2⟩ := S1.val 0 _ S.z
  cases h2
  exact h1
theorem NSt.ext {W0 W W' : Wd} {Hb H H' : Hp} {σ : L2.St} {ρ : List Slt} {fs : List (Str × PV)} {dd : Isd} (S : NSt Z c x dx W0 Hb W H σ ρ fs dd) (e : Ext Z W H W' H') : NSt Z c x dx W0 Hb W' H' σ ρ fs dd := by
  obtain ⟨Hs, S1, I⟩ := S.ex
  exact ⟨S.h0, S.e.trans S.h0 e, S.z, Hs, S1.ext e, I.ext e⟩
theorem Slots.off {W : Wd} {H0 H : Hp} {σ : L2.St} {ρ : List Slt} {a : Addr} {o : HO} (S : Slots Z W H0 H σ ρ) (n : H0 a ≠ none) : Slots Z W H0 (upd H a o) σ ρ where
  len := S.len
  val := S.val
  own := fun i p q => by
    obtain ⟨b, h1, h2, h3, h4, h5⟩ := S.own i p q
    exact ⟨b, h1, h2.ne fun e => n (by rw [← e]; exact h3), h3, h4, h5⟩
  dst := S.dst
/-- what is not an own slot's -/
noncomputable def outH (W : Wd) (Hs H : Hp) : Hp := by
  classical exact fun a => if Hs a = none ∧ W.D a = none ∧ ¬ W.M a then none else H a
theorem outH_in {W : Wd} {Hs H : Hp} {a : Addr} (h : Hs a = none) (d : W.D a = none) (m : ¬ W.M a) : outH W Hs H a = none := by
  unfold outH; rw [if_pos ⟨h, d, m⟩]
theorem outH_out {W : Wd} {Hs H : Hp} {a : Addr} (h : ¬ (Hs a = none ∧ W.D a = none ∧ ¬ W.M a)) : outH W Hs H a = H a := by
  unfold outH; rw [if_neg h]
theorem outH_le {W : Wd} {Hs H : Hp} {a : Addr} {o : HO} (h : outH W Hs H a = some o) : H a = some o := by
  by_cases c : Hs a = none ∧ W.D a = none ∧ ¬ W.M a
  · rw [outH_in c.1 c.2.1 c.2.2] at h; cases h
  · rw [outH_out c] at h; exact h
theorem Holds.out {W : Wd} {H Hs : Hp} (h : Holds Z W H) : Holds Z W (outH W Hs H) where
  sub := fun a o e => by
    rw [outH_out (fun z => by rw [z.2.1] at e; cases e)]
    exact h.sub a o e
  cel := fun a m => by
    rw [outH_out (fun z => z.2.2 m)]
    exact h.cel a m
  dis := h.dis
theorem Ext.out {W : Wd} {H Hs : Hp} (h : Holds Z W H) : Ext Z W (outH W Hs H) W H :=
  ⟨h, .refl W, fun a o e _ _ => outH_le e, fun _ _ e => .inl e, fun _ e => .inl e, fun a o u e => outH_le e⟩
theorem Slots.out {W : Wd} {H Hs : Hp} {σ : L2.St} {ρ : List Slt} (S : Slots Z W Hs H σ ρ) : Slots Z W (outH W Hs H) H σ ρ :=
  ⟨S.len, S.val, fun i p q => let ⟨a, h1, h2, h3, h4, h5⟩ := S.own i p q; ⟨a, h1, h2, outH_in h3 h4 h5, h4, h5⟩, S.dst⟩
theorem Isl.out {W W0 : Wd} {Hb H Hs : Hp} {fs : List (Str × PV)} {dd : Isd} (I : Isl Z c x dx W Hb H Hs fs dd) (e : Ext Z W0 Hb W H) : Isl Z c x dx W Hb (outH W Hs H) (outH W Hs H) fs dd ∧ Ext Z W0 Hb W (outH W Hs H) := by
  obtain ⟨⟨xs, hx, hd⟩, b0, nD, nM, s0, hb⟩ := I
  have kb : ∀ a o, Hb a = some o → outH W Hs H a = H a := fun a o q => outH_out fun z => hb a (by rw [q]; exact fun z => nomatch z) z.1
  refine ⟨⟨⟨xs, by rw [outH_out (fun z => s0 z.1)]; exact hx, ?_⟩, b0, nD, nM, (by rw [outH_out (fun z => s0 z.1), hx]; exact fun z => nomatch z), fun a q z => ?_⟩, e.holds.out, e.le, fun a o q d m => by rw [kb a o q]; exact e.base a o q d m, e.fr, e.frM, fun a o u q => by rw [kb a _ q]; exact e.fz a o u q⟩
  · cases dd with
    | none => exact hd
    | some fl =>
      obtain ⟨ys, d, kvs, h1, h2, hf, h3, h4, h5, h6, h7, h8, h9⟩ := hd
      have k : outH W Hs H d = some (.dK kvs) := by rw [outH_out (fun z => h9 z.1)]; exact h4
      exact ⟨ys, d, kvs, h1, h2, hf, h3, k, h5, h6, h7, h8, by rw [k]; exact fun z => nomatch z⟩
  · cases r : Hb a with
    | none => exact q r
    | some o =>
      rw [kb a o r] at z
      have := e.holds
      by_cases m : W0.M a
      · obtain ⟨u, y, _⟩ := e.holds.cel a (e.le.m a m)
        rw [z] at y; cases y
      · cases d : W0.D a with
        | none => rw [e.base a o r d m] at z; cases z
        | some u =>
          obtain ⟨v, y⟩ := e.holds.there (e.le.d a u d)
          rw [z] at y; cases y
/-- a statement that does not touch the instance -/
def iOf (t : PTS) : ITS := fun nx ρ fs dd => t ⟨fun ρ' => ρ'[0]? = ρ[0]? ∧ nx ρ' fs dd, fun _ => False, fun _ => False, fun _ => False⟩ ρ
theorem n_of {st : Stmt} {t : PTS} (h : PS X st (liftS Z t)) : PS X st (liftN Z c x dx (iOf t)) :=
  PSw h fun D σ H ⟨W0, Hb, W, ρ, fs, dd, nx, S, t, k⟩ => by
    obtain ⟨Hs, S1, I⟩ := S.ex
    have hh := S.e.holds
    refine ⟨W, outH W Hs H, W, ρ, _, hh.out, Ext.out hh, S1.out, t, ⟨fun W' H' σ' ρ' e' le S' t' => ?_, fun _ _ _ _ _ _ z => z.elim, fun _ _ _ _ _ _ _ z => z.elim, fun _ _ _ _ _ _ _ z => z.elim⟩⟩
    obtain ⟨I2, e2⟩ := I.out S.e
    exact k W' H' σ' ρ' fs dd le ⟨S.h0, e2.trans S.h0 e', by rw [t'.1]; exact S.z, _, S', I2.ext e'⟩ t'.2
/-- one behind another -/
def iSeq (t u : ITS) : ITS := fun nx => t (u nx)
def iNext : ITS := fun nx => nx
theorem n_nil : PSs X [] (liftN Z c x dx iNext) := PSsw pss_nil fun D σ H ⟨W0, Hb, W, ρ, fs, dd, nx, S, t, k⟩ => k W H σ ρ fs dd (.refl W H) S t
theorem n_one {st : Stmt} {t : ITS} (h : PS X st (liftN Z c x dx t)) : PSs X [st] (liftN Z c x dx t) := pss_one h
theorem n_cons {st : Stmt} {rest : List Stmt} {t u : ITS} (h1 : PS X st (liftN Z c x dx t)) (h2 : PSs X rest (liftN Z c x dx u)) : PSs X (st :: rest) (liftN Z c x dx (iSeq t u)) :=
  PSsw (pss_cons h1 h2) fun D σ H ⟨W0, Hb, W, ρ, fs, dd, nx, S, t, k⟩ =>
    ⟨W0, Hb, W, ρ, fs, dd, u nx, S, t, fun W' H' σ' ρ' fs' dd' lt S' t' => ⟨W0, Hb, W', ρ', fs', dd', nx, S', t', fun W2 H2 σ2 ρ2 fs2 dd2 lt2 S2 t2 => k W2 H2 σ2 ρ2 fs2 dd2 (lt.trans lt2) S2 t2⟩⟩
/-- for -/
def iForL (g : PTG) (tb : ITS) (nx : ITN) : List PV → ITN
  | [] => nx
  | p :: ps => fun ρ fs dd => g p ρ fun ρ1 => ρ1[0]? = ρ[0]? ∧ tb (iForL g tb nx ps) ρ1 fs dd
def iFor (ti : PTI) (g : PTG) (tb : ITS) : ITS := fun nx ρ fs dd => ti ρ fun l => iForL g tb nx l ρ fs dd
theorem n_for {tg iter : Expr} {body : List Stmt} {ti : PTI} {ws : List Nat} {g : PTG} {tb : ITS} {pos : Pos} (hi : PI X tg iter (liftI Z ti)) (hg : PG X tg (liftG Z ws g)) (hb : PSs X body (liftN Z c x dx tb)) (hp : PassesOwn (model X.prog X.w) X.A X.env X.xe := by exact PassesOwn.never)
    (hc : X.calm = true := by rfl) (hs : ∀ x, foldedSetIterable iter X.env x = pure x := by intro _; rfl) : PS X (.For tg iter body [] pos) (liftN Z c x dx (iFor ti g tb)) :=
  PSw (ps_for hp hc hi hg hb hs) fun D σ H ⟨W0, Hb, W, ρ, fs, dd, nx, S, t, k⟩ => by
    obtain ⟨Hs, S1, I⟩ := S.ex
    refine ⟨W, Hs, ρ, _, S.e.holds, S1, t, fun W1 H1 J l e1 sv t1 => ?_⟩
    refine ⟨fun i m σ' H' => m = l.length - i ∧ i ≤ l.length ∧ ∃ W' ρ' fs' dd', Lt W1 H1 W' H' ∧ NSt Z c x dx W0 Hb W' H' σ' ρ' fs' dd' ∧ iForL g tb nx (l.drop i) ρ' fs' dd', ⟨l.length, rfl, Nat.zero_le _, W1, ρ, fs, dd, .refl W1 H1, S.ext e1, t1⟩, ?_⟩
    rintro i m σ' H' ⟨rfl, hi, W', ρ', fs', dd', le', S', t'⟩
    have sv' := sv W' H' le' S'.e.holds
    by_cases hlt : i < l.length
    · have g1 := sv'.2 i l[i] (by simp [hlt])
      rw [drop_cons hlt] at t'
      refine .inr ⟨g1.1, fun σ2 H2 => i < l.length ∧ ∃ W2 ρ2 fs2 dd2, Lt W1 H1 W2 H2 ∧ NSt Z c x dx W0 Hb W2 H2 σ2 ρ2 fs2 dd2 ∧ iForL g tb nx (l.drop (i + 1)) ρ2 fs2 dd2, ?_, fun y H2 yy => ?_⟩
      · rintro σ2 H2 ⟨_, r⟩
        exact ⟨l.length - (i + 1), by omega, rfl, hlt, r⟩
      · obtain ⟨W2, e2, d2⟩ := g1.2 y H2 yy
        have S2 := S'.ext e2
        obtain ⟨Hs2, S3, I3⟩ := S2.ex
        refine ⟨W2, Hs2, ρ', l[i], _, e2.holds, S3, d2, t', fun σ3 ρ3 o3 S4 t3 => ?_⟩
        refine ⟨W0, Hb, W2, ρ3, fs', dd', _, ⟨S2.h0, S2.e, by rw [t3.1]; exact S2.z, Hs2, S4, I3⟩, t3.2, fun W4 H4 σ4 ρ4 fs4 dd4 lt4 S4 t4 => ⟨hlt, W4, ρ4, fs4, dd4, (le'.trans e2.lt).trans lt4, S4, t4⟩⟩
    · have ei : i = l.length := by omega
      subst ei
      rw [List.drop_length] at t'
      exact .inl ⟨sv'.1 _ (Nat.le_refl _), k W' H' σ' ρ' fs' dd' (e1.lt.trans le') S' t'⟩

/-! ### fields -/
theorem putF_new {f : Str} {v : V} : ∀ {xs : List (Str × V)}, xs.lookup f = none → putF f v xs = xs ++ [(f, v)]
  | [], _ => rfl
  | (g, u) :: r, e => by
    rw [List.lookup_cons] at e
    cases q : f == g with
    | true => rw [q] at e; cases e
    | false =>
      rw [q] at e
      have n : ¬ g = f := fun z => by rw [z, beq_self_eq_true] at q; cases q
      show (if g = f then _ else _) = _
      rw [if_neg n, putF_new e]
      rfl
theorem DatF.append {K : PySem.W.Frag} {W : Wd} : ∀ {vs vs' : List (Str × V)} {ps ps' : List (Str × PV)}, DatF K W vs ps → DatF K W vs' ps' → DatF K W (vs ++ vs') (ps ++ ps')
  | _, _, _, _, .nil, s => s
  | _, _, _, _, .cons h t, s => .cons h (DatF.append t s)
theorem DatF.length {K : PySem.W.Frag} {W : Wd} : ∀ {vs : List (Str × V)} {ps : List (Str × PV)}, DatF K W vs ps → vs.length = ps.length
  | _, _, .nil => rfl
  | _, _, .cons _ t => congrArg (· + 1) (DatF.length t)
theorem lookup_last {α : Type} {f : Str} {v : α} : ∀ {ys : List (Str × α)}, ys.lookup f = none → (ys ++ [(f, v)]).lookup f = some v
  | [], _ => by simp
  | (g, u) :: r, e => by
    rw [List.lookup_cons] at e
    rw [List.cons_append, List.lookup_cons]
    cases q : f == g with
    | true => rw [q] at e; cases e
    | false => rw [q] at e; exact lookup_last e
theorem lookup_ext {α : Type} {f g : Str} {v w : α} : ∀ {ys : List (Str × α)}, ys.lookup f = some v → (ys ++ [(g, w)]).lookup f = some v
  | [], e => by cases e
  | (g', u) :: r, e => by
    rw [List.lookup_cons] at e
    rw [List.cons_append, List.lookup_cons]
    cases q : f == g' with
    | true => rw [q] at e; exact e
    | false => rw [q] at e; exact lookup_ext e
theorem lookup_extN {α : Type} {f g : Str} {w : α} (n : (f == g) = false) : ∀ {ys : List (Str × α)}, ys.lookup f = none → (ys ++ [(g, w)]).lookup f = none
  | [], _ => by rw [List.nil_append, List.lookup_cons, n]; rfl
  | (g', u) :: r, e => by
    rw [List.lookup_cons] at e
    rw [List.cons_append, List.lookup_cons]
    cases q : f == g' with
    | true => rw [q] at e; cases e
    | false => rw [q] at e; exact lookup_extN n e
/-- self.f = e -/
def iSetF (f : Str) (te : PTE) : ITS := fun nx ρ fs dd => dd = none ∧ fs.lookup f = none ∧ fs.length < 1000 ∧ te ρ fun p => nx ρ (fs ++ [(f, p)]) none
theorem n_setF {y f : Str} {e : Expr} {te : PTE} {px pos' pos : Pos} (cl : ClsP Z c) (na : NoAttr Z.K (He.ga Z.K c) f) (he : PE X e (lift Z te)) (hK : X.K = Z.K := by rfl) (hN : X.N[0]? = some y := by rfl) (hv : Vis X.env.scope y := by first | exact .inl rfl | exact .inr (.inl rfl) | exact .inr (.inr rfl)) (hd : (y == ("__debug__" : Str)) = false := by decide) (hcd : (y == ("__classdict__" : Str)) = false := by decide)
    (hs : swapsWith e (some (.Attribute (.Name y px) f pos')) pos.line X.env = pure false := by rfl) : PS X (.Assign [.Attribute (.Name y px) f pos'] e pos) (liftN Z c x dx (iSetF f te)) :=
  PSw (ps_fld (pe_var hN hv hd hcd) he hs) fun D σ H ⟨W0, Hb, W, ρ, fs, dd, nx, S, ⟨ed, lk, ln, t⟩, k⟩ => by
    subst ed
    obtain ⟨Hs, S1, I⟩ := S.ex
    refine ⟨W, Hs, ρ, _, S.e.holds, S1, t, fun W1 H1 v p e1 d1 t1 => ?_⟩
    have S2 := S.ext e1
    have I2 := I.ext e1
    obtain ⟨⟨xs, hx, hf⟩, b0, nD, nM, s0, hb⟩ := I2
    have hf : DatF Z.K W1 xs fs := hf
    refine ⟨_, S2.self, x, He.ga Z.K c, dx, xs, rfl, hx, by rw [hK]; exact cl, by rw [hK]; exact na, by rw [hf.length]; exact ln, ?_⟩
    rw [putF_new (hf.lookN lk)]
    have Sx := (S1.ext e1).off (a := x) (o := .ins (He.ga Z.K c) dx (xs ++ [(f, v)])) s0
    exact k W1 _ σ ρ (fs ++ [(f, p)]) none (e1.lt.wr fun p u z => by rw [hx] at z; cases z) ⟨S.h0, S2.e.wr nD nM b0, S.z, Hs, Sx, ⟨_, upd_same, hf.append (.cons d1 .nil)⟩, b0, nD, nM, s0, hb⟩ t1
/-- self.f = {} -/
def iNewD (f : Str) : ITS := fun nx ρ fs dd => dd = none ∧ fs.lookup f = none ∧ fs.length < 1000 ∧ nx ρ fs (some (f, []))
theorem n_newD {y f : Str} {px pos' pos pos2 : Pos} (cl : ClsP Z c) (na : NoAttr Z.K (He.ga Z.K c) f) (hK : X.K = Z.K := by rfl) (hN : X.N[0]? = some y := by rfl) (hv : Vis X.env.scope y := by first | exact .inl rfl | exact .inr (.inl rfl) | exact .inr (.inr rfl)) (hd : (y == ("__debug__" : Str)) = false := by decide) (hcd : (y == ("__classdict__" : Str)) = false := by decide)
    (hs : swapsWith (.Dict [] [] pos2) (some (.Attribute (.Name y px) f pos')) pos.line X.env = pure false := by rfl) : PS X (.Assign [.Attribute (.Name y px) f pos'] (.Dict [] [] pos2) pos) (liftN Z c x dx (iNewD f)) :=
  PSw (ps_fld (pe_var hN hv hd hcd) pe_dnewK hs) fun D σ H ⟨W0, Hb, W, ρ, fs, dd, nx, S, ⟨ed, lk, ln, t⟩, k⟩ => by
    subst ed
    intro d n
    obtain ⟨Hs, S1, I⟩ := S.ex
    obtain ⟨⟨xs, hx, hf⟩, b0, nD, nM, s0, hb⟩ := I
    have hf : DatF Z.K W xs fs := hf
    have e1 := Ext.put (o := .dK []) S.e.holds n
    have nx' : d ≠ x := fun z => by rw [z, hx] at n; cases n
    have hx1 : (upd H d (.dK [])) x = some (.ins (He.ga Z.K c) dx xs) := by rw [upd_ne (Ne.symm nx')]; exact hx
    have b0d : Hb d = none := S.e.nonE S.h0 n
    have wD := S.e.holds.new n
    have wM := S.e.holds.newM n
    refine ⟨_, S.self, x, He.ga Z.K c, dx, xs, rfl, hx1, by rw [hK]; exact cl, by rw [hK]; exact na, by rw [hf.length]; exact ln, ?_⟩
    rw [putF_new (hf.lookN lk)]
    have Sm := (S1.mark (D := d) (o := .dK []) (S1.away n)).ext e1
    have sx : (upd Hs d (.dK [])) x ≠ none := by rw [upd_ne (Ne.symm nx')]; exact s0
    have Sx := Sm.off (a := x) (o := .ins (He.ga Z.K c) dx (xs ++ [(f, .ref d)])) sx
    refine k W _ σ ρ fs (some (f, [])) (e1.lt.wr fun p u z => by rw [hx1] at z; cases z) ⟨S.h0, (S.e.trans S.h0 e1).wr nD nM b0, S.z, _, Sx, ⟨_, upd_same, xs, d, [], rfl, hf, lk, nx', ?_, .nil, b0d, wD, wM, by rw [upd_same]; exact fun z => nomatch z⟩, b0, nD, nM, sx, fun a q => ?_⟩ t
    · rw [upd_ne nx']; exact upd_same
    · by_cases cc : a = d
      · rw [cc, upd_same]; exact fun z => nomatch z
      · rw [upd_ne cc]; exact hb a q
/-- self.f[k] = v -/
def iPut (f : Str) (tk tv : PTE) : ITS := fun nx ρ fs dd => ∃ l, dd = some (f, l) ∧ tv ρ fun p => tk ρ fun q => match keyP q with
  | some k => l.length < sizeLine ∧ nx ρ fs (some (f, putA l k p))
  | none => False
theorem n_put {y f : Str} {ek e : Expr} {tk tv : PTE} {j : Nat} {px apos pos' pos : Pos} (hr : Room j X.A) (cl : ClsP Z c) (na : NoAttr Z.K (He.ga Z.K c) f) (hk : PE X ek (lift Z tk)) (he : PE X e (lift Z tv)) (hK : X.K = Z.K := by rfl) (hN : X.N[0]? = some y := by rfl) (hv : Vis X.env.scope y := by first | exact .inl rfl | exact .inr (.inl rfl) | exact .inr (.inr rfl)) (hd : (y == ("__debug__" : Str)) = false := by decide) (hcd : (y == ("__classdict__" : Str)) = false := by decide)
    (hab : attributeBase (.Name y px) f X.env (eval (.Name y px) X.env) = eval (.Name y px) X.env := by rfl)
    (hs : swapsWith e (some (.Subscript (.Attribute (.Name y px) f apos) ek pos')) pos.line X.env = pure false := by rfl) : PS X (.Assign [.Subscript (.Attribute (.Name y px) f apos) ek pos'] e pos) (liftN Z c x dx (iPut f tk tv)) :=
  PSw (ps_dput (by have := hr.units; omega) (pe_fld (pe_var hN hv hd hcd) hab) hk he hs) fun D σ H ⟨W0, Hb, W, ρ, fs, dd, nx, S, ⟨l, ed, t⟩, k⟩ => by
    subst ed
    obtain ⟨Hs, S1, I⟩ := S.ex
    refine ⟨W, Hs, ρ, _, S.e.holds, S1, t, fun W1 H1 v p e1 d1 t1 => ?_⟩
    have S2 := S.ext e1
    obtain ⟨⟨xs, hx, ys, d, kvs, h1, h2, hf, h3, h4, h5, h6, h7, h8, h9⟩, b0, nD, nM, s0, hb⟩ := I.ext e1
    refine ⟨_, S2.self, x, He.ga Z.K c, dx, xs, .ref d, rfl, hx, by rw [hK]; exact cl, by rw [hK]; exact na, by rw [h1]; exact lookup_last (h2.lookN hf), ?_⟩
    refine ⟨W1, Hs, ρ, _, e1.holds, S1.ext e1, t1, fun W2 H2 u q e2 d2 t2 => ?_⟩
    have S3 := S2.ext e2
    have e12 := e1.trans S.e.holds e2
    obtain ⟨q1, q2, q3⟩ := e2.keepD h4 h7 h8
    obtain ⟨x1, x2, x3⟩ := e2.keepD hx nD nM
    split at t2
    · rename_i kk ek
      have kl : kvs.length = l.length := h5.length
      refine ⟨d, _, rfl, .inl ⟨kvs, kk, q1, d2.key ek, by rw [kl]; exact t2.1, rfl⟩, ?_⟩
      have Sx := ((S1.ext e1).ext e2).off (a := d) (o := .dK (putK kvs kk v)) h9
      refine k W2 _ σ ρ fs (some (f, putA l kk p)) (e12.lt.wr fun p u z => by rw [q1] at z; cases z) ⟨S.h0, S3.e.wr q2 q3 h6, S.z, Hs, Sx, ⟨xs, by rw [upd_ne (Ne.symm h3)]; exact x1, ys, d, _, h1, h2.mono e2.le, hf, h3, upd_same, (h5.mono e2.le).put (d1.mono e2.le), h6, q2, q3, h9⟩, b0, x2, x3, s0, hb⟩ t2.2
    · exact t2.elim
/-- self.g = (self.f1, self.f2), the dict's last change behind -/
def iParts (g f1 f2 : Str) : ITS := fun nx ρ fs dd => ∃ l p1, dd = some (f2, l) ∧ fs.lookup f1 = some p1 ∧ fs.lookup g = none ∧ (g == f2) = false ∧ fs.length < 900 ∧ nx ρ ((fs ++ [(f2, .dic l)]) ++ [(g, .tup [p1, .dic l])]) none
theorem n_parts {y g f1 f2 : Str} {p1 p2 a1 a2 tp px pos' pos : Pos} {kk} (cl : ClsP Z c) (n1 : NoAttr Z.K (He.ga Z.K c) f1) (n2 : NoAttr Z.K (He.ga Z.K c) f2) (ng : NoAttr Z.K (He.ga Z.K c) g) (hK : X.K = Z.K := by rfl) (hN : X.N[0]? = some y := by rfl) (hv : Vis X.env.scope y := by first | exact .inl rfl | exact .inr (.inl rfl) | exact .inr (.inr rfl)) (hd : (y == ("__debug__" : Str)) = false := by decide) (hcd : (y == ("__classdict__" : Str)) = false := by decide)
    (hb1 : attributeBase (.Name y p1) f1 X.env (eval (.Name y p1) X.env) = eval (.Name y p1) X.env := by rfl) (hb2 : attributeBase (.Name y p2) f2 X.env (eval (.Name y p2) X.env) = eval (.Name y p2) X.env := by rfl)
    (he1 : starEach [.Attribute (.Name y p1) f1 a1, .Attribute (.Name y p2) f2 a2] X.env = (false, eval (.Attribute (.Name y p1) f1 a1) X.env) :: starEach [.Attribute (.Name y p2) f2 a2] X.env := by rfl) (he2 : starEach [.Attribute (.Name y p2) f2 a2] X.env = (false, eval (.Attribute (.Name y p2) f2 a2) X.env) :: starEach [] X.env := by rfl)
    (hs : swapsWith (.Tuple [.Attribute (.Name y p1) f1 a1, .Attribute (.Name y p2) f2 a2] kk tp) (some (.Attribute (.Name y px) g pos')) pos.line X.env = pure false := by rfl) :
    PS X (.Assign [.Attribute (.Name y px) g pos'] (.Tuple [.Attribute (.Name y p1) f1 a1, .Attribute (.Name y p2) f2 a2] kk tp) pos) (liftN Z c x dx (iParts g f1 f2)) :=
  PSw (ps_fld (pe_var hN hv hd hcd) (pe_tup (pa_cons (pe_fld (pe_var hN hv hd hcd) hb1) (pa_cons (pe_fld (pe_var hN hv hd hcd) hb2) pa_nil he2) he1)) hs) fun D σ H ⟨W0, Hb, W, ρ, fs, dd, nx, S, ⟨l, q1, ed, l1, lg, gf, ln, t⟩, k⟩ => by
    subst ed
    obtain ⟨Hs, S1, ⟨xs, hx, ys, d, kvs, h1, h2, hf, h3, h4, h5, h6, h7, h8, h9⟩, b0, nD, nM, s0, hb⟩ := S.ex
    obtain ⟨v1, lv1, dv1⟩ := h2.look l1
    refine ⟨_, S.self, x, He.ga Z.K c, dx, xs, v1, rfl, hx, by rw [hK]; exact cl, by rw [hK]; exact n1, by rw [h1]; exact lookup_ext lv1, ?_⟩
    refine ⟨_, S.self, x, He.ga Z.K c, dx, xs, .ref d, rfl, hx, by rw [hK]; exact cl, by rw [hK]; exact n2, by rw [h1]; exact lookup_last (h2.lookN hf), ?_⟩
    refine ⟨by rw [sizeLine_eq]; exact Nat.le_of_ble_eq_true rfl, fun p n => ?_⟩
    have lf := Wd.le_add (o := .dK kvs) h7
    have Ef := S.e.frz h7 h8 h6 h4
    have dd2 : Dat Z.K (W.add d (.dK kvs)) (.ref d) (.dic l) := .dic Wd.add_at (h5.mono lf)
    have e1 := Ext.new (o := .tup [v1, .ref d]) Ef.holds n
    have le1 := e1.le
    have nDx : (W.add d (.dK kvs)).D x = none := by show upd W.D d _ x = none; rw [upd_ne (Ne.symm h3)]; exact nD
    obtain ⟨x1, x2, x3⟩ := e1.keepD hx nDx nM
    have lenE : xs.length = fs.length + 1 := by rw [h1, List.length_append, h2.length]; rfl
    refine ⟨_, S.self, x, He.ga Z.K c, dx, xs, rfl, x1, by rw [hK]; exact cl, by rw [hK]; exact ng, by omega, ?_⟩
    have lgx : xs.lookup g = none := by rw [h1]; exact lookup_extN gf (h2.lookN lg)
    rw [putF_new lgx]
    have px' : p ≠ x := fun z => by rw [z, hx] at n; cases n
    have Sf : Slots Z (W.add d (.dK kvs)) Hs H σ ρ :=
      ⟨S1.len, fun i r z => let ⟨v, a, b⟩ := S1.val i r z; ⟨v, a, b.mono lf⟩, fun i r z => by
        obtain ⟨b, g1, g2, g3, g4, g5⟩ := S1.own i r z
        have ne : b ≠ d := fun e => h9 (by rw [← e]; exact g3)
        exact ⟨b, g1, g2.mono lf fun _ h => h, g3, by show upd W.D d _ b = none; rw [upd_ne ne]; exact g4, g5⟩, S1.dst⟩
    have Sx := (Sf.ext e1).off (a := x) (o := .ins (He.ga Z.K c) dx (xs ++ [(g, .ref p)])) s0
    refine k _ _ σ ρ ((fs ++ [(f2, .dic l)]) ++ [(g, .tup [q1, .dic l])]) none ?_ ⟨S.h0, (Ef.trans S.h0 e1).wr x2 x3 b0, S.z, Hs, Sx, ⟨_, upd_same, ?_⟩, b0, x2, x3, s0, hb⟩ t
    · exact Lt.wr ⟨lf.trans le1, e1.fz⟩ fun p u z => by rw [x1] at z; cases z
    · show DatF Z.K _ (xs ++ [(g, V.ref p)]) _
      rw [h1]
      exact (((h2.mono lf).mono le1).append (.cons (dd2.mono le1) .nil)).append (.cons (.tup Wd.add_at (.cons ((dv1.mono lf).mono le1) (.cons (dd2.mono le1) .nil))) .nil)
end
theorem okI {P : Program} {w : World} {mg : Str → Option Value} {base : Heap} {Z : Par} {c nm qual : Str} {params : Arguments} {body : List Stmt} {scope : Scope} {dvs : List V} {kws : List (Str × V)} {f : Addr} {fd : FuncData} {N ps : List Str} {k : Nat} {t : ITS} {Φ : Con}
    (F : FunD Z.K nm qual params body scope dvs kws f fd) (S : FnScope N ps scope)
    (hb : ∀ (x dx : Addr) (cdv : Value) (A : Around) (outer : List Env) (s : Shared) (H : Hp) (E : XK), Room k (A.deeper (envOfC qual scope s.heap.objs.size f cdv)) → PSs (cxOf CX0 P w Z.K mg base N qual scope f cdv A outer s H E).nox body (liftN Z c x dx t))
    (hp : ∀ as Q, Φ as Q → as.length + 1 = ps.length ∧ ∀ x, t (fun _ fs dd => dd = none ∧ Q (.obj c fs)) (startP N (.raw x :: as)) [] none) (hN : 0 < N.length := by decide) : FnOk P w Z.K mg base CX0 (k + 1) f fd ps (spMk Z c Φ) := by
  refine F.ok S (fun vs H Q E ⟨x, dx, vs', W, Hb, as, Qp, ev, hh, nx, eH, d, φ, q⟩ => ?_) (fun cdv A outer s H vs Q E hr ⟨x, dx, vs', W, Hb, as, Qp, ev, hh, nx, eH, d, φ, q⟩ => ⟨_, (hb x dx cdv A outer s H E hr).nox, ?_⟩)
  · rw [ev, List.length_cons, d.length]; exact (hp as Qp φ).1
  · subst ev eH
    have ep := Ext.put (o := .ins (He.ga Z.K c) dx []) hh nx
    refine ⟨W, Hb, W, _, [], none, _, ⟨hh, ep, by simp [startP], upd Hb x (.ins (He.ga Z.K c) dx []), slots_start (.cons (.raw x) d), ⟨[], upd_same, .nil⟩, nx, hh.new nx, hh.newM nx, (by rw [upd_same]; exact fun z => nomatch z), fun a n => ?_⟩, (hp as Qp φ).2 x, fun W' H' σ' ρ' fs' dd' lt S' t' => ?_⟩
    · by_cases cc : a = x
      · rw [cc, upd_same]; exact fun z => nomatch z
      · rw [upd_ne cc]; exact n
    · obtain ⟨ed, t'⟩ := t'
      subst ed
      obtain ⟨Hs, S1, ⟨xs, hx, hf⟩, b0, nD, nM, s0, hbb⟩ := S'.ex
      have hf : DatF Z.K W' xs fs' := hf
      have le := Wd.le_add (o := .ins (He.ga Z.K c) dx xs) nD
      exact q _ _ _ (S'.e.frz nD nM b0 hx) (.obj Wd.add_at (hf.mono le)) t'
end L3

/-! ## LP -/
/-! Loops and comprehensions over a list of known things. -/
namespace L3
open PySem PySem.Spec PyProof.Rows L2
theorem forL_of {α : Type} {g : PTG} {tb : PTS} {E : PEnds} (inj : α → PV) (I : List α → List Slt → Prop)
    (step : ∀ a rest ρ, I (a :: rest) ρ → ∀ N : List Slt → Prop, (∀ ρ', I rest ρ' → N ρ') → g (inj a) ρ fun ρ1 => tb ⟨N, E.rt, E.nx, N⟩ ρ1) (fin : ∀ ρ, I [] ρ → E.nx ρ) :
    ∀ (L : List α) (ρ : List Slt), I L ρ → pForL g tb E (L.map inj) ρ
  | [], ρ, h => fin ρ h
  | a :: r, ρ, h => step a r ρ h _ fun ρ' h' => forL_of inj I step fin r ρ' h'
theorem lcL_of {α : Type} {g : PTG} {tt : PTT} {te : PTE} {ρ : List Slt} {Q : List PV → Prop} (inj : α → PV) (f : α → Option PV) : ∀ (L : List α) (acc : List PV)
    (step : ∀ a ∈ L, ∀ (T : PV → Prop) (F : Prop), (match f a with | some r => T r | none => F) → g (inj a) ρ fun ρ1 => tt ρ1 fun b => match b with | true => te ρ1 T | false => F),
    acc.length + L.length ≤ sizeLine → Q (acc ++ L.filterMap f) → pLcL g tt te ρ Q (L.map inj) acc
  | [], acc, _, _, q => by simpa [pLcL] using q
  | a :: r, acc, step, hl, q => by
    have hs := step a (List.mem_cons_self ..) (fun r' => acc.length < sizeLine ∧ pLcL g tt te ρ Q (r.map inj) (acc ++ [r'])) (pLcL g tt te ρ Q (r.map inj) acc) ?_
    · exact hs
    · have hl' : acc.length + (r.length + 1) ≤ sizeLine := by simpa using hl
      cases e : f a with
      | none =>
        refine lcL_of inj f r acc (fun b hb => step b (List.mem_cons_of_mem _ hb)) (by omega) ?_
        rw [List.filterMap_cons, e] at q
        exact q
      | some r' =>
        refine ⟨by omega, lcL_of inj f r _ (fun b hb => step b (List.mem_cons_of_mem _ hb)) (by simp; omega) ?_⟩
        rw [List.filterMap_cons, e] at q
        simpa using q
/-- without a test -/
theorem lcL_map {α : Type} {g : PTG} {te : PTE} {ρ : List Slt} {Q : List PV → Prop} (inj : α → PV) (f : α → PV) (L : List α)
    (step : ∀ a ∈ L, ∀ (T : PV → Prop), T (f a) → g (inj a) ρ fun ρ1 => te ρ1 T) (hl : L.length ≤ sizeLine) (q : Q (L.map f)) : pLcL g pTsYes te ρ Q (L.map inj) [] := by
  refine lcL_of inj (fun a => some (f a)) L [] (fun a ha T F h => step a ha T h) (by simpa using hl) ?_
  rw [List.nil_append, List.filterMap_eq_map']
  exact q
theorem putA_len {κ α : Type} [DecidableEq κ] (l : List (κ × α)) (k : κ) (v : α) : (putA l k v).length ≤ l.length + 1 := by
  unfold putA
  split <;> simp
theorem dcL_of {α : Type} {g : PTG} {tt : PTT} {tk tv : PTE} {ρ : List Slt} {Q : List (Key × PV) → Prop} (inj : α → PV) (f : α → Option (Key × PV)) : ∀ (L : List α) (acc : List (Key × PV))
    (step : ∀ a ∈ L, ∀ (T : Key → PV → Prop) (F : Prop), (match f a with | some r => T r.1 r.2 | none => F) → g (inj a) ρ fun ρ1 => tt ρ1 fun b => match b with | true => (tk ρ1 fun kp => tv ρ1 fun r => match keyP kp with | some k => T k r | none => False) | false => F),
    acc.length + L.length ≤ sizeLine → Q (mergeP acc (L.filterMap f)) → pDcL g tt tk tv ρ Q (L.map inj) acc
  | [], acc, _, _, q => by simpa [pDcL, mergeP] using q
  | a :: r, acc, step, hl, q => by
    have hs := step a (List.mem_cons_self ..) (fun k r' => acc.length < sizeLine ∧ pDcL g tt tk tv ρ Q (r.map inj) (putA acc k r')) (pDcL g tt tk tv ρ Q (r.map inj) acc) ?_
    · exact hs
    · have hl' : acc.length + (r.length + 1) ≤ sizeLine := by simpa using hl
      cases e : f a with
      | none =>
        refine dcL_of inj f r acc (fun b hb => step b (List.mem_cons_of_mem _ hb)) (by omega) ?_
        rw [List.filterMap_cons, e] at q
        exact q
      | some r' =>
        have := putA_len acc r'.1 r'.2
        refine ⟨by omega, dcL_of inj f r _ (fun b hb => step b (List.mem_cons_of_mem _ hb)) (by omega) ?_⟩
        rw [List.filterMap_cons, e] at q
        exact q
theorem putA_new {κ α : Type} [DecidableEq κ] {l : List (κ × α)} {k : κ} {v : α} (h : ∀ p ∈ l, p.1 ≠ k) : putA l k v = l ++ [(k, v)] := by
  unfold putA
  rw [if_neg]
  intro z
  obtain ⟨p, hp, e⟩ := List.any_eq_true.mp z
  exact h p hp (by simpa using e)
theorem mergeP_new : ∀ (ms acc : List (Key × PV)), ms.Pairwise (fun a b => a.1 ≠ b.1) → (∀ a ∈ acc, ∀ b ∈ ms, a.1 ≠ b.1) → mergeP acc ms = acc ++ ms
  | [], acc, _, _ => by simp [mergeP]
  | m :: ms, acc, hp, ha => by
    obtain ⟨h1, h2⟩ := List.pairwise_cons.mp hp
    show mergeP (putA acc m.1 m.2) ms = _
    rw [putA_new (fun p hp => ha p hp m (List.mem_cons_self ..)), mergeP_new ms _ h2, List.append_assoc]
    · rfl
    · intro a haa b hb
      rw [List.mem_append, List.mem_singleton] at haa
      rcases haa with haa | rfl
      · exact ha a haa b (List.mem_cons_of_mem _ hb)
      · exact h1 b hb
theorem scL_of {α : Type} {g : PTG} {te : PTE} {ρ : List Slt} {Q : List Int → Prop} (inj : α → PV) (f : α → Int) : ∀ (L : List α) (acc : List Int)
    (step : ∀ a ∈ L, ∀ (T : PV → Prop), T (.int (f a)) → g (inj a) ρ fun ρ1 => te ρ1 T), acc.length + L.length ≤ 4000 → Q (acc ++ L.map f) → pScL g pTsYes te ρ Q (L.map inj) acc
  | [], acc, _, _, q => by simpa [pScL] using q
  | a :: r, acc, step, hl, q => by
    have hl' : acc.length + (r.length + 1) ≤ 4000 := by simpa using hl
    refine step a (List.mem_cons_self ..) _ ⟨by omega, scL_of inj f r _ (fun b hb => step b (List.mem_cons_of_mem _ hb)) (by simp; omega) (by simpa using q)⟩
theorem lc2L_of {α : Type} {g g1 : PTG} {tt tt1 : PTT} {ti1 : PTI} {te : PTE} {vs1 : List Nat} {ρ : List Slt} {Q : List PV → Prop} (inj : α → PV) (f : α → List PV) : ∀ (L : List α) (acc : List PV)
    (step : ∀ a ∈ L, ∀ (R : List PV → Prop) (acc : List PV), acc.length + (f a).length ≤ sizeLine → R (acc ++ f a) → g (inj a) ρ fun ρ1 => tt ρ1 fun b => match b with | true => ti1 ρ1 fun l => pLcL g1 tt1 te (wipeP ρ1 vs1) R l acc | false => R acc),
    acc.length + (L.flatMap f).length ≤ sizeLine → Q (acc ++ L.flatMap f) → pLc2L g tt ti1 g1 tt1 te vs1 ρ Q (L.map inj) acc
  | [], acc, _, _, q => by simpa [pLc2L] using q
  | a :: r, acc, step, hl, q => by
    have hl' : acc.length + ((f a).length + (r.flatMap f).length) ≤ sizeLine := by rw [List.flatMap_cons, List.length_append] at hl; exact hl
    have hs := step a (List.mem_cons_self ..) (fun acc' => pLc2L g tt ti1 g1 tt1 te vs1 ρ Q (r.map inj) acc') acc (by omega) ?_
    · exact hs
    · refine lc2L_of inj f r _ (fun b hb => step b (List.mem_cons_of_mem _ hb)) (by rw [List.length_append]; omega) (by simpa using q)
theorem iforL_of {α : Type} {g : PTG} {tb : ITS} {nx : ITN} (inj : α → PV) (I : List α → ITN)
    (step : ∀ a rest ρ fs dd, I (a :: rest) ρ fs dd → ∀ N : ITN, (∀ ρ' fs' dd', I rest ρ' fs' dd' → N ρ' fs' dd') → g (inj a) ρ fun ρ1 => ρ1[0]? = ρ[0]? ∧ tb N ρ1 fs dd) (fin : ∀ ρ fs dd, I [] ρ fs dd → nx ρ fs dd) :
    ∀ (L : List α) (ρ : List Slt) (fs : List (Str × PV)) (dd : Isd), I L ρ fs dd → iForL g tb nx (L.map inj) ρ fs dd
  | [], ρ, fs, dd, h => fin ρ fs dd h
  | a :: r, ρ, fs, dd, h => step a r ρ fs dd h _ fun ρ' fs' dd' h' => iforL_of inj I step fin r ρ' fs' dd' h'
theorem perm_map {α β : Type} (f : α → β) : ∀ (ys : List β) (rs : List α), ys.Perm (rs.map f) → ∃ rs' : List α, rs'.Perm rs ∧ rs'.map f = ys
  | [], rs, h => by
    have : rs = [] := by
      have := h.length_eq
      cases rs with
      | nil => rfl
      | cons => simp at this
    exact ⟨[], by rw [this], rfl⟩
  | y :: ys, rs, h => by
    have hy : y ∈ rs.map f := h.mem_iff.mp (List.mem_cons_self ..)
    obtain ⟨r, hr, e⟩ := List.mem_map.mp hy
    obtain ⟨s, t, est⟩ := List.append_of_mem hr
    subst est e
    have h2 : ys.Perm ((s ++ t).map f) := by
      have h3 : (s ++ r :: t).Perm (r :: (s ++ t)) := List.perm_middle
      exact (h.trans (h3.map f)).cons_inv
    obtain ⟨rs', h4, h5⟩ := perm_map f ys (s ++ t) h2
    exact ⟨r :: rs', (h4.cons r).trans List.perm_middle.symm, by rw [List.map_cons, h5]⟩
theorem valA_map {α : Type} (nm : α → Str) (v : α → PV) : ∀ {rs : List α} {r : α}, (rs.Pairwise fun a b => nm a ≠ nm b) → r ∈ rs → valA (rs.map fun r => ((Sum.inr (nm r) : Key), v r)) (Sum.inr (nm r)) = some (v r)
  | [], r, _, h => by cases h
  | a :: rs, r, hp, h => by
    obtain ⟨h1, h2⟩ := List.pairwise_cons.mp hp
    rw [List.map_cons, valA_cons]
    rcases List.mem_cons.mp h with rfl | h
    · simp
    · have := h1 r h
      rw [if_neg (by simpa using this), valA_map nm v h2 h]
theorem keysS_map {α : Type} (nm : α → Str) (v : α → PV) : ∀ rs : List α, keysS (rs.map fun r => ((Sum.inr (nm r) : Key), v r)) = some (rs.map nm)
  | [] => rfl
  | a :: rs => by simp only [List.map_cons, keysS, keysS_map nm v rs, Option.map_some]
theorem size_le {n : Nat} (h : n ≤ 16777216) : n ≤ sizeLine := by rw [sizeLine_eq]; exact h
end L3

/-! ## L3N -/
/-! d == {} -/
namespace L3
open PySem PySem.Spec PyProof.Rows L2
section
variable {X : Cx} {Z : Par}
def rEqD0 : R2 := fun x y H Q => ∃ a b ks, x = .ref a ∧ y = .ref b ∧ Rd H a (.dK ks) ∧ Rd H b (.dK []) ∧ Q (.bl ks.isEmpty) H
theorem op_eqD0 (hu : X.A.units < cLine) : OpR X (compareOp .Eq) rEqD0 := by
  intro pins s σ H x y v u Q I rx ry h
  obtain ⟨a, b, ks, ex, ey, ha, hb, q⟩ := h
  subst ex ey
  obtain rfl : v = Value.ref a := rx
  obtain rfl : u = Value.ref b := ry
  obtain ⟨hz, hs0, vs, kv, hdo⟩ := dk_rd I.hok ha
  obtain ⟨hz2, hs2, ws, kw, hdo2⟩ := dk_rd I.hok hb
  have lw : ws = [] := by cases kw; rfl
  subst lw
  have e : (vs.length == ([] : List (Key × Value)).length && true) = ks.isEmpty := by
    have := Paired.length kv
    cases ks with
    | nil => cases kv; rfl
    | cons => cases vs with
      | nil => cases kv
      | cons => rfl
  refine PySem.W.rcP_dicts (knd := mixKind X.prog X.w) (r := true) hs0 hs2 hdo hdo2 hu (fun e => ?_) _ _ ?_
  · have : vs = [] := List.length_eq_zero_iff.mp e
    rw [this]; exact .nil
  · rw [e]
    exact ⟨.bl ks.isEmpty, H, I, rfl, q⟩
def pEqD0 (te : PTE) : PTE := fun ρ Q => te ρ fun p => match p with
  | .dic l => Q (.bl l.isEmpty)
  | _ => False
theorem eqD0_of {te : PTE} (σ : L2.St) (H : Hp) (Q : VK) (h : lift Z (pEqD0 te) σ H Q) : tOp rEqD0 (lift Z te) tDNewK σ H Q := by
  obtain ⟨W, H0, ρ, Qp, hh, S, t, q⟩ := h
  refine ⟨W, H0, ρ, _, hh, S, t, fun W1 H1 v p e1 d1 t1 => fun b n => ?_⟩
  cases d1 with
  | @dic a xs l ha r =>
    have e2 := Ext.put (o := .dK []) e1.holds n
    have hl : xs.isEmpty = l.isEmpty := by cases r <;> rfl
    exact ⟨a, b, xs, rfl, rfl, e2.holds.rd ha, .inl upd_same, by rw [hl]; exact q W1 _ _ _ (e1.trans hh e2) (.bl _) t1⟩
  | _ => exact t1.elim
theorem q_eqD0 {a : Expr} {te : PTE} {pos dp : Pos} {j : Nat} (hr : Room j X.A) (ha : PE X a (lift Z te)) (hm : behindInMarks .Eq (.Dict [] [] dp) = false := by first | exact nobehind _ (by decide) (by decide) | rfl) : PE X (.Compare a [.Eq] [.Dict [] [] dp] pos) (lift Z (pEqD0 te)) :=
  PEw (pe_cmpR (op_eqD0 (by have := hr.units; omega)) ha pe_dnewK hm) fun σ H Q => eqD0_of σ H Q
theorem qt_eqD0 {a : Expr} {te : PTE} {pos dp : Pos} {j : Nat} (hr : Room j X.A) (ha : PE X a (lift Z te)) (hm : behindInMarks .Eq (.Dict [] [] dp) = false := by first | exact nobehind _ (by decide) (by decide) | rfl) : PT X (.Compare a [.Eq] [.Dict [] [] dp] pos) (liftT Z (pTst (pEqD0 te))) :=
  PTw (pt_cmpR (op_eqD0 (by have := hr.units; omega)) ha pe_dnewK hm) fun σ H Q h => eqD0_of σ H _ (tst_of σ H Q h)
/-- a, b = a list -/
def gLstP (n : Nat) (t : PTGs) : PTG := fun p ρ Q => match p with
  | .lst l => l.length = n ∧ t l ρ Q
  | _ => False
theorem qg_lst {es : List Expr} {k : Nat} {t : PTGs} {ws : List Nat} {n : Nat} {pos : Pos} (h : PGs X es (liftGs Z ws t)) (hK : X.K = Z.K := by rfl) (hc : X.calm = true := by rfl)
    (hn : (assignEach es X.env).length = n := by rfl) (hst : (assignEach es X.env).findIdx? (·.1) = none := by rfl) : PG X (.Tuple es k pos) (liftG Z ws (gLstP n t)) :=
  PGw (pg_lst hc h hn hst) fun v σ H Q ⟨W, H0, ρ, p, Qp, hh, S, d, t, q⟩ => by
    cases d with
    | lst ha r => exact ⟨_, _, rfl, .of (hh.ex ha (fun z => z)), by rw [r.length]; exact t.1, W, H0, ρ, _, Qp, hh, S, r, t.2, q⟩
    | _ => exact t.elim
end
end L3

/-! ## L3O -/
/-! Ranges with a step. -/
namespace L3
open PySem PySem.Spec PyProof.Rows L2
section
variable {X : Cx} {Z : Par}
def rngC (lo c : Int) (n : Nat) : List PV := (List.range n).map fun i : Nat => PV.int (lo + (i : Int) * c)
theorem serves_rngC {W : Wd} {H : Hp} (lo c : Int) (n : Nat) : Serves Z W H (Itc lo c n) (rngC lo c n) := fun W1 H1 le h1 =>
  ⟨fun i hi => by show n ≤ i; simpa [rngC] using hi, fun i p hp => by
    have hi : i < n := by
      have := (List.getElem?_eq_some_iff.mp hp).1
      simpa [rngC] using this
    refine ⟨hi, fun x H2 ⟨e, y⟩ => ?_⟩
    subst e y
    have e : p = .int (lo + i * c) := by
      have z : (rngC lo c n)[i]? = some (.int (lo + i * c)) := by simp [rngC, List.getElem?_map, List.getElem?_range hi]
      rw [z] at hp
      exact (Option.some.inj hp).symm
    subst e
    exact ⟨W1, .refl h1, .int _⟩⟩
theorem rgC_up {i j : Int} (ha : -(2 ^ 62) ≤ i) (ha' : i < 2 ^ 62) (hb : -(2 ^ 62) ≤ j) (hb' : j < 2 ^ 62) : RgC i j 1 (j - i).toNat :=
  ⟨by decide, by decide, small_one ha ha' hb hb', rangeSize_nat i j⟩
def pR3 (ta : PTA) : PTI := fun ρ Q => ta ρ fun ps => match ps with
  | [.int i, .int j, .int c] => (-(2 ^ 62) ≤ i ∧ i < 2 ^ 62 ∧ -(2 ^ 62) ≤ j ∧ j < 2 ^ 62) ∧ ((c = 1 ∧ Q (rngC i 1 (j - i).toNat)) ∨ (c = -1 ∧ Q (rngC i (-1) (i - j).toNat)))
  | _ => False
theorem qi_range3 {tg a b c : Expr} {ta : PTA} {p pos : Pos} (hm : X.mg "range" = none) (ha : PA X [a, b, c] (liftA Z ta)) (hg : Gl X "range" := by rfl)
    (hs : starEach [a, b, c] X.env = [(false, eval a X.env), (false, eval b X.env), (false, eval c X.env)] := by rfl) (hs2 : starEach [b, c] X.env = [(false, eval b X.env), (false, eval c X.env)] := by rfl) : PI X tg (.Call (.Name "range" p) [a, b, c] [] pos) (liftI Z (pR3 ta)) :=
  PIw (pi_range3 hg hm ha (by rw [hs, hs2]) (by rw [hs2]; rfl)) fun σ H R ⟨W, H0, ρ, Qp, hh, S, t, q⟩ => by
    refine ⟨W, H0, ρ, _, hh, S, t, fun W1 H1 vs ps e1 d1 t1 => ?_⟩
    match ps, d1, t1 with
    | [.int i, .int j, .int c], .cons (.int _) (.cons (.int _) (.cons (.int _) .nil)), t1 =>
      obtain ⟨⟨b1, b2, b3, b4⟩, t2⟩ := t1
      rcases t2 with ⟨rfl, t2⟩ | ⟨rfl, t2⟩
      · exact ⟨i, j, 1, _, rfl, rgC_up b1 b2 b3 b4, q W1 H1 _ _ e1 (serves_rngC i 1 _) t2⟩
      · exact ⟨i, j, -1, _, rfl, RgC.neg b1 b2 b3 b4, q W1 H1 _ _ e1 (serves_rngC i (-1) _) t2⟩
/-- a list's truth -/
def pTru (t : PTE) : PTT := fun ρ Q => t ρ fun p => match p with
  | .lst l => Q (!l.isEmpty)
  | .frz l => Q (!l.isEmpty)
  | .tup l => Q (!l.isEmpty)
  | _ => False
theorem DatL.isEmpty {K : PySem.W.Frag} {W : Wd} {xs : List V} {l : List PV} (r : DatL K W xs l) : xs.isEmpty = l.isEmpty := by cases r <;> rfl
theorem qt_tru {e : Expr} {t : PTE} (h : PE X e (lift Z t)) (hK : X.K = Z.K := by rfl) (he : ∀ whole, isTrue e X.env whole = (do let v ← whole; standAt e.pos; holding [v] (truthy v)) := by intro _; rfl) : PT X e (liftT Z (pTru t)) :=
  PTw (pt_truth h he) fun σ H Q ⟨W, H0, ρ, Qp, hh, S, t, q⟩ => by
    refine ⟨W, H0, ρ, _, hh, S, t, fun W1 H1 v p e1 d1 t1 => ?_⟩
    cases d1 with
    | lst ha r => exact ⟨_, .inl ⟨_, .of (e1.holds.ex ha fun z => z), by rw [r.isEmpty]⟩, q W1 H1 _ e1 t1⟩
    | frz ha r => exact ⟨_, .inl ⟨_, by rw [hK]; exact SqL.holds e1.holds ha, by rw [r.isEmpty]⟩, q W1 H1 _ e1 t1⟩
    | tup ha r => exact ⟨_, .inr (.inl ⟨_, .of (e1.holds.ex ha fun z => z), by rw [r.isEmpty]⟩), q W1 H1 _ e1 t1⟩
    | _ => exact t1.elim
end
end L3

/-! ## L3Q -/
/-! Dicts with keys of several parts: their values, ==; tuples of lists. -/
namespace PySem.W
open PySem PySem.Calls PyProof.Rows PyProof.V PySem.Spec
section
variable {prog : Program} {w : World} {K : Type} [DecidableEq K] {knd : HeapKind prog w K} {A : Around} {E : Value → Shared → Prop} {s : Shared}
theorem atKey_some {xs : List (K × Addr × Value)} (hn : (xs.map (·.1)).Nodup) {j : Nat} {k : K} {p : Addr × Value} (h : xs[j]? = some (k, p)) : atKey xs k = some p := atKey_of_get hn h
theorem atKey_get : ∀ {xs : List (K × Addr × Value)} {k : K} {p : Addr × Value}, atKey xs k = some p → ∃ j : Nat, xs[j]? = some (k, p)
  | [], k, p, h => by cases h
  | x :: xs, k, p, h => by
    unfold atKey at h
    rw [List.find?_cons] at h
    by_cases c : x.1 = k
    · rw [decide_eq_true c] at h
      have h : x.2 = p := by simpa using h
      exact ⟨0, by rw [List.getElem?_cons_zero, ← c, ← h]⟩
    · rw [decide_eq_false c] at h
      obtain ⟨j, e⟩ := atKey_get (xs := xs) h
      exact ⟨j + 1, e⟩
/-- two dicts of the same keys, their values equal -/
theorem samePairsH {nm : String} {a b : Addr} {xa xb : List (K × Addr × Value)} {Q : Bool → Shared → Prop} (hu : knd.room A) (ha : (a == sysModules) = false) (hb : (b == sysModules) = false)
    (da : s.heap.DictOfH knd a xa) (db : s.heap.DictOfH knd b xb) (hl : xa.length = xb.length) (hits : ∀ x ∈ xa, ∃ y, atKey xb x.1 = some y ∧ SeqAt.EqP prog w A s x.2.2 y.2 true) (h : Q true s) :
    wpAny (model prog w) A (Builtin.Dict.samePairs nm a b) Q E s := by
  obtain ⟨oa, es, ep, hoa, _, hda, hea, hia, hna⟩ := da
  obtain ⟨ob, es', ep', hob, _, hdb, heb, hib, hnb⟩ := db
  have hla : xa.length = es.size := (size_of_entries hea).symm
  have hlb : xb.length = es'.size := (size_of_entries heb).symm
  unfold Builtin.Dict.samePairs Builtin.Dict.showsAll
  rw [if_neg (show ¬ (a == sysModules) = true by rw [ha]; exact Bool.false_ne_true), if_neg (show ¬ (b == sysModules) = true by rw [hb]; exact Bool.false_ne_true)]
  refine wpAny_bind (wpAny_pure (wpAny_bind (wpAny_pure ?_)))
  refine wpAny_bind (wpAny_dictEntries hoa hda ?_)
  dsimp only
  refine wpAny_bind (wpAny_dictEntries hob hdb ?_)
  have hsz : es.size = es'.size := by omega
  rw [if_neg (by rw [hsz]; simp)]
  refine wpAny_bind (wpAny_dictEpoch hoa hda ?_)
  refine wpAny_bind ?_
  rw [Std.Legacy.Range.forIn_eq_forIn_range']
  simp only [Std.Legacy.Range.size, Nat.sub_zero, Nat.add_sub_cancel, Nat.div_one]
  refine wpAny_forIn_list _
    (fun rest q s' => s' = s ∧ q = (none, ()) ∧ ∃ i, rest = List.range' i (es.size - i) ∧ i ≤ es.size)
    _ ?_ ?_ _ _ ⟨rfl, rfl, 0, by simp, Nat.zero_le _⟩
  · rintro x rest q s' ⟨rfl, rfl, i, hr, hi⟩
    have hlt : i < es.size := by
      rcases Nat.lt_or_ge i es.size with h | h
      · exact h
      · rw [Nat.sub_eq_zero_of_le h] at hr; simp at hr
    obtain ⟨rfl, hrest⟩ : x = i ∧ rest = List.range' (i + 1) (es.size - (i + 1)) := by
      have e : es.size - i = (es.size - (i + 1)) + 1 := by omega
      rw [e, List.range'_succ] at hr
      injection hr with h1 h2
      exact ⟨h1, h2⟩
    refine wpAny_bind (wpAny_dictEntries hoa hda ?_)
    have hlt' : x < xa.length := by omega
    have e1 : es[x]? = some (entryOfKey knd xa[x]) := by rw [entry_at hea x, List.getElem?_eq_getElem hlt']; rfl
    have e2 : es[x] = entryOfKey knd xa[x] := by
      rw [Array.getElem?_eq_getElem hlt] at e1
      exact Option.some.inj e1
    rw [e1]
    obtain ⟨k, ka, va, hkv⟩ : ∃ k ka va, xa[x] = (k, ka, va) := ⟨_, _, _, rfl⟩
    rw [hkv]
    have hx : (k, ka, va) ∈ xa := by rw [← hkv]; exact List.getElem_mem _
    obtain ⟨⟨kb, vb⟩, hy, he⟩ := hits _ hx
    obtain ⟨j0, hj0⟩ := atKey_get hy
    show wpAny _ _ (holding [Value.ref ka, va] _ >>= _) _ _ _
    refine wpAny_bind (wpAny_holding (wpAny_bind (wpAny_dictFind_heap hu (hia _ hx) hob hdb heb hib hnb (fun hno => absurd hj0 (hno j0 _)) fun j p hj => ?_)))
    have ep' : p = (kb, vb) := Option.some.inj ((atKey_of_get hnb hj).symm.trans hy)
    subst ep'
    refine wpAny_bind (wpAny_dictEntries hob hdb ?_)
    have e3 : es'[j]? = some (entryOfKey knd (k, kb, vb)) := by rw [entry_at heb j, hj]; rfl
    rw [e3]
    refine wpAny_holding (he _ _ ?_)
    show wpAny _ _ (if (!true) = true then _ else _) _ _ _
    rw [if_neg (by decide)]
    refine wpAny_bind (wpAny_dictEpoch hoa hda ?_)
    rw [if_neg (by simp)]
    exact wpAny_pure ⟨rfl, rfl, x + 1, hrest, hlt⟩
  · rintro q s' ⟨rfl, rfl, i, hr, hi⟩
    exact wpAny_pure h
theorem rcH_dicts {a b : Addr} {xa xb : List (K × Addr × Value)} (hr : knd.room A.in1) (ha : (a == sysModules) = false) (hb : (b == sysModules) = false)
    (da : s.heap.DictOfH knd a xa) (db : s.heap.DictOfH knd b xb) (hu : A.units < cLine) (hl : xa.length = xb.length) (hits : ∀ x ∈ xa, ∃ y, atKey xb x.1 = some y ∧ SeqAt.EqP prog w A.in1 s x.2.2 y.2 true) (E Q : Value → Shared → Prop) (h : Q (.bool true) s) : wpAny (model prog w) A (richCompare .Eq (.ref a) (.ref b)) Q E s := by
  refine wpAny_richCompare_same_room (op := .Eq) da.typeIs db.typeIs PySem.F.slot_dict_eq (wpAny_call_entry PySem.F.slot_dict_eq da.typeIs PySem.F.entry_dict_eq ?_ (PySem.F.args_dict_eq_2 _ _)) hu
  show wpAny _ _ (Builtin.Dict.dictSlotArgs "__eq__" ⟨[.ref a, .ref b], []⟩ >>= _) _ _ s
  refine wpAny_bind ?_
  unfold Builtin.Dict.dictSlotArgs
  refine wpAny_bind (wpAny_notOrdered_dict da.typeIs ?_)
  show wpAny _ _ (pure (Value.ref a, Value.ref b)) _ _ s
  refine wpAny_pure ?_
  refine wpAny_bind (wpAny_isInstance (T := "dict") db.typeIs PySem.F.sub_dict_dict ?_)
  simp only [Bool.not_true, Bool.false_eq_true, if_false]
  refine wpAny_bind (wpAny_pure (wpAny_bind (wpAny_pure ?_)))
  refine wpAny_bind (samePairsH hr ha hb da db hl hits ?_)
  refine wpAny_pure ⟨_, rfl, ?_, ?_⟩
  · exact fun x => nomatch x
  · simpa using h
theorem neH_dicts {a b : Addr} {xa xb : List (K × Addr × Value)} {Q : Value → Shared → Prop} (hr : knd.room A.in1) (ha : (a == sysModules) = false) (hb : (b == sysModules) = false)
    (da : s.heap.DictOfH knd a xa) (db : s.heap.DictOfH knd b xb) (hu : A.units < cLine) (hl : xa.length = xb.length) (hits : ∀ x ∈ xa, ∃ y, atKey xb x.1 = some y ∧ SeqAt.EqP prog w A.in1 s x.2.2 y.2 true) (h : Q (.bool false) s) : wpAny (model prog w) A (compareOp .NotEq (.ref a) (.ref b)) Q E s := by
  refine wpAny_richCompare_same_room (op := .NotEq) da.typeIs db.typeIs PySem.F.slot_dict_ne (wpAny_call_entry PySem.F.slot_dict_ne da.typeIs PySem.F.entry_dict_ne ?_ (PySem.F.args_dict_ne_2 _ _)) hu
  show wpAny _ _ (Builtin.Dict.dictSlotArgs "__ne__" ⟨[.ref a, .ref b], []⟩ >>= _) _ _ s
  refine wpAny_bind ?_
  unfold Builtin.Dict.dictSlotArgs
  refine wpAny_bind (wpAny_notOrdered_dict da.typeIs ?_)
  show wpAny _ _ (pure (Value.ref a, Value.ref b)) _ _ s
  refine wpAny_pure ?_
  refine wpAny_bind (wpAny_isInstance (T := "dict") db.typeIs PySem.F.sub_dict_dict ?_)
  simp only [Bool.not_true, Bool.false_eq_true, if_false]
  refine wpAny_bind (wpAny_pure (wpAny_bind (wpAny_pure ?_)))
  refine wpAny_bind (samePairsH hr ha hb da db hl hits ?_)
  refine wpAny_pure ⟨_, rfl, ?_, ?_⟩
  · exact fun x => nomatch x
  · simpa using h
/-- the values of any dict -/
theorem kdl_valuesRaw {r d : Addr} {es : Array DictEntry} {ep : Nat} : KdlSrc prog w "dict_values" r d es.size (fun i v => ∃ hi : i < es.size, v = es[i].val) (fun h => h.IsValuesView r d ∧ h.DictRaw d es ep) where
  type := fun _ hm => hm.1.typeIs
  there := fun _ hm => ⟨let ⟨_, ho, _⟩ := hm.1; Heap.lt_size ho, let ⟨_, ho, _⟩ := hm.2; Heap.lt_size ho⟩
  keep := fun _ _ hm hk => ⟨let ⟨o, ho, x⟩ := hm.1; ⟨o, hk r (.inl rfl) o ho, x⟩, hm.2.at fun o e => hk d (.inr rfl) o e⟩
  notList := by decide
  notTuple := by decide
  hint := fun _ _ _ _ hm hq => kdl_hint_values hm.1.typeIs hq
  iter := fun _ _ hh hm => ⟨_, _, (fun _ _ hq => wpAny_pyIter_values_raw hm.1 hm.2 hq), Walks.rawValues hh _ d (Nat.ne_of_lt (let ⟨_, ho, _⟩ := hm.2; Heap.lt_size ho)) es ep, ⟨⟨_, Heap.get?_push_size _ rfl, rfl, rfl⟩, hm.2.at fun o e => Heap.get?_push_of_some _ e⟩⟩
end
end PySem.W
namespace L3
open PySem PySem.Spec PyProof.Rows L2
section
variable {X : Cx} {Z : Par}
def rEqT (r : Bool) : R2 := fun x y H Q => ∃ a b ks ls, x = .ref a ∧ y = .ref b ∧ Rd H a (.dT ks) ∧ Rd H b (.dT ls) ∧ ks.length = ls.length ∧ (∀ p ∈ ks, valV ls p.1 = some p.2 ∧ flatB p.2 = true) ∧ Q (.bl r) H
theorem KT.of {H : Hp} : ∀ {kvs : List (List Key × V)} {xs : List (List Key × Addr × Value)}, KT H kvs xs → ∀ x ∈ xs, ∃ p ∈ kvs, p.1 = x.1 ∧ RelV p.2 x.2.2
  | _, _, .nil, x, h => by cases h
  | _, _, .cons (a := p) (b := q) h t, x, hx => by
    rcases List.mem_cons.mp hx with rfl | hx
    · exact ⟨p, List.mem_cons_self .., h.1, h.2.2⟩
    · obtain ⟨p', h1, h2⟩ := KT.of t x hx
      exact ⟨p', List.mem_cons_of_mem _ h1, h2⟩
theorem eqT_hits {P : Program} {w : World} {A : Around} {s : Shared} {H : Hp} {ks ls : List (List Key × V)} {xa xb : List (List Key × Addr × Value)} (ra : KT H ks xa) (rb : KT H ls xb) (hp : ∀ p ∈ ks, valV ls p.1 = some p.2 ∧ flatB p.2 = true) :
    ∀ x ∈ xa, ∃ y, atKey xb x.1 = some y ∧ SeqAt.EqP P w A s x.2.2 y.2 true := fun x hx => by
  obtain ⟨p, h1, h2, h3⟩ := KT.of ra x hx
  obtain ⟨e, f⟩ := hp p h1
  have rr := rb.val p.1
  rw [e] at rr
  obtain ⟨u, hu, ru⟩ := rr.some_of
  rw [h2] at hu
  cases hk : atKey xb x.1 with
  | none => rw [hk] at hu; cases hu
  | some y =>
    rw [hk] at hu
    have : y.2 = u := Option.some.inj hu
    subst this
    exact ⟨y, rfl, (eqAt_same h3 ru f).eqP⟩
theorem op_eqT (hu : X.A.units + 1 < cLine) : OpR X (compareOp .Eq) (rEqT true) := by
  intro pins s σ H x y v u Q I rx ry h
  obtain ⟨a, b, ks, ls, rfl, rfl, ea, eb, hlen, hp, q⟩ := h
  obtain rfl : v = Value.ref a := rx
  obtain rfl : u = Value.ref b := ry
  obtain ⟨_, ya, xa, ra, da⟩ := dt_rd I.hok ea
  obtain ⟨_, yb, xb, rb, db⟩ := dt_rd I.hok eb
  have l1 : ks.length = xa.length := Paired.length ra
  have l2 : ls.length = xb.length := Paired.length rb
  exact PySem.W.rcH_dicts (knd := tupleKind (mixKind X.prog X.w)) hu ya yb da db (by omega) (by omega) (eqT_hits ra rb hp) _ _ ⟨.bl true, H, I, rfl, q⟩
theorem op_neT (hu : X.A.units + 1 < cLine) : OpR X (compareOp .NotEq) (rEqT false) := by
  intro pins s σ H x y v u Q I rx ry h
  obtain ⟨a, b, ks, ls, rfl, rfl, ea, eb, hlen, hp, q⟩ := h
  obtain rfl : v = Value.ref a := rx
  obtain rfl : u = Value.ref b := ry
  obtain ⟨_, ya, xa, ra, da⟩ := dt_rd I.hok ea
  obtain ⟨_, yb, xb, rb, db⟩ := dt_rd I.hok eb
  have l1 : ks.length = xa.length := Paired.length ra
  have l2 : ls.length = xb.length := Paired.length rb
  exact PySem.W.neH_dicts (knd := tupleKind (mixKind X.prog X.w)) hu ya yb da db (by omega) (by omega) (eqT_hits ra rb hp) ⟨.bl false, H, I, rfl, q⟩
/-- counts of pairs -/
def cntP : List (List Key × PV) → Option (List (List Key × Int))
  | [] => some []
  | (k, .int i) :: r => (cntP r).map ((k, i) :: ·)
  | _ => none
def sameT (l m : List (List Key × PV)) : Prop := ∃ a b : List (List Key × Int), cntP l = some a ∧ cntP m = some b ∧ a.length = b.length ∧ ∀ p ∈ a, (b.find? fun q => decide (q.1 = p.1)).map (·.2) = some p.2
theorem DatT.cnt {K : PySem.W.Frag} {W : Wd} : ∀ {xs : List (List Key × V)} {l : List (List Key × PV)} {a : List (List Key × Int)}, DatT K W xs l → cntP l = some a → xs = a.map fun p => (p.1, V.int p.2)
  | _, _, a, .nil, e => by cases e; rfl
  | _, _, a, .cons (k := k) (p := p) h t, e => by
    cases h with
    | int i =>
      unfold cntP at e
      cases q : cntP _ with
      | none => rw [q] at e; cases e
      | some b =>
        rw [q] at e
        cases e
        rw [DatT.cnt t q]
        rfl
    | _ => cases e
theorem valV_cnt (b : List (List Key × Int)) (k : List Key) : valV (b.map fun p => (p.1, V.int p.2)) k = ((b.find? fun q => decide (q.1 = k)).map (·.2)).map V.int := by
  unfold valV
  induction b with
  | nil => rfl
  | cons x b ih =>
    rw [List.map_cons, List.find?_cons, List.find?_cons]
    by_cases c : x.1 = k
    · rw [decide_eq_true c]; rfl
    · rw [decide_eq_false c]; exact ih
def kEqT (neg : Bool) : PK2 := fun p q Q => match p, q with
  | .dct l, .dct m => sameT l m ∧ Q (.bl (!neg))
  | _, _ => False
theorem eqT_of (neg : Bool) {W : Wd} {H : Hp} {x y : V} {p q : PV} {Q : VK} {Qp : PV → Prop} (hh : Holds Z W H) (dx : Dat Z.K W x p) (dy : Dat Z.K W y q) (t : kEqT neg p q Qp) (k : ∀ W' H' v r, Ext Z W H W' H' → Dat Z.K W' v r → Qp r → Q v H') : rEqT (!neg) x y H Q := by
  unfold kEqT at t
  split at t
  · obtain ⟨⟨a, b, e1, e2, hl, hp⟩, t⟩ := t
    cases dx with
    | dct ha ra =>
      cases dy with
      | dct hb rb =>
        have ea := DatT.cnt ra e1
        have eb := DatT.cnt rb e2
        subst ea eb
        refine ⟨_, _, _, _, rfl, rfl, hh.rd ha, hh.rd hb, by simpa using hl, fun p hp' => ?_, k W H _ _ (.refl hh) (.bl _) t⟩
        obtain ⟨c, hc, rfl⟩ := List.mem_map.mp hp'
        rw [valV_cnt, hp c hc]
        exact ⟨rfl, rfl⟩
  · exact t.elim
theorem q_eqT {j : Nat} (hr : Room j X.A) : OpP Z X (compareOp .Eq) (kEqT false) := ⟨_, op_eqT (by have := hr.units; omega), fun W H x y p q Q Qp hh dx dy t k => eqT_of false hh dx dy t k⟩
theorem q_neT {j : Nat} (hr : Room j X.A) : OpP Z X (compareOp .NotEq) (kEqT true) := ⟨_, op_neT (by have := hr.units; omega), fun W H x y p q Q Qp hh dx dy t k => eqT_of true hh dx dy t k⟩
/-- tuple(l) -/
def kTuple : PKA := fun ps Q => match ps with
  | [.lst l] => Q (.tup l)
  | _ => False
theorem c_tuple (hK : X.K = Z.K := by rfl) : CallP Z X (.type "tuple") kTuple := ⟨_, call_tuple_of, fun W H xs ps Q Qp hh d t k => by
  unfold kTuple at t
  split at t
  · cases d with
    | cons d1 d2 => cases d2; cases d1 with
      | @lst a xs l ha r => exact ⟨_, _, rfl, .inl ⟨.of (hh.ex ha fun z => z), fun p n => by
          have e := Ext.new (o := .tup xs) hh n
          exact k _ _ _ _ e (.tup Wd.add_at (r.mono e.le)) t⟩⟩
  · exact t.elim⟩
/-- list(d.values()) -/
theorem pe_listValsT {e : Expr} {te : TE} {p apos cpos pos : Pos} (hc : X.calm = true) (he : PE X e te) (hg : Gl X "list") (hm : X.mg "list" = none) (hbase : attributeBase e "values" X.env (eval e X.env) = eval e X.env) (hline : (apos.endLine == cpos.line) = true)
    (hs : starEach [.Call (.Attribute e "values" apos) [] [] cpos] X.env = (false, eval (.Call (.Attribute e "values" apos) [] [] cpos) X.env) :: starEach [] X.env := by rfl) :
    PE X (.Call (.Name "list" p) [.Call (.Attribute e "values" apos) [] [] cpos] [] pos) (fun σ H Q => te σ H fun x H1 => ∃ d kvs, x = .ref d ∧ Rd H1 d (.dT kvs) ∧ ∀ q, H1 q = none → Q (.ref q) (upd H1 q (.lst (kvs.map (·.2))))) := by
  refine ⟨fun pins s σ H Q I hq => ?_⟩
  refine wpAny_Call_Name_kw (ld_blt I hg hm PyProof.Rows.boot_list ?_)
  refine PyProof.Rows.callWith_type1 ?_ hs rfl
  rw [hs]
  show wpAny _ _ (spliced ((false, eval (.Call (.Attribute e "values" apos) [] [] cpos) X.env) :: backTo pos (starEach [] X.env))) _ _ s
  refine Calls.spliced_cons ?_
  refine wpAny_Call_method (T := "dict") (id := "dict.values") hbase rfl hline F.plainAttrs_dict F.slot_dict_values F.type_dict_values (thn (he.run pins s σ H _ I hq) fun u s1 ⟨x, H1, I1, rx, d, kvs, ex, hd, q⟩ => ?_)
  subst ex
  obtain rfl : u = Value.ref d := rx
  obtain ⟨hz, hs0, xs, kt, dh⟩ := dt_rd I1.hok hd
  obtain ⟨o, es, ep, ho, hx, hdt, hes, hks, hnd⟩ := dh
  have raw : s1.heap.DictRaw d es ep := ⟨o, ho, hx, hdt⟩
  have I2 : Inv X pins σ H1 { s1 with heap := s1.heap.push { cls := .type "dict_values", data := .fields #[.ref d] } } := I1.kept (t' := s1.toks) fun b ob q => Heap.get?_push_of_some _ q
  have lx : es.size = xs.length := size_of_entries hes
  have lk : kvs.length = xs.length := Paired.length kt
  have nd : (∀ (n : String), True) := fun _ => trivial
  refine ⟨raw.typeIs, fun a ea => by cases ea; exact ⟨o, ho, hx.2.1⟩, ?_⟩
  show wpAny _ _ (callWith cpos (.builtin "dict.values") [.ref d] [] []) _ X.xe s1
  refine method_meetsIn F.slot_dict_values F.entry_dict_values rfl (PySem.evalArgs_none ⟨rfl, raw.typeIs, F.args_dict_values_1 _, _, PySem.meets_dict_values_raw d hs0, ⟨es, ep, raw⟩, ?_⟩)
  refine Calls.spliced_nil ?_
  refine PySem.W.kdl_call (PySem.W.kdl_valuesRaw (es := es) (ep := ep)) (I1.ok.hd hc) ⟨⟨_, Heap.get?_push_size _ rfl, rfl, rfl⟩, raw.at fun o e => Heap.get?_push_of_some _ e⟩ (by rw [lx, ← lk]; exact hz) fun h' tk acc c hk hS hacc => ?_
  have hv : Vals (kvs.map (·.2)) acc.toList := by
    have key : ∀ (n : Nat) (i : Nat), n = kvs.length - i → Vals ((kvs.map (·.2)).drop i) (acc.toList.drop i) := by
      intro n
      induction n with
      | zero =>
        intro i hn
        rw [List.drop_of_length_le (by rw [List.length_map]; omega), List.drop_of_length_le (by rw [Array.length_toList, hacc.1]; omega)]
        exact .nil
      | succ n ih =>
        intro i hn
        have h1 : i < (kvs.map (·.2)).length := by rw [List.length_map]; omega
        have h2 : i < acc.toList.length := by rw [Array.length_toList, hacc.1]; omega
        rw [List.drop_eq_getElem_cons h1, List.drop_eq_getElem_cons h2]
        refine .cons ?_ (ih (i + 1) (by omega))
        obtain ⟨hi, e⟩ := hacc.2 i acc.toList[i] (by rw [← Array.getElem?_toList]; exact List.getElem?_eq_getElem h2)
        have h3 : i < kvs.length := by omega
        obtain ⟨y, e2, r1, _, r2⟩ := LiI.paired_get kt (List.getElem?_eq_getElem h3)
        have e3 : es[i]? = some (entryOfKey (tupleKind (mixKind X.prog X.w)) y) := by rw [entry_at hes i, e2]; rfl
        rw [Array.getElem?_eq_getElem hi] at e3
        have e4 := Option.some.inj e3
        rw [e, e4, List.getElem_map]
        exact r2
    exact key _ 0 rfl
  exact ⟨.ref _, upd H1 _ (.lst (kvs.map (·.2))), I2.laid (t' := tk) hk (Nat.le_refl _) ⟨by rw [List.length_map]; exact hz, acc.toList, c, hv, by rw [Array.toArray_toList]; exact hS⟩, rfl, q _ (I2.hok.fresh (Nat.le_refl _))⟩
def pListValsT (te : PTE) : PTE := fun ρ Q => te ρ fun p => match p with
  | .dct l => Q (.lst (l.map (·.2)))
  | _ => False
theorem DatT.snd {K : PySem.W.Frag} {W : Wd} : ∀ {vs : List (List Key × V)} {ps : List (List Key × PV)}, DatT K W vs ps → DatL K W (vs.map (·.2)) (ps.map (·.2))
  | _, _, .nil => .nil
  | _, _, .cons h t => .cons h (DatT.snd t)
theorem q_listValsT {e : Expr} {te : PTE} {p apos cpos pos : Pos} (hm : X.mg "list" = none) (he : PE X e (lift Z te)) (hc : X.calm = true := by rfl) (hg : Gl X "list" := by rfl) (hbase : attributeBase e "values" X.env (eval e X.env) = eval e X.env := by rfl) (hline : (apos.endLine == cpos.line) = true := by rfl)
    (hs : starEach [.Call (.Attribute e "values" apos) [] [] cpos] X.env = (false, eval (.Call (.Attribute e "values" apos) [] [] cpos) X.env) :: starEach [] X.env := by rfl) :
    PE X (.Call (.Name "list" p) [.Call (.Attribute e "values" apos) [] [] cpos] [] pos) (lift Z (pListValsT te)) :=
  PEw (pe_listValsT hc he hg hm hbase hline hs) fun σ H Q ⟨W, H0, ρ, Qp, hh, S, t, q⟩ => by
    refine ⟨W, H0, ρ, _, hh, S, t, fun W1 H1 v p e1 d1 t1 => ?_⟩
    cases d1 with
    | dct ha r => exact ⟨_, _, rfl, e1.holds.rd ha, fun p n => q _ _ _ _ (e1.trans hh (Ext.new e1.holds n)) (.lst Wd.add_at (r.snd.mono (Wd.le_add (e1.holds.new n)))) t1⟩
    | _ => exact t1.elim
end
end L3

/-! ## HX -/
/-! The head's facts: as He's hook, with properties' getters. -/
namespace HX
open PySem PySem.Spec PyProof.Rows L2
inductive Lc where
  | g (x : Str)
  | m (c x : Str)
  | p (c f : Str)
def pg (K : PySem.W.Frag) (c f : Str) : Addr := match PySem.W.recIn K (He.ma K (He.ga K c) f) "property" with
  | some (.ref g :: _) => g
  | _ => 0
def lad (K : PySem.W.Frag) : Lc → Addr
  | .g x => He.ga K x
  | .m c x => He.ma K (He.ga K c) x
  | .p c f => pg K c f
structure DefE where
  at_ : Lc
  name : Str
  qual : Str
  params : Arguments
  body : List Stmt
  scope : Scope
  dvs : List V
def fnA (K : PySem.W.Frag) (a : Addr) : He.FnW := match K.lookup a with
  | some ⟨_, _, .func fd, _⟩ => some (fd.name, fd.qualname, fd.params, fd.body, fd.scope, fd.globals, fd.closure, fd.builtins)
  | _ => none
def okA (K : PySem.W.Frag) (a : Addr) (qual : Str) (dvs : List V) : Bool := PySem.W.keepIn K (.ref a) && (match K.lookup a with
  | some ⟨_, _, .func fd, _⟩ => PySem.W.codeIn K fd.code qual && He.dflB K fd.defaults dvs
  | _ => false)
def DefE.val (d : DefE) : He.FnW := some (d.name, d.qual, d.params, .stmts d.body, d.scope, mainGlobals, [], builtinsNs)
theorem funA {K : PySem.W.Frag} {a : Addr} {d : DefE} (h1 : fnA K a = d.val) (h2 : okA K a d.qual d.dvs = true) : ∃ fd, FunD K d.name d.qual d.params d.body d.scope d.dvs [] a fd := by
  unfold okA at h2
  rw [Bool.and_eq_true] at h2
  obtain ⟨k1, k2⟩ := h2
  unfold fnA DefE.val at h1
  split at k2
  · rename_i oc od fd osl e
    rw [e] at h1
    rw [Bool.and_eq_true] at k2
    simp only [Option.some.injEq, Prod.mk.injEq] at h1
    obtain ⟨e1, e2, e3, e4, e5, e6, e7, e8⟩ := h1
    refine ⟨fd, ⟨oc, od, fd.defaults, fd.kwdefaults, fd.doc, fd.pyModule, fd.annotations, fd.code, fd.closureTuple, osl, ?_, e, k2.1, He.dflB_ok k2.2, .inl rfl⟩, k1⟩
    cases fd
    simp only at e1 e2 e3 e4 e5 e6 e7 e8
    subst e1 e2 e3 e4 e5 e6 e7 e8
    rfl
  · cases k2
def prOk (K : PySem.W.Frag) (q : Str × Str) : Bool :=
  He.eqO (PySem.W.findIn K (.ref (He.ga K q.1)) q.2) (some (some (.ref (He.ma K (He.ga K q.1) q.2)))) && (He.eqO (PySem.W.specialIn K (.ref (He.ma K (He.ga K q.1) q.2)) (Str.ofString "__get__")) (some (some (.builtin "property.__get__"))) &&
    (decide (PySem.W.takesIn K (.ref (He.ma K (He.ga K q.1) q.2)) = some true) && (match PySem.W.recIn K (He.ma K (He.ga K q.1) q.2) "property" with
      | some (.ref _ :: _) => true
      | _ => false)))
theorem propOk {K : PySem.W.Frag} {c f : Str} (h : prOk K (c, f) = true) : PropOf K (He.ga K c) f (He.ma K (He.ga K c) f) (pg K c f) := by
  unfold prOk at h
  simp only [Bool.and_eq_true, decide_eq_true_eq, He.eqO] at h
  obtain ⟨h1, h2, h3, h4⟩ := h
  refine ⟨h1, h2, h3, ?_⟩
  unfold pg
  split at h4
  · rename_i g r e
    rw [e]
    exact ⟨r, rfl⟩
  · cases h4
abbrev Ob := Bool × List He.FnW
def obs (fa : List He.Fa) (pr : List (Str × Str)) (fn : List DefE) (K : PySem.W.Frag) : Ob := ((fa.all fun f => He.Fa.ok K f) && (pr.all (prOk K) && fn.all fun d => okA K (lad K d.at_) d.qual d.dvs), fn.map fun d => fnA K (lad K d.at_))
def val (fn : List DefE) : Ob := (true, fn.map DefE.val)
def Says (fa : List He.Fa) (pr : List (Str × Str)) (fn : List DefE) (K : PySem.W.Frag) : Prop := obs fa pr fn K = val fn
theorem Says.fact {fa : List He.Fa} {pr : List (Str × Str)} {fn : List DefE} {K : PySem.W.Frag} (h : Says fa pr fn K) (i : Nat) {f : He.Fa} (e : fa[i]? = some f) : He.Fa.ok K f = true := by
  have h1 := congrArg Prod.fst h
  simp only [obs, val, Bool.and_eq_true] at h1
  exact List.all_eq_true.mp h1.1 f (List.mem_of_getElem? e)
theorem Says.prop {fa : List He.Fa} {pr : List (Str × Str)} {fn : List DefE} {K : PySem.W.Frag} (h : Says fa pr fn K) (i : Nat) {q : Str × Str} (e : pr[i]? = some q) : prOk K q = true := by
  have h1 := congrArg Prod.fst h
  simp only [obs, val, Bool.and_eq_true] at h1
  exact List.all_eq_true.mp h1.2.1 q (List.mem_of_getElem? e)
theorem Says.def_ {fa : List He.Fa} {pr : List (Str × Str)} {fn : List DefE} {K : PySem.W.Frag} (h : Says fa pr fn K) (i : Nat) {d : DefE} (e : fn[i]? = some d) : ∃ fd, FunD K d.name d.qual d.params d.body d.scope d.dvs [] (lad K d.at_) fd := by
  have h1 := congrArg Prod.fst h
  have h2 := congrArg Prod.snd h
  simp only [obs, val, Bool.and_eq_true] at h1 h2
  refine funA (d := d) ?_ (List.all_eq_true.mp h1.2.2 d (List.mem_of_getElem? e))
  have h3 := congrArg (fun l => l[i]?) h2
  simp only [List.getElem?_map, e, Option.map_some, Option.some.injEq] at h3
  exact h3
theorem frG_in {g : Addr → Option Obj} {h : Heap} (e : ∀ a, g a = h.get? a) (as : List Addr) : (He.frG g as).In h := by
  intro a o hl
  rw [← e]
  unfold He.frG at hl
  induction as with
  | nil => cases hl
  | cons b r ih =>
    rw [List.filterMap_cons] at hl
    cases q : g b with
    | none => rw [q] at hl; exact ih hl
    | some u =>
      rw [q] at hl
      simp only [Option.map_some] at hl
      rw [List.lookup_cons] at hl
      cases c : a == b with
      | true =>
        rw [c] at hl
        cases hl
        rw [eq_of_beq c]; exact q
      | false => rw [c] at hl; exact ih hl
def obsG (n : Nat) (fa : List He.Fa) (pr : List (Str × Str)) (fn : List DefE) (g : Addr → Option Obj) : Ob := obs fa pr fn (He.frG g (He.asD g n))
def hook (n : Nat) (fa : List He.Fa) (pr : List (Str × Str)) (fn : List DefE) : PySem.W.Hook where
  α := Ob
  obs := fun s => obsG n fa pr fn s.heap.get?
  val := fun _ => val fn
  says := fun _ h => ∃ K : PySem.W.Frag, K.In h ∧ Says fa pr fn K
  of := fun w s e => ⟨_, frG_in (fun _ => rfl) _, e⟩
  keeps := fun w h h' ⟨K, k1, k2⟩ k => ⟨K, fun a o e => k a o (k1 a o e), k2⟩
theorem obsG_eq {n : Nat} {fa : List He.Fa} {pr : List (Str × Str)} {fn : List DefE} {g : Addr → Option Obj} {s : Shared} (h : ∀ a, g a = s.heap.get? a) : obsG n fa pr fn g = (hook n fa pr fn).obs s := by
  have : g = s.heap.get? := funext h
  subst this
  rfl
end HX

/-! ## MR -/
/-! Plain facts of fractions: sizes, what ratio() computes. -/
namespace MR
def bits (n : Nat) : Nat := n.log2 + 1
def sz (q : Rat) : Nat := max (bits q.num.natAbs) (bits q.den)
theorem bits_le {n k : Nat} (hk : 0 < k) : bits n ≤ k ↔ n < 2 ^ k := by
  unfold bits
  by_cases h : n = 0
  · subst h
    simp only [Nat.log2_zero]
    constructor
    · intro _; exact Nat.pos_of_ne_zero (by simp)
    · intro _; omega
  · rw [← Nat.log2_lt h]; omega
theorem lt_bits (n : Nat) : n < 2 ^ bits n := Nat.lt_log2_self
theorem bits_pos (n : Nat) : 0 < bits n := Nat.succ_pos _
theorem sz_pos (q : Rat) : 0 < sz q := Nat.lt_of_lt_of_le (bits_pos _) (Nat.le_max_left _ _)
theorem sz_le {q : Rat} {k : Nat} (hk : 0 < k) (h1 : q.num.natAbs < 2 ^ k) (h2 : q.den < 2 ^ k) : sz q ≤ k :=
  Nat.max_le.mpr ⟨(bits_le hk).mpr h1, (bits_le hk).mpr h2⟩
theorem num_lt (q : Rat) : q.num.natAbs < 2 ^ sz q := Nat.lt_of_lt_of_le (lt_bits _) (Nat.pow_le_pow_right (by decide) (Nat.le_max_left _ _))
theorem den_lt (q : Rat) : q.den < 2 ^ sz q := Nat.lt_of_lt_of_le (lt_bits _) (Nat.pow_le_pow_right (by decide) (Nat.le_max_right _ _))
theorem log2_num (q : Rat) : q.num.natAbs.log2 < sz q := Nat.lt_of_lt_of_le (Nat.lt_succ_self _) (Nat.le_max_left _ _)
theorem log2_den (q : Rat) : q.den.log2 < sz q := Nat.lt_of_lt_of_le (Nat.lt_succ_self _) (Nat.le_max_right _ _)
theorem log2_lt_of {n k : Nat} (hk : 0 < k) (h : n < 2 ^ k) : n.log2 < k := by
  by_cases z : n = 0
  · subst z; simpa using hk
  · exact (Nat.log2_lt z).mpr h
theorem num_divInt_le (n d : Int) : (Rat.divInt n d).num.natAbs ≤ n.natAbs := by
  rw [Rat.num_divInt, Int.natAbs_ediv_of_dvd (Int.dvd_mul_of_dvd_right (Int.gcd_dvd_right ..))]
  refine Nat.le_trans (Nat.div_le_self _ _) ?_
  rw [Int.natAbs_mul]
  by_cases h : d = 0
  · subst h; simp
  · have : d.sign.natAbs = 1 := Int.natAbs_sign_of_ne_zero h
    rw [this, Nat.one_mul]; exact Nat.le_refl _
theorem den_divInt_le {n d : Int} (h : d ≠ 0) : (Rat.divInt n d).den ≤ d.natAbs := by
  rw [Rat.den_divInt, if_neg h]
  exact Nat.div_le_self _ _
theorem sz_divInt {n d : Int} {k : Nat} (hk : 0 < k) (hd : d ≠ 0) (h1 : n.natAbs < 2 ^ k) (h2 : d.natAbs < 2 ^ k) : sz (Rat.divInt n d) ≤ k :=
  sz_le hk (Nat.lt_of_le_of_lt (num_divInt_le n d) h1) (Nat.lt_of_le_of_lt (den_divInt_le hd) h2)
theorem lt_mul {a b j k : Nat} (h1 : a < 2 ^ j) (h2 : b < 2 ^ k) : a * b < 2 ^ (j + k) := by
  rw [Nat.pow_add]
  by_cases z : b = 0
  · subst z; rw [Nat.mul_zero]; exact Nat.mul_pos (Nat.pos_of_ne_zero (by simp)) (Nat.pos_of_ne_zero (by simp))
  · exact Nat.mul_lt_mul_of_lt_of_le h1 (Nat.le_of_lt h2) (Nat.pos_of_ne_zero (by simp))
theorem denI (q : Rat) : (q.den : Int) ≠ 0 := by exact_mod_cast q.den_nz
theorem add_eq (a b : Rat) : a + b = Rat.divInt (a.num * b.den + b.num * a.den) (a.den * b.den) := by
  conv => lhs; rw [← Rat.num_divInt_den a, ← Rat.num_divInt_den b]
  rw [Rat.divInt_add_divInt _ _ (denI a) (denI b)]
theorem sub_eq (a b : Rat) : a - b = Rat.divInt (a.num * b.den - b.num * a.den) (a.den * b.den) := by
  conv => lhs; rw [← Rat.num_divInt_den a, ← Rat.num_divInt_den b]
  rw [Rat.divInt_sub_divInt _ _ (denI a) (denI b)]
theorem mul_eq (a b : Rat) : a * b = Rat.divInt (a.num * b.num) (a.den * b.den) := by
  conv => lhs; rw [← Rat.num_divInt_den a, ← Rat.num_divInt_den b]
  rw [Rat.divInt_mul_divInt]
theorem div_eq (a b : Rat) : a / b = Rat.divInt (a.num * b.den) (a.den * b.num) := by
  rw [Rat.div_def, Rat.inv_def]
  conv => lhs; rw [← Rat.num_divInt_den a]
  rw [Rat.divInt_mul_divInt]
theorem den_mul_ne (a b : Rat) : ((a.den : Int) * (b.den : Int)) ≠ 0 := Int.mul_ne_zero (denI a) (denI b)
theorem num_ne {b : Rat} (h : b ≠ 0) : b.num ≠ 0 := fun e => h (Rat.num_eq_zero.mp e)
theorem natAbs_add_lt {x y : Int} {k : Nat} (h1 : x.natAbs < 2 ^ k) (h2 : y.natAbs < 2 ^ k) : (x + y).natAbs < 2 ^ (k + 1) := by
  have := Int.natAbs_add_le x y
  rw [Nat.pow_succ]; omega
theorem nd_lt (a b : Rat) : (a.num * (b.den : Int)).natAbs < 2 ^ (sz a + sz b) := by
  rw [Int.natAbs_mul, Int.natAbs_natCast]; exact lt_mul (num_lt a) (den_lt b)
theorem dd_lt (a b : Rat) : ((a.den : Int) * (b.den : Int)).natAbs < 2 ^ (sz a + sz b) := by
  rw [Int.natAbs_mul, Int.natAbs_natCast, Int.natAbs_natCast]; exact lt_mul (den_lt a) (den_lt b)
theorem nn_lt (a b : Rat) : (a.num * b.num).natAbs < 2 ^ (sz a + sz b) := by
  rw [Int.natAbs_mul]; exact lt_mul (num_lt a) (num_lt b)
theorem dn_lt (a b : Rat) : ((a.den : Int) * b.num).natAbs < 2 ^ (sz a + sz b) := by
  rw [Int.natAbs_mul, Int.natAbs_natCast]; exact lt_mul (den_lt a) (num_lt b)
theorem up {n j : Nat} (h : n < 2 ^ j) (k : Nat) : n < 2 ^ (j + k) := Nat.lt_of_lt_of_le h (Nat.pow_le_pow_right (by decide) (Nat.le_add_right _ _))
theorem sz_add (a b : Rat) : sz (a + b) ≤ sz a + sz b + 1 := by
  rw [add_eq]
  refine sz_divInt (Nat.succ_pos _) (den_mul_ne a b) ?_ (up (dd_lt a b) 1)
  have h2 := nd_lt b a
  rw [Nat.add_comm] at h2
  exact natAbs_add_lt (nd_lt a b) h2
theorem sz_sub (a b : Rat) : sz (a - b) ≤ sz a + sz b + 1 := by
  rw [sub_eq]
  refine sz_divInt (Nat.succ_pos _) (den_mul_ne a b) ?_ (up (dd_lt a b) 1)
  have h2 := nd_lt b a
  rw [Nat.add_comm, ← Int.natAbs_neg] at h2
  exact natAbs_add_lt (nd_lt a b) h2
theorem sz_mul (a b : Rat) : sz (a * b) ≤ sz a + sz b := by
  rw [mul_eq]
  exact sz_divInt (by have := sz_pos a; omega) (den_mul_ne a b) (nn_lt a b) (dd_lt a b)
theorem sz_div (a : Rat) {b : Rat} (h : b ≠ 0) : sz (a / b) ≤ sz a + sz b := by
  rw [div_eq]
  exact sz_divInt (by have := sz_pos a; omega) (Int.mul_ne_zero (denI a) (num_ne h)) (nd_lt a b) (dn_lt a b)
theorem sz_int (i : Int) : sz (i : Rat) = bits i.natAbs := by
  unfold sz
  rw [show (i : Rat).num = i from rfl, show (i : Rat).den = 1 from rfl]
  have : bits 1 = 1 := rfl
  rw [this]
  exact Nat.max_eq_left (bits_pos _)
theorem sz_int_le {i : Int} {k : Nat} (hk : 0 < k) (h : i.natAbs < 2 ^ k) : sz (i : Rat) ≤ k := by rw [sz_int]; exact (bits_le hk).mpr h
theorem floor_abs (q : Rat) : q.floor.natAbs ≤ q.num.natAbs := by
  rw [Rat.floor_def]
  have hd : (1 : Int) ≤ (q.den : Int) := by have := q.den_pos; omega
  by_cases h : 0 ≤ q.num
  · have h1 : 0 ≤ q.num / (q.den : Int) := Int.ediv_nonneg h (by omega)
    have h2 : q.num / (q.den : Int) ≤ q.num := Int.ediv_le_self _ h
    omega
  · have h1 : q.num / (q.den : Int) < 0 := Int.ediv_neg_of_neg_of_pos (by omega) (by omega)
    have h2 : q.num ≤ q.num / (q.den : Int) := by
      rw [Int.le_ediv_iff_mul_le (by omega)]
      have := Int.mul_le_mul_of_nonpos_left (a := q.num) (b := (q.den : Int)) (c := 1) (by omega) hd
      simpa using this
    omega
theorem sz_floor (q : Rat) : sz (q.floor : Rat) ≤ sz q := sz_int_le (sz_pos q) (Nat.lt_of_le_of_lt (floor_abs q) (num_lt q))
/-- what ratio() hands back -/
theorem ratio_num {n d : Int} (h : d ≠ 0) : n.fdiv ((Int.gcd n d : Int) * (if 0 < d then 1 else -1)) = (Rat.divInt n d).num := by
  rw [Rat.num_divInt, Int.gcd_comm d n]
  have hg : (Int.gcd n d : Int) ∣ n := Int.gcd_dvd_left ..
  have g0 : (Int.gcd n d : Int) ≠ 0 := by
    have := Int.gcd_pos_of_ne_zero_right n h
    omega
  obtain ⟨m, hm⟩ := hg
  generalize hG : (Int.gcd n d : Int) = G at *
  by_cases p : 0 < d
  · rw [if_pos p, Int.sign_eq_one_of_pos p, Int.mul_one, Int.one_mul, hm, Int.mul_fdiv_cancel_left _ g0, Int.mul_ediv_cancel_left _ g0]
  · have hn : d < 0 := by omega
    rw [if_neg p, Int.sign_eq_neg_one_of_neg hn, hm]
    have e1 : G * m = (G * -1) * (-m) := by grind
    rw [e1, Int.mul_fdiv_cancel_left _ (by omega)]
    have e2 : -1 * (G * -1 * -m) = G * (-m) := by grind
    rw [e2, Int.mul_ediv_cancel_left _ g0]
theorem ratio_den {n d : Int} (h : d ≠ 0) : d.fdiv ((Int.gcd n d : Int) * (if 0 < d then 1 else -1)) = ((Rat.divInt n d).den : Int) := by
  rw [Rat.den_divInt, if_neg h, Int.gcd_comm d n]
  have hg : (Int.gcd n d : Int) ∣ d := Int.gcd_dvd_right ..
  have gp := Int.gcd_pos_of_ne_zero_right n h
  have g0 : (Int.gcd n d : Int) ≠ 0 := by omega
  obtain ⟨m, hm⟩ := hg
  have hd : d.natAbs = Int.gcd n d * m.natAbs := by
    conv => lhs; rw [hm]
    rw [Int.natAbs_mul, Int.natAbs_natCast]
  rw [hd, Nat.mul_div_cancel_left _ gp]
  generalize hG : (Int.gcd n d : Int) = G at *
  have G0 : 0 < G := by omega
  by_cases p : 0 < d
  · rw [if_pos p, Int.mul_one, hm, Int.mul_fdiv_cancel_left _ g0]
    have : 0 < m := by
      rcases Int.lt_trichotomy m 0 with q | q | q
      · have := Int.mul_neg_of_pos_of_neg G0 q; omega
      · subst q; omega
      · exact q
    omega
  · have hn : d < 0 := by omega
    rw [if_neg p, hm]
    have e1 : G * m = (G * -1) * (-m) := by grind
    rw [e1, Int.mul_fdiv_cancel_left _ (by omega)]
    have : m < 0 := by
      rcases Int.lt_trichotomy m 0 with q | q | q
      · exact q
      · subst q; omega
      · have := Int.mul_pos G0 q; omega
    omega
theorem num_pos {q : Rat} : 0 < q.num ↔ 0 < q := by
  have h : 0 ≤ (-q).num ↔ 0 ≤ -q := Rat.num_nonneg
  rw [Rat.neg_num] at h
  constructor
  · intro a
    have : ¬ 0 ≤ -q := fun z => by have := h.mpr z; omega
    grind
  · intro a
    have : ¬ 0 ≤ -q.num := fun z => by have := h.mp z; grind
    omega
theorem num_neg {q : Rat} : q.num < 0 ↔ q < 0 := by
  have h : 0 ≤ q.num ↔ 0 ≤ q := Rat.num_nonneg
  constructor
  · intro a
    have : ¬ 0 ≤ q := fun z => by have := h.mpr z; omega
    grind
  · intro a
    have : ¬ 0 ≤ q.num := fun z => by have := h.mp z; grind
    omega
theorem fmod_lt (x : Int) {y : Int} (h : y ≠ 0) : (x.fmod y).natAbs < y.natAbs := by
  rw [Int.fmod_eq_emod]
  have h1 := Int.emod_nonneg x h
  have h2 := Int.emod_lt x h
  split
  · omega
  · rename_i c
    have h3 : x % y ≠ 0 := fun e => c (.inr (Int.dvd_of_emod_eq_zero e))
    have h4 : ¬ 0 ≤ y := fun e => c (.inl e)
    omega
theorem fdiv_den (q : Rat) : q.num.fdiv (q.den : Int) = q.floor := by
  rw [Rat.floor_def, Int.fdiv_eq_ediv_of_nonneg _ (by omega)]
end MR

/-! ## MC -/
/-! Rising lists; what adds up over cuts. -/
namespace G
/-- two rising lists of the same members are one -/
theorem rising_eq : ∀ {l m : List Rat}, l.Pairwise (· < ·) → m.Pairwise (· < ·) → (∀ x, x ∈ l ↔ x ∈ m) → l = m
  | [], [], _, _, _ => rfl
  | [], b :: m, _, _, h => by have := (h b).mpr (List.mem_cons_self ..); cases this
  | a :: l, [], _, _, h => by have := (h a).mp (List.mem_cons_self ..); cases this
  | a :: l, b :: m, hl, hm, h => by
    obtain ⟨l1, l2⟩ := List.pairwise_cons.mp hl
    obtain ⟨m1, m2⟩ := List.pairwise_cons.mp hm
    have ab : a = b := by
      rcases List.mem_cons.mp ((h a).mp (List.mem_cons_self ..)) with e | h1
      · exact e
      · rcases List.mem_cons.mp ((h b).mpr (List.mem_cons_self ..)) with e | h2
        · exact e.symm
        · have := l1 b h2; have := m1 a h1; grind
    subst ab
    rw [rising_eq l2 m2 fun x => ?_]
    constructor
    · intro hx
      rcases List.mem_cons.mp ((h x).mp (List.mem_cons_of_mem _ hx)) with e | h1
      · subst e; have := l1 x hx; grind
      · exact h1
    · intro hx
      rcases List.mem_cons.mp ((h x).mpr (List.mem_cons_of_mem _ hx)) with e | h1
      · subst e; have := m1 x hx; grind
      · exact h1
end G
namespace G
def insR (x : Rat) : List Rat → List Rat
  | [] => [x]
  | y :: r => if x < y then x :: y :: r else if x = y then y :: r else y :: insR x r
def riseL : List Rat → List Rat
  | [] => []
  | x :: r => insR x (riseL r)
theorem insR_mem {x z : Rat} : ∀ {l : List Rat}, z ∈ insR x l ↔ z = x ∨ z ∈ l
  | [] => by simp [insR]
  | y :: r => by
    unfold insR
    split
    · simp
    · split
      · rename_i h; subst h; simp
      · rw [List.mem_cons, insR_mem (l := r), List.mem_cons]
        constructor
        · rintro (h | h | h)
          · exact .inr (.inl h)
          · exact .inl h
          · exact .inr (.inr h)
        · rintro (h | h | h)
          · exact .inr (.inl h)
          · exact .inl h
          · exact .inr (.inr h)
theorem insR_pw {x : Rat} : ∀ {l : List Rat}, l.Pairwise (· < ·) → (insR x l).Pairwise (· < ·)
  | [], _ => by simp [insR]
  | y :: r, h => by
    obtain ⟨h1, h2⟩ := List.pairwise_cons.mp h
    unfold insR
    split
    · rename_i c
      refine List.pairwise_cons.mpr ⟨fun z hz => ?_, h⟩
      rcases List.mem_cons.mp hz with rfl | hz
      · exact c
      · have := h1 z hz; grind
    · split
      · exact h
      · rename_i c1 c2
        refine List.pairwise_cons.mpr ⟨fun z hz => ?_, insR_pw h2⟩
        rcases insR_mem.mp hz with rfl | hz
        · grind
        · exact h1 z hz
theorem riseL_mem {z : Rat} : ∀ {l : List Rat}, z ∈ riseL l ↔ z ∈ l
  | [] => by simp [riseL]
  | x :: r => by rw [riseL, insR_mem, riseL_mem (l := r), List.mem_cons]
theorem riseL_pw : ∀ (l : List Rat), (riseL l).Pairwise (· < ·)
  | [] => by simp [riseL]
  | x :: r => by rw [riseL]; exact insR_pw (riseL_pw r)
theorem rise_eq {rs l : List Rat} (h : rs.Pairwise (· < ·)) (m : ∀ x, x ∈ rs ↔ x ∈ l) : rs = riseL l :=
  rising_eq h (riseL_pw l) fun x => by rw [m x, riseL_mem]
/-! folds over what stands side by side -/
section
variable {M : Type} (op : M → M → M) (e : M) (f : Rat → Rat → M)
def Sm : List Rat → M
  | x :: y :: r => op (f x y) (Sm (y :: r))
  | _ => e
structure Mon : Prop where
  as : ∀ a b c, op (op a b) c = op a (op b c)
  l : ∀ a, op e a = a
  r : ∀ a, op a e = a
variable {op e f}
theorem Sm_split (m : Mon op e) (b : Rat) (l2 : List Rat) : ∀ l1 : List Rat, Sm op e f (l1 ++ b :: l2) = op (Sm op e f (l1 ++ [b])) (Sm op e f (b :: l2))
  | [] => by
    show _ = op e _
    rw [m.l]; rfl
  | [x] => by
    show op (f x b) _ = op (op (f x b) e) _
    rw [m.r]
  | x :: y :: r => by
    have ih := Sm_split m b l2 (y :: r)
    show op (f x y) (Sm op e f (y :: r ++ b :: l2)) = op (op (f x y) (Sm op e f (y :: r ++ [b]))) _
    rw [ih, m.as]
/-- no change inside -/
def St (ch : List Rat) (x z : Rat) : Prop := ∀ t ∈ ch, ¬ (x < t ∧ t < z)
theorem St.sub {ch : List Rat} {x z x' z' : Rat} (h : St ch x z) (a : x ≤ x') (b : z' ≤ z) : St ch x' z' := fun t ht c => h t ht ⟨by grind, by grind⟩
def cutR (ch : List Rat) (a b : Rat) : List Rat := riseL (a :: b :: ch.filter fun t => decide (a < t ∧ t < b))
theorem cutR_mem {ch : List Rat} {a b x : Rat} : x ∈ cutR ch a b ↔ x = a ∨ x = b ∨ (x ∈ ch ∧ a < x ∧ x < b) := by
  unfold cutR
  rw [riseL_mem]
  simp
theorem cutR_pw {ch : List Rat} {a b : Rat} : (cutR ch a b).Pairwise (· < ·) := riseL_pw _
theorem cutR_eq {ch rs : List Rat} {a b : Rat} (h : rs.Pairwise (· < ·)) (m : ∀ x, x ∈ rs ↔ x = a ∨ x = b ∨ (x ∈ ch ∧ a < x ∧ x < b)) : rs = cutR ch a b :=
  rising_eq h cutR_pw fun x => by rw [m x, cutR_mem]
theorem cutR_same {ch : List Rat} {a : Rat} : cutR ch a a = [a] := (cutR_eq (List.pairwise_singleton _ _) fun x => by
  rw [List.mem_singleton]
  constructor
  · exact .inl
  · rintro (h | h | ⟨_, h, h2⟩)
    · exact h
    · exact h
    · grind).symm
theorem cutR_st {ch : List Rat} {a b : Rat} (ab : a < b) (s : St ch a b) : cutR ch a b = [a, b] := (cutR_eq (by simp [ab]) fun x => by
  simp only [List.mem_cons, List.not_mem_nil, or_false]
  constructor
  · rintro (h | h)
    · exact .inl h
    · exact .inr (.inl h)
  · rintro (h | h | ⟨h, h2⟩)
    · exact .inl h
    · exact .inr h
    · exact absurd h2 (s x h)).symm
variable (op e f)
def Tot (ch : List Rat) (a b : Rat) : M := Sm op e f (cutR ch a b)
variable {op e f}
theorem Tot_same {ch : List Rat} {a : Rat} : Tot op e f ch a a = e := by unfold Tot; rw [cutR_same]; rfl
theorem Tot_st (m : Mon op e) {ch : List Rat} {a b : Rat} (ab : a < b) (s : St ch a b) : Tot op e f ch a b = f a b := by
  unfold Tot; rw [cutR_st ab s]
  show op (f a b) e = _
  exact m.r _
theorem Tot_add (m : Mon op e) {ch : List Rat} {lo a b c : Rat} (ha : lo ≤ a) (ab : a ≤ b) (bc : b ≤ c)
    (hf : ∀ x y z, lo ≤ x → x < y → y < z → St ch x z → op (f x y) (f y z) = f x z) : Tot op e f ch a c = op (Tot op e f ch a b) (Tot op e f ch b c) := by
  by_cases e1 : a = b
  · subst e1; rw [Tot_same, m.l]
  by_cases e2 : b = c
  · subst e2; rw [Tot_same, m.r]
  have ab : a < b := by grind
  have bc : b < c := by grind
  generalize hL : riseL (a :: b :: c :: ch.filter fun t => decide (a < t ∧ t < c)) = L
  have inL : ∀ x, x ∈ L ↔ x = a ∨ x = b ∨ x = c ∨ (x ∈ ch ∧ a < x ∧ x < c) := fun x => by rw [← hL, riseL_mem]; simp
  have pL : L.Pairwise (· < ·) := by rw [← hL]; exact riseL_pw _
  obtain ⟨l1, l2, eL⟩ := List.append_of_mem ((inL b).mpr (.inr (.inl rfl)))
  rw [eL] at inL pL
  obtain ⟨p1, p2, p3⟩ := List.pairwise_append.mp pL
  obtain ⟨p4, p5⟩ := List.pairwise_cons.mp p2
  have lt1 : ∀ x ∈ l1, x < b := fun x h => p3 x h b (List.mem_cons_self ..)
  have q1 : l1 ++ [b] = cutR ch a b := cutR_eq (by
    rw [List.pairwise_append]
    exact ⟨p1, List.pairwise_singleton _ _, fun x h y h' => by rw [List.mem_singleton] at h'; subst h'; exact lt1 x h⟩) fun x => by
      have i := inL x
      simp only [List.mem_append, List.mem_cons, List.not_mem_nil, or_false] at i ⊢
      constructor
      · rintro (h | h)
        · have := lt1 x h
          rcases i.mp (.inl h) with h | h | h | h
          · exact .inl h
          · exact .inr (.inl h)
          · grind
          · exact .inr (.inr ⟨h.1, h.2.1, this⟩)
        · exact .inr (.inl h)
      · rintro (h | h | h)
        · rcases i.mpr (.inl h) with h' | h' | h'
          · exact .inl h'
          · grind
          · have := p4 x h'; grind
        · exact .inr h
        · rcases i.mpr (.inr (.inr (.inr ⟨h.1, h.2.1, by grind⟩))) with h' | h' | h'
          · exact .inl h'
          · grind
          · have := p4 x h'; grind
  have q2 : b :: l2 = cutR ch b c := cutR_eq p2 fun x => by
      have i := inL x
      simp only [List.mem_append, List.mem_cons, List.not_mem_nil, or_false] at i ⊢
      constructor
      · rintro (h | h)
        · exact .inl h
        · have := p4 x h
          rcases i.mp (.inr (.inr h)) with h | h | h | h
          · grind
          · exact .inl h
          · exact .inr (.inl h)
          · exact .inr (.inr ⟨h.1, this, h.2.2⟩)
      · rintro (h | h | h)
        · exact .inl h
        · rcases i.mpr (.inr (.inr (.inl h))) with h' | h' | h'
          · have := lt1 x h'; grind
          · exact .inl h'
          · exact .inr h'
        · rcases i.mpr (.inr (.inr (.inr ⟨h.1, by grind, h.2.2⟩))) with h' | h' | h'
          · have := lt1 x h'; grind
          · exact .inl h'
          · exact .inr h'
  have sp : Sm op e f (l1 ++ b :: l2) = op (Tot op e f ch a b) (Tot op e f ch b c) := by
    unfold Tot
    rw [← q1, ← q2]
    exact Sm_split (f := f) m b l2 l1
  rw [← sp]
  show Sm op e f (cutR ch a c) = _
  by_cases hb : b ∈ ch
  · rw [cutR_eq (ch := ch) (a := a) (b := c) pL fun x => by
      rw [inL x]
      constructor
      · rintro (h | h | h | h)
        · exact .inl h
        · subst h; exact .inr (.inr ⟨hb, ab, bc⟩)
        · exact .inr (.inl h)
        · exact .inr (.inr h)
      · rintro (h | h | h)
        · exact .inl h
        · exact .inr (.inr (.inl h))
        · exact .inr (.inr (.inr h))]
  · have q3 : l1 ++ l2 = cutR ch a c := cutR_eq (by
      rw [List.pairwise_append]
      exact ⟨p1, p5, fun x h y h' => p3 x h y (List.mem_cons_of_mem _ h')⟩) fun x => by
        have i := inL x
        simp only [List.mem_append, List.mem_cons] at i ⊢
        have nb : x ∈ l1 ∨ x ∈ l2 → x ≠ b := by
          rintro (h | h) e
          · have := lt1 x h; grind
          · have := p4 x h; grind
        constructor
        · intro h
          have n := nb h
          rcases i.mp (by rcases h with h | h; exact .inl h; exact .inr (.inr h)) with h | h | h | h
          · exact .inl h
          · exact absurd h n
          · exact .inr (.inl h)
          · exact .inr (.inr h)
        · intro h
          have n : x ≠ b := by
            rintro rfl
            rcases h with h | h | h
            · grind
            · grind
            · exact hb h.1
          rcases i.mpr (by rcases h with h | h | h; exact .inl h; exact .inr (.inr (.inl h)); exact .inr (.inr (.inr h))) with h' | h' | h'
          · exact .inl h'
          · exact absurd h' n
          · exact .inr h'
    have a1 : a ∈ l1 := by
      have := (inL a).mpr (.inl rfl)
      simp only [List.mem_append, List.mem_cons] at this
      rcases this with h | h | h
      · exact h
      · grind
      · have := p4 a h; grind
    have c2 : c ∈ l2 := by
      have := (inL c).mpr (.inr (.inr (.inl rfl)))
      simp only [List.mem_append, List.mem_cons] at this
      rcases this with h | h | h
      · have := lt1 c h; grind
      · grind
      · exact h
    obtain ⟨l1', x, rfl⟩ : ∃ l x, l1 = l ++ [x] := ⟨l1.dropLast, l1.getLast (List.ne_nil_of_mem a1), (List.dropLast_concat_getLast _).symm⟩
    obtain ⟨z, l2', rfl⟩ : ∃ z l, l2 = z :: l := by
      cases l2 with
      | nil => cases c2
      | cons z l => exact ⟨z, l, rfl⟩
    have xb : x < b := lt1 x (by simp)
    have bz : b < z := p4 z (by simp)
    have lx : lo ≤ x := by
      have : a ≤ x := by
        rcases (inL x).mp (by simp) with h | h | h | h <;> grind
      grind
    have st : St ch x z := fun t ht h => by
      have tb : t ≠ b := fun e => hb (e ▸ ht)
      have xa : a ≤ x := by
        rcases (inL x).mp (by simp) with h | h | h | h <;> grind
      have zc : z ≤ c := by
        rcases (inL z).mp (by simp) with h | h | h | h <;> grind
      have := (inL t).mpr (.inr (.inr (.inr ⟨ht, by grind, by grind⟩)))
      simp only [List.append_assoc, List.cons_append, List.nil_append, List.mem_append, List.mem_cons] at this
      rcases this with h' | h' | h' | h' | h'
      · have := (List.pairwise_append.mp p1).2.2 t h' x (by simp)
        grind
      · grind
      · exact tb h'
      · grind
      · have := (List.pairwise_cons.mp p5).1 t h'
        grind
    have e3 := Sm_split (f := f) m x (b :: z :: l2') l1'
    have e4 := Sm_split (f := f) m x (z :: l2') l1'
    rw [← q3]
    simp only [List.append_assoc, List.cons_append, List.nil_append]
    rw [e3, e4]
    congr 1
    show op (f x z) (Sm op e f (z :: l2')) = op (f x b) (op (f b z) (Sm op e f (z :: l2')))
    rw [← hf x b z lx xb bz st, m.as]
/-- two ways of counting that add up and agree where nothing changes -/
theorem add_ext {F G : Rat → Rat → M} {lo : Rat} (hF : ∀ a b c, lo ≤ a → a ≤ b → b ≤ c → F a c = op (F a b) (F b c)) (hG : ∀ a b c, lo ≤ a → a ≤ b → b ≤ c → G a c = op (G a b) (G b c)) (ch : List Rat)
    (h : ∀ a b, lo ≤ a → a ≤ b → St ch a b → F a b = G a b) {a b : Rat} (la : lo ≤ a) (ab : a ≤ b) : F a b = G a b := by
  generalize hn : (ch.filter fun t => decide (a < t ∧ t < b)).length = n
  induction n using Nat.strongRecOn generalizing a b with
  | ind n ih =>
    by_cases st : St ch a b
    · exact h a b la ab st
    · obtain ⟨t, ht, h1, h2⟩ : ∃ t ∈ ch, a < t ∧ t < b := by
        refine Classical.byContradiction fun c => st fun t ht hh => c ⟨t, ht, hh⟩
      have sub : ∀ a' b', a ≤ a' → b' ≤ b → (¬ (a' < t ∧ t < b')) → (ch.filter fun t => decide (a' < t ∧ t < b')).length < n := fun a' b' ha hb hno => by
        rw [← hn]
        have e1 : (ch.filter fun t => decide (a' < t ∧ t < b')) = (ch.filter fun t => decide (a < t ∧ t < b)).filter fun t => decide (a' < t ∧ t < b') := by
          rw [List.filter_filter]
          congr 1
          funext u
          rw [Bool.eq_iff_iff]
          simp only [Bool.and_eq_true, decide_eq_true_eq]
          constructor
          · intro h; exact ⟨h, by grind, by grind⟩
          · exact fun h => h.1
        rw [e1]
        rcases Nat.lt_or_ge ((ch.filter fun t => decide (a < t ∧ t < b)).filter fun t => decide (a' < t ∧ t < b')).length (ch.filter fun t => decide (a < t ∧ t < b)).length with c | c
        · exact c
        · exfalso
          have e2 := List.length_filter_le (fun t => decide (a' < t ∧ t < b')) (ch.filter fun t => decide (a < t ∧ t < b))
          have e3 := List.length_filter_eq_length_iff.mp (Nat.le_antisymm e2 c) t (List.mem_filter.mpr ⟨ht, by simp [h1, h2]⟩)
          exact hno (by simpa using e3)
      rw [hF a t b la (Rat.le_of_lt h1) (Rat.le_of_lt h2), hG a t b la (Rat.le_of_lt h1) (Rat.le_of_lt h2)]
      rw [ih _ (sub a t Rat.le_refl (Rat.le_of_lt h2) (by grind)) la (Rat.le_of_lt h1) rfl, ih _ (sub t b (Rat.le_of_lt h1) Rat.le_refl (by grind)) (by grind) (Rat.le_of_lt h2) rfl]
end
end G

/-! ## Ph -/
/-! Contracts of the ratios' defs. -/
namespace G
open PySem PySem.Spec PyProof.Rows L2 L3 MR
def rat (q : Rat) : PV := .tup [.int q.num, .int (q.den : Int)]
def NumP (p : PV) (q : Rat) : Prop := (∃ i : Int, p = .int i ∧ q = (i : Rat)) ∨ p = rat q
def isI : PV → Bool
  | .int _ => true
  | _ => false
def cmpI (a b : Rat) : Int := if a < b then -1 else if b < a then 1 else 0
def rem (a b : Rat) : Rat := a - b * ((a / b).floor : Rat)
def Ph_is_integer : Con := fun as Q => ∃ v, as = [v] ∧ (tyP v).isSome = true ∧ Q (.bl (isI v))
def Ph_common_divisor : Con := fun as Q => ∃ a b : Int, as = [.int a, .int b] ∧ Q (.int (Int.gcd a b : Nat))
def Ph_is_ratio : Con := fun as Q => ∃ v q, as = [v] ∧ NumP v q ∧ Q (.bl (!isI v))
def Ph_is_number : Con := fun as Q => ∃ v q, as = [v] ∧ NumP v q ∧ Q (.bl true)
def Ph_ratio : Con := fun as Q => ∃ n d : Int, as = [.int n, .int d] ∧ d ≠ 0 ∧ d.natAbs.log2 < 8999 ∧ Q (rat (Rat.divInt n d))
def Ph_as_ratio : Con := fun as Q => ∃ v q, as = [v] ∧ NumP v q ∧ Q (rat q)
def Ph_plus : Con := fun as Q => ∃ v w a b, as = [v, w] ∧ NumP v a ∧ NumP w b ∧ sz a + sz b ≤ 8000 ∧ Q (rat (a + b))
def Ph_minus : Con := fun as Q => ∃ v w a b, as = [v, w] ∧ NumP v a ∧ NumP w b ∧ sz a + sz b ≤ 8000 ∧ Q (rat (a - b))
def Ph_times : Con := fun as Q => ∃ v w a b, as = [v, w] ∧ NumP v a ∧ NumP w b ∧ sz a + sz b ≤ 8000 ∧ Q (rat (a * b))
def Ph_divided : Con := fun as Q => ∃ v w a b, as = [v, w] ∧ NumP v a ∧ NumP w b ∧ b ≠ 0 ∧ sz a + sz b ≤ 8000 ∧ Q (rat (a / b))
def Ph_compare : Con := fun as Q => ∃ v w a b, as = [v, w] ∧ NumP v a ∧ NumP w b ∧ sz a + sz b ≤ 8000 ∧ Q (.int (cmpI a b))
def Ph_floor_of : Con := fun as Q => ∃ v q, as = [v] ∧ NumP v q ∧ sz q ≤ 8000 ∧ Q (.int q.floor)
def Ph_remainder : Con := fun as Q => ∃ v w a b, as = [v, w] ∧ NumP v a ∧ NumP w b ∧ 0 < b ∧ sz a + sz b ≤ 3900 ∧ Q (rat (rem a b))
def Ph_in_order : Con := fun as Q => ∃ L : List (PV × Rat), ∃ C : Nat, as = [.lst (L.map (·.1))] ∧ (∀ x ∈ L, NumP x.1 x.2) ∧ 0 < C ∧ (∀ x ∈ L, x.2.den ∣ C ∧ bits C + sz x.2 ≤ 8000) ∧ L.length < 4000 ∧ bits C ≤ 8000 ∧
  ∀ rs : List Rat, rs.Pairwise (· < ·) → (∀ x, x ∈ rs ↔ x ∈ L.map (·.2)) → Q (.lst (rs.map rat))
/-! words -/
theorem kI0_int {g : Int → Int → PV} {i j : Int} {Q : PV → Prop} : kI0 g (.int i) (.int j) Q = Q (g i j) := rfl
theorem kII_int {C : Int → Int → Prop} {g : Int → Int → PV} {i j : Int} {Q : PV → Prop} : kII C g (.int i) (.int j) Q = (C i j ∧ Q (g i j)) := rfl
theorem kBB_bl {a b : Bool} {Q : PV → Prop} : kBB (.bl a) (.bl b) Q = Q (.int (b2i a - b2i b)) := rfl
theorem eqP_int {i j : Int} : eqP (.int i) (.int j) = some (decide (i = j)) := rfl
theorem kEq_int {i j : Int} {Q : PV → Prop} : kEq (.int i) (.int j) Q = Q (.bl (decide (i = j))) := rfl
theorem kNe_int {i j : Int} {Q : PV → Prop} : kNe (.int i) (.int j) Q = Q (.bl (!decide (i = j))) := rfl
theorem kIx_rat0 {q : Rat} {Q : PV → Prop} : kIx (rat q) (.int 0) Q = Q (.int q.num) := rfl
theorem kIx_rat1 {q : Rat} {Q : PV → Prop} : kIx (rat q) (.int 1) Q = Q (.int (q.den : Int)) := rfl
theorem kIx_2a {p q : PV} {Q : PV → Prop} : kIx (.tup [p, q]) (.int 0) Q = Q p := rfl
theorem kIx_2b {p q : PV} {Q : PV → Prop} : kIx (.tup [p, q]) (.int 1) Q = Q q := rfl
theorem kIsi_of {p : PV} {m n : String} {b : Bool} (h1 : tyP p = some m) (h2 : kitB m n = some b) {Q : PV → Prop} : kIsi [p, .ty n] Q = Q (.bl b) := by
  simp only [kIsi, h1, h2]
theorem kLen_tup {l : List PV} {Q : PV → Prop} : kLen [.tup l] Q = Q (.int l.length) := rfl
theorem kLen_lst {l : List PV} {Q : PV → Prop} : kLen [.lst l] Q = Q (.int l.length) := rfl
theorem kAbs_int {i : Int} {Q : PV → Prop} : kAbs [.int i] Q = Q (.int (if i < 0 then -i else i)) := rfl
theorem NumP.int (i : Int) : NumP (.int i) (i : Rat) := .inl ⟨i, rfl, rfl⟩
theorem NumP.rat (q : Rat) : NumP (G.rat q) q := .inr rfl
theorem kit_ii : kitB "int" "int" = some true := by decide +kernel
theorem kit_ib : kitB "int" "bool" = some false := by decide +kernel
theorem kit_ti : kitB "tuple" "int" = some false := by decide +kernel
theorem kit_it : kitB "int" "tuple" = some false := by decide +kernel
theorem kit_tt : kitB "tuple" "tuple" = some true := by decide +kernel
theorem kit_int (m : String) (h : m ∈ ["NoneType", "bool", "int", "str", "tuple", "list", "dict"]) : kitB m "int" = some (m == "int" || m == "bool") ∧ kitB m "bool" = some (m == "bool") := by
  simp only [List.mem_cons, List.not_mem_nil, or_false] at h
  rcases h with h | h | h | h | h | h | h <;> subst h <;> exact ⟨by decide +kernel, by decide +kernel⟩
end G


/-! ## HR -/
/-! The ratios' defs keep their contracts. -/
namespace G
open PySem PySem.Spec PyProof.Rows L2 L3 MR
def t_is_integer : PTS := pRet (pAndV (pCallB kIsi (pCons (pVar 0) (pCons (pC (.ty "int")) (pNil)))) (pNotV (pCallB kIsi (pCons (pVar 0) (pCons (pC (.ty "bool")) (pNil))))))
abbrev N_is_integer : List Str := ["value"]
theorem st_is_integer (a0 : PV) : startP N_is_integer [a0] = [.val a0] := rfl
def tb_common_divisor_1 : PTS := pPar 0 1 (pCons (pVar 1) (pCons (pBin kMdI (pVar 0) (pVar 1)) (pNil)))
def t_common_divisor : PTS := pSeq (pWhile (pTst (pBin kNe (pVar 1) (pC (.int 0)))) tb_common_divisor_1) (pRet (pCallB kAbs (pCons (pVar 0) (pNil))))
abbrev N_common_divisor : List Str := ["first", "second"]
theorem st_common_divisor (a0 a1 : PV) : startP N_common_divisor [a0, a1] = [.val a0, .val a1] := rfl
def t_is_ratio : PTS := pSeq (pIfS (pOrT (pNotT (pTst (pCallB kIsi (pCons (pVar 0) (pCons (pC (.ty "tuple")) (pNil)))))) (pOrT (pTst (pBin kNe (pCallB kLen (pCons (pVar 0) (pNil))) (pC (.int 2)))) (pOrT (pNotT (pTst (pCall Ph_is_integer (pCons (pBin kIx (pVar 0) (pC (.int 0))) (pNil))))) (pNotT (pTst (pCall Ph_is_integer (pCons (pBin kIx (pVar 0) (pC (.int 1))) (pNil)))))))) (pRet (pC (.bl false))) (pNext)) (pRet (pAndV (pBin kGeI (pBin kIx (pVar 0) (pC (.int 1))) (pC (.int 1))) (pBin kEq (pCall Ph_common_divisor (pCons (pBin kIx (pVar 0) (pC (.int 0))) (pCons (pBin kIx (pVar 0) (pC (.int 1))) (pNil)))) (pC (.int 1)))))
abbrev N_is_ratio : List Str := ["value"]
theorem st_is_ratio (a0 : PV) : startP N_is_ratio [a0] = [.val a0] := rfl
def t_is_number : PTS := pRet (pOrV (pCall Ph_is_integer (pCons (pVar 0) (pNil))) (pCall Ph_is_ratio (pCons (pVar 0) (pNil))))
abbrev N_is_number : List Str := ["value"]
theorem st_is_number (a0 : PV) : startP N_is_number [a0] = [.val a0] := rfl
def t_ratio : PTS := pSeq (pIfS (pOrT (pNotT (pTst (pCall Ph_is_integer (pCons (pVar 0) (pNil))))) (pNotT (pTst (pCall Ph_is_integer (pCons (pVar 1) (pNil)))))) (pNeverS) (pNext)) (pSeq (pIfS (pTst (pBin kEq (pVar 1) (pC (.int 0)))) (pNeverS) (pNext)) (pSeq (pAsg (pBin kMulI (pCall Ph_common_divisor (pCons (pVar 0) (pCons (pVar 1) (pNil)))) (pIf (pTst (pBin kGtI (pVar 1) (pC (.int 0)))) (pC (.int 1)) (pUn kNeg (pC (.int 1))))) (gNm 2)) (pRet (pTup (pCons (pBin kFdI (pVar 0) (pVar 2)) (pCons (pBin kFdI (pVar 1) (pVar 2)) (pNil)))))))
abbrev N_ratio : List Str := ["numerator", "denominator", "common"]
theorem st_ratio (a0 a1 : PV) : startP N_ratio [a0, a1] = [.val a0, .val a1, .no] := rfl
def t_as_ratio : PTS := pSeq (pIfS (pNotT (pTst (pCall Ph_is_number (pCons (pVar 0) (pNil))))) (pNeverS) (pNext)) (pRet (pIf (pTst (pCall Ph_is_integer (pCons (pVar 0) (pNil)))) (pTup (pCons (pVar 0) (pCons (pC (.int 1)) (pNil)))) (pVar 0)))
abbrev N_as_ratio : List Str := ["value"]
theorem st_as_ratio (a0 : PV) : startP N_as_ratio [a0] = [.val a0] := rfl
def t_plus : PTS := pSeq (pPar 2 3 (pCons (pCall Ph_as_ratio (pCons (pVar 0) (pNil))) (pCons (pCall Ph_as_ratio (pCons (pVar 1) (pNil))) (pNil)))) (pRet (pCall Ph_ratio (pCons (pBin kAddI (pBin kMulI (pBin kIx (pVar 2) (pC (.int 0))) (pBin kIx (pVar 3) (pC (.int 1)))) (pBin kMulI (pBin kIx (pVar 3) (pC (.int 0))) (pBin kIx (pVar 2) (pC (.int 1))))) (pCons (pBin kMulI (pBin kIx (pVar 2) (pC (.int 1))) (pBin kIx (pVar 3) (pC (.int 1)))) (pNil)))))
abbrev N_plus : List Str := ["first", "second", "one", "two"]
theorem st_plus (a0 a1 : PV) : startP N_plus [a0, a1] = [.val a0, .val a1, .no, .no] := rfl
def t_minus : PTS := pSeq (pPar 2 3 (pCons (pCall Ph_as_ratio (pCons (pVar 0) (pNil))) (pCons (pCall Ph_as_ratio (pCons (pVar 1) (pNil))) (pNil)))) (pRet (pCall Ph_ratio (pCons (pBin kSubI (pBin kMulI (pBin kIx (pVar 2) (pC (.int 0))) (pBin kIx (pVar 3) (pC (.int 1)))) (pBin kMulI (pBin kIx (pVar 3) (pC (.int 0))) (pBin kIx (pVar 2) (pC (.int 1))))) (pCons (pBin kMulI (pBin kIx (pVar 2) (pC (.int 1))) (pBin kIx (pVar 3) (pC (.int 1)))) (pNil)))))
abbrev N_minus : List Str := ["first", "second", "one", "two"]
theorem st_minus (a0 a1 : PV) : startP N_minus [a0, a1] = [.val a0, .val a1, .no, .no] := rfl
def t_times : PTS := pSeq (pPar 2 3 (pCons (pCall Ph_as_ratio (pCons (pVar 0) (pNil))) (pCons (pCall Ph_as_ratio (pCons (pVar 1) (pNil))) (pNil)))) (pRet (pCall Ph_ratio (pCons (pBin kMulI (pBin kIx (pVar 2) (pC (.int 0))) (pBin kIx (pVar 3) (pC (.int 0)))) (pCons (pBin kMulI (pBin kIx (pVar 2) (pC (.int 1))) (pBin kIx (pVar 3) (pC (.int 1)))) (pNil)))))
abbrev N_times : List Str := ["first", "second", "one", "two"]
theorem st_times (a0 a1 : PV) : startP N_times [a0, a1] = [.val a0, .val a1, .no, .no] := rfl
def t_divided : PTS := pSeq (pPar 2 3 (pCons (pCall Ph_as_ratio (pCons (pVar 0) (pNil))) (pCons (pCall Ph_as_ratio (pCons (pVar 1) (pNil))) (pNil)))) (pRet (pCall Ph_ratio (pCons (pBin kMulI (pBin kIx (pVar 2) (pC (.int 0))) (pBin kIx (pVar 3) (pC (.int 1)))) (pCons (pBin kMulI (pBin kIx (pVar 2) (pC (.int 1))) (pBin kIx (pVar 3) (pC (.int 0)))) (pNil)))))
abbrev N_divided : List Str := ["first", "second", "one", "two"]
theorem st_divided (a0 a1 : PV) : startP N_divided [a0, a1] = [.val a0, .val a1, .no, .no] := rfl
def t_compare : PTS := pSeq (pAsg (pBin kIx (pCall Ph_minus (pCons (pVar 0) (pCons (pVar 1) (pNil)))) (pC (.int 0))) (gNm 2)) (pRet (pBin kBB (pBin kGtI (pVar 2) (pC (.int 0))) (pBin kLtI (pVar 2) (pC (.int 0)))))
abbrev N_compare : List Str := ["first", "second", "apart"]
theorem st_compare (a0 a1 : PV) : startP N_compare [a0, a1] = [.val a0, .val a1, .no] := rfl
def t_floor_of : PTS := pSeq (pAsg (pCall Ph_as_ratio (pCons (pVar 0) (pNil))) (gNm 1)) (pRet (pBin kFdI (pBin kIx (pVar 1) (pC (.int 0))) (pBin kIx (pVar 1) (pC (.int 1)))))
abbrev N_floor_of : List Str := ["value", "one"]
theorem st_floor_of (a0 : PV) : startP N_floor_of [a0] = [.val a0, .no] := rfl
def t_remainder : PTS := pSeq (pPar 2 3 (pCons (pCall Ph_as_ratio (pCons (pVar 0) (pNil))) (pCons (pCall Ph_as_ratio (pCons (pVar 1) (pNil))) (pNil)))) (pSeq (pIfS (pTst (pBin kLeI (pBin kIx (pVar 3) (pC (.int 0))) (pC (.int 0)))) (pNeverS) (pNext)) (pRet (pCall Ph_minus (pCons (pVar 2) (pCons (pCall Ph_times (pCons (pVar 3) (pCons (pCall Ph_floor_of (pCons (pCall Ph_divided (pCons (pVar 2) (pCons (pVar 3) (pNil)))) (pNil))) (pNil)))) (pNil))))))
abbrev N_remainder : List Str := ["value", "modulus", "one", "two"]
theorem st_remainder (a0 a1 : PV) : startP N_remainder [a0, a1] = [.val a0, .val a1, .no, .no] := rfl
def te_in_order_1 : PTE := pCall Ph_as_ratio (pCons (pVar 2) (pNil))
def tb_in_order_2 : PTS := pAsg (pBin kFdI (pBin kMulI (pVar 3) (pBin kIx (pVar 4) (pC (.int 1)))) (pCall Ph_common_divisor (pCons (pVar 3) (pCons (pBin kIx (pVar 4) (pC (.int 1))) (pNil))))) (gNm 3)
def te_in_order_3 : PTE := pBin kMulI (pBin kIx (pVar 4) (pC (.int 0))) (pBin kFdI (pVar 3) (pBin kIx (pVar 4) (pC (.int 1))))
def te_in_order_4 : PTE := pCall Ph_ratio (pCons (pVar 2) (pCons (pVar 3) (pNil)))
def t_in_order : PTS := pSeq (pAsg (pLc (pIL (pVar 0)) (gNm 2) pTsYes te_in_order_1 [2]) (gNm 1)) (pSeq (pAsg (pC (.int 1)) (gNm 3)) (pSeq (pFor (pIL (pVar 1)) (gNm 4) tb_in_order_2) (pSeq (pAsg (pSortSc (pIL (pVar 1)) (gNm 4) pTsYes te_in_order_3 [4]) (gNm 5)) (pRet (pLc (pIL (pVar 5)) (gNm 2) pTsYes te_in_order_4 [2])))))
abbrev N_in_order : List Str := ["values", "ratios", "value", "common", "one", "whole"]
theorem st_in_order (a0 : PV) : startP N_in_order [a0] = [.val a0, .no, .no, .no, .no, .no] := rfl

theorem hp_is_integer : ∀ as Q, Ph_is_integer as Q → as.length = 1 ∧ t_is_integer ⟨fun _ => Q .non, Q, fun _ => False, fun _ => False⟩ (startP N_is_integer as) := by
  rintro as Q ⟨v, rfl, hv, hq⟩
  refine ⟨rfl, ?_⟩
  simp only [st_is_integer, t_is_integer, pSeq, pNext, pIfS, pRet, pRetN, pAsg, pDrop, pPar, pAug, gNm, gTupP, gConsP, gNilP, pVar, pC, pBin, pChain, pUn, kNeg, pTst, pAndT, pOrT, pNotT, pAndV, pOrV, pNotV, pIf, pCons, pNil, pTup, pLst, pStar, pCallB, pCall, pMeth, pProp, pFld, pFrz, pIL, pIT, pZip, pEnum, pR1, pR2, pSlL, pPart, pNoPart, pLc, pLc2, pDc, pSortSc, pFor, pNewL, pNewD, pApp, pExt, pDPut, pSetL, pOwnD, pIsN, pNotN, pListVals, pIVals, pIKeys, pIItems, onDic, pIStr, pDGet1, pTsYes, pParL, pParR, pCel, pCelSet, pNewCel, pNeverS, wipeP, List.set_cons_zero, List.set_cons_succ, List.getElem?_cons_zero, List.getElem?_cons_succ, List.length_cons, List.length_nil]
  cases v <;> first | cases hv | skip
  all_goals
    rw [kIsi_of rfl (kit_int _ (by decide)).1]
    first
    | exact hq
    | (simp only [pSeq, pNext, pIfS, pRet, pRetN, pAsg, pDrop, pPar, pAug, gNm, gTupP, gConsP, gNilP, pVar, pC, pBin, pChain, pUn, kNeg, pTst, pAndT, pOrT, pNotT, pAndV, pOrV, pNotV, pIf, pCons, pNil, pTup, pLst, pStar, pCallB, pCall, pMeth, pProp, pFld, pFrz, pIL, pIT, pZip, pEnum, pR1, pR2, pSlL, pPart, pNoPart, pLc, pLc2, pDc, pSortSc, pFor, pNewL, pNewD, pApp, pExt, pDPut, pSetL, pOwnD, pIsN, pNotN, pListVals, pIVals, pIKeys, pIItems, onDic, pIStr, pDGet1, pTsYes, pParL, pParR, pCel, pCelSet, pNewCel, pNeverS, wipeP, List.set_cons_zero, List.set_cons_succ, List.getElem?_cons_zero, List.getElem?_cons_succ, List.length_cons, List.length_nil]; rw [kIsi_of rfl (kit_int _ (by decide)).2]; exact hq)
theorem hp_common_divisor : ∀ as Q, Ph_common_divisor as Q → as.length = 2 ∧ t_common_divisor ⟨fun _ => Q .non, Q, fun _ => False, fun _ => False⟩ (startP N_common_divisor as) := by
  rintro as Q ⟨a, b, rfl, hq⟩
  refine ⟨rfl, ?_⟩
  simp only [st_common_divisor, t_common_divisor, pSeq, pWhile]
  refine ⟨fun m ρ => ∃ x y : Int, ρ = [.val (.int x), .val (.int y)] ∧ m = y.natAbs ∧ Int.gcd x y = Int.gcd a b, ⟨_, a, b, rfl, rfl, rfl⟩, ?_⟩
  rintro m ρ ⟨x, y, rfl, rfl, hg⟩
  simp only [pSeq, pNext, pIfS, pRet, pRetN, pAsg, pDrop, pPar, pAug, gNm, gTupP, gConsP, gNilP, pVar, pC, pBin, pChain, pUn, kNeg, pTst, pAndT, pOrT, pNotT, pAndV, pOrV, pNotV, pIf, pCons, pNil, pTup, pLst, pStar, pCallB, pCall, pMeth, pProp, pFld, pFrz, pIL, pIT, pZip, pEnum, pR1, pR2, pSlL, pPart, pNoPart, pLc, pLc2, pDc, pSortSc, pFor, pNewL, pNewD, pApp, pExt, pDPut, pSetL, pOwnD, pIsN, pNotN, pListVals, pIVals, pIKeys, pIItems, onDic, pIStr, pDGet1, pTsYes, pParL, pParR, pCel, pCelSet, pNewCel, pNeverS, wipeP, List.set_cons_zero, List.set_cons_succ, List.getElem?_cons_zero, List.getElem?_cons_succ, List.length_cons, List.length_nil, kNe_int]
  by_cases hy : y = 0
  · subst hy
    simp only [decide_true, Bool.not_true, kAbs_int]
    have e : (if x < 0 then -x else x) = ((Int.gcd a b : Nat) : Int) := by
      rw [← hg, Int.gcd_zero_right]; split <;> omega
    rw [e]; exact hq
  · simp only [decide_eq_false hy, Bool.not_false, tb_common_divisor_1, pSeq, pNext, pIfS, pRet, pRetN, pAsg, pDrop, pPar, pAug, gNm, gTupP, gConsP, gNilP, pVar, pC, pBin, pChain, pUn, kNeg, pTst, pAndT, pOrT, pNotT, pAndV, pOrV, pNotV, pIf, pCons, pNil, pTup, pLst, pStar, pCallB, pCall, pMeth, pProp, pFld, pFrz, pIL, pIT, pZip, pEnum, pR1, pR2, pSlL, pPart, pNoPart, pLc, pLc2, pDc, pSortSc, pFor, pNewL, pNewD, pApp, pExt, pDPut, pSetL, pOwnD, pIsN, pNotN, pListVals, pIVals, pIKeys, pIItems, onDic, pIStr, pDGet1, pTsYes, pParL, pParR, pCel, pCelSet, pNewCel, pNeverS, wipeP, List.set_cons_zero, List.set_cons_succ, List.getElem?_cons_zero, List.getElem?_cons_succ, List.length_cons, List.length_nil, kII_int]
    refine ⟨hy, ?_⟩
    refine ⟨_, ?_, y, x.fmod y, rfl, rfl, ?_⟩
    · exact fmod_lt x hy
    · rw [← hg]
      have e : x.fmod y = x - y * x.fdiv y := by have := Int.mul_fdiv_add_fmod x y; omega
      rw [e, Int.gcd_comm x y, Int.mul_comm y, Int.gcd_sub_mul_right_right y x (x.fdiv y)]
theorem gcd_one (q : Rat) : Int.gcd q.num (q.den : Int) = 1 := by
  have := q.reduced
  rw [Int.gcd]; exact this
theorem hp_is_ratio : ∀ as Q, Ph_is_ratio as Q → as.length = 1 ∧ t_is_ratio ⟨fun _ => Q .non, Q, fun _ => False, fun _ => False⟩ (startP N_is_ratio as) := by
  rintro as Q ⟨v, q, rfl, hv, hq⟩
  refine ⟨rfl, ?_⟩
  simp only [st_is_ratio, t_is_ratio, pSeq, pNext, pIfS, pRet, pRetN, pAsg, pDrop, pPar, pAug, gNm, gTupP, gConsP, gNilP, pVar, pC, pBin, pChain, pUn, kNeg, pTst, pAndT, pOrT, pNotT, pAndV, pOrV, pNotV, pIf, pCons, pNil, pTup, pLst, pStar, pCallB, pCall, pMeth, pProp, pFld, pFrz, pIL, pIT, pZip, pEnum, pR1, pR2, pSlL, pPart, pNoPart, pLc, pLc2, pDc, pSortSc, pFor, pNewL, pNewD, pApp, pExt, pDPut, pSetL, pOwnD, pIsN, pNotN, pListVals, pIVals, pIKeys, pIItems, onDic, pIStr, pDGet1, pTsYes, pParL, pParR, pCel, pCelSet, pNewCel, pNeverS, wipeP, List.set_cons_zero, List.set_cons_succ, List.getElem?_cons_zero, List.getElem?_cons_succ, List.length_cons, List.length_nil]
  rcases hv with ⟨i, rfl, rfl⟩ | rfl
  · rw [kIsi_of rfl kit_it]; exact hq
  · rw [show rat q = .tup [.int q.num, .int (q.den : Int)] from rfl, kIsi_of rfl kit_tt]
    simp only [pSeq, pNext, pIfS, pRet, pRetN, pAsg, pDrop, pPar, pAug, gNm, gTupP, gConsP, gNilP, pVar, pC, pBin, pChain, pUn, kNeg, pTst, pAndT, pOrT, pNotT, pAndV, pOrV, pNotV, pIf, pCons, pNil, pTup, pLst, pStar, pCallB, pCall, pMeth, pProp, pFld, pFrz, pIL, pIT, pZip, pEnum, pR1, pR2, pSlL, pPart, pNoPart, pLc, pLc2, pDc, pSortSc, pFor, pNewL, pNewD, pApp, pExt, pDPut, pSetL, pOwnD, pIsN, pNotN, pListVals, pIVals, pIKeys, pIItems, onDic, pIStr, pDGet1, pTsYes, pParL, pParR, pCel, pCelSet, pNewCel, pNeverS, wipeP, List.set_cons_zero, List.set_cons_succ, List.getElem?_cons_zero, List.getElem?_cons_succ, List.length_cons, List.length_nil, kLen_tup, kNe_int, kIx_2a, kIx_2b, Bool.not_true]
    refine ⟨_, rfl, rfl, ?_⟩
    simp only [isI, pSeq, pNext, pIfS, pRet, pRetN, pAsg, pDrop, pPar, pAug, gNm, gTupP, gConsP, gNilP, pVar, pC, pBin, pChain, pUn, kNeg, pTst, pAndT, pOrT, pNotT, pAndV, pOrV, pNotV, pIf, pCons, pNil, pTup, pLst, pStar, pCallB, pCall, pMeth, pProp, pFld, pFrz, pIL, pIT, pZip, pEnum, pR1, pR2, pSlL, pPart, pNoPart, pLc, pLc2, pDc, pSortSc, pFor, pNewL, pNewD, pApp, pExt, pDPut, pSetL, pOwnD, pIsN, pNotN, pListVals, pIVals, pIKeys, pIItems, onDic, pIStr, pDGet1, pTsYes, pParL, pParR, pCel, pCelSet, pNewCel, pNeverS, wipeP, List.set_cons_zero, List.set_cons_succ, List.getElem?_cons_zero, List.getElem?_cons_succ, List.length_cons, List.length_nil, kIx_2a, kIx_2b, Bool.not_true]
    refine ⟨_, rfl, rfl, ?_⟩
    simp only [isI, pSeq, pNext, pIfS, pRet, pRetN, pAsg, pDrop, pPar, pAug, gNm, gTupP, gConsP, gNilP, pVar, pC, pBin, pChain, pUn, kNeg, pTst, pAndT, pOrT, pNotT, pAndV, pOrV, pNotV, pIf, pCons, pNil, pTup, pLst, pStar, pCallB, pCall, pMeth, pProp, pFld, pFrz, pIL, pIT, pZip, pEnum, pR1, pR2, pSlL, pPart, pNoPart, pLc, pLc2, pDc, pSortSc, pFor, pNewL, pNewD, pApp, pExt, pDPut, pSetL, pOwnD, pIsN, pNotN, pListVals, pIVals, pIKeys, pIItems, onDic, pIStr, pDGet1, pTsYes, pParL, pParR, pCel, pCelSet, pNewCel, pNeverS, wipeP, List.set_cons_zero, List.set_cons_succ, List.getElem?_cons_zero, List.getElem?_cons_succ, List.length_cons, List.length_nil, kIx_2a, kIx_2b, Bool.not_true, kI0_int]
    have hd : (1 : Int) ≤ (q.den : Int) := by have := q.den_pos; omega
    simp only [decide_eq_true hd]
    refine ⟨_, _, rfl, ?_⟩
    rw [gcd_one]
    exact hq
theorem hp_is_number : ∀ as Q, Ph_is_number as Q → as.length = 1 ∧ t_is_number ⟨fun _ => Q .non, Q, fun _ => False, fun _ => False⟩ (startP N_is_number as) := by
  rintro as Q ⟨v, q, rfl, hv, hq⟩
  refine ⟨rfl, ?_⟩
  simp only [st_is_number, t_is_number, pSeq, pNext, pIfS, pRet, pRetN, pAsg, pDrop, pPar, pAug, gNm, gTupP, gConsP, gNilP, pVar, pC, pBin, pChain, pUn, kNeg, pTst, pAndT, pOrT, pNotT, pAndV, pOrV, pNotV, pIf, pCons, pNil, pTup, pLst, pStar, pCallB, pCall, pMeth, pProp, pFld, pFrz, pIL, pIT, pZip, pEnum, pR1, pR2, pSlL, pPart, pNoPart, pLc, pLc2, pDc, pSortSc, pFor, pNewL, pNewD, pApp, pExt, pDPut, pSetL, pOwnD, pIsN, pNotN, pListVals, pIVals, pIKeys, pIItems, onDic, pIStr, pDGet1, pTsYes, pParL, pParR, pCel, pCelSet, pNewCel, pNeverS, wipeP, List.set_cons_zero, List.set_cons_succ, List.getElem?_cons_zero, List.getElem?_cons_succ, List.length_cons, List.length_nil]
  have hv' := hv
  rcases hv with ⟨i, rfl, rfl⟩ | rfl
  · exact ⟨_, rfl, rfl, hq⟩
  · exact ⟨_, rfl, rfl, _, q, rfl, .rat q, hq⟩
theorem hp_ratio : ∀ as Q, Ph_ratio as Q → as.length = 2 ∧ t_ratio ⟨fun _ => Q .non, Q, fun _ => False, fun _ => False⟩ (startP N_ratio as) := by
  rintro as Q ⟨n, d, rfl, hd, hl, hq⟩
  refine ⟨rfl, ?_⟩
  simp only [st_ratio, t_ratio, pSeq, pNext, pIfS, pRet, pRetN, pAsg, pDrop, pPar, pAug, gNm, gTupP, gConsP, gNilP, pVar, pC, pBin, pChain, pUn, kNeg, pTst, pAndT, pOrT, pNotT, pAndV, pOrV, pNotV, pIf, pCons, pNil, pTup, pLst, pStar, pCallB, pCall, pMeth, pProp, pFld, pFrz, pIL, pIT, pZip, pEnum, pR1, pR2, pSlL, pPart, pNoPart, pLc, pLc2, pDc, pSortSc, pFor, pNewL, pNewD, pApp, pExt, pDPut, pSetL, pOwnD, pIsN, pNotN, pListVals, pIVals, pIKeys, pIItems, onDic, pIStr, pDGet1, pTsYes, pParL, pParR, pCel, pCelSet, pNewCel, pNeverS, wipeP, List.set_cons_zero, List.set_cons_succ, List.getElem?_cons_zero, List.getElem?_cons_succ, List.length_cons, List.length_nil]
  refine ⟨_, rfl, rfl, ?_⟩
  simp only [isI, pSeq, pNext, pIfS, pRet, pRetN, pAsg, pDrop, pPar, pAug, gNm, gTupP, gConsP, gNilP, pVar, pC, pBin, pChain, pUn, kNeg, pTst, pAndT, pOrT, pNotT, pAndV, pOrV, pNotV, pIf, pCons, pNil, pTup, pLst, pStar, pCallB, pCall, pMeth, pProp, pFld, pFrz, pIL, pIT, pZip, pEnum, pR1, pR2, pSlL, pPart, pNoPart, pLc, pLc2, pDc, pSortSc, pFor, pNewL, pNewD, pApp, pExt, pDPut, pSetL, pOwnD, pIsN, pNotN, pListVals, pIVals, pIKeys, pIItems, onDic, pIStr, pDGet1, pTsYes, pParL, pParR, pCel, pCelSet, pNewCel, pNeverS, wipeP, List.set_cons_zero, List.set_cons_succ, List.getElem?_cons_zero, List.getElem?_cons_succ, List.length_cons, List.length_nil, Bool.not_true]
  refine ⟨_, rfl, rfl, ?_⟩
  simp only [isI, pSeq, pNext, pIfS, pRet, pRetN, pAsg, pDrop, pPar, pAug, gNm, gTupP, gConsP, gNilP, pVar, pC, pBin, pChain, pUn, kNeg, pTst, pAndT, pOrT, pNotT, pAndV, pOrV, pNotV, pIf, pCons, pNil, pTup, pLst, pStar, pCallB, pCall, pMeth, pProp, pFld, pFrz, pIL, pIT, pZip, pEnum, pR1, pR2, pSlL, pPart, pNoPart, pLc, pLc2, pDc, pSortSc, pFor, pNewL, pNewD, pApp, pExt, pDPut, pSetL, pOwnD, pIsN, pNotN, pListVals, pIVals, pIKeys, pIItems, onDic, pIStr, pDGet1, pTsYes, pParL, pParR, pCel, pCelSet, pNewCel, pNeverS, wipeP, List.set_cons_zero, List.set_cons_succ, List.getElem?_cons_zero, List.getElem?_cons_succ, List.length_cons, List.length_nil, Bool.not_true, kEq_int, decide_eq_false hd]
  refine ⟨n, d, rfl, ?_⟩
  have gp := Int.gcd_pos_of_ne_zero_right n hd
  have gl : (Int.gcd n d).log2 < 9000 := by
    refine log2_lt_of (by decide) ?_
    have h1 : Int.gcd n d ≤ d.natAbs := Int.gcd_le_natAbs_right n hd
    have h2 : d.natAbs < 2 ^ 9000 := (Nat.log2_lt (by omega)).mp (by omega)
    omega
  have hgA : ((Int.gcd n d : Int)).natAbs = Int.gcd n d := Int.natAbs_natCast _
  have fin : ∀ s : Int, s = (if 0 < d then 1 else -1) → kMulI (.int (Int.gcd n d : Nat)) (.int s) fun p => kFdI (.int n) p fun a => kFdI (.int d) p fun b => ([a, b].length ≤ sizeLine ∧ Q (.tup [a, b])) := fun s hs => by
    have sa : s.natAbs = 1 := by rw [hs]; split <;> rfl
    have cA : ((Int.gcd n d : Int) * s).natAbs = Int.gcd n d := by rw [Int.natAbs_mul, sa, Nat.mul_one, hgA]
    have dv : ∀ m : Int, DivOk m ((Int.gcd n d : Int) * s) := fun m => ⟨fun z => by rw [z] at cA; simp at cA; omega, by rw [cA]; exact gl⟩
    refine ⟨?_, dv _, dv _, ?_, ?_⟩
    · show ((Int.gcd n d : Int)).natAbs.log2 + s.natAbs.log2 < 1000000
      rw [hgA, sa]
      have : (1 : Nat).log2 = 0 := rfl
      omega
    · rw [sizeLine_eq]; exact Nat.le_of_ble_eq_true rfl
    · show Q (.tup [.int (n.fdiv ((Int.gcd n d : Int) * s)), .int (d.fdiv ((Int.gcd n d : Int) * s))])
      rw [hs, ratio_num hd, ratio_den hd]; exact hq
  by_cases p : 0 < d
  · simp only [kI0_int, decide_eq_true p]
    exact fin 1 (by rw [if_pos p])
  · simp only [kI0_int, decide_eq_false p]
    exact fin (-1) (by rw [if_neg p])
theorem hp_as_ratio : ∀ as Q, Ph_as_ratio as Q → as.length = 1 ∧ t_as_ratio ⟨fun _ => Q .non, Q, fun _ => False, fun _ => False⟩ (startP N_as_ratio as) := by
  rintro as Q ⟨v, q, rfl, hv, hq⟩
  refine ⟨rfl, ?_⟩
  simp only [st_as_ratio, t_as_ratio, pSeq, pNext, pIfS, pRet, pRetN, pAsg, pDrop, pPar, pAug, gNm, gTupP, gConsP, gNilP, pVar, pC, pBin, pChain, pUn, kNeg, pTst, pAndT, pOrT, pNotT, pAndV, pOrV, pNotV, pIf, pCons, pNil, pTup, pLst, pStar, pCallB, pCall, pMeth, pProp, pFld, pFrz, pIL, pIT, pZip, pEnum, pR1, pR2, pSlL, pPart, pNoPart, pLc, pLc2, pDc, pSortSc, pFor, pNewL, pNewD, pApp, pExt, pDPut, pSetL, pOwnD, pIsN, pNotN, pListVals, pIVals, pIKeys, pIItems, onDic, pIStr, pDGet1, pTsYes, pParL, pParR, pCel, pCelSet, pNewCel, pNeverS, wipeP, List.set_cons_zero, List.set_cons_succ, List.getElem?_cons_zero, List.getElem?_cons_succ, List.length_cons, List.length_nil]
  refine ⟨_, q, rfl, hv, ?_⟩
  simp only [Bool.not_true, pSeq, pNext, pIfS, pRet, pRetN, pAsg, pDrop, pPar, pAug, gNm, gTupP, gConsP, gNilP, pVar, pC, pBin, pChain, pUn, kNeg, pTst, pAndT, pOrT, pNotT, pAndV, pOrV, pNotV, pIf, pCons, pNil, pTup, pLst, pStar, pCallB, pCall, pMeth, pProp, pFld, pFrz, pIL, pIT, pZip, pEnum, pR1, pR2, pSlL, pPart, pNoPart, pLc, pLc2, pDc, pSortSc, pFor, pNewL, pNewD, pApp, pExt, pDPut, pSetL, pOwnD, pIsN, pNotN, pListVals, pIVals, pIKeys, pIItems, onDic, pIStr, pDGet1, pTsYes, pParL, pParR, pCel, pCelSet, pNewCel, pNeverS, wipeP, List.set_cons_zero, List.set_cons_succ, List.getElem?_cons_zero, List.getElem?_cons_succ, List.length_cons, List.length_nil]
  rcases hv with ⟨i, rfl, rfl⟩ | rfl
  · refine ⟨_, rfl, rfl, ?_⟩
    simp only [isI, pSeq, pNext, pIfS, pRet, pRetN, pAsg, pDrop, pPar, pAug, gNm, gTupP, gConsP, gNilP, pVar, pC, pBin, pChain, pUn, kNeg, pTst, pAndT, pOrT, pNotT, pAndV, pOrV, pNotV, pIf, pCons, pNil, pTup, pLst, pStar, pCallB, pCall, pMeth, pProp, pFld, pFrz, pIL, pIT, pZip, pEnum, pR1, pR2, pSlL, pPart, pNoPart, pLc, pLc2, pDc, pSortSc, pFor, pNewL, pNewD, pApp, pExt, pDPut, pSetL, pOwnD, pIsN, pNotN, pListVals, pIVals, pIKeys, pIItems, onDic, pIStr, pDGet1, pTsYes, pParL, pParR, pCel, pCelSet, pNewCel, pNeverS, wipeP, List.set_cons_zero, List.set_cons_succ, List.getElem?_cons_zero, List.getElem?_cons_succ, List.length_cons, List.length_nil]
    exact ⟨by rw [sizeLine_eq]; exact Nat.le_of_ble_eq_true rfl, hq⟩
  · exact ⟨_, rfl, rfl, hq⟩
theorem mul_ok {x y : Int} {j k : Nat} (h1 : x.natAbs.log2 < j) (h2 : y.natAbs.log2 < k) (h : j + k ≤ 999999 := by omega) : MulOk x y := by
  show x.natAbs.log2 + y.natAbs.log2 < 1000000
  omega
theorem lg_num (q : Rat) : q.num.natAbs.log2 < sz q := log2_num q
theorem lg_den (q : Rat) : ((q.den : Int)).natAbs.log2 < sz q := by rw [Int.natAbs_natCast]; exact log2_den q
theorem lg_dd {a b : Rat} (h : sz a + sz b ≤ 8000) : ((a.den : Int) * (b.den : Int)).natAbs.log2 < 8999 := by
  have := dd_lt a b
  exact Nat.lt_of_lt_of_le (log2_lt_of (by have := sz_pos a; omega) this) (by omega)
theorem lg_dn {a b : Rat} (h : sz a + sz b ≤ 8000) : ((a.den : Int) * b.num).natAbs.log2 < 8999 := by
  have := dn_lt a b
  exact Nat.lt_of_lt_of_le (log2_lt_of (by have := sz_pos a; omega) this) (by omega)
theorem hp_plus : ∀ as Q, Ph_plus as Q → as.length = 2 ∧ t_plus ⟨fun _ => Q .non, Q, fun _ => False, fun _ => False⟩ (startP N_plus as) := by
  rintro as Q ⟨v, w, a, b, rfl, hv, hw, hs, hq⟩
  refine ⟨rfl, ?_⟩
  simp only [st_plus, t_plus, pSeq, pNext, pIfS, pRet, pRetN, pAsg, pDrop, pPar, pAug, gNm, gTupP, gConsP, gNilP, pVar, pC, pBin, pChain, pUn, kNeg, pTst, pAndT, pOrT, pNotT, pAndV, pOrV, pNotV, pIf, pCons, pNil, pTup, pLst, pStar, pCallB, pCall, pMeth, pProp, pFld, pFrz, pIL, pIT, pZip, pEnum, pR1, pR2, pSlL, pPart, pNoPart, pLc, pLc2, pDc, pSortSc, pFor, pNewL, pNewD, pApp, pExt, pDPut, pSetL, pOwnD, pIsN, pNotN, pListVals, pIVals, pIKeys, pIItems, onDic, pIStr, pDGet1, pTsYes, pParL, pParR, pCel, pCelSet, pNewCel, pNeverS, wipeP, List.set_cons_zero, List.set_cons_succ, List.getElem?_cons_zero, List.getElem?_cons_succ, List.length_cons, List.length_nil]
  refine ⟨v, a, rfl, hv, w, b, rfl, hw, ?_⟩
  simp only [kIx_rat0, kIx_rat1, pSeq, pNext, pIfS, pRet, pRetN, pAsg, pDrop, pPar, pAug, gNm, gTupP, gConsP, gNilP, pVar, pC, pBin, pChain, pUn, kNeg, pTst, pAndT, pOrT, pNotT, pAndV, pOrV, pNotV, pIf, pCons, pNil, pTup, pLst, pStar, pCallB, pCall, pMeth, pProp, pFld, pFrz, pIL, pIT, pZip, pEnum, pR1, pR2, pSlL, pPart, pNoPart, pLc, pLc2, pDc, pSortSc, pFor, pNewL, pNewD, pApp, pExt, pDPut, pSetL, pOwnD, pIsN, pNotN, pListVals, pIVals, pIKeys, pIItems, onDic, pIStr, pDGet1, pTsYes, pParL, pParR, pCel, pCelSet, pNewCel, pNeverS, wipeP, List.set_cons_zero, List.set_cons_succ, List.getElem?_cons_zero, List.getElem?_cons_succ, List.length_cons, List.length_nil, kII_int, kI0_int]
  refine ⟨mul_ok (lg_num a) (lg_den b), mul_ok (lg_num b) (lg_den a), mul_ok (lg_den a) (lg_den b), _, _, rfl, den_mul_ne a b, lg_dd hs, ?_⟩
  rw [← add_eq]; exact hq
theorem hp_minus : ∀ as Q, Ph_minus as Q → as.length = 2 ∧ t_minus ⟨fun _ => Q .non, Q, fun _ => False, fun _ => False⟩ (startP N_minus as) := by
  rintro as Q ⟨v, w, a, b, rfl, hv, hw, hs, hq⟩
  refine ⟨rfl, ?_⟩
  simp only [st_minus, t_minus, pSeq, pNext, pIfS, pRet, pRetN, pAsg, pDrop, pPar, pAug, gNm, gTupP, gConsP, gNilP, pVar, pC, pBin, pChain, pUn, kNeg, pTst, pAndT, pOrT, pNotT, pAndV, pOrV, pNotV, pIf, pCons, pNil, pTup, pLst, pStar, pCallB, pCall, pMeth, pProp, pFld, pFrz, pIL, pIT, pZip, pEnum, pR1, pR2, pSlL, pPart, pNoPart, pLc, pLc2, pDc, pSortSc, pFor, pNewL, pNewD, pApp, pExt, pDPut, pSetL, pOwnD, pIsN, pNotN, pListVals, pIVals, pIKeys, pIItems, onDic, pIStr, pDGet1, pTsYes, pParL, pParR, pCel, pCelSet, pNewCel, pNeverS, wipeP, List.set_cons_zero, List.set_cons_succ, List.getElem?_cons_zero, List.getElem?_cons_succ, List.length_cons, List.length_nil]
  refine ⟨v, a, rfl, hv, w, b, rfl, hw, ?_⟩
  simp only [kIx_rat0, kIx_rat1, pSeq, pNext, pIfS, pRet, pRetN, pAsg, pDrop, pPar, pAug, gNm, gTupP, gConsP, gNilP, pVar, pC, pBin, pChain, pUn, kNeg, pTst, pAndT, pOrT, pNotT, pAndV, pOrV, pNotV, pIf, pCons, pNil, pTup, pLst, pStar, pCallB, pCall, pMeth, pProp, pFld, pFrz, pIL, pIT, pZip, pEnum, pR1, pR2, pSlL, pPart, pNoPart, pLc, pLc2, pDc, pSortSc, pFor, pNewL, pNewD, pApp, pExt, pDPut, pSetL, pOwnD, pIsN, pNotN, pListVals, pIVals, pIKeys, pIItems, onDic, pIStr, pDGet1, pTsYes, pParL, pParR, pCel, pCelSet, pNewCel, pNeverS, wipeP, List.set_cons_zero, List.set_cons_succ, List.getElem?_cons_zero, List.getElem?_cons_succ, List.length_cons, List.length_nil, kII_int, kI0_int]
  refine ⟨mul_ok (lg_num a) (lg_den b), mul_ok (lg_num b) (lg_den a), mul_ok (lg_den a) (lg_den b), _, _, rfl, den_mul_ne a b, lg_dd hs, ?_⟩
  rw [← sub_eq]; exact hq
theorem hp_times : ∀ as Q, Ph_times as Q → as.length = 2 ∧ t_times ⟨fun _ => Q .non, Q, fun _ => False, fun _ => False⟩ (startP N_times as) := by
  rintro as Q ⟨v, w, a, b, rfl, hv, hw, hs, hq⟩
  refine ⟨rfl, ?_⟩
  simp only [st_times, t_times, pSeq, pNext, pIfS, pRet, pRetN, pAsg, pDrop, pPar, pAug, gNm, gTupP, gConsP, gNilP, pVar, pC, pBin, pChain, pUn, kNeg, pTst, pAndT, pOrT, pNotT, pAndV, pOrV, pNotV, pIf, pCons, pNil, pTup, pLst, pStar, pCallB, pCall, pMeth, pProp, pFld, pFrz, pIL, pIT, pZip, pEnum, pR1, pR2, pSlL, pPart, pNoPart, pLc, pLc2, pDc, pSortSc, pFor, pNewL, pNewD, pApp, pExt, pDPut, pSetL, pOwnD, pIsN, pNotN, pListVals, pIVals, pIKeys, pIItems, onDic, pIStr, pDGet1, pTsYes, pParL, pParR, pCel, pCelSet, pNewCel, pNeverS, wipeP, List.set_cons_zero, List.set_cons_succ, List.getElem?_cons_zero, List.getElem?_cons_succ, List.length_cons, List.length_nil]
  refine ⟨v, a, rfl, hv, w, b, rfl, hw, ?_⟩
  simp only [kIx_rat0, kIx_rat1, pSeq, pNext, pIfS, pRet, pRetN, pAsg, pDrop, pPar, pAug, gNm, gTupP, gConsP, gNilP, pVar, pC, pBin, pChain, pUn, kNeg, pTst, pAndT, pOrT, pNotT, pAndV, pOrV, pNotV, pIf, pCons, pNil, pTup, pLst, pStar, pCallB, pCall, pMeth, pProp, pFld, pFrz, pIL, pIT, pZip, pEnum, pR1, pR2, pSlL, pPart, pNoPart, pLc, pLc2, pDc, pSortSc, pFor, pNewL, pNewD, pApp, pExt, pDPut, pSetL, pOwnD, pIsN, pNotN, pListVals, pIVals, pIKeys, pIItems, onDic, pIStr, pDGet1, pTsYes, pParL, pParR, pCel, pCelSet, pNewCel, pNeverS, wipeP, List.set_cons_zero, List.set_cons_succ, List.getElem?_cons_zero, List.getElem?_cons_succ, List.length_cons, List.length_nil, kII_int, kI0_int]
  refine ⟨mul_ok (lg_num a) (lg_num b), mul_ok (lg_den a) (lg_den b), _, _, rfl, den_mul_ne a b, lg_dd hs, ?_⟩
  rw [← mul_eq]; exact hq
theorem hp_divided : ∀ as Q, Ph_divided as Q → as.length = 2 ∧ t_divided ⟨fun _ => Q .non, Q, fun _ => False, fun _ => False⟩ (startP N_divided as) := by
  rintro as Q ⟨v, w, a, b, rfl, hv, hw, hb, hs, hq⟩
  refine ⟨rfl, ?_⟩
  simp only [st_divided, t_divided, pSeq, pNext, pIfS, pRet, pRetN, pAsg, pDrop, pPar, pAug, gNm, gTupP, gConsP, gNilP, pVar, pC, pBin, pChain, pUn, kNeg, pTst, pAndT, pOrT, pNotT, pAndV, pOrV, pNotV, pIf, pCons, pNil, pTup, pLst, pStar, pCallB, pCall, pMeth, pProp, pFld, pFrz, pIL, pIT, pZip, pEnum, pR1, pR2, pSlL, pPart, pNoPart, pLc, pLc2, pDc, pSortSc, pFor, pNewL, pNewD, pApp, pExt, pDPut, pSetL, pOwnD, pIsN, pNotN, pListVals, pIVals, pIKeys, pIItems, onDic, pIStr, pDGet1, pTsYes, pParL, pParR, pCel, pCelSet, pNewCel, pNeverS, wipeP, List.set_cons_zero, List.set_cons_succ, List.getElem?_cons_zero, List.getElem?_cons_succ, List.length_cons, List.length_nil]
  refine ⟨v, a, rfl, hv, w, b, rfl, hw, ?_⟩
  simp only [kIx_rat0, kIx_rat1, pSeq, pNext, pIfS, pRet, pRetN, pAsg, pDrop, pPar, pAug, gNm, gTupP, gConsP, gNilP, pVar, pC, pBin, pChain, pUn, kNeg, pTst, pAndT, pOrT, pNotT, pAndV, pOrV, pNotV, pIf, pCons, pNil, pTup, pLst, pStar, pCallB, pCall, pMeth, pProp, pFld, pFrz, pIL, pIT, pZip, pEnum, pR1, pR2, pSlL, pPart, pNoPart, pLc, pLc2, pDc, pSortSc, pFor, pNewL, pNewD, pApp, pExt, pDPut, pSetL, pOwnD, pIsN, pNotN, pListVals, pIVals, pIKeys, pIItems, onDic, pIStr, pDGet1, pTsYes, pParL, pParR, pCel, pCelSet, pNewCel, pNeverS, wipeP, List.set_cons_zero, List.set_cons_succ, List.getElem?_cons_zero, List.getElem?_cons_succ, List.length_cons, List.length_nil, kII_int, kI0_int]
  refine ⟨mul_ok (lg_num a) (lg_den b), mul_ok (lg_den a) (lg_num b), _, _, rfl, Int.mul_ne_zero (denI a) (num_ne hb), lg_dn hs, ?_⟩
  rw [← div_eq]; exact hq
theorem sub_pos_iff {a b : Rat} : 0 < (a - b).num ↔ b < a := by
  rw [MR.num_pos]
  constructor <;> intro h <;> grind
theorem sub_neg_iff {a b : Rat} : (a - b).num < 0 ↔ a < b := by
  rw [MR.num_neg]
  constructor <;> intro h <;> grind
theorem hp_compare : ∀ as Q, Ph_compare as Q → as.length = 2 ∧ t_compare ⟨fun _ => Q .non, Q, fun _ => False, fun _ => False⟩ (startP N_compare as) := by
  rintro as Q ⟨v, w, a, b, rfl, hv, hw, hs, hq⟩
  refine ⟨rfl, ?_⟩
  simp only [st_compare, t_compare, pSeq, pNext, pIfS, pRet, pRetN, pAsg, pDrop, pPar, pAug, gNm, gTupP, gConsP, gNilP, pVar, pC, pBin, pChain, pUn, kNeg, pTst, pAndT, pOrT, pNotT, pAndV, pOrV, pNotV, pIf, pCons, pNil, pTup, pLst, pStar, pCallB, pCall, pMeth, pProp, pFld, pFrz, pIL, pIT, pZip, pEnum, pR1, pR2, pSlL, pPart, pNoPart, pLc, pLc2, pDc, pSortSc, pFor, pNewL, pNewD, pApp, pExt, pDPut, pSetL, pOwnD, pIsN, pNotN, pListVals, pIVals, pIKeys, pIItems, onDic, pIStr, pDGet1, pTsYes, pParL, pParR, pCel, pCelSet, pNewCel, pNeverS, wipeP, List.set_cons_zero, List.set_cons_succ, List.getElem?_cons_zero, List.getElem?_cons_succ, List.length_cons, List.length_nil]
  refine ⟨v, w, a, b, rfl, hv, hw, hs, ?_⟩
  simp only [kIx_rat0, kIx_rat1, pSeq, pNext, pIfS, pRet, pRetN, pAsg, pDrop, pPar, pAug, gNm, gTupP, gConsP, gNilP, pVar, pC, pBin, pChain, pUn, kNeg, pTst, pAndT, pOrT, pNotT, pAndV, pOrV, pNotV, pIf, pCons, pNil, pTup, pLst, pStar, pCallB, pCall, pMeth, pProp, pFld, pFrz, pIL, pIT, pZip, pEnum, pR1, pR2, pSlL, pPart, pNoPart, pLc, pLc2, pDc, pSortSc, pFor, pNewL, pNewD, pApp, pExt, pDPut, pSetL, pOwnD, pIsN, pNotN, pListVals, pIVals, pIKeys, pIItems, onDic, pIStr, pDGet1, pTsYes, pParL, pParR, pCel, pCelSet, pNewCel, pNeverS, wipeP, List.set_cons_zero, List.set_cons_succ, List.getElem?_cons_zero, List.getElem?_cons_succ, List.length_cons, List.length_nil, kI0_int, kBB_bl]
  have e : b2i (decide (0 < (a - b).num)) - b2i (decide ((a - b).num < 0)) = cmpI a b := by
    unfold cmpI
    simp only [sub_pos_iff, sub_neg_iff]
    by_cases h1 : a < b
    · have h2 : ¬ b < a := by grind
      simp [h1, h2, b2i]
    · by_cases h2 : b < a <;> simp [h1, h2, b2i]
  rw [e]; exact hq
theorem hp_floor_of : ∀ as Q, Ph_floor_of as Q → as.length = 1 ∧ t_floor_of ⟨fun _ => Q .non, Q, fun _ => False, fun _ => False⟩ (startP N_floor_of as) := by
  rintro as Q ⟨v, q, rfl, hv, hs, hq⟩
  refine ⟨rfl, ?_⟩
  simp only [st_floor_of, t_floor_of, pSeq, pNext, pIfS, pRet, pRetN, pAsg, pDrop, pPar, pAug, gNm, gTupP, gConsP, gNilP, pVar, pC, pBin, pChain, pUn, kNeg, pTst, pAndT, pOrT, pNotT, pAndV, pOrV, pNotV, pIf, pCons, pNil, pTup, pLst, pStar, pCallB, pCall, pMeth, pProp, pFld, pFrz, pIL, pIT, pZip, pEnum, pR1, pR2, pSlL, pPart, pNoPart, pLc, pLc2, pDc, pSortSc, pFor, pNewL, pNewD, pApp, pExt, pDPut, pSetL, pOwnD, pIsN, pNotN, pListVals, pIVals, pIKeys, pIItems, onDic, pIStr, pDGet1, pTsYes, pParL, pParR, pCel, pCelSet, pNewCel, pNeverS, wipeP, List.set_cons_zero, List.set_cons_succ, List.getElem?_cons_zero, List.getElem?_cons_succ, List.length_cons, List.length_nil]
  refine ⟨v, q, rfl, hv, ?_⟩
  simp only [kIx_rat0, kIx_rat1, pSeq, pNext, pIfS, pRet, pRetN, pAsg, pDrop, pPar, pAug, gNm, gTupP, gConsP, gNilP, pVar, pC, pBin, pChain, pUn, kNeg, pTst, pAndT, pOrT, pNotT, pAndV, pOrV, pNotV, pIf, pCons, pNil, pTup, pLst, pStar, pCallB, pCall, pMeth, pProp, pFld, pFrz, pIL, pIT, pZip, pEnum, pR1, pR2, pSlL, pPart, pNoPart, pLc, pLc2, pDc, pSortSc, pFor, pNewL, pNewD, pApp, pExt, pDPut, pSetL, pOwnD, pIsN, pNotN, pListVals, pIVals, pIKeys, pIItems, onDic, pIStr, pDGet1, pTsYes, pParL, pParR, pCel, pCelSet, pNewCel, pNeverS, wipeP, List.set_cons_zero, List.set_cons_succ, List.getElem?_cons_zero, List.getElem?_cons_succ, List.length_cons, List.length_nil, kII_int]
  refine ⟨⟨denI q, Nat.lt_of_lt_of_le (lg_den q) (by omega)⟩, ?_⟩
  rw [fdiv_den]; exact hq
theorem hp_remainder : ∀ as Q, Ph_remainder as Q → as.length = 2 ∧ t_remainder ⟨fun _ => Q .non, Q, fun _ => False, fun _ => False⟩ (startP N_remainder as) := by
  rintro as Q ⟨v, w, a, b, rfl, hv, hw, hb, hs, hq⟩
  refine ⟨rfl, ?_⟩
  simp only [st_remainder, t_remainder, pSeq, pNext, pIfS, pRet, pRetN, pAsg, pDrop, pPar, pAug, gNm, gTupP, gConsP, gNilP, pVar, pC, pBin, pChain, pUn, kNeg, pTst, pAndT, pOrT, pNotT, pAndV, pOrV, pNotV, pIf, pCons, pNil, pTup, pLst, pStar, pCallB, pCall, pMeth, pProp, pFld, pFrz, pIL, pIT, pZip, pEnum, pR1, pR2, pSlL, pPart, pNoPart, pLc, pLc2, pDc, pSortSc, pFor, pNewL, pNewD, pApp, pExt, pDPut, pSetL, pOwnD, pIsN, pNotN, pListVals, pIVals, pIKeys, pIItems, onDic, pIStr, pDGet1, pTsYes, pParL, pParR, pCel, pCelSet, pNewCel, pNeverS, wipeP, List.set_cons_zero, List.set_cons_succ, List.getElem?_cons_zero, List.getElem?_cons_succ, List.length_cons, List.length_nil]
  refine ⟨v, a, rfl, hv, w, b, rfl, hw, ?_⟩
  have hn : ¬ b.num ≤ 0 := by
    have := (MR.num_pos (q := b)).mpr hb
    omega
  simp only [kIx_rat0, kIx_rat1, pSeq, pNext, pIfS, pRet, pRetN, pAsg, pDrop, pPar, pAug, gNm, gTupP, gConsP, gNilP, pVar, pC, pBin, pChain, pUn, kNeg, pTst, pAndT, pOrT, pNotT, pAndV, pOrV, pNotV, pIf, pCons, pNil, pTup, pLst, pStar, pCallB, pCall, pMeth, pProp, pFld, pFrz, pIL, pIT, pZip, pEnum, pR1, pR2, pSlL, pPart, pNoPart, pLc, pLc2, pDc, pSortSc, pFor, pNewL, pNewD, pApp, pExt, pDPut, pSetL, pOwnD, pIsN, pNotN, pListVals, pIVals, pIKeys, pIItems, onDic, pIStr, pDGet1, pTsYes, pParL, pParR, pCel, pCelSet, pNewCel, pNeverS, wipeP, List.set_cons_zero, List.set_cons_succ, List.getElem?_cons_zero, List.getElem?_cons_succ, List.length_cons, List.length_nil, kI0_int, decide_eq_false hn]
  have b0 : b ≠ 0 := fun e => by subst e; exact absurd hb (by decide)
  have s1 := sz_div a b0
  have s2 := sz_floor (a / b)
  have s3 := sz_mul b ((a / b).floor : Rat)
  refine ⟨_, _, a, b, rfl, .rat a, .rat b, b0, by omega, _, _, rfl, .rat _, by omega, _, _, b, _, rfl, .rat b, .int _, by omega, _, _, a, _, rfl, .rat a, .rat _, by omega, hq⟩
theorem hp_in_order : ∀ as Q, Ph_in_order as Q → as.length = 1 ∧ t_in_order ⟨fun _ => Q .non, Q, fun _ => False, fun _ => False⟩ (startP N_in_order as) := by
  rintro as Q ⟨L, C, rfl, hn, hC, hd, hl, hb, hq⟩
  refine ⟨rfl, ?_⟩
  simp only [st_in_order, t_in_order, pSeq, pNext, pIfS, pRet, pRetN, pAsg, pDrop, pPar, pAug, gNm, gTupP, gConsP, gNilP, pVar, pC, pBin, pChain, pUn, kNeg, pTst, pAndT, pOrT, pNotT, pAndV, pOrV, pNotV, pIf, pCons, pNil, pTup, pLst, pStar, pCallB, pCall, pMeth, pProp, pFld, pFrz, pIL, pIT, pZip, pEnum, pR1, pR2, pSlL, pPart, pNoPart, pLc, pLc2, pDc, pSortSc, pFor, pNewL, pNewD, pApp, pExt, pDPut, pSetL, pOwnD, pIsN, pNotN, pListVals, pIVals, pIKeys, pIItems, onDic, pIStr, pDGet1, pTsYes, pParL, pParR, pCel, pCelSet, pNewCel, pNeverS, wipeP, List.set_cons_zero, List.set_cons_succ, List.getElem?_cons_zero, List.getElem?_cons_succ, List.length_cons, List.length_nil]
  have lsz : L.length ≤ sizeLine := size_le (by omega)
  refine lcL_map (·.1) (fun x : PV × Rat => rat x.2) L (fun x hx T t => ?_) lsz ?_
  · simp only [te_in_order_1, pSeq, pNext, pIfS, pRet, pRetN, pAsg, pDrop, pPar, pAug, gNm, gTupP, gConsP, gNilP, pVar, pC, pBin, pChain, pUn, kNeg, pTst, pAndT, pOrT, pNotT, pAndV, pOrV, pNotV, pIf, pCons, pNil, pTup, pLst, pStar, pCallB, pCall, pMeth, pProp, pFld, pFrz, pIL, pIT, pZip, pEnum, pR1, pR2, pSlL, pPart, pNoPart, pLc, pLc2, pDc, pSortSc, pFor, pNewL, pNewD, pApp, pExt, pDPut, pSetL, pOwnD, pIsN, pNotN, pListVals, pIVals, pIKeys, pIItems, onDic, pIStr, pDGet1, pTsYes, pParL, pParR, pCel, pCelSet, pNewCel, pNeverS, wipeP, List.set_cons_zero, List.set_cons_succ, List.getElem?_cons_zero, List.getElem?_cons_succ, List.length_cons, List.length_nil]
    exact ⟨_, x.2, rfl, hn x hx, t⟩
  · try simp only [pSeq, pNext, pIfS, pRet, pRetN, pAsg, pDrop, pPar, pAug, gNm, gTupP, gConsP, gNilP, pVar, pC, pBin, pChain, pUn, kNeg, pTst, pAndT, pOrT, pNotT, pAndV, pOrV, pNotV, pIf, pCons, pNil, pTup, pLst, pStar, pCallB, pCall, pMeth, pProp, pFld, pFrz, pIL, pIT, pZip, pEnum, pR1, pR2, pSlL, pPart, pNoPart, pLc, pLc2, pDc, pSortSc, pFor, pNewL, pNewD, pApp, pExt, pDPut, pSetL, pOwnD, pIsN, pNotN, pListVals, pIVals, pIKeys, pIItems, onDic, pIStr, pDGet1, pTsYes, pParL, pParR, pCel, pCelSet, pNewCel, pNeverS, wipeP, List.set_cons_zero, List.set_cons_succ, List.getElem?_cons_zero, List.getElem?_cons_succ, List.length_cons, List.length_nil]
    refine forL_of (fun x : PV × Rat => rat x.2) (fun rest ρ => ∃ (c : Nat) (s : Slt), ρ = [.val (.lst (L.map (·.1))), .val (.lst (L.map fun x => rat x.2)), .no, .val (.int c), s, .no] ∧ 0 < c ∧ c ∣ C ∧ (∀ x ∈ rest, x ∈ L) ∧ ∀ x ∈ L, x ∈ rest ∨ x.2.den ∣ c) ?_ ?_ L _ ⟨1, .no, rfl, by decide, Nat.one_dvd _, fun _ h => h, fun _ h => .inl h⟩
    · rintro x rest ρ ⟨c, s, rfl, c0, cC, hr, hx⟩ N hN
      have hxL := hr x (List.mem_cons_self ..)
      obtain ⟨h1, h2⟩ := hd x hxL
      simp only [tb_in_order_2, pSeq, pNext, pIfS, pRet, pRetN, pAsg, pDrop, pPar, pAug, gNm, gTupP, gConsP, gNilP, pVar, pC, pBin, pChain, pUn, kNeg, pTst, pAndT, pOrT, pNotT, pAndV, pOrV, pNotV, pIf, pCons, pNil, pTup, pLst, pStar, pCallB, pCall, pMeth, pProp, pFld, pFrz, pIL, pIT, pZip, pEnum, pR1, pR2, pSlL, pPart, pNoPart, pLc, pLc2, pDc, pSortSc, pFor, pNewL, pNewD, pApp, pExt, pDPut, pSetL, pOwnD, pIsN, pNotN, pListVals, pIVals, pIKeys, pIItems, onDic, pIStr, pDGet1, pTsYes, pParL, pParR, pCel, pCelSet, pNewCel, pNeverS, wipeP, List.set_cons_zero, List.set_cons_succ, List.getElem?_cons_zero, List.getElem?_cons_succ, List.length_cons, List.length_nil, kIx_rat1, kII_int]
      have cl : c < 2 ^ bits C := Nat.lt_of_le_of_lt (Nat.le_of_dvd hC cC) (lt_bits C)
      have dl := den_lt x.2
      refine ⟨mul_ok (j := bits C) (k := sz x.2) ?_ (lg_den _), c, x.2.den, rfl, ⟨?_, ?_⟩, ?_⟩
      · rw [Int.natAbs_natCast]; exact log2_lt_of (bits_pos _) cl
      · have := Nat.gcd_pos_of_pos_left x.2.den c0
        intro z
        have : (Nat.gcd c x.2.den : Int) = 0 := z
        omega
      · have g1 : Nat.gcd c x.2.den ≤ x.2.den := Nat.gcd_le_right _ x.2.den_pos
        show (Nat.gcd c x.2.den).log2 < 9000
        exact Nat.lt_of_lt_of_le (log2_lt_of (k := sz x.2) (sz_pos _) (by omega)) (by omega)
      · refine hN _ ⟨Nat.lcm c x.2.den, .val (rat x.2), ?_, Nat.lcm_pos c0 x.2.den_pos, Nat.lcm_dvd cC h1, fun y hy => hr y (List.mem_cons_of_mem _ hy), fun y hy => ?_⟩
        · have e : ((c : Int) * (x.2.den : Int)).fdiv (Nat.gcd c x.2.den : Nat) = ((Nat.lcm c x.2.den : Nat) : Int) := by
            rw [Int.fdiv_eq_ediv_of_nonneg _ (by omega)]
            rfl
          have e2 : Int.gcd (c : Int) (x.2.den : Int) = Nat.gcd c x.2.den := rfl
          simp only [e2, e]
        · rcases hx y hy with h | h
          · rcases List.mem_cons.mp h with rfl | h
            · exact .inr (Nat.dvd_lcm_right _ _)
            · exact .inl h
          · exact .inr (Nat.dvd_trans h (Nat.dvd_lcm_left _ _))
    · rintro ρ ⟨c, s, rfl, c0, cC, _, hx⟩
      have hx : ∀ x ∈ L, x.2.den ∣ c := fun x h => (hx x h).resolve_left (by simp)
      have cl : c < 2 ^ bits C := Nat.lt_of_le_of_lt (Nat.le_of_dvd hC cC) (lt_bits C)
      have cl2 : c.log2 < bits C := log2_lt_of (bits_pos _) cl
      try simp only [pSeq, pNext, pIfS, pRet, pRetN, pAsg, pDrop, pPar, pAug, gNm, gTupP, gConsP, gNilP, pVar, pC, pBin, pChain, pUn, kNeg, pTst, pAndT, pOrT, pNotT, pAndV, pOrV, pNotV, pIf, pCons, pNil, pTup, pLst, pStar, pCallB, pCall, pMeth, pProp, pFld, pFrz, pIL, pIT, pZip, pEnum, pR1, pR2, pSlL, pPart, pNoPart, pLc, pLc2, pDc, pSortSc, pFor, pNewL, pNewD, pApp, pExt, pDPut, pSetL, pOwnD, pIsN, pNotN, pListVals, pIVals, pIKeys, pIItems, onDic, pIStr, pDGet1, pTsYes, pParL, pParR, pCel, pCelSet, pNewCel, pNeverS, wipeP, List.set_cons_zero, List.set_cons_succ, List.getElem?_cons_zero, List.getElem?_cons_succ, List.length_cons, List.length_nil]
      refine scL_of (fun x : PV × Rat => rat x.2) (fun x => x.2.num * ((c / x.2.den : Nat) : Int)) L [] (fun x hxL T t => ?_) (by simp; omega) ?_
      · obtain ⟨h1, h2⟩ := hd x hxL
        simp only [te_in_order_3, pSeq, pNext, pIfS, pRet, pRetN, pAsg, pDrop, pPar, pAug, gNm, gTupP, gConsP, gNilP, pVar, pC, pBin, pChain, pUn, kNeg, pTst, pAndT, pOrT, pNotT, pAndV, pOrV, pNotV, pIf, pCons, pNil, pTup, pLst, pStar, pCallB, pCall, pMeth, pProp, pFld, pFrz, pIL, pIT, pZip, pEnum, pR1, pR2, pSlL, pPart, pNoPart, pLc, pLc2, pDc, pSortSc, pFor, pNewL, pNewD, pApp, pExt, pDPut, pSetL, pOwnD, pIsN, pNotN, pListVals, pIVals, pIKeys, pIItems, onDic, pIStr, pDGet1, pTsYes, pParL, pParR, pCel, pCelSet, pNewCel, pNeverS, wipeP, List.set_cons_zero, List.set_cons_succ, List.getElem?_cons_zero, List.getElem?_cons_succ, List.length_cons, List.length_nil, kIx_rat0, kIx_rat1, kII_int]
        have e : ((c : Int)).fdiv (x.2.den : Int) = ((c / x.2.den : Nat) : Int) := by
          rw [Int.fdiv_eq_ediv_of_nonneg _ (by omega)]; rfl
        rw [e]
        refine ⟨⟨denI _, Nat.lt_of_lt_of_le (lg_den _) (by omega)⟩, mul_ok (j := sz x.2) (k := bits C) (lg_num _) ?_, t⟩
        rw [Int.natAbs_natCast]
        exact log2_lt_of (bits_pos _) (Nat.lt_of_le_of_lt (Nat.div_le_self _ _) cl)
      · intro ns hs hm
        try simp only [pSeq, pNext, pIfS, pRet, pRetN, pAsg, pDrop, pPar, pAug, gNm, gTupP, gConsP, gNilP, pVar, pC, pBin, pChain, pUn, kNeg, pTst, pAndT, pOrT, pNotT, pAndV, pOrV, pNotV, pIf, pCons, pNil, pTup, pLst, pStar, pCallB, pCall, pMeth, pProp, pFld, pFrz, pIL, pIT, pZip, pEnum, pR1, pR2, pSlL, pPart, pNoPart, pLc, pLc2, pDc, pSortSc, pFor, pNewL, pNewD, pApp, pExt, pDPut, pSetL, pOwnD, pIsN, pNotN, pListVals, pIVals, pIKeys, pIItems, onDic, pIStr, pDGet1, pTsYes, pParL, pParR, pCel, pCelSet, pNewCel, pNeverS, wipeP, List.set_cons_zero, List.set_cons_succ, List.getElem?_cons_zero, List.getElem?_cons_succ, List.length_cons, List.length_nil]
        have c0' : (c : Int) ≠ 0 := by omega
        have nl : ns.length ≤ sizeLine := by
          have := List.Nodup.length_le_of_subset (List.Pairwise.imp (fun h => Int.ne_of_lt h) hs) fun k hk => (hm k).mp hk
          exact size_le (by simp at this; omega)
        refine lcL_map PV.int (fun n => rat (Rat.divInt n c)) ns (fun n hn T t => ?_) nl ?_
        · simp only [te_in_order_4, pSeq, pNext, pIfS, pRet, pRetN, pAsg, pDrop, pPar, pAug, gNm, gTupP, gConsP, gNilP, pVar, pC, pBin, pChain, pUn, kNeg, pTst, pAndT, pOrT, pNotT, pAndV, pOrV, pNotV, pIf, pCons, pNil, pTup, pLst, pStar, pCallB, pCall, pMeth, pProp, pFld, pFrz, pIL, pIT, pZip, pEnum, pR1, pR2, pSlL, pPart, pNoPart, pLc, pLc2, pDc, pSortSc, pFor, pNewL, pNewD, pApp, pExt, pDPut, pSetL, pOwnD, pIsN, pNotN, pListVals, pIVals, pIKeys, pIItems, onDic, pIStr, pDGet1, pTsYes, pParL, pParR, pCel, pCelSet, pNewCel, pNeverS, wipeP, List.set_cons_zero, List.set_cons_succ, List.getElem?_cons_zero, List.getElem?_cons_succ, List.length_cons, List.length_nil]
          exact ⟨n, c, rfl, c0', by rw [Int.natAbs_natCast]; omega, t⟩
        · have hq' := hq (ns.map fun n => Rat.divInt n c) ?_ ?_
          · rw [List.map_map] at hq'; exact hq'
          · rw [List.pairwise_map]
            refine hs.imp fun {a b} h => ?_
            rw [Rat.divInt_eq_div, Rat.divInt_eq_div]
            have hc : (0 : Rat) < ((c : Int) : Rat) := by exact_mod_cast (show (0 : Int) < c by omega)
            rw [Rat.div_def, Rat.div_def]
            exact Rat.mul_lt_mul_of_pos_right (by exact_mod_cast h) (Rat.inv_pos.mpr hc)
          · intro q
            simp only [List.nil_append] at hm
            constructor
            · intro h
              obtain ⟨n, hn', rfl⟩ := List.mem_map.mp h
              obtain ⟨x, hxL, rfl⟩ := List.mem_map.mp ((hm n).mp hn')
              refine List.mem_map.mpr ⟨x, hxL, ?_⟩
              obtain ⟨m, hm'⟩ := hx x hxL
              rw [hm', Nat.mul_div_cancel_left _ x.2.den_pos]
              have m0 : m ≠ 0 := fun z => by subst z; omega
              conv => lhs; rw [← Rat.num_divInt_den x.2]
              have := Rat.divInt_mul_right (n := x.2.num) (d := (x.2.den : Int)) (a := (m : Int)) (by omega)
              rw [← this]
              push_cast
              rfl
            · intro h
              obtain ⟨x, hxL, rfl⟩ := List.mem_map.mp h
              refine List.mem_map.mpr ⟨x.2.num * ((c / x.2.den : Nat) : Int), (hm _).mpr (List.mem_map.mpr ⟨x, hxL, rfl⟩), ?_⟩
              obtain ⟨m, hm'⟩ := hx x hxL
              rw [hm', Nat.mul_div_cancel_left _ x.2.den_pos]
              have m0 : m ≠ 0 := fun z => by subst z; omega
              conv => rhs; rw [← Rat.num_divInt_den x.2]
              have := Rat.divInt_mul_right (n := x.2.num) (d := (x.2.den : Int)) (a := (m : Int)) (by omega)
              rw [← this]
              push_cast
              rfl
end G


/-! ## PR -/
/-! Races: their mirror, contracts. -/
namespace G
open PySem PySem.Spec PyProof.Rows L2 L3 MR
def inS (x y : Str) : Bool := !(Builtin.Str.occurrences y x 0 y.length 1).isEmpty
def okName (s : Str) : Bool := decide (1 ≤ s.length) && decide (s.length ≤ 8) && (match s.cps.toList with
  | c :: _ => inS ⟨#[c]⟩ "abcdefghijklmnopqrstuvwxyz"
  | [] => false) && (s.cps.toList.all fun c => inS ⟨#[c]⟩ "abcdefghijklmnopqrstuvwxyz0123456789")
/-- a piece as given -/
structure RP where
  tv : PV
  sv : PV
  t : Rat
  s : Rat
def RP.pv (x : RP) : PV := .tup [x.tv, x.sv]
structure RP.Ok (x : RP) : Prop where
  t : NumP x.tv x.t
  s : NumP x.sv x.s
  z : sz x.t ≤ 1900
  p : 0 ≤ x.t
structure POk (ps : List RP) : Prop where
  lo : 1 ≤ ps.length
  hi : ps.length ≤ 20
  ok : ∀ x ∈ ps, x.Ok
  hd : ∃ x r, ps = x :: r ∧ x.t = 0
  up : ps.Pairwise (·.t < ·.t)
structure RR where
  name : Str
  sv : PV
  s : Rat
  ps : List RP
def RR.pv (r : RR) : PV := .tup [r.sv, .lst (r.ps.map RP.pv)]
structure RR.Ok (r : RR) : Prop where
  n : okName r.name = true
  s : NumP r.sv r.s
  z : sz r.s ≤ 1900
  p : POk r.ps
/-- a runner, a race -/
structure Rn where
  name : Str
  start : Rat
  pieces : List (Rat × Rat)
structure RaceM where
  len : Rat
  rs : List Rn
def pcPV (x : Rat × Rat) : PV := .tup [rat x.1, rat x.2]
def Rn.pv (r : Rn) : PV := .tup [rat r.start, .lst (r.pieces.map pcPV)]
def RaceM.dic (R : RaceM) : List (Key × PV) := R.rs.map fun r => (Sum.inr r.name, r.pv)
def RaceM.fs (R : RaceM) : List (Str × PV) := [("own_length", rat R.len), ("own_runners", .dic R.dic), ("own_parts", .tup [rat R.len, .dic R.dic])]
def RaceM.pv (R : RaceM) : PV := .obj "Race" R.fs
def RR.norm (len : Rat) (r : RR) : Rn := ⟨r.name, rem r.s len, r.ps.map fun x => (x.t, x.s)⟩
/-- what a runner's pieces are -/
structure Rn.Ok (r : Rn) : Prop where
  lo : 1 ≤ r.pieces.length
  hi : r.pieces.length ≤ 20
  hd : ∃ x q, r.pieces = x :: q ∧ x.1 = 0
  up : r.pieces.Pairwise (·.1 < ·.1)
structure RaceM.Ok (R : RaceM) : Prop where
  len : 0 < R.len
  lo : 1 ≤ R.rs.length
  hi : R.rs.length ≤ 12
  nd : R.rs.Pairwise fun a b => a.name ≠ b.name
  rn : ∀ r ∈ R.rs, r.Ok
  st : ∀ r ∈ R.rs, 0 ≤ r.start ∧ r.start < R.len
/-- where a runner is -/
def walkP : List (Rat × Rat) → Rat → Rat → Rat
  | [], _, f => f
  | [(b, s)], t, f => if b < t then f + s * (t - b) else f
  | (b, s) :: (b', s') :: r, t, f => walkP ((b', s') :: r) t (let e := if b' < t then b' else t; if b < e then f + s * (e - b) else f)
def Rn.pos (r : Rn) (t : Rat) : Rat := walkP r.pieces t r.start
def RaceM.place (R : RaceM) (r : Rn) (t : Rat) : Rat := rem (r.pos t) R.len
def RaceM.laps (R : RaceM) (r : Rn) (t : Rat) : Int := (r.pos t / R.len).floor
def speedP : List (Rat × Rat) → Rat → Rat → Rat
  | [], _, d => d
  | (b, s) :: r, t, d => speedP r t (if b ≤ t then s else d)
def Rn.speed (r : Rn) (t : Rat) : Rat := speedP r.pieces t 0
def P0 : Nat := 640
/-- a time at which all is of moderate size -/
structure RaceM.At (R : RaceM) (t : Rat) : Prop where
  t0 : 0 ≤ t
  z : sz t ≤ P0
  p : ∀ r ∈ R.rs, sz (r.pos t) ≤ P0
  q : ∀ r ∈ R.rs, sz (R.place r t) ≤ P0
/-- a race of moderate sizes -/
structure RaceM.G (R : RaceM) : Prop where
  ok : R.Ok
  len : sz R.len ≤ P0
  st : ∀ r ∈ R.rs, sz r.start ≤ P0
  sp : ∀ r ∈ R.rs, ∀ x ∈ r.pieces, sz x.2 ≤ P0
  ch : ∀ r ∈ R.rs, ∀ x ∈ r.pieces, R.At x.1
  cd : ∃ C : Nat, 0 < C ∧ bits C ≤ 2000 ∧ ∀ r ∈ R.rs, ∀ x ∈ r.pieces, x.1.den ∣ C
def chs (os : List Rn) : List Rat := os.flatMap fun r => r.pieces.map (·.1)
def Ph_is_name : Con := fun as Q => ∃ s, as = [.str s] ∧ okName s = true ∧ Q (.bl true)
def Ph_as_time : Con := fun as Q => ∃ v q, as = [v] ∧ NumP v q ∧ 0 ≤ q ∧ sz q ≤ 7900 ∧ Q (rat q)
def Ph_is_piece : Con := fun as Q => ∃ x : RP, as = [x.pv] ∧ x.Ok ∧ Q (.bl true)
def Ph_are_pieces : Con := fun as Q => ∃ ps : List RP, as = [.lst (ps.map RP.pv)] ∧ POk ps ∧ Q (.bl true)
def Ph_is_runner : Con := fun as Q => ∃ r : RR, as = [r.pv] ∧ r.Ok ∧ Q (.bl true)
def Ph_Race : Con := fun as Q => ∃ (lv : PV) (len : Rat) (rs : List RR), as = [lv, .dic (rs.map fun r => (Sum.inr r.name, r.pv))] ∧ NumP lv len ∧ 0 < len ∧ sz len ≤ 1900 ∧ 1 ≤ rs.length ∧ rs.length ≤ 12 ∧ (rs.Pairwise fun a b => a.name ≠ b.name) ∧ (∀ r ∈ rs, r.Ok) ∧
  ∀ rs' : List RR, rs'.Perm rs → sortedS (rs'.map RR.name) = true → Q (RaceM.pv ⟨len, rs'.map (RR.norm len)⟩)
def Ph_Race_length : Con := fun as Q => ∃ R : RaceM, as = [R.pv] ∧ Q (rat R.len)
def Ph_Race_names : Con := fun as Q => ∃ R : RaceM, as = [R.pv] ∧ Q (.lst (R.rs.map fun r => .str r.name))
def Ph_Race_contains : Con := fun as Q => ∃ (R : RaceM) (n : Str), as = [R.pv, .str n] ∧ Q (.bl (R.rs.any fun r => decide (r.name = n)))
def Ph_Race_runner : Con := fun as Q => ∃ (R : RaceM) (r : Rn), as = [R.pv, .str r.name] ∧ R.Ok ∧ r ∈ R.rs ∧ Q r.pv
def Ph_Race_validate_names : Con := fun as Q => ∃ (R : RaceM) (r r' : Rn), as = [R.pv, .str r.name, .str r'.name] ∧ R.Ok ∧ r ∈ R.rs ∧ r' ∈ R.rs ∧ Q .non
def Ph_Race_start : Con := fun as Q => ∃ (R : RaceM) (r : Rn), as = [R.pv, .str r.name] ∧ R.Ok ∧ r ∈ R.rs ∧ Q (rat r.start)
def Ph_Race_pieces : Con := fun as Q => ∃ (R : RaceM) (r : Rn), as = [R.pv, .str r.name] ∧ R.Ok ∧ r ∈ R.rs ∧ Q (.lst (r.pieces.map pcPV))
def Ph_Race_position : Con := fun as Q => ∃ (R : RaceM) (r : Rn) (v : PV) (t : Rat), as = [R.pv, .str r.name, v] ∧ R.G ∧ r ∈ R.rs ∧ NumP v t ∧ R.At t ∧ Q (rat (r.pos t))
def Ph_Race_place : Con := fun as Q => ∃ (R : RaceM) (r : Rn) (v : PV) (t : Rat), as = [R.pv, .str r.name, v] ∧ R.G ∧ r ∈ R.rs ∧ NumP v t ∧ R.At t ∧ Q (rat (R.place r t))
def Ph_Race_laps : Con := fun as Q => ∃ (R : RaceM) (r : Rn) (v : PV) (t : Rat), as = [R.pv, .str r.name, v] ∧ R.G ∧ r ∈ R.rs ∧ NumP v t ∧ R.At t ∧ Q (.int (R.laps r t))
def Ph_Race_speed : Con := fun as Q => ∃ (R : RaceM) (r : Rn) (v : PV) (t : Rat), as = [R.pv, .str r.name, v] ∧ R.G ∧ r ∈ R.rs ∧ NumP v t ∧ 0 ≤ t ∧ sz t ≤ P0 ∧ Q (rat (r.speed t))
def Ph_as_window : Con := fun as Q => ∃ (v w : PV) (a b : Rat), as = [v, w] ∧ NumP v a ∧ NumP w b ∧ 0 ≤ a ∧ a ≤ b ∧ sz a ≤ P0 ∧ sz b ≤ P0 ∧ Q (.tup [rat a, rat b])
def Ph_cut_times : Con := fun as Q => ∃ (R : RaceM) (ns : List Rn) (a b : Rat), as = [R.pv, .lst (ns.map fun r => .str r.name), rat a, rat b] ∧ R.G ∧ (∀ r ∈ ns, r ∈ R.rs) ∧ ns.length ≤ 12 ∧ sz a ≤ P0 ∧ sz b ≤ P0 ∧ Q (.lst ((cutR (chs ns) a b).map rat))
def Ph_Race_change_times : Con := fun as Q => ∃ R : RaceM, as = [R.pv] ∧ R.G ∧ Q (.lst ((riseL (chs R.rs |>.filter fun t => decide (0 < t))).map rat))
end G


/-! ## HA -/
/-! The races' defs keep their contracts. -/
namespace G
open PySem PySem.Spec PyProof.Rows L2 L3 MR
def te_is_name_1 : PTE := pBin (kInS false) (pVar 1) (pC (.str "abcdefghijklmnopqrstuvwxyz0123456789"))
def t_is_name : PTS := pSeq (pIfS (pOrT (pNotT (pTst (pCallB kIsi (pCons (pVar 0) (pCons (pC (.ty "str")) (pNil)))))) (pNotT (pTst (pChain kLeI kLeI (pC (.int 1)) (pCallB kLen (pCons (pVar 0) (pNil))) (pC (.int 8)))))) (pRet (pC (.bl false))) (pNext)) (pRet (pAndV (pBin (kInS false) (pBin kIx (pVar 0) (pC (.int 0))) (pC (.str "abcdefghijklmnopqrstuvwxyz"))) (pCallB kAll (pCons (pLc (pIStr (pVar 0)) (gNm 1) pTsYes te_is_name_1 [1]) (pNil)))))
abbrev N_is_name : List Str := ["value", "sign"]
theorem st_is_name (a0 : PV) : startP N_is_name [a0] = [.val a0, .no] := rfl
def t_as_time : PTS := pSeq (pIfS (pOrT (pNotT (pTst (pCall Ph_is_number (pCons (pVar 0) (pNil))))) (pTst (pBin kLtI (pCall Ph_compare (pCons (pVar 0) (pCons (pC (.int 0)) (pNil)))) (pC (.int 0))))) (pNeverS) (pNext)) (pRet (pCall Ph_as_ratio (pCons (pVar 0) (pNil))))
abbrev N_as_time : List Str := ["value"]
theorem st_as_time (a0 : PV) : startP N_as_time [a0] = [.val a0] := rfl
def t_is_piece : PTS := pSeq (pIfS (pOrT (pNotT (pTst (pCallB kIsi (pCons (pVar 0) (pCons (pC (.ty "tuple")) (pNil)))))) (pTst (pBin kNe (pCallB kLen (pCons (pVar 0) (pNil))) (pC (.int 2))))) (pRet (pC (.bl false))) (pNext)) (pRet (pAndV (pCall Ph_is_number (pCons (pBin kIx (pVar 0) (pC (.int 0))) (pNil))) (pAndV (pCall Ph_is_number (pCons (pBin kIx (pVar 0) (pC (.int 1))) (pNil))) (pBin kGeI (pCall Ph_compare (pCons (pBin kIx (pVar 0) (pC (.int 0))) (pCons (pC (.int 0)) (pNil)))) (pC (.int 0))))))
abbrev N_is_piece : List Str := ["value"]
theorem st_is_piece (a0 : PV) : startP N_is_piece [a0] = [.val a0] := rfl
def te_are_pieces_1 : PTE := pCall Ph_is_piece (pCons (pVar 1) (pNil))
def te_are_pieces_2 : PTE := pBin kLtI (pCall Ph_compare (pCons (pBin kIx (pBin kIx (pVar 0) (pVar 2)) (pC (.int 0))) (pCons (pBin kIx (pBin kIx (pVar 0) (pBin kAddI (pVar 2) (pC (.int 1)))) (pC (.int 0))) (pNil)))) (pC (.int 0))
def t_are_pieces : PTS := pSeq (pIfS (pOrT (pNotT (pTst (pCallB kIsi2 (pCons (pVar 0) (pCons (pTup (pCons (pC (.ty "list")) (pCons (pC (.ty "tuple")) (pNil)))) (pNil)))))) (pNotT (pTst (pChain kLeI kLeI (pC (.int 1)) (pCallB kLen (pCons (pVar 0) (pNil))) (pC (.int 20)))))) (pRet (pC (.bl false))) (pNext)) (pSeq (pIfS (pOrT (pNotT (pTst (pCallB kAll (pCons (pLc (pIL (pVar 0)) (gNm 1) pTsYes te_are_pieces_1 [1]) (pNil))))) (pTst (pBin kNe (pCall Ph_compare (pCons (pBin kIx (pBin kIx (pVar 0) (pC (.int 0))) (pC (.int 0))) (pCons (pC (.int 0)) (pNil)))) (pC (.int 0))))) (pRet (pC (.bl false))) (pNext)) (pRet (pCallB kAll (pCons (pLc (pR1 (pCons (pBin kSubI (pCallB kLen (pCons (pVar 0) (pNil))) (pC (.int 1))) (pNil))) (gNm 2) pTsYes te_are_pieces_2 [2]) (pNil)))))
abbrev N_are_pieces : List Str := ["value", "piece", "at"]
theorem st_are_pieces (a0 : PV) : startP N_are_pieces [a0] = [.val a0, .no, .no] := rfl
def t_is_runner : PTS := pRet (pAndV (pCallB kIsi (pCons (pVar 0) (pCons (pC (.ty "tuple")) (pNil)))) (pAndV (pBin kEq (pCallB kLen (pCons (pVar 0) (pNil))) (pC (.int 2))) (pAndV (pCall Ph_is_number (pCons (pBin kIx (pVar 0) (pC (.int 0))) (pNil))) (pCall Ph_are_pieces (pCons (pBin kIx (pVar 0) (pC (.int 1))) (pNil))))))
abbrev N_is_runner : List Str := ["value"]
theorem st_is_runner (a0 : PV) : startP N_is_runner [a0] = [.val a0] := rfl
def tb_Race_init_1 : PTS := pIfS (pOrT (pNotT (pTst (pCall Ph_is_name (pCons (pVar 3) (pNil))))) (pNotT (pTst (pCall Ph_is_runner (pCons (pVar 4) (pNil)))))) (pNeverS) (pNext)
def te_Race_init_2 : PTE := pTup (pCons (pCall Ph_as_ratio (pCons (pVar 8) (pNil))) (pCons (pCall Ph_as_ratio (pCons (pVar 9) (pNil))) (pNil)))
def tb_Race_init_3 : ITS := iSeq (iOf (pAsg (pBin kDGet (pVar 2) (pVar 3)) (gTupP 2 (gConsP (gNm 6) (gConsP (gNm 7) (gNilP)))))) (iSeq (iOf (pAsg (pLc (pIL (pVar 7)) (gTupP 2 (gConsP (gNm 8) (gConsP (gNm 9) (gNilP)))) pTsYes te_Race_init_2 [8, 9]) (gNm 5))) (iPut "own_runners" (pVar 3) (pTup (pCons (pCall Ph_remainder (pCons (pVar 6) (pCons (pVar 1) (pNil)))) (pCons (pVar 5) (pNil))))))
def t_Race_init : ITS := iSeq (iOf (pIfS (pOrT (pNotT (pTst (pCall Ph_is_number (pCons (pVar 1) (pNil))))) (pTst (pBin kLeI (pCall Ph_compare (pCons (pVar 1) (pCons (pC (.int 0)) (pNil)))) (pC (.int 0))))) (pNeverS) (pNext))) (iSeq (iOf (pIfS (pOrT (pNotT (pTst (pCallB kIsi (pCons (pVar 2) (pCons (pC (.ty "dict")) (pNil)))))) (pNotT (pTst (pChain kLeI kLeI (pC (.int 1)) (pCallB kLenD (pCons (pVar 2) (pNil))) (pC (.int 12)))))) (pNeverS) (pNext))) (iSeq (iOf (pFor (pIItems (pVar 2)) (gTupP 2 (gConsP (gNm 3) (gConsP (gNm 4) (gNilP)))) tb_Race_init_1)) (iSeq (iSetF "own_length" (pCall Ph_as_ratio (pCons (pVar 1) (pNil)))) (iSeq (iNewD "own_runners") (iSeq (iFor (pIL (pCallB kSortD (pCons (pVar 2) (pNil)))) (gNm 3) tb_Race_init_3) (iParts "own_parts" "own_length" "own_runners"))))))
abbrev N_Race_init : List Str := ["self", "length", "runners", "name", "runner", "rows", "start", "pieces", "time", "speed"]
theorem st_Race_init (a0 a1 a2 : PV) : startP N_Race_init [a0, a1, a2] = [.val a0, .val a1, .val a2, .no, .no, .no, .no, .no, .no, .no] := rfl
def t_Race_length : PTS := pRet (pFld "Race" "own_length" (pVar 0))
abbrev N_Race_length : List Str := ["self"]
theorem st_Race_length (a0 : PV) : startP N_Race_length [a0] = [.val a0] := rfl
def t_Race_names : PTS := pRet (pCallB kListD (pCons (pFld "Race" "own_runners" (pVar 0)) (pNil)))
abbrev N_Race_names : List Str := ["self"]
theorem st_Race_names (a0 : PV) : startP N_Race_names [a0] = [.val a0] := rfl
def t_Race_contains : PTS := pRet (pAndV (pCallB kIsi (pCons (pVar 1) (pCons (pC (.ty "str")) (pNil)))) (pBin (kDIn false) (pVar 1) (pFld "Race" "own_runners" (pVar 0))))
abbrev N_Race_contains : List Str := ["self", "name"]
theorem st_Race_contains (a0 a1 : PV) : startP N_Race_contains [a0, a1] = [.val a0, .val a1] := rfl
def t_Race_runner : PTS := pSeq (pIfS (pTst (pBin (kOwnIn "Race" Ph_Race_contains true) (pVar 1) (pVar 0))) (pNeverS) (pNext)) (pRet (pBin kDGet (pFld "Race" "own_runners" (pVar 0)) (pVar 1)))
abbrev N_Race_runner : List Str := ["self", "name"]
theorem st_Race_runner (a0 a1 : PV) : startP N_Race_runner [a0, a1] = [.val a0, .val a1] := rfl
def t_Race_validate_names : PTS := pSeq (pDrop (pMeth "Race" "runner" Ph_Race_runner (pVar 0) (pCons (pVar 1) (pNil)))) (pDrop (pMeth "Race" "runner" Ph_Race_runner (pVar 0) (pCons (pVar 2) (pNil))))
abbrev N_Race_validate_names : List Str := ["self", "first", "second"]
theorem st_Race_validate_names (a0 a1 a2 : PV) : startP N_Race_validate_names [a0, a1, a2] = [.val a0, .val a1, .val a2] := rfl
def t_Race_start : PTS := pRet (pBin kIx (pMeth "Race" "runner" Ph_Race_runner (pVar 0) (pCons (pVar 1) (pNil))) (pC (.int 0)))
abbrev N_Race_start : List Str := ["self", "name"]
theorem st_Race_start (a0 a1 : PV) : startP N_Race_start [a0, a1] = [.val a0, .val a1] := rfl
def t_Race_pieces : PTS := pRet (pCallB kList (pCons (pBin kIx (pMeth "Race" "runner" Ph_Race_runner (pVar 0) (pCons (pVar 1) (pNil))) (pC (.int 1))) (pNil)))
abbrev N_Race_pieces : List Str := ["self", "name"]
theorem st_Race_pieces (a0 a1 : PV) : startP N_Race_pieces [a0, a1] = [.val a0, .val a1] := rfl
def tb_Race_position_1 : PTS := pSeq (pAsg (pVar 5) (gNm 8)) (pSeq (pIfS (pAndT (pTst (pBin kLtI (pBin kAddI (pVar 7) (pC (.int 1))) (pCallB kLen (pCons (pVar 4) (pNil))))) (pTst (pBin kLtI (pCall Ph_compare (pCons (pBin kIx (pBin kIx (pVar 4) (pBin kAddI (pVar 7) (pC (.int 1)))) (pC (.int 0))) (pCons (pVar 5) (pNil)))) (pC (.int 0))))) (pAsg (pBin kIx (pBin kIx (pVar 4) (pBin kAddI (pVar 7) (pC (.int 1)))) (pC (.int 0))) (gNm 8)) (pNext)) (pIfS (pTst (pBin kLtI (pCall Ph_compare (pCons (pVar 9) (pCons (pVar 8) (pNil)))) (pC (.int 0)))) (pAsg (pCall Ph_plus (pCons (pVar 6) (pCons (pCall Ph_times (pCons (pVar 10) (pCons (pCall Ph_minus (pCons (pVar 8) (pCons (pVar 9) (pNil)))) (pNil)))) (pNil)))) (gNm 6)) (pNext)))
def t_Race_position : PTS := pSeq (pAsg (pMeth "Race" "runner" Ph_Race_runner (pVar 0) (pCons (pVar 1) (pNil))) (gTupP 2 (gConsP (gNm 3) (gConsP (gNm 4) (gNilP))))) (pSeq (pAsg (pCall Ph_as_time (pCons (pVar 2) (pNil))) (gNm 5)) (pSeq (pAsg (pVar 3) (gNm 6)) (pSeq (pFor (pEnum (pCons (pVar 4) (pNil))) (gTupP 2 (gConsP (gNm 7) (gConsP (gTupP 2 (gConsP (gNm 9) (gConsP (gNm 10) (gNilP)))) (gNilP)))) tb_Race_position_1) (pRet (pVar 6)))))
abbrev N_Race_position : List Str := ["self", "name", "time", "start", "pieces", "end", "found", "index", "stop", "begin", "speed"]
theorem st_Race_position (a0 a1 a2 : PV) : startP N_Race_position [a0, a1, a2] = [.val a0, .val a1, .val a2, .no, .no, .no, .no, .no, .no, .no, .no] := rfl
def t_Race_place : PTS := pRet (pCall Ph_remainder (pCons (pMeth "Race" "position" Ph_Race_position (pVar 0) (pCons (pVar 1) (pCons (pVar 2) (pNil)))) (pCons (pProp "Race" Ph_Race_length (pVar 0)) (pNil))))
abbrev N_Race_place : List Str := ["self", "name", "time"]
theorem st_Race_place (a0 a1 a2 : PV) : startP N_Race_place [a0, a1, a2] = [.val a0, .val a1, .val a2] := rfl
def tt_Race_speed_1 : PTT := pTst (pBin kLeI (pCall Ph_compare (pCons (pVar 5) (pCons (pVar 4) (pNil)))) (pC (.int 0)))
def te_Race_speed_2 : PTE := pVar 6
def t_Race_speed : PTS := pSeq (pAsg (pMeth "Race" "pieces" Ph_Race_pieces (pVar 0) (pCons (pVar 1) (pNil))) (gNm 3)) (pSeq (pAsg (pCall Ph_as_time (pCons (pVar 2) (pNil))) (gNm 4)) (pRet (pBin kIx (pLc (pIL (pVar 3)) (gTupP 2 (gConsP (gNm 5) (gConsP (gNm 6) (gNilP)))) tt_Race_speed_1 te_Race_speed_2 [5, 6]) (pUn kNeg (pC (.int 1))))))
abbrev N_Race_speed : List Str := ["self", "name", "time", "pieces", "moment", "begin", "speed"]
theorem st_Race_speed (a0 a1 a2 : PV) : startP N_Race_speed [a0, a1, a2] = [.val a0, .val a1, .val a2, .no, .no, .no, .no] := rfl
def ti_Race_change_times_1 : PTI := pIL (pSlL (pMeth "Race" "pieces" Ph_Race_pieces (pVar 0) (pCons (pVar 1) (pNil))) (pPart (pC (.int 1))) (pNoPart))
def te_Race_change_times_2 : PTE := pVar 2
def t_Race_change_times : PTS := pRet (pCall Ph_in_order (pCons (pLc2 (pIL (pMeth "Race" "names" Ph_Race_names (pVar 0) pNil)) (gNm 1) pTsYes ti_Race_change_times_1 (gTupP 2 (gConsP (gNm 2) (gConsP (gNm 3) (gNilP)))) pTsYes te_Race_change_times_2 [1, 2, 3] [2, 3]) (pNil)))
abbrev N_Race_change_times : List Str := ["self", "name", "time", "speed"]
theorem st_Race_change_times (a0 : PV) : startP N_Race_change_times [a0] = [.val a0, .no, .no, .no] := rfl
def t_as_window : PTS := pSeq (pPar 2 3 (pCons (pCall Ph_as_time (pCons (pVar 0) (pNil))) (pCons (pCall Ph_as_time (pCons (pVar 1) (pNil))) (pNil)))) (pSeq (pIfS (pTst (pBin kGtI (pCall Ph_compare (pCons (pVar 2) (pCons (pVar 3) (pNil)))) (pC (.int 0)))) (pNeverS) (pNext)) (pRet (pTup (pCons (pVar 2) (pCons (pVar 3) (pNil))))))
abbrev N_as_window : List Str := ["start", "end", "begin", "stop"]
theorem st_as_window (a0 a1 : PV) : startP N_as_window [a0, a1] = [.val a0, .val a1, .no, .no] := rfl
def ti_cut_times_1 : PTI := pIL (pMeth "Race" "pieces" Ph_Race_pieces (pVar 0) (pCons (pVar 5) (pNil)))
def te_cut_times_2 : PTE := pVar 6
def tt_cut_times_3 : PTT := pAndT (pTst (pBin kLtI (pCall Ph_compare (pCons (pVar 2) (pCons (pVar 6) (pNil)))) (pC (.int 0)))) (pTst (pBin kLtI (pCall Ph_compare (pCons (pVar 6) (pCons (pVar 3) (pNil)))) (pC (.int 0))))
def te_cut_times_4 : PTE := pVar 6
def t_cut_times : PTS := pSeq (pAsg (pLc2 (pIL (pVar 1)) (gNm 5) pTsYes ti_cut_times_1 (gTupP 2 (gConsP (gNm 6) (gConsP (gNm 7) (gNilP)))) pTsYes te_cut_times_2 [5, 6, 7] [6, 7]) (gNm 4)) (pSeq (pAsg (pLc (pIL (pVar 4)) (gNm 6) tt_cut_times_3 te_cut_times_4 [6]) (gNm 8)) (pRet (pCall Ph_in_order (pCons (pLst (pCons (pVar 2) (pStar (pVar 8) (pCons (pVar 3) (pNil))))) (pNil)))))
abbrev N_cut_times : List Str := ["race", "names", "begin", "stop", "changes", "name", "time", "speed", "inner"]
theorem st_cut_times (a0 a1 a2 a3 : PV) : startP N_cut_times [a0, a1, a2, a3] = [.val a0, .val a1, .val a2, .val a3, .no, .no, .no, .no, .no] := rfl

def t_Race_laps : PTS := pRet (pCall Ph_floor_of (pCons (pCall Ph_divided (pCons (pMeth "Race" "position" Ph_Race_position (pVar 0) (pCons (pVar 1) (pCons (pVar 2) (pNil)))) (pCons (pProp "Race" Ph_Race_length (pVar 0)) (pNil)))) (pNil)))
abbrev N_Race_laps : List Str := ["self", "name", "time"]
theorem st_Race_laps (a0 a1 a2 : PV) : startP N_Race_laps [a0, a1, a2] = [.val a0, .val a1, .val a2] := rfl

theorem sz0 : sz 0 = 1 := by rfl
theorem num0 : NumP (.int 0) 0 := .inl ⟨0, rfl, rfl⟩
theorem kit_ss : kitB "str" "str" = some true := by decide +kernel
theorem kit_tup2 : kitB "list" "list" = some true := by decide +kernel
theorem kit_lt : kitB "list" "tuple" = some false := by decide +kernel
theorem kit_dd : kitB "dict" "dict" = some true := by decide +kernel
theorem blsP_map {α : Type} (f : α → Bool) : ∀ l : List α, blsP (l.map fun x => PV.bl (f x)) = some (l.map f)
  | [] => rfl
  | a :: r => by simp [blsP, blsP_map f r]
theorem hp_is_name : ∀ as Q, Ph_is_name as Q → as.length = 1 ∧ t_is_name ⟨fun _ => Q .non, Q, fun _ => False, fun _ => False⟩ (startP N_is_name as) := by
  rintro as Q ⟨s, rfl, hs, hq⟩
  refine ⟨rfl, ?_⟩
  unfold okName at hs
  simp only [Bool.and_eq_true, decide_eq_true_eq] at hs
  obtain ⟨⟨⟨h1, h8⟩, hc⟩, ha⟩ := hs
  simp only [st_is_name, t_is_name, pSeq, pNext, pIfS, pRet, pRetN, pAsg, pDrop, pPar, pAug, gNm, gTupP, gConsP, gNilP, pVar, pC, pBin, pChain, pUn, kNeg, pTst, pAndT, pOrT, pNotT, pAndV, pOrV, pNotV, pIf, pCons, pNil, pTup, pLst, pStar, pCallB, pCall, pMeth, pProp, pFld, pFrz, pIL, pIT, pZip, pEnum, pR1, pR2, pSlL, pPart, pNoPart, pLc, pLc2, pDc, pSortSc, pFor, pNewL, pNewD, pApp, pExt, pDPut, pSetL, pOwnD, pIsN, pNotN, pListVals, pIVals, pIKeys, pIItems, onDic, pIStr, pDGet1, pTsYes, pParL, pParR, pCel, pCelSet, pNewCel, pNeverS, wipeP, List.set_cons_zero, List.set_cons_succ, List.getElem?_cons_zero, List.getElem?_cons_succ, List.length_cons, List.length_nil]
  rw [kIsi_of rfl kit_ss]
  have hz : s.length ≤ sizeLine := size_le (by omega)
  have e1 : (1 : Int) ≤ (s.length : Int) := by omega
  have e2 : (s.length : Int) ≤ 8 := by omega
  simp only [kLen, kI0_int, decide_eq_true e1, decide_eq_true e2, Bool.not_true, pSeq, pNext, pIfS, pRet, pRetN, pAsg, pDrop, pPar, pAug, gNm, gTupP, gConsP, gNilP, pVar, pC, pBin, pChain, pUn, kNeg, pTst, pAndT, pOrT, pNotT, pAndV, pOrV, pNotV, pIf, pCons, pNil, pTup, pLst, pStar, pCallB, pCall, pMeth, pProp, pFld, pFrz, pIL, pIT, pZip, pEnum, pR1, pR2, pSlL, pPart, pNoPart, pLc, pLc2, pDc, pSortSc, pFor, pNewL, pNewD, pApp, pExt, pDPut, pSetL, pOwnD, pIsN, pNotN, pListVals, pIVals, pIKeys, pIItems, onDic, pIStr, pDGet1, pTsYes, pParL, pParR, pCel, pCelSet, pNewCel, pNeverS, wipeP, List.set_cons_zero, List.set_cons_succ, List.getElem?_cons_zero, List.getElem?_cons_succ, List.length_cons, List.length_nil]
  refine ⟨hz, ?_⟩
  cases hl : s.cps.toList with
  | nil => rw [hl] at hc; cases hc
  | cons c r =>
    rw [hl] at hc
    simp only [kIx, atI, hl, ixN]
    refine ⟨hz, ?_⟩
    have : (0 : Int) < ((c :: r).length : Nat) := by simp
    simp only [this, if_true, Option.bind_some, Int.toNat_zero, List.getElem?_cons_zero, Int.le_refl, kInS]
    rw [show (!(Builtin.Str.occurrences "abcdefghijklmnopqrstuvwxyz" ⟨#[c]⟩ 0 (Str.length "abcdefghijklmnopqrstuvwxyz") 1).isEmpty) = true from hc]
    simp only [Bool.false_eq_true, if_false]
    rw [← hl]
    refine lcL_map (fun c => PV.str ⟨#[c]⟩) (fun c => PV.bl (inS ⟨#[c]⟩ "abcdefghijklmnopqrstuvwxyz0123456789")) s.cps.toList (fun c hc T t => ?_) ?_ ?_
    · simp only [te_is_name_1, pSeq, pNext, pIfS, pRet, pRetN, pAsg, pDrop, pPar, pAug, gNm, gTupP, gConsP, gNilP, pVar, pC, pBin, pChain, pUn, kNeg, pTst, pAndT, pOrT, pNotT, pAndV, pOrV, pNotV, pIf, pCons, pNil, pTup, pLst, pStar, pCallB, pCall, pMeth, pProp, pFld, pFrz, pIL, pIT, pZip, pEnum, pR1, pR2, pSlL, pPart, pNoPart, pLc, pLc2, pDc, pSortSc, pFor, pNewL, pNewD, pApp, pExt, pDPut, pSetL, pOwnD, pIsN, pNotN, pListVals, pIVals, pIKeys, pIItems, onDic, pIStr, pDGet1, pTsYes, pParL, pParR, pCel, pCelSet, pNewCel, pNeverS, wipeP, List.set_cons_zero, List.set_cons_succ, List.getElem?_cons_zero, List.getElem?_cons_succ, List.length_cons, List.length_nil, kInS, Bool.false_eq_true, if_false]
      exact t
    · have : s.cps.toList.length = s.length := rfl
      omega
    · simp only [kAll, blsP_map, List.all_map]
      rw [show (s.cps.toList.all (id ∘ fun c => inS ⟨#[c]⟩ "abcdefghijklmnopqrstuvwxyz0123456789")) = true from ha]
      exact hq
theorem cmp_ge0 {q : Rat} (h : 0 ≤ q) : ¬ cmpI q 0 < 0 := by
  unfold cmpI
  rw [if_neg (by grind)]
  split <;> omega
theorem hp_as_time : ∀ as Q, Ph_as_time as Q → as.length = 1 ∧ t_as_time ⟨fun _ => Q .non, Q, fun _ => False, fun _ => False⟩ (startP N_as_time as) := by
  rintro as Q ⟨v, q, rfl, hv, h0, hs, hq⟩
  refine ⟨rfl, ?_⟩
  simp only [st_as_time, t_as_time, pSeq, pNext, pIfS, pRet, pRetN, pAsg, pDrop, pPar, pAug, gNm, gTupP, gConsP, gNilP, pVar, pC, pBin, pChain, pUn, kNeg, pTst, pAndT, pOrT, pNotT, pAndV, pOrV, pNotV, pIf, pCons, pNil, pTup, pLst, pStar, pCallB, pCall, pMeth, pProp, pFld, pFrz, pIL, pIT, pZip, pEnum, pR1, pR2, pSlL, pPart, pNoPart, pLc, pLc2, pDc, pSortSc, pFor, pNewL, pNewD, pApp, pExt, pDPut, pSetL, pOwnD, pIsN, pNotN, pListVals, pIVals, pIKeys, pIItems, onDic, pIStr, pDGet1, pTsYes, pParL, pParR, pCel, pCelSet, pNewCel, pNeverS, wipeP, List.set_cons_zero, List.set_cons_succ, List.getElem?_cons_zero, List.getElem?_cons_succ, List.length_cons, List.length_nil]
  refine ⟨v, q, rfl, hv, ?_⟩
  simp only [Bool.not_true]
  refine ⟨v, _, q, 0, rfl, hv, num0, by rw [sz0]; omega, ?_⟩
  simp only [kI0_int, decide_eq_false (cmp_ge0 h0)]
  exact ⟨v, q, rfl, hv, hq⟩
theorem hp_is_piece : ∀ as Q, Ph_is_piece as Q → as.length = 1 ∧ t_is_piece ⟨fun _ => Q .non, Q, fun _ => False, fun _ => False⟩ (startP N_is_piece as) := by
  rintro as Q ⟨x, rfl, ⟨ht, hs, hz, hp⟩, hq⟩
  refine ⟨rfl, ?_⟩
  simp only [st_is_piece, t_is_piece, RP.pv, pSeq, pNext, pIfS, pRet, pRetN, pAsg, pDrop, pPar, pAug, gNm, gTupP, gConsP, gNilP, pVar, pC, pBin, pChain, pUn, kNeg, pTst, pAndT, pOrT, pNotT, pAndV, pOrV, pNotV, pIf, pCons, pNil, pTup, pLst, pStar, pCallB, pCall, pMeth, pProp, pFld, pFrz, pIL, pIT, pZip, pEnum, pR1, pR2, pSlL, pPart, pNoPart, pLc, pLc2, pDc, pSortSc, pFor, pNewL, pNewD, pApp, pExt, pDPut, pSetL, pOwnD, pIsN, pNotN, pListVals, pIVals, pIKeys, pIItems, onDic, pIStr, pDGet1, pTsYes, pParL, pParR, pCel, pCelSet, pNewCel, pNeverS, wipeP, List.set_cons_zero, List.set_cons_succ, List.getElem?_cons_zero, List.getElem?_cons_succ, List.length_cons, List.length_nil]
  rw [kIsi_of rfl kit_tt]
  simp only [Bool.not_true, kLen_tup, kNe_int, pSeq, pNext, pIfS, pRet, pRetN, pAsg, pDrop, pPar, pAug, gNm, gTupP, gConsP, gNilP, pVar, pC, pBin, pChain, pUn, kNeg, pTst, pAndT, pOrT, pNotT, pAndV, pOrV, pNotV, pIf, pCons, pNil, pTup, pLst, pStar, pCallB, pCall, pMeth, pProp, pFld, pFrz, pIL, pIT, pZip, pEnum, pR1, pR2, pSlL, pPart, pNoPart, pLc, pLc2, pDc, pSortSc, pFor, pNewL, pNewD, pApp, pExt, pDPut, pSetL, pOwnD, pIsN, pNotN, pListVals, pIVals, pIKeys, pIItems, onDic, pIStr, pDGet1, pTsYes, pParL, pParR, pCel, pCelSet, pNewCel, pNeverS, wipeP, List.set_cons_zero, List.set_cons_succ, List.getElem?_cons_zero, List.getElem?_cons_succ, List.length_cons, List.length_nil, kIx_2a, kIx_2b]
  refine ⟨_, x.t, rfl, ht, _, x.s, rfl, hs, _, _, x.t, 0, rfl, ht, num0, by rw [sz0]; omega, ?_⟩
  have : 0 ≤ cmpI x.t 0 := by have := cmp_ge0 hp; omega
  simp only [kI0_int, decide_eq_true this]
  exact hq
theorem kIsi2_list {l : List PV} {Q : PV → Prop} : kIsi2 [.lst l, .tup [.ty "list", .ty "tuple"]] Q = Q (.bl true) := by
  simp only [kIsi2, tyP, kit_tup2, kit_lt, Bool.true_or]
theorem atI_nat {l : List PV} {i : Nat} (h : i < l.length) : atI l (i : Int) = some l[i] := by
  unfold atI ixN
  rw [if_pos (Int.natCast_nonneg i), if_pos (by exact_mod_cast h)]
  simp [h]
theorem kIx_nat {l : List PV} {i : Nat} {j : Int} (e : j = (i : Int)) (h : i < l.length) {Q : PV → Prop} : kIx (.lst l) (.int j) Q = Q l[i] := by
  subst e
  simp only [kIx, atI_nat h]
theorem hp_are_pieces : ∀ as Q, Ph_are_pieces as Q → as.length = 1 ∧ t_are_pieces ⟨fun _ => Q .non, Q, fun _ => False, fun _ => False⟩ (startP N_are_pieces as) := by
  rintro as Q ⟨ps, rfl, ⟨h1, h20, ok, ⟨x0, r0, e0, z0⟩, up⟩, hq⟩
  refine ⟨rfl, ?_⟩
  simp only [st_are_pieces, t_are_pieces, pSeq, pNext, pIfS, pRet, pRetN, pAsg, pDrop, pPar, pAug, gNm, gTupP, gConsP, gNilP, pVar, pC, pBin, pChain, pUn, kNeg, pTst, pAndT, pOrT, pNotT, pAndV, pOrV, pNotV, pIf, pCons, pNil, pTup, pLst, pStar, pCallB, pCall, pMeth, pProp, pFld, pFrz, pIL, pIT, pZip, pEnum, pR1, pR2, pSlL, pPart, pNoPart, pLc, pLc2, pDc, pSortSc, pFor, pNewL, pNewD, pApp, pExt, pDPut, pSetL, pOwnD, pIsN, pNotN, pListVals, pIVals, pIKeys, pIItems, onDic, pIStr, pDGet1, pTsYes, pParL, pParR, pCel, pCelSet, pNewCel, pNeverS, wipeP, List.set_cons_zero, List.set_cons_succ, List.getElem?_cons_zero, List.getElem?_cons_succ, List.length_cons, List.length_nil]
  have l0 : (ps.map RP.pv).length = ps.length := List.length_map _
  have e1 : (1 : Int) ≤ (ps.length : Int) := by omega
  have e2 : (ps.length : Int) ≤ 20 := by omega
  refine ⟨by exact size_le (by decide), ?_⟩
  simp only [kIsi2_list, Bool.not_true, kLen_lst, kI0_int, l0, decide_eq_true e1, decide_eq_true e2, pSeq, pNext, pIfS, pRet, pRetN, pAsg, pDrop, pPar, pAug, gNm, gTupP, gConsP, gNilP, pVar, pC, pBin, pChain, pUn, kNeg, pTst, pAndT, pOrT, pNotT, pAndV, pOrV, pNotV, pIf, pCons, pNil, pTup, pLst, pStar, pCallB, pCall, pMeth, pProp, pFld, pFrz, pIL, pIT, pZip, pEnum, pR1, pR2, pSlL, pPart, pNoPart, pLc, pLc2, pDc, pSortSc, pFor, pNewL, pNewD, pApp, pExt, pDPut, pSetL, pOwnD, pIsN, pNotN, pListVals, pIVals, pIKeys, pIItems, onDic, pIStr, pDGet1, pTsYes, pParL, pParR, pCel, pCelSet, pNewCel, pNeverS, wipeP, List.set_cons_zero, List.set_cons_succ, List.getElem?_cons_zero, List.getElem?_cons_succ, List.length_cons, List.length_nil]
  have lsz : ps.length ≤ sizeLine := size_le (by omega)
  refine lcL_map RP.pv (fun _ => PV.bl true) ps (fun x hx T t => ?_) lsz ?_
  · simp only [te_are_pieces_1, pSeq, pNext, pIfS, pRet, pRetN, pAsg, pDrop, pPar, pAug, gNm, gTupP, gConsP, gNilP, pVar, pC, pBin, pChain, pUn, kNeg, pTst, pAndT, pOrT, pNotT, pAndV, pOrV, pNotV, pIf, pCons, pNil, pTup, pLst, pStar, pCallB, pCall, pMeth, pProp, pFld, pFrz, pIL, pIT, pZip, pEnum, pR1, pR2, pSlL, pPart, pNoPart, pLc, pLc2, pDc, pSortSc, pFor, pNewL, pNewD, pApp, pExt, pDPut, pSetL, pOwnD, pIsN, pNotN, pListVals, pIVals, pIKeys, pIItems, onDic, pIStr, pDGet1, pTsYes, pParL, pParR, pCel, pCelSet, pNewCel, pNeverS, wipeP, List.set_cons_zero, List.set_cons_succ, List.getElem?_cons_zero, List.getElem?_cons_succ, List.length_cons, List.length_nil]
    exact ⟨x, rfl, ok x hx, t⟩
  have ball : ∀ {α : Type} (l : List α), blsP (l.map fun _ => PV.bl true) = some (l.map fun _ => true) := fun l => blsP_map (fun _ => true) l
  have tall : ∀ {α : Type} (l : List α), ((l.map fun _ => true).all id) = true := fun l => by simp
  simp only [kAll, ball, tall, Bool.not_true]
  have hl0 : 0 < (ps.map RP.pv).length := by omega
  have g0 : (ps.map RP.pv)[0] = x0.pv := by subst e0; rfl
  simp only [kIx_nat (i := 0) (j := 0) rfl hl0, g0]
  simp only [RP.pv, kIx_2a]
  have ox := ok x0 (by rw [e0]; exact List.mem_cons_self ..)
  refine ⟨_, _, x0.t, 0, rfl, ox.t, num0, by have := ox.z; rw [sz0]; omega, ?_⟩
  have c0 : cmpI x0.t 0 = 0 := by rw [z0]; rfl
  simp only [c0, kNe_int, decide_true, Bool.not_true]
  refine ⟨by omega, by omega, ?_⟩
  have er : ((ps.length : Int) - 1).toNat = ps.length - 1 := by omega
  rw [er]
  refine lcL_map (fun i : Nat => PV.int (0 + (i : Int))) (fun _ => PV.bl true) (List.range (ps.length - 1)) (fun i hi T t => ?_) (by simp; omega) ?_
  · have hi' : i < ps.length - 1 := List.mem_range.mp hi
    have a1 : i < (ps.map RP.pv).length := by omega
    have a2 : i + 1 < (ps.map RP.pv).length := by omega
    simp only [te_are_pieces_2, pSeq, pNext, pIfS, pRet, pRetN, pAsg, pDrop, pPar, pAug, gNm, gTupP, gConsP, gNilP, pVar, pC, pBin, pChain, pUn, kNeg, pTst, pAndT, pOrT, pNotT, pAndV, pOrV, pNotV, pIf, pCons, pNil, pTup, pLst, pStar, pCallB, pCall, pMeth, pProp, pFld, pFrz, pIL, pIT, pZip, pEnum, pR1, pR2, pSlL, pPart, pNoPart, pLc, pLc2, pDc, pSortSc, pFor, pNewL, pNewD, pApp, pExt, pDPut, pSetL, pOwnD, pIsN, pNotN, pListVals, pIVals, pIKeys, pIItems, onDic, pIStr, pDGet1, pTsYes, pParL, pParR, pCel, pCelSet, pNewCel, pNeverS, wipeP, List.set_cons_zero, List.set_cons_succ, List.getElem?_cons_zero, List.getElem?_cons_succ, List.length_cons, List.length_nil, kI0_int]
    rw [kIx_nat (i := i) (by omega) a1]
    simp only [kIx_nat (i := i + 1) (show (0 + (i : Int) + 1) = ((i + 1 : Nat) : Int) by omega) a2, List.getElem_map, RP.pv, kIx_2a]
    have q1 := ok ps[i] (List.getElem_mem _)
    have q2 := ok ps[i + 1] (List.getElem_mem _)
    refine ⟨_, _, _, _, rfl, q1.t, q2.t, by have := q1.z; have := q2.z; omega, ?_⟩
    have lt := List.pairwise_iff_getElem.mp up i (i + 1) (by omega) (by omega) (by omega)
    have : cmpI ps[i].t ps[i + 1].t < 0 := by unfold cmpI; rw [if_pos lt]; decide
    show T (.bl (decide (cmpI ps[i].t ps[i + 1].t < 0)))
    rw [decide_eq_true this]
    exact t
  · simp only [ball, tall]
    exact hq
theorem hp_is_runner : ∀ as Q, Ph_is_runner as Q → as.length = 1 ∧ t_is_runner ⟨fun _ => Q .non, Q, fun _ => False, fun _ => False⟩ (startP N_is_runner as) := by
  rintro as Q ⟨r, rfl, ⟨hn, hs, hz, hp⟩, hq⟩
  refine ⟨rfl, ?_⟩
  simp only [st_is_runner, t_is_runner, RR.pv, pSeq, pNext, pIfS, pRet, pRetN, pAsg, pDrop, pPar, pAug, gNm, gTupP, gConsP, gNilP, pVar, pC, pBin, pChain, pUn, kNeg, pTst, pAndT, pOrT, pNotT, pAndV, pOrV, pNotV, pIf, pCons, pNil, pTup, pLst, pStar, pCallB, pCall, pMeth, pProp, pFld, pFrz, pIL, pIT, pZip, pEnum, pR1, pR2, pSlL, pPart, pNoPart, pLc, pLc2, pDc, pSortSc, pFor, pNewL, pNewD, pApp, pExt, pDPut, pSetL, pOwnD, pIsN, pNotN, pListVals, pIVals, pIKeys, pIItems, onDic, pIStr, pDGet1, pTsYes, pParL, pParR, pCel, pCelSet, pNewCel, pNeverS, wipeP, List.set_cons_zero, List.set_cons_succ, List.getElem?_cons_zero, List.getElem?_cons_succ, List.length_cons, List.length_nil]
  rw [kIsi_of rfl kit_tt]
  simp only [kLen_tup, kEq_int, pSeq, pNext, pIfS, pRet, pRetN, pAsg, pDrop, pPar, pAug, gNm, gTupP, gConsP, gNilP, pVar, pC, pBin, pChain, pUn, kNeg, pTst, pAndT, pOrT, pNotT, pAndV, pOrV, pNotV, pIf, pCons, pNil, pTup, pLst, pStar, pCallB, pCall, pMeth, pProp, pFld, pFrz, pIL, pIT, pZip, pEnum, pR1, pR2, pSlL, pPart, pNoPart, pLc, pLc2, pDc, pSortSc, pFor, pNewL, pNewD, pApp, pExt, pDPut, pSetL, pOwnD, pIsN, pNotN, pListVals, pIVals, pIKeys, pIItems, onDic, pIStr, pDGet1, pTsYes, pParL, pParR, pCel, pCelSet, pNewCel, pNeverS, wipeP, List.set_cons_zero, List.set_cons_succ, List.getElem?_cons_zero, List.getElem?_cons_succ, List.length_cons, List.length_nil, kIx_2a, kIx_2b]
  exact ⟨_, r.s, rfl, hs, r.ps, rfl, hp, hq⟩
theorem hp_Race_length : ∀ as Q, Ph_Race_length as Q → as.length = 1 ∧ t_Race_length ⟨fun _ => Q .non, Q, fun _ => False, fun _ => False⟩ (startP N_Race_length as) := by
  rintro as Q ⟨R, rfl, hq⟩
  exact ⟨rfl, rfl, hq⟩
theorem hp_Race_names : ∀ as Q, Ph_Race_names as Q → as.length = 1 ∧ t_Race_names ⟨fun _ => Q .non, Q, fun _ => False, fun _ => False⟩ (startP N_Race_names as) := by
  rintro as Q ⟨R, rfl, hq⟩
  refine ⟨rfl, rfl, ?_⟩
  show Q (.lst (R.dic.map fun kv => keyPV kv.1))
  unfold RaceM.dic
  rw [List.map_map]
  exact hq
theorem kDIn_dic {l : List (Key × PV)} {n : Str} {Q : PV → Prop} : kDIn false (.str n) (.dic l) Q = Q (.bl (valA l (Sum.inr n)).isSome) := rfl
theorem valA_dic (n : Str) : ∀ rs : List Rn, (valA (rs.map fun r => ((Sum.inr r.name : Key), r.pv)) (Sum.inr n)).isSome = rs.any fun r => decide (r.name = n)
  | [] => rfl
  | r :: rs => by
    rw [List.map_cons, valA_cons, List.any_cons]
    by_cases h : r.name = n
    · subst h; simp
    · rw [if_neg (by simpa using h), valA_dic n rs, decide_eq_false h, Bool.false_or]
theorem valA_mem : ∀ {rs : List Rn} {r : Rn}, (rs.Pairwise fun a b => a.name ≠ b.name) → r ∈ rs → valA (rs.map fun r => ((Sum.inr r.name : Key), r.pv)) (Sum.inr r.name) = some r.pv
  | [], r, _, h => by cases h
  | a :: rs, r, hp, h => by
    obtain ⟨h1, h2⟩ := List.pairwise_cons.mp hp
    rw [List.map_cons, valA_cons]
    rcases List.mem_cons.mp h with rfl | h
    · simp
    · have := h1 r h
      rw [if_neg (by simpa using this), valA_mem h2 h]
theorem hp_Race_contains : ∀ as Q, Ph_Race_contains as Q → as.length = 2 ∧ t_Race_contains ⟨fun _ => Q .non, Q, fun _ => False, fun _ => False⟩ (startP N_Race_contains as) := by
  rintro as Q ⟨R, n, rfl, hq⟩
  refine ⟨rfl, ?_⟩
  simp only [st_Race_contains, t_Race_contains, pSeq, pNext, pIfS, pRet, pRetN, pAsg, pDrop, pPar, pAug, gNm, gTupP, gConsP, gNilP, pVar, pC, pBin, pChain, pUn, kNeg, pTst, pAndT, pOrT, pNotT, pAndV, pOrV, pNotV, pIf, pCons, pNil, pTup, pLst, pStar, pCallB, pCall, pMeth, pProp, pFld, pFrz, pIL, pIT, pZip, pEnum, pR1, pR2, pSlL, pPart, pNoPart, pLc, pLc2, pDc, pSortSc, pFor, pNewL, pNewD, pApp, pExt, pDPut, pSetL, pOwnD, pIsN, pNotN, pListVals, pIVals, pIKeys, pIItems, onDic, pIStr, pDGet1, pTsYes, pParL, pParR, pCel, pCelSet, pNewCel, pNeverS, wipeP, List.set_cons_zero, List.set_cons_succ, List.getElem?_cons_zero, List.getElem?_cons_succ, List.length_cons, List.length_nil]
  rw [kIsi_of rfl kit_ss]
  refine ⟨rfl, ?_⟩
  show Q (.bl (valA R.dic (Sum.inr n)).isSome)
  unfold RaceM.dic
  rw [valA_dic]
  exact hq
theorem any_mem {rs : List Rn} {r : Rn} (h : r ∈ rs) : (rs.any fun x => decide (x.name = r.name)) = true := List.any_eq_true.mpr ⟨r, h, by simp⟩
theorem hp_Race_runner : ∀ as Q, Ph_Race_runner as Q → as.length = 2 ∧ t_Race_runner ⟨fun _ => Q .non, Q, fun _ => False, fun _ => False⟩ (startP N_Race_runner as) := by
  rintro as Q ⟨R, r, rfl, ok, hr, hq⟩
  refine ⟨rfl, ?_⟩
  simp only [st_Race_runner, t_Race_runner, pSeq, pNext, pIfS, pRet, pRetN, pAsg, pDrop, pPar, pAug, gNm, gTupP, gConsP, gNilP, pVar, pC, pBin, pChain, pUn, kNeg, pTst, pAndT, pOrT, pNotT, pAndV, pOrV, pNotV, pIf, pCons, pNil, pTup, pLst, pStar, pCallB, pCall, pMeth, pProp, pFld, pFrz, pIL, pIT, pZip, pEnum, pR1, pR2, pSlL, pPart, pNoPart, pLc, pLc2, pDc, pSortSc, pFor, pNewL, pNewD, pApp, pExt, pDPut, pSetL, pOwnD, pIsN, pNotN, pListVals, pIVals, pIKeys, pIItems, onDic, pIStr, pDGet1, pTsYes, pParL, pParR, pCel, pCelSet, pNewCel, pNeverS, wipeP, List.set_cons_zero, List.set_cons_succ, List.getElem?_cons_zero, List.getElem?_cons_succ, List.length_cons, List.length_nil, kOwnIn, RaceM.pv]
  refine ⟨by trivial, R, r.name, rfl, ?_⟩
  rw [any_mem hr]
  refine ⟨by trivial, ?_⟩
  show (match valA R.dic (Sum.inr r.name) with | some r => Q r | none => False)
  unfold RaceM.dic
  rw [valA_mem ok.nd hr]
  exact hq
theorem hp_Race_validate_names : ∀ as Q, Ph_Race_validate_names as Q → as.length = 3 ∧ t_Race_validate_names ⟨fun _ => Q .non, Q, fun _ => False, fun _ => False⟩ (startP N_Race_validate_names as) := by
  rintro as Q ⟨R, r, r', rfl, ok, hr, hr', hq⟩
  refine ⟨rfl, rfl, rfl, R, r, rfl, ok, hr, rfl, rfl, R, r', rfl, ok, hr', hq⟩
theorem hp_Race_start : ∀ as Q, Ph_Race_start as Q → as.length = 2 ∧ t_Race_start ⟨fun _ => Q .non, Q, fun _ => False, fun _ => False⟩ (startP N_Race_start as) := by
  rintro as Q ⟨R, r, rfl, ok, hr, hq⟩
  exact ⟨rfl, rfl, rfl, R, r, rfl, ok, hr, hq⟩
theorem hp_Race_pieces : ∀ as Q, Ph_Race_pieces as Q → as.length = 2 ∧ t_Race_pieces ⟨fun _ => Q .non, Q, fun _ => False, fun _ => False⟩ (startP N_Race_pieces as) := by
  rintro as Q ⟨R, r, rfl, ok, hr, hq⟩
  exact ⟨rfl, rfl, rfl, R, r, rfl, ok, hr, hq⟩
end G


/-! ## HA2 -/
/-! Races made; positions. -/
namespace G
open PySem PySem.Spec PyProof.Rows L2 L3 MR
theorem kLenD_dic {l : List (Key × PV)} {Q : PV → Prop} : kLenD [.dic l] Q = Q (.int l.length) := rfl
theorem hp_Race_init : ∀ as Q, Ph_Race as Q → as.length + 1 = 3 ∧ ∀ x, t_Race_init (fun _ fs dd => dd = none ∧ Q (.obj "Race" fs)) (startP N_Race_init (.raw x :: as)) [] none := by
  rintro as Q ⟨lv, len, rs, rfl, hl, l0, lz, h1, h12, nd, ok, hq⟩
  refine ⟨rfl, fun x => ?_⟩
  simp only [st_Race_init, t_Race_init, iOf, iSeq, iFor, iPut, iNewD, iParts, iSetF, pSeq, pNext, pIfS, pRet, pRetN, pAsg, pDrop, pPar, pAug, gNm, gTupP, gConsP, gNilP, pVar, pC, pBin, pChain, pUn, kNeg, pTst, pAndT, pOrT, pNotT, pAndV, pOrV, pNotV, pIf, pCons, pNil, pTup, pLst, pStar, pCallB, pCall, pMeth, pProp, pFld, pFrz, pIL, pIT, pZip, pEnum, pR1, pR2, pSlL, pPart, pNoPart, pLc, pLc2, pDc, pSortSc, pFor, pNewL, pNewD, pApp, pExt, pDPut, pSetL, pOwnD, pIsN, pNotN, pListVals, pIVals, pIKeys, pIItems, onDic, pIStr, pDGet1, pTsYes, pParL, pParR, pCel, pCelSet, pNewCel, pNeverS, wipeP, List.set_cons_zero, List.set_cons_succ, List.getElem?_cons_zero, List.getElem?_cons_succ, List.length_cons, List.length_nil]
  refine ⟨lv, len, rfl, hl, ?_⟩
  simp only [Bool.not_true]
  refine ⟨lv, _, len, 0, rfl, hl, num0, by rw [sz0]; omega, ?_⟩
  have c1 : ¬ cmpI len 0 ≤ 0 := by
    unfold cmpI
    rw [if_neg (by grind), if_pos l0]
    decide
  simp only [kI0_int, decide_eq_false c1]
  refine ⟨by trivial, ?_⟩
  rw [kIsi_of rfl kit_dd]
  have e1 : (1 : Int) ≤ (rs.length : Int) := by omega
  have e2 : (rs.length : Int) ≤ 12 := by omega
  simp only [kLenD_dic, List.length_map, kI0_int, decide_eq_true e1, decide_eq_true e2, Bool.not_true]
  refine ⟨by trivial, ?_⟩
  rw [List.map_map]
  refine forL_of (fun r : RR => PV.tup [.str r.name, r.pv]) (fun rest ρ => (∀ r ∈ rest, r ∈ rs) ∧ ∃ s3 s4 s5 s6 s7 s8 s9, ρ = [.val (.raw x), .val lv, .val (.dic (rs.map fun r => ((Sum.inr r.name : Key), r.pv))), s3, s4, s5, s6, s7, s8, s9]) ?_ ?_ rs _ ⟨fun _ h => h, _, _, _, _, _, _, _, rfl⟩
  · rintro r rest ρ ⟨hr, s3, s4, s5, s6, s7, s8, s9, rfl⟩ N hN
    simp only [tb_Race_init_1, pSeq, pNext, pIfS, pRet, pRetN, pAsg, pDrop, pPar, pAug, gNm, gTupP, gConsP, gNilP, pVar, pC, pBin, pChain, pUn, kNeg, pTst, pAndT, pOrT, pNotT, pAndV, pOrV, pNotV, pIf, pCons, pNil, pTup, pLst, pStar, pCallB, pCall, pMeth, pProp, pFld, pFrz, pIL, pIT, pZip, pEnum, pR1, pR2, pSlL, pPart, pNoPart, pLc, pLc2, pDc, pSortSc, pFor, pNewL, pNewD, pApp, pExt, pDPut, pSetL, pOwnD, pIsN, pNotN, pListVals, pIVals, pIKeys, pIItems, onDic, pIStr, pDGet1, pTsYes, pParL, pParR, pCel, pCelSet, pNewCel, pNeverS, wipeP, List.set_cons_zero, List.set_cons_succ, List.getElem?_cons_zero, List.getElem?_cons_succ, List.length_cons, List.length_nil]
    have or' := ok r (hr r (List.mem_cons_self ..))
    refine ⟨by trivial, r.name, rfl, or'.n, ?_⟩
    simp only [Bool.not_true]
    refine ⟨r, rfl, or', ?_⟩
    simp only [Bool.not_true]
    exact hN _ ⟨fun y hy => hr y (List.mem_cons_of_mem _ hy), _, _, _, _, _, _, _, rfl⟩
  · rintro ρ ⟨_, s3, s4, s5, s6, s7, s8, s9, rfl⟩
    refine ⟨by trivial, by trivial, by trivial, by simp, ?_⟩
    try simp only [pSeq, pNext, pIfS, pRet, pRetN, pAsg, pDrop, pPar, pAug, gNm, gTupP, gConsP, gNilP, pVar, pC, pBin, pChain, pUn, kNeg, pTst, pAndT, pOrT, pNotT, pAndV, pOrV, pNotV, pIf, pCons, pNil, pTup, pLst, pStar, pCallB, pCall, pMeth, pProp, pFld, pFrz, pIL, pIT, pZip, pEnum, pR1, pR2, pSlL, pPart, pNoPart, pLc, pLc2, pDc, pSortSc, pFor, pNewL, pNewD, pApp, pExt, pDPut, pSetL, pOwnD, pIsN, pNotN, pListVals, pIVals, pIKeys, pIItems, onDic, pIStr, pDGet1, pTsYes, pParL, pParR, pCel, pCelSet, pNewCel, pNeverS, wipeP, List.set_cons_zero, List.set_cons_succ, List.getElem?_cons_zero, List.getElem?_cons_succ, List.length_cons, List.length_nil]
    refine ⟨lv, len, rfl, hl, by trivial, by rfl, by simp, ?_⟩
    simp only [kSortD, keysS_map RR.name RR.pv, List.length_map]
    refine ⟨by omega, fun ys hp hs => ?_⟩
    obtain ⟨rs', hp', rfl⟩ := perm_map RR.name ys rs hp
    have hf := hq rs' hp' hs
    have nd' : rs'.Pairwise fun a b => a.name ≠ b.name := hp'.symm.pairwise nd fun {a b} h e => h e.symm
    have len' : rs'.length = rs.length := hp'.length_eq
    rw [List.map_map]
    refine iforL_of (fun r : RR => PV.str r.name) (fun rest ρ fs dd => ∃ done : List RR, done ++ rest = rs' ∧ fs = [(("own_length" : Str), rat len)] ∧ dd = some (("own_runners" : Str), done.map fun r => ((Sum.inr r.name : Key), (RR.norm len r).pv)) ∧ ∃ s3 s4 s5 s6 s7 s8 s9, ρ = [.val (.raw x), .val lv, .val (.dic (rs.map fun r => ((Sum.inr r.name : Key), r.pv))), s3, s4, s5, s6, s7, s8, s9]) ?_ ?_ rs' _ _ _ ⟨[], rfl, rfl, rfl, _, _, _, _, _, _, _, rfl⟩
    · rintro r rest ρ fs dd ⟨done, hd, rfl, rfl, s3, s4, s5, s6, s7, s8, s9, rfl⟩ N hN
      have hr' : r ∈ rs' := by rw [← hd]; simp
      have hr : r ∈ rs := hp'.mem_iff.mp hr'
      have or' := ok r hr
      simp only [tb_Race_init_3, iOf, iSeq, iFor, iPut, iNewD, iParts, iSetF, pSeq, pNext, pIfS, pRet, pRetN, pAsg, pDrop, pPar, pAug, gNm, gTupP, gConsP, gNilP, pVar, pC, pBin, pChain, pUn, kNeg, pTst, pAndT, pOrT, pNotT, pAndV, pOrV, pNotV, pIf, pCons, pNil, pTup, pLst, pStar, pCallB, pCall, pMeth, pProp, pFld, pFrz, pIL, pIT, pZip, pEnum, pR1, pR2, pSlL, pPart, pNoPart, pLc, pLc2, pDc, pSortSc, pFor, pNewL, pNewD, pApp, pExt, pDPut, pSetL, pOwnD, pIsN, pNotN, pListVals, pIVals, pIKeys, pIItems, onDic, pIStr, pDGet1, pTsYes, pParL, pParR, pCel, pCelSet, pNewCel, pNeverS, wipeP, List.set_cons_zero, List.set_cons_succ, List.getElem?_cons_zero, List.getElem?_cons_succ, List.length_cons, List.length_nil]
      refine ⟨by trivial, ?_⟩
      show (match valA (rs.map fun r => ((Sum.inr r.name : Key), r.pv)) (Sum.inr r.name) with | some r => _ | none => False)
      rw [valA_map RR.name RR.pv nd hr]
      simp only [RR.pv, pSeq, pNext, pIfS, pRet, pRetN, pAsg, pDrop, pPar, pAug, gNm, gTupP, gConsP, gNilP, pVar, pC, pBin, pChain, pUn, kNeg, pTst, pAndT, pOrT, pNotT, pAndV, pOrV, pNotV, pIf, pCons, pNil, pTup, pLst, pStar, pCallB, pCall, pMeth, pProp, pFld, pFrz, pIL, pIT, pZip, pEnum, pR1, pR2, pSlL, pPart, pNoPart, pLc, pLc2, pDc, pSortSc, pFor, pNewL, pNewD, pApp, pExt, pDPut, pSetL, pOwnD, pIsN, pNotN, pListVals, pIVals, pIKeys, pIItems, onDic, pIStr, pDGet1, pTsYes, pParL, pParR, pCel, pCelSet, pNewCel, pNeverS, wipeP, List.set_cons_zero, List.set_cons_succ, List.getElem?_cons_zero, List.getElem?_cons_succ, List.length_cons, List.length_nil]
      refine ⟨by trivial, by trivial, ?_⟩
      have p20 := or'.p.hi
      refine lcL_map RP.pv (fun x => pcPV (x.t, x.s)) r.ps (fun y hy T t => ?_) (size_le (by omega)) ?_
      · have oy := or'.p.ok y hy
        simp only [te_Race_init_2, RP.pv, pSeq, pNext, pIfS, pRet, pRetN, pAsg, pDrop, pPar, pAug, gNm, gTupP, gConsP, gNilP, pVar, pC, pBin, pChain, pUn, kNeg, pTst, pAndT, pOrT, pNotT, pAndV, pOrV, pNotV, pIf, pCons, pNil, pTup, pLst, pStar, pCallB, pCall, pMeth, pProp, pFld, pFrz, pIL, pIT, pZip, pEnum, pR1, pR2, pSlL, pPart, pNoPart, pLc, pLc2, pDc, pSortSc, pFor, pNewL, pNewD, pApp, pExt, pDPut, pSetL, pOwnD, pIsN, pNotN, pListVals, pIVals, pIKeys, pIItems, onDic, pIStr, pDGet1, pTsYes, pParL, pParR, pCel, pCelSet, pNewCel, pNeverS, wipeP, List.set_cons_zero, List.set_cons_succ, List.getElem?_cons_zero, List.getElem?_cons_succ, List.length_cons, List.length_nil]
        exact ⟨by trivial, _, y.t, rfl, oy.t, _, y.s, rfl, oy.s, size_le (by decide), t⟩
      · refine ⟨by trivial, _, rfl, _, _, r.s, len, rfl, or'.s, hl, l0, by have := or'.z; omega, size_le (by decide), ?_⟩
        simp only [keyP]
        have ln : done.length ≤ 12 := by
          have := congrArg List.length hd
          simp at this
          omega
        refine ⟨Nat.lt_of_lt_of_le (by rw [List.length_map]; omega) (size_le (n := 13) (by decide)), hN _ _ _ ⟨done ++ [r], by rw [List.append_assoc]; exact hd, rfl, ?_, _, _, _, _, _, _, _, rfl⟩⟩
        rw [putA_new, List.map_append]
        · simp only [List.map_cons, List.map_nil, RR.norm, Rn.pv, List.map_map]
          rfl
        · intro p hp
          obtain ⟨q, hq1, rfl⟩ := List.mem_map.mp hp
          have : q.name ≠ r.name := by
            rw [← hd, List.pairwise_append] at nd'
            exact nd'.2.2 q hq1 r (List.mem_cons_self ..)
          simpa using this
    · rintro ρ fs dd ⟨done, hd, rfl, rfl, s3, s4, s5, s6, s7, s8, s9, rfl⟩
      rw [List.append_nil] at hd
      subst hd
      refine ⟨_, rat len, rfl, by rfl, by rfl, by decide, by simp, by trivial, ?_⟩
      have e : RaceM.dic ⟨len, done.map (RR.norm len)⟩ = done.map fun r => (Sum.inr r.name, (RR.norm len r).pv) := by
        unfold RaceM.dic
        rw [List.map_map]
        rfl
      unfold RaceM.pv RaceM.fs at hf
      rw [e] at hf
      exact hf
end G


/-! ## MA -/
/-! Plain: ways, remainders. -/
namespace G
open PySem PySem.Spec PyProof.Rows L2 L3 MR
theorem walk_last {b s : Rat} {t f : Rat} : walkP [(b, s)] t f = if b < t then f + s * (t - b) else f := rfl
theorem walk_more {b s b' s' : Rat} {r : List (Rat × Rat)} {t f : Rat} : walkP ((b, s) :: (b', s') :: r) t f = walkP ((b', s') :: r) t (if b < (if b' < t then b' else t) then f + s * ((if b' < t then b' else t) - b) else f) := rfl
theorem sz_step {f s e b : Rat} {F B T : Nat} (hf : sz f ≤ F) (hs : sz s ≤ B) (he : sz e ≤ T) (hb : sz b ≤ B) : sz (f + s * (e - b)) ≤ F + (2 * B + T + 2) := by
  have h1 := sz_sub e b
  have h2 := sz_mul s (e - b)
  have h3 := sz_add f (s * (e - b))
  omega
theorem walk_sz {B : Nat} : ∀ (ps : List (Rat × Rat)) (t f : Rat), (∀ x ∈ ps, sz x.1 ≤ B ∧ sz x.2 ≤ B) → sz (walkP ps t f) ≤ sz f + ps.length * (3 * B + sz t + 4)
  | [], t, f, _ => by simp [walkP]
  | [(b, s)], t, f, h => by
    have := h (b, s) (List.mem_cons_self ..)
    have h1 : sz b ≤ B := this.1
    have h2 : sz s ≤ B := this.2
    rw [walk_last]
    split
    · have := sz_step (F := sz f) (B := B) (T := sz t) (f := f) (s := s) (e := t) (b := b) (by omega) h2 (by omega) h1
      simp; omega
    · simp
  | (b, s) :: (b', s') :: r, t, f, h => by
    have h0 := h (b, s) (List.mem_cons_self ..)
    have h1 : sz b ≤ B := h0.1
    have h2 : sz s ≤ B := h0.2
    have h0' := h (b', s') (by simp)
    have h1' : sz b' ≤ B := h0'.1
    rw [walk_more]
    have ih := walk_sz ((b', s') :: r) t (if b < (if b' < t then b' else t) then f + s * ((if b' < t then b' else t) - b) else f) (fun x hx => h x (List.mem_cons_of_mem _ hx))
    have he : sz (if b' < t then b' else t) ≤ B + sz t := by split <;> omega
    generalize (if b' < t then b' else t) = e at *
    have hz : sz (if b < e then f + s * (e - b) else f) ≤ sz f + (3 * B + sz t + 4) := by
      split
      · have := sz_step (F := sz f) (f := f) (s := s) (b := b) (by omega) h2 he h1
        omega
      · omega
    have el : ((b, s) :: (b', s') :: r).length * (3 * B + sz t + 4) = ((b', s') :: r).length * (3 * B + sz t + 4) + (3 * B + sz t + 4) := by
      rw [List.length_cons (a := (b, s)), Nat.add_mul, Nat.one_mul]
    omega
theorem walk_after : ∀ (ps : List (Rat × Rat)) (t f : Rat), (∀ p ∈ ps, t ≤ p.1) → walkP ps t f = f
  | [], t, f, _ => rfl
  | [(b, s)], t, f, h => by
    have : t ≤ b := h (b, s) (List.mem_cons_self ..)
    rw [walk_last, if_neg (by grind)]
  | (b, s) :: (b', s') :: r, t, f, h => by
    have h1 : t ≤ b := h (b, s) (List.mem_cons_self ..)
    have h2 : t ≤ b' := h (b', s') (by simp)
    rw [walk_more, if_neg (show ¬ b' < t by grind), if_neg (show ¬ b < t by grind)]
    exact walk_after _ t f fun p hp => h p (List.mem_cons_of_mem _ hp)
theorem speed_after : ∀ (ps : List (Rat × Rat)) (t d : Rat), (∀ p ∈ ps, t < p.1) → speedP ps t d = d
  | [], t, d, _ => rfl
  | (b, s) :: r, t, d, h => by
    have h1 : t < b := h (b, s) (List.mem_cons_self ..)
    unfold speedP
    rw [if_neg (by grind)]
    exact speed_after r t d fun p hp => h p (List.mem_cons_of_mem _ hp)
theorem walk_line : ∀ (ps : List (Rat × Rat)) (b s : Rat) (x y f d : Rat), ((b, s) :: ps).Pairwise (·.1 < ·.1) → b ≤ x → x ≤ y → (∀ p ∈ ps, ¬ (x < p.1 ∧ p.1 < y)) → walkP ((b, s) :: ps) y f = walkP ((b, s) :: ps) x f + speedP ((b, s) :: ps) x d * (y - x)
  | [], b, s, x, y, f, d, _, hb, hxy, _ => by
    rw [walk_last, walk_last]
    unfold speedP speedP
    rw [if_pos hb]
    split <;> split <;> grind
  | (b', s') :: r, b, s, x, y, f, d, up, hb, hxy, hc => by
    obtain ⟨u1, u2⟩ := List.pairwise_cons.mp up
    have hbb : b < b' := u1 (b', s') (List.mem_cons_self ..)
    rw [walk_more, walk_more]
    by_cases h : b' ≤ x
    · have e1 : (if b' < y then b' else y) = b' := by split <;> grind
      have e2 : (if b' < x then b' else x) = b' := by split <;> grind
      rw [e1, e2]
      have ih := walk_line r b' s' x y (if b < b' then f + s * (b' - b) else f) (if b ≤ x then s else d) u2 h hxy fun p hp => hc p (List.mem_cons_of_mem _ hp)
      exact ih
    · have hy : y ≤ b' := by
        have := hc (b', s') (List.mem_cons_self ..)
        grind
      have hr : ∀ p ∈ (b', s') :: r, b' ≤ p.1 := fun p hp => by
        rcases List.mem_cons.mp hp with rfl | hp
        · exact Rat.le_refl
        · have := (List.pairwise_cons.mp u2).1 p hp
          grind
      rw [if_neg (show ¬ b' < y by grind), if_neg (show ¬ b' < x by grind)]
      rw [walk_after _ y _ fun p hp => by have := hr p hp; grind, walk_after _ x _ fun p hp => by have := hr p hp; grind]
      have es : speedP ((b, s) :: (b', s') :: r) x d = s := by
        show speedP ((b', s') :: r) x (if b ≤ x then s else d) = s
        rw [if_pos hb]
        exact speed_after _ _ _ fun p hp => by have := hr p hp; grind
      rw [es]
      split <;> split <;> grind
theorem Rn.line {r : Rn} (ok : r.Ok) {x y : Rat} (hx : 0 ≤ x) (hxy : x ≤ y) (hc : ∀ p ∈ r.pieces, ¬ (x < p.1 ∧ p.1 < y)) : r.pos y = r.pos x + r.speed x * (y - x) := by
  obtain ⟨⟨b, s⟩, q, e, z⟩ := ok.hd
  have z : b = 0 := z
  unfold Rn.pos Rn.speed
  have up := ok.up
  rw [e] at up hc ⊢
  exact walk_line q b s x y r.start 0 up (by rw [z]; exact hx) hxy fun p hp => hc p (List.mem_cons_of_mem _ hp)
/-! remainders -/
theorem floor_iff {q : Rat} {n : Int} : q.floor = n ↔ (n : Rat) ≤ q ∧ q < (n : Rat) + 1 := by
  have h1 := Rat.floor_le q
  have h2 := Rat.lt_floor_add_one q
  rw [Rat.intCast_add] at h2
  constructor
  · rintro rfl
    exact ⟨h1, h2⟩
  · rintro ⟨h3, h4⟩
    have h5 : n ≤ q.floor := Rat.le_floor_iff.mpr h3
    have h6 : ¬ n + 1 ≤ q.floor := fun z => by
      have := Rat.le_floor_iff.mp z
      rw [Rat.intCast_add] at this
      grind
    omega
theorem rem_nonneg {a b : Rat} (hb : 0 < b) : 0 ≤ rem a b := by
  unfold rem
  have h1 := Rat.floor_le (a / b)
  have h2 := Rat.mul_le_mul_of_nonneg_left h1 (Rat.le_of_lt hb)
  have h3 : b * (a / b) = a := by rw [Rat.mul_comm]; exact Rat.div_mul_cancel (by grind)
  grind
theorem rem_lt {a b : Rat} (hb : 0 < b) : rem a b < b := by
  unfold rem
  have h1 := Rat.lt_floor_add_one (a / b)
  rw [Rat.intCast_add] at h1
  have h2 := Rat.mul_lt_mul_of_pos_right h1 hb
  have h3 : (a / b) * b = a := Rat.div_mul_cancel (by grind)
  rw [h3, Rat.add_mul] at h2
  rw [Rat.mul_comm b]
  have : ((1 : Int) : Rat) * b = b := by rw [show ((1 : Int) : Rat) = 1 from rfl, Rat.one_mul]
  grind
theorem int_divInt (n : Int) : (n : Rat) = Rat.divInt n 1 := by rw [Rat.divInt_eq_div]; simp [Rat.div_def]; grind
theorem sub_mul_gen {p d q e : Int} (n : Int) (hd : d ≠ 0) (he : e ≠ 0) : Rat.divInt p d - Rat.divInt q e * (n : Rat) = Rat.divInt (p * e - (q * n) * d) (d * e) := by
  rw [int_divInt n, Rat.divInt_mul_divInt, Int.mul_one, Rat.divInt_sub_divInt _ _ hd he]
theorem mul_back {q d e : Int} (he : e ≠ 0) : Rat.divInt q e * ((d * e : Int) : Rat) = ((q * d : Int) : Rat) := by
  have he' : ((e : Int) : Rat) ≠ 0 := by exact_mod_cast he
  rw [Rat.divInt_eq_div, Rat.intCast_mul, Rat.intCast_mul, Rat.mul_comm (d : Rat), ← Rat.mul_assoc, Rat.div_mul_cancel he']
theorem rem_sz (a : Rat) {b : Rat} (hb : 0 < b) : sz (rem a b) ≤ sz a + sz b := by
  have h0 := rem_nonneg (a := a) hb
  have h1 := rem_lt (a := a) hb
  have e : rem a b = Rat.divInt (a.num * b.den - (b.num * (a / b).floor) * a.den) (a.den * b.den) := by
    unfold rem
    have := sub_mul_gen (p := a.num) (q := b.num) (a / b).floor (denI a) (denI b)
    rw [Rat.num_divInt_den, Rat.num_divInt_den] at this
    exact this
  generalize hN : a.num * b.den - (b.num * (a / b).floor) * a.den = N at e
  have dp : (0 : Int) < (a.den : Int) * (b.den : Int) := by
    have := a.den_pos; have := b.den_pos
    exact Int.mul_pos (by omega) (by omega)
  have dq : (0 : Rat) < (((a.den : Int) * (b.den : Int) : Int) : Rat) := by exact_mod_cast dp
  rw [e, Rat.divInt_eq_div] at h0 h1
  have n0 : 0 ≤ N := by
    rcases Int.lt_or_le N 0 with c | c
    · have : ((N : Rat)) / (((a.den : Int) * (b.den : Int) : Int) : Rat) < 0 := by
        rw [Rat.div_lt_iff dq, Rat.zero_mul]
        exact_mod_cast c
      grind
    · exact c
  have n1 : N < b.num * a.den := by
    rw [Rat.div_lt_iff dq] at h1
    have e2 : b * (((a.den : Int) * (b.den : Int) : Int) : Rat) = ((b.num * a.den : Int) : Rat) := by
      have := mul_back (q := b.num) (d := a.den) (denI b)
      rw [Rat.num_divInt_den] at this
      exact this
    rw [e2] at h1
    exact_mod_cast h1
  rw [e]
  refine sz_divInt (by have := sz_pos a; omega) (by omega) ?_ (dd_lt a b)
  have h3 := nd_lt b a
  rw [Nat.add_comm] at h3
  have h4 : N.natAbs < (b.num * (a.den : Int)).natAbs := by omega
  rw [Int.natAbs_mul, Int.natAbs_natCast] at h4
  have h5 : b.num.natAbs * a.den < 2 ^ (sz b + sz a) := lt_mul (num_lt b) (den_lt a)
  rw [Nat.add_comm] at h5
  omega
theorem rem_unique {a b r : Rat} {n : Int} (hb : 0 < b) (h0 : 0 ≤ r) (h1 : r < b) (e : a = r + b * (n : Rat)) : rem a b = r := by
  have b0 : b ≠ 0 := by grind
  have hf : (a / b).floor = n := by
    rw [floor_iff]
    have e2 : a / b = r / b + n := by
      rw [e, Rat.div_def, Rat.add_mul, ← Rat.div_def]
      congr 1
      rw [Rat.mul_comm b, Rat.mul_assoc, Rat.mul_inv_cancel b b0, Rat.mul_one]
    have p1 : 0 ≤ r / b := by
      rw [Rat.div_def]; exact Rat.mul_nonneg h0 (Rat.le_of_lt (Rat.inv_pos.mpr hb))
    have p2 : r / b < 1 := (Rat.div_lt_iff hb).mpr (by rw [Rat.one_mul]; exact h1)
    rw [e2]
    constructor <;> grind
  unfold rem
  rw [hf, e]
  grind
theorem rem_self {a b : Rat} (h0 : 0 ≤ a) (h1 : a < b) : rem a b = a := rem_unique (n := 0) (by grind) h0 h1 (by rw [show ((0 : Int) : Rat) = 0 from rfl, Rat.mul_zero, Rat.add_zero])
theorem rem_eq (a b : Rat) : a = rem a b + b * ((a / b).floor : Rat) := by unfold rem; grind
theorem rem_zero {a b : Rat} (hb : 0 < b) (h : rem a b = 0) : a / b = ((a / b).floor : Rat) := by
  have h1 := rem_eq a b
  rw [h, Rat.zero_add] at h1
  have b0 : b ≠ 0 := by grind
  have h2 : a / b = (b * ((a / b).floor : Rat)) / b := by rw [← h1]
  rw [Rat.mul_comm, Rat.mul_div_cancel b0] at h2
  exact h2
theorem rem_zero_of {a b : Rat} {n : Int} (hb : 0 < b) (h : a / b = (n : Rat)) : rem a b = 0 := by
  have b0 : b ≠ 0 := by grind
  refine rem_unique (n := n) hb (Rat.le_refl) hb ?_
  rw [← h, Rat.zero_add, Rat.mul_comm]
  exact (Rat.div_mul_cancel b0).symm
theorem floor_neg {q : Rat} (h : q ≠ (q.floor : Rat)) : (-q).floor = -q.floor - 1 := by
  rw [floor_iff]
  have h1 := Rat.floor_le q
  have h2 := Rat.lt_floor_add_one q
  rw [Rat.intCast_add] at h2
  rw [Rat.intCast_sub, Rat.intCast_neg]
  have h3 : (q.floor : Rat) < q := by grind
  have e1 : ((1 : Int) : Rat) = 1 := rfl
  rw [e1] at *
  constructor <;> grind
end G


/-! ## HA3 -/
/-! Positions. -/
namespace G
open PySem PySem.Spec PyProof.Rows L2 L3 MR
theorem cmp_lt {a b : Rat} : decide (cmpI a b < 0) = decide (a < b) := by
  unfold cmpI
  by_cases h : a < b
  · simp [h]
  · by_cases h2 : b < a <;> simp [h, h2]
theorem cmp_le {a b : Rat} : decide (cmpI a b ≤ 0) = decide (a ≤ b) := by
  unfold cmpI
  by_cases h : a < b
  · have : a ≤ b := by grind
    simp [h, this]
  · by_cases h2 : b < a
    · have : ¬ a ≤ b := by grind
      simp [h, h2, this]
    · have : a ≤ b := by grind
      simp [h, h2, this]
theorem cmp_gt {a b : Rat} : decide (0 < cmpI a b) = decide (b < a) := by
  unfold cmpI
  by_cases h : a < b
  · have : ¬ b < a := by grind
    simp [h, this]
  · by_cases h2 : b < a <;> simp [h, h2]
theorem cmp_ge {a b : Rat} : decide (0 ≤ cmpI a b) = decide (b ≤ a) := by
  unfold cmpI
  by_cases h : a < b
  · have : ¬ b ≤ a := by grind
    simp [h, this]
  · have : b ≤ a := by grind
    by_cases h2 : b < a <;> simp [h, h2, this]
theorem enumP_map {α : Type} (f : α → PV) (l : List α) : enumP (l.map f) = l.zipIdx.map fun p => PV.tup [.int (p.2 : Nat), f p.1] := by
  unfold enumP
  rw [List.zipIdx_map, List.map_map]
  rfl
theorem drop_zip {α : Type} {l : List α} {k : Nat} {x : α × Nat} {rest : List (α × Nat)} (h : x :: rest = l.zipIdx.drop k) : ∃ hk : k < l.length, x = (l[k], k) ∧ rest = l.zipIdx.drop (k + 1) ∧ l.drop k = l[k] :: l.drop (k + 1) := by
  have hk : k < l.length := by
    rcases Nat.lt_or_ge k l.length with c | c
    · exact c
    · rw [List.drop_of_length_le (by simpa using c)] at h; cases h
  have hz : k < l.zipIdx.length := by simpa using hk
  rw [List.drop_eq_getElem_cons hz] at h
  injection h with h1 h2
  refine ⟨hk, ?_, h2, List.drop_eq_getElem_cons hk⟩
  rw [h1, List.getElem_zipIdx]
  simp
theorem P0_eq : P0 = 640 := rfl
/-- the way up to a piece's begin -/
theorem walk_at : ∀ (ps : List (Rat × Rat)) (b s f : Rat), ((b, s) :: ps).Pairwise (·.1 < ·.1) → walkP ((b, s) :: ps) b f = f := fun ps b s f up => by
  refine walk_after _ _ _ fun p hp => ?_
  rcases List.mem_cons.mp hp with rfl | hp
  · exact Rat.le_refl
  · exact Rat.le_of_lt ((List.pairwise_cons.mp up).1 p hp)
theorem hp_Race_position : ∀ as Q, Ph_Race_position as Q → as.length = 3 ∧ t_Race_position ⟨fun _ => Q .non, Q, fun _ => False, fun _ => False⟩ (startP N_Race_position as) := by
  rintro as Q ⟨R, r, v, t, rfl, g, hr, hv, at', hq⟩
  refine ⟨rfl, ?_⟩
  simp only [st_Race_position, t_Race_position, RaceM.pv, pSeq, pNext, pIfS, pRet, pRetN, pAsg, pDrop, pPar, pAug, gNm, gTupP, gConsP, gNilP, pVar, pC, pBin, pChain, pUn, kNeg, pTst, pAndT, pOrT, pNotT, pAndV, pOrV, pNotV, pIf, pCons, pNil, pTup, pLst, pStar, pCallB, pCall, pMeth, pProp, pFld, pFrz, pIL, pIT, pZip, pEnum, pR1, pR2, pSlL, pPart, pNoPart, pLc, pLc2, pDc, pSortSc, pFor, pNewL, pNewD, pApp, pExt, pDPut, pSetL, pOwnD, pIsN, pNotN, pListVals, pIVals, pIKeys, pIItems, onDic, pIStr, pDGet1, pTsYes, pParL, pParR, pCel, pCelSet, pNewCel, pNeverS, wipeP, List.set_cons_zero, List.set_cons_succ, List.getElem?_cons_zero, List.getElem?_cons_succ, List.length_cons, List.length_nil]
  have or' := g.ok.rn r hr
  have p20 := or'.hi
  have tz := at'.z
  have pe := P0_eq
  have sp := g.sp r hr
  have ch := g.ch r hr
  refine ⟨by trivial, by rfl, R, r, rfl, g.ok, hr, ?_⟩
  simp only [Rn.pv, pSeq, pNext, pIfS, pRet, pRetN, pAsg, pDrop, pPar, pAug, gNm, gTupP, gConsP, gNilP, pVar, pC, pBin, pChain, pUn, kNeg, pTst, pAndT, pOrT, pNotT, pAndV, pOrV, pNotV, pIf, pCons, pNil, pTup, pLst, pStar, pCallB, pCall, pMeth, pProp, pFld, pFrz, pIL, pIT, pZip, pEnum, pR1, pR2, pSlL, pPart, pNoPart, pLc, pLc2, pDc, pSortSc, pFor, pNewL, pNewD, pApp, pExt, pDPut, pSetL, pOwnD, pIsN, pNotN, pListVals, pIVals, pIKeys, pIItems, onDic, pIStr, pDGet1, pTsYes, pParL, pParR, pCel, pCelSet, pNewCel, pNeverS, wipeP, List.set_cons_zero, List.set_cons_succ, List.getElem?_cons_zero, List.getElem?_cons_succ, List.length_cons, List.length_nil]
  refine ⟨by trivial, v, t, rfl, hv, at'.t0, by omega, ?_⟩
  rw [enumP_map]
  refine forL_of (fun p : (Rat × Rat) × Nat => PV.tup [.int (p.2 : Nat), pcPV p.1]) (fun rest ρ => ∃ (k : Nat) (f : Rat) (s7 s8 s9 s10 : Slt), k ≤ r.pieces.length ∧ rest = r.pieces.zipIdx.drop k ∧ sz f ≤ P0 ∧ walkP (r.pieces.drop k) t f = r.pos t ∧
      (∀ (h : k < r.pieces.length), r.pieces[k].1 ≤ t → ∀ t', r.pieces[k].1 ≤ t' → walkP (r.pieces.drop k) t' f = r.pos t') ∧
      ρ = [.val (.obj "Race" R.fs), .val (.str r.name), .val v, .val (rat r.start), .val (.lst (r.pieces.map pcPV)), .val (rat t), .val (rat f), s7, s8, s9, s10]) ?_ ?_ r.pieces.zipIdx _ ⟨0, r.start, _, _, _, _, Nat.zero_le _, rfl, g.st r hr, rfl, fun _ _ _ _ => rfl, rfl⟩
  · rintro x rest ρ ⟨k, f, s7, s8, s9, s10, hk, hd, hf, hw, ha, rfl⟩ N hN
    obtain ⟨hk', rfl, hrest, hdrop⟩ := drop_zip hd
    have ha := ha hk'
    have up2 : (r.pieces.drop k).Pairwise (·.1 < ·.1) := or'.up.sublist (List.drop_sublist _ _)
    obtain ⟨⟨b, s⟩, hp⟩ : ∃ x, r.pieces[k] = x := ⟨_, rfl⟩
    rw [hp] at hdrop ha
    have ha : b ≤ t → ∀ t', b ≤ t' → walkP (r.pieces.drop k) t' f = r.pos t' := ha
    have bp1 : R.At b := by have := ch r.pieces[k] (List.getElem_mem _); rw [hp] at this; exact this
    have bp2 : sz s ≤ P0 := by have := sp r.pieces[k] (List.getElem_mem _); rw [hp] at this; exact this
    have bz := bp1.z
    -- the piece's own end
    have fin : ∀ e : Rat, sz e ≤ P0 → (∀ f', f' = (if b < e then f + s * (e - b) else f) → sz f' ≤ P0 ∧ walkP (r.pieces.drop (k + 1)) t f' = r.pos t ∧
        (∀ (h : k + 1 < r.pieces.length), r.pieces[k + 1].1 ≤ t → ∀ t', r.pieces[k + 1].1 ≤ t' → walkP (r.pieces.drop (k + 1)) t' f' = r.pos t')) → ∀ s8 : Slt,
        Ph_compare [rat b, rat e] fun q => kLtI q (.int 0) fun q => match q with
          | .bl c => match c with
            | true => Ph_minus [rat e, rat b] fun p => Ph_times [rat s, p] fun q => Ph_plus [rat f, q] fun q => N [.val (.obj "Race" R.fs), .val (.str r.name), .val v, .val (rat r.start), .val (.lst (r.pieces.map pcPV)), .val (rat t), .val q, .val (.int (k : Nat)), .val (rat e), .val (rat b), .val (rat s)]
            | false => N [.val (.obj "Race" R.fs), .val (.str r.name), .val v, .val (rat r.start), .val (.lst (r.pieces.map pcPV)), .val (rat t), .val (rat f), .val (.int (k : Nat)), .val (rat e), .val (rat b), .val (rat s)]
          | _ => False := by
      intro e he hwe s8
      obtain ⟨w1, w2, w3⟩ := hwe _ rfl
      refine ⟨_, _, b, e, rfl, .rat b, .rat e, by omega, ?_⟩
      simp only [kI0_int, cmp_lt]
      by_cases hbe : b < e
      · simp only [decide_eq_true hbe]
        rw [if_pos hbe] at w1 w2 w3
        have z1 := sz_sub e b
        have z2 := sz_mul s (e - b)
        exact ⟨_, _, e, b, rfl, .rat e, .rat b, by omega, _, _, s, _, rfl, .rat s, .rat _, by omega, _, _, f, _, rfl, .rat f, .rat _, by omega,
          hN _ ⟨k + 1, _, _, _, _, _, hk', hrest, w1, w2, w3, rfl⟩⟩
      · simp only [decide_eq_false hbe]
        rw [if_neg hbe] at w1 w2 w3
        exact hN _ ⟨k + 1, f, _, _, _, _, hk', hrest, w1, w2, w3, rfl⟩
    have lm : (r.pieces.map pcPV).length = r.pieces.length := List.length_map _
    simp only [pcPV, hp, tb_Race_position_1, pSeq, pNext, pIfS, pRet, pRetN, pAsg, pDrop, pPar, pAug, gNm, gTupP, gConsP, gNilP, pVar, pC, pBin, pChain, pUn, kNeg, pTst, pAndT, pOrT, pNotT, pAndV, pOrV, pNotV, pIf, pCons, pNil, pTup, pLst, pStar, pCallB, pCall, pMeth, pProp, pFld, pFrz, pIL, pIT, pZip, pEnum, pR1, pR2, pSlL, pPart, pNoPart, pLc, pLc2, pDc, pSortSc, pFor, pNewL, pNewD, pApp, pExt, pDPut, pSetL, pOwnD, pIsN, pNotN, pListVals, pIVals, pIKeys, pIItems, onDic, pIStr, pDGet1, pTsYes, pParL, pParR, pCel, pCelSet, pNewCel, pNeverS, wipeP, List.set_cons_zero, List.set_cons_succ, List.getElem?_cons_zero, List.getElem?_cons_succ, List.length_cons, List.length_nil, kLen_lst, kI0_int, lm]
    refine ⟨by trivial, by trivial, ?_⟩
    by_cases hl : k + 1 < r.pieces.length
    · have c1 : ((k : Nat) : Int) + 1 < (r.pieces.length : Nat) := by omega
      simp only [decide_eq_true c1, pSeq, pNext, pIfS, pRet, pRetN, pAsg, pDrop, pPar, pAug, gNm, gTupP, gConsP, gNilP, pVar, pC, pBin, pChain, pUn, kNeg, pTst, pAndT, pOrT, pNotT, pAndV, pOrV, pNotV, pIf, pCons, pNil, pTup, pLst, pStar, pCallB, pCall, pMeth, pProp, pFld, pFrz, pIL, pIT, pZip, pEnum, pR1, pR2, pSlL, pPart, pNoPart, pLc, pLc2, pDc, pSortSc, pFor, pNewL, pNewD, pApp, pExt, pDPut, pSetL, pOwnD, pIsN, pNotN, pListVals, pIVals, pIKeys, pIItems, onDic, pIStr, pDGet1, pTsYes, pParL, pParR, pCel, pCelSet, pNewCel, pNeverS, wipeP, List.set_cons_zero, List.set_cons_succ, List.getElem?_cons_zero, List.getElem?_cons_succ, List.length_cons, List.length_nil, kI0_int]
      have a2 : k + 1 < (r.pieces.map pcPV).length := by omega
      obtain ⟨⟨b', s'⟩, hp'⟩ : ∃ x, r.pieces[k + 1] = x := ⟨_, rfl⟩
      have bp1' : R.At b' := by have := ch r.pieces[k + 1] (List.getElem_mem _); rw [hp'] at this; exact this
      have bz' := bp1'.z
      have g1 : ∀ Q : PV → Prop, kIx (.lst (r.pieces.map pcPV)) (.int ((k : Nat) + 1)) Q = Q (.tup [rat b', rat s']) := fun Q => by
        rw [kIx_nat (i := k + 1) (by omega) a2, List.getElem_map, hp']
        rfl
      have hd2 : r.pieces.drop (k + 1) = (b', s') :: r.pieces.drop (k + 2) := by
        rw [← hp']; exact List.drop_eq_getElem_cons hl
      rw [hdrop, hd2] at up2
      obtain ⟨u1, u2⟩ := List.pairwise_cons.mp up2
      have bb : b < b' := u1 (b', s') (List.mem_cons_self ..)
      have aft : ∀ p ∈ r.pieces.drop (k + 1), b' ≤ p.1 := fun p hp => by
        rw [hd2] at hp
        rcases List.mem_cons.mp hp with rfl | hp
        · exact Rat.le_refl
        · exact Rat.le_of_lt ((List.pairwise_cons.mp u2).1 p hp)
      simp only [g1, kIx_2a]
      refine ⟨_, _, b', t, rfl, .rat b', .rat t, by omega, ?_⟩
      rw [hdrop, hd2] at ha
      rw [hdrop, hd2, walk_more, ← hd2] at hw
      simp only [kI0_int, cmp_lt]
      -- up to the next begin
      have nxt : b' ≤ t → ∀ f', f' = (if b < b' then f + s * (b' - b) else f) → sz f' ≤ P0 ∧ walkP (r.pieces.drop (k + 1)) t f' = r.pos t ∧
        (∀ (h : k + 1 < r.pieces.length), r.pieces[k + 1].1 ≤ t → ∀ t', r.pieces[k + 1].1 ≤ t' → walkP (r.pieces.drop (k + 1)) t' f' = r.pos t') := fun hbt f' ef => by
        have all : ∀ t', b' ≤ t' → walkP (r.pieces.drop (k + 1)) t' f' = r.pos t' := fun t' h' => by
          have := ha (by grind) t' (by grind)
          rw [walk_more, ← hd2] at this
          have e1 : (if b' < t' then b' else t') = b' := by split <;> grind
          rw [e1, ← ef] at this
          exact this
        refine ⟨?_, all t hbt, fun _ _ t' h' => all t' (by rw [hp'] at h'; exact h')⟩
        have h2 := all b' Rat.le_refl
        rw [walk_after _ _ _ aft] at h2
        rw [h2]
        exact bp1'.p r hr
      by_cases h1 : b' < t
      · simp only [decide_eq_true h1, g1, kIx_2a]
        exact fin b' (by omega) (nxt (Rat.le_of_lt h1)) .no
      · simp only [decide_eq_false h1]
        by_cases h2 : b' = t
        · subst h2
          exact fin b' (by omega) (nxt Rat.le_refl) .no
        · refine fin t (by omega) (fun f' ef => ?_) .no
          rw [if_neg h1, ← ef] at hw
          refine ⟨?_, hw, fun _ h' => by rw [hp'] at h'; have h' : b' ≤ t := h'; grind⟩
          rw [walk_after _ _ _ fun p hp => by have := aft p hp; grind] at hw
          rw [hw]
          exact at'.p r hr
    · have c1 : ¬ (((k : Nat) : Int) + 1 < (r.pieces.length : Nat)) := by omega
      simp only [decide_eq_false c1]
      have hd2 : r.pieces.drop (k + 1) = [] := List.drop_of_length_le (by omega)
      rw [hdrop, hd2, walk_last] at hw
      refine fin t (by omega) (fun f' ef => ?_) .no
      rw [← ef] at hw
      rw [hd2]
      exact ⟨by rw [hw]; exact at'.p r hr, hw, fun h => absurd h hl⟩
  · rintro ρ ⟨k, f, s7, s8, s9, s10, hk, hd, hf, hw, ha, rfl⟩
    have hkl : k = r.pieces.length := by
      have := congrArg List.length hd
      simp at this
      omega
    subst hkl
    rw [List.drop_length] at hw
    simp only [pSeq, pNext, pIfS, pRet, pRetN, pAsg, pDrop, pPar, pAug, gNm, gTupP, gConsP, gNilP, pVar, pC, pBin, pChain, pUn, kNeg, pTst, pAndT, pOrT, pNotT, pAndV, pOrV, pNotV, pIf, pCons, pNil, pTup, pLst, pStar, pCallB, pCall, pMeth, pProp, pFld, pFrz, pIL, pIT, pZip, pEnum, pR1, pR2, pSlL, pPart, pNoPart, pLc, pLc2, pDc, pSortSc, pFor, pNewL, pNewD, pApp, pExt, pDPut, pSetL, pOwnD, pIsN, pNotN, pListVals, pIVals, pIKeys, pIItems, onDic, pIStr, pDGet1, pTsYes, pParL, pParR, pCel, pCelSet, pNewCel, pNeverS, wipeP, List.set_cons_zero, List.set_cons_succ, List.getElem?_cons_zero, List.getElem?_cons_succ, List.length_cons, List.length_nil]
    have : f = r.pos t := hw
    rw [this]
    exact hq
end G


/-! ## HA4 -/
/-! Places, speeds, windows, cuts. -/
namespace G
open PySem PySem.Spec PyProof.Rows L2 L3 MR
theorem hp_Race_place : ∀ as Q, Ph_Race_place as Q → as.length = 3 ∧ t_Race_place ⟨fun _ => Q .non, Q, fun _ => False, fun _ => False⟩ (startP N_Race_place as) := by
  rintro as Q ⟨R, r, v, t, rfl, g, hr, hv, a, hq⟩
  refine ⟨rfl, ?_⟩
  simp only [st_Race_place, t_Race_place, RaceM.pv, pSeq, pNext, pIfS, pRet, pRetN, pAsg, pDrop, pPar, pAug, gNm, gTupP, gConsP, gNilP, pVar, pC, pBin, pChain, pUn, kNeg, pTst, pAndT, pOrT, pNotT, pAndV, pOrV, pNotV, pIf, pCons, pNil, pTup, pLst, pStar, pCallB, pCall, pMeth, pProp, pFld, pFrz, pIL, pIT, pZip, pEnum, pR1, pR2, pSlL, pPart, pNoPart, pLc, pLc2, pDc, pSortSc, pFor, pNewL, pNewD, pApp, pExt, pDPut, pSetL, pOwnD, pIsN, pNotN, pListVals, pIVals, pIKeys, pIItems, onDic, pIStr, pDGet1, pTsYes, pParL, pParR, pCel, pCelSet, pNewCel, pNeverS, wipeP, List.set_cons_zero, List.set_cons_succ, List.getElem?_cons_zero, List.getElem?_cons_succ, List.length_cons, List.length_nil]
  have h1 := a.p r hr
  have h2 := g.len
  have pe := P0_eq
  exact ⟨by trivial, by rfl, R, r, v, t, rfl, g, hr, hv, a, by trivial, R, rfl, _, _, r.pos t, R.len, rfl, .rat _, .rat _, g.ok.len, by omega, hq⟩
theorem len_ne {R : RaceM} (g : R.G) : R.len ≠ 0 := fun e => by have := g.ok.len; rw [e] at this; exact absurd this (by decide)
theorem hp_Race_laps : ∀ as Q, Ph_Race_laps as Q → as.length = 3 ∧ t_Race_laps ⟨fun _ => Q .non, Q, fun _ => False, fun _ => False⟩ (startP N_Race_laps as) := by
  rintro as Q ⟨R, r, v, t, rfl, g, hr, hv, a, hq⟩
  refine ⟨rfl, ?_⟩
  simp only [st_Race_laps, t_Race_laps, RaceM.pv, pSeq, pNext, pIfS, pRet, pRetN, pAsg, pDrop, pPar, pAug, gNm, gTupP, gConsP, gNilP, pVar, pC, pBin, pChain, pUn, kNeg, pTst, pAndT, pOrT, pNotT, pAndV, pOrV, pNotV, pIf, pCons, pNil, pTup, pLst, pStar, pCallB, pCall, pMeth, pProp, pFld, pFrz, pIL, pIT, pZip, pEnum, pR1, pR2, pSlL, pPart, pNoPart, pLc, pLc2, pDc, pSortSc, pFor, pNewL, pNewD, pApp, pExt, pDPut, pSetL, pOwnD, pIsN, pNotN, pListVals, pIVals, pIKeys, pIItems, onDic, pIStr, pDGet1, pTsYes, pParL, pParR, pCel, pCelSet, pNewCel, pNeverS, wipeP, List.set_cons_zero, List.set_cons_succ, List.getElem?_cons_zero, List.getElem?_cons_succ, List.length_cons, List.length_nil]
  have h1 := a.p r hr
  have h2 := g.len
  have pe := P0_eq
  have h4 := sz_div (r.pos t) (len_ne g)
  exact ⟨by trivial, by rfl, R, r, v, t, rfl, g, hr, hv, a, by trivial, R, rfl, _, _, r.pos t, R.len, rfl, .rat _, .rat _, len_ne g, by omega, _, _, rfl, .rat _, by omega, hq⟩
theorem hp_as_window : ∀ as Q, Ph_as_window as Q → as.length = 2 ∧ t_as_window ⟨fun _ => Q .non, Q, fun _ => False, fun _ => False⟩ (startP N_as_window as) := by
  rintro as Q ⟨v, w, a, b, rfl, hv, hw, a0, ab, za, zb, hq⟩
  refine ⟨rfl, ?_⟩
  have pe := P0_eq
  simp only [st_as_window, t_as_window, pSeq, pNext, pIfS, pRet, pRetN, pAsg, pDrop, pPar, pAug, gNm, gTupP, gConsP, gNilP, pVar, pC, pBin, pChain, pUn, kNeg, pTst, pAndT, pOrT, pNotT, pAndV, pOrV, pNotV, pIf, pCons, pNil, pTup, pLst, pStar, pCallB, pCall, pMeth, pProp, pFld, pFrz, pIL, pIT, pZip, pEnum, pR1, pR2, pSlL, pPart, pNoPart, pLc, pLc2, pDc, pSortSc, pFor, pNewL, pNewD, pApp, pExt, pDPut, pSetL, pOwnD, pIsN, pNotN, pListVals, pIVals, pIKeys, pIItems, onDic, pIStr, pDGet1, pTsYes, pParL, pParR, pCel, pCelSet, pNewCel, pNeverS, wipeP, List.set_cons_zero, List.set_cons_succ, List.getElem?_cons_zero, List.getElem?_cons_succ, List.length_cons, List.length_nil]
  refine ⟨v, a, rfl, hv, a0, by omega, w, b, rfl, hw, by grind, by omega, ?_⟩
  refine ⟨_, _, a, b, rfl, .rat a, .rat b, by omega, ?_⟩
  have : ¬ b < a := by grind
  simp only [kI0_int, cmp_gt, decide_eq_false this]
  exact ⟨size_le (by decide), hq⟩
/-- the last of the pieces that have begun -/
def begun (ps : List (Rat × Rat)) (t : Rat) : List (Rat × Rat) := ps.filter fun p => decide (p.1 ≤ t)
theorem speed_last : ∀ (ps : List (Rat × Rat)) (t d : Rat), speedP ps t d = ((begun ps t).getLast?.map (·.2)).getD d
  | [], t, d => rfl
  | (b, s) :: r, t, d => by
    unfold speedP begun
    rw [speed_last r t]
    by_cases h : b ≤ t
    · rw [List.filter_cons_of_pos (by simpa using h), if_pos h]
      unfold begun
      cases hr : r.filter fun p => decide (p.1 ≤ t) with
      | nil => rfl
      | cons x y => rw [List.getLast?_cons_cons]; cases hy : (x :: y).getLast? with
        | none => simp at hy
        | some z => rfl
    · rw [List.filter_cons_of_neg (by simpa using h), if_neg h]
      rfl
theorem hp_Race_speed : ∀ as Q, Ph_Race_speed as Q → as.length = 3 ∧ t_Race_speed ⟨fun _ => Q .non, Q, fun _ => False, fun _ => False⟩ (startP N_Race_speed as) := by
  rintro as Q ⟨R, r, v, t, rfl, g, hr, hv, t0, hz, hq⟩
  refine ⟨rfl, ?_⟩
  simp only [st_Race_speed, t_Race_speed, RaceM.pv, pSeq, pNext, pIfS, pRet, pRetN, pAsg, pDrop, pPar, pAug, gNm, gTupP, gConsP, gNilP, pVar, pC, pBin, pChain, pUn, kNeg, pTst, pAndT, pOrT, pNotT, pAndV, pOrV, pNotV, pIf, pCons, pNil, pTup, pLst, pStar, pCallB, pCall, pMeth, pProp, pFld, pFrz, pIL, pIT, pZip, pEnum, pR1, pR2, pSlL, pPart, pNoPart, pLc, pLc2, pDc, pSortSc, pFor, pNewL, pNewD, pApp, pExt, pDPut, pSetL, pOwnD, pIsN, pNotN, pListVals, pIVals, pIKeys, pIItems, onDic, pIStr, pDGet1, pTsYes, pParL, pParR, pCel, pCelSet, pNewCel, pNeverS, wipeP, List.set_cons_zero, List.set_cons_succ, List.getElem?_cons_zero, List.getElem?_cons_succ, List.length_cons, List.length_nil]
  have ok := g.ok
  have or' := ok.rn r hr
  have pe := P0_eq
  have h20 := or'.hi
  refine ⟨by trivial, by rfl, R, r, rfl, ok, hr, v, t, rfl, hv, t0, by omega, ?_⟩
  refine lcL_of pcPV (fun x => if x.1 ≤ t then some (rat x.2) else none) r.pieces [] (fun x hx T F h => ?_) (by simp; exact size_le (by omega)) ?_
  · have bx := (g.ch r hr x hx).z
    simp only [pcPV, tt_Race_speed_1, te_Race_speed_2, pSeq, pNext, pIfS, pRet, pRetN, pAsg, pDrop, pPar, pAug, gNm, gTupP, gConsP, gNilP, pVar, pC, pBin, pChain, pUn, kNeg, pTst, pAndT, pOrT, pNotT, pAndV, pOrV, pNotV, pIf, pCons, pNil, pTup, pLst, pStar, pCallB, pCall, pMeth, pProp, pFld, pFrz, pIL, pIT, pZip, pEnum, pR1, pR2, pSlL, pPart, pNoPart, pLc, pLc2, pDc, pSortSc, pFor, pNewL, pNewD, pApp, pExt, pDPut, pSetL, pOwnD, pIsN, pNotN, pListVals, pIVals, pIKeys, pIItems, onDic, pIStr, pDGet1, pTsYes, pParL, pParR, pCel, pCelSet, pNewCel, pNeverS, wipeP, List.set_cons_zero, List.set_cons_succ, List.getElem?_cons_zero, List.getElem?_cons_succ, List.length_cons, List.length_nil]
    refine ⟨by trivial, _, _, x.1, t, rfl, .rat _, .rat _, by omega, ?_⟩
    simp only [kI0_int, cmp_le]
    by_cases hb : x.1 ≤ t
    · rw [if_pos hb] at h
      rw [decide_eq_true hb]
      exact h
    · rw [if_neg hb] at h
      rw [decide_eq_false hb]
      exact h
  · have e : r.pieces.filterMap (fun x => if x.1 ≤ t then some (rat x.2) else none) = (begun r.pieces t).map fun x => rat x.2 := by
      unfold begun
      induction r.pieces with
      | nil => rfl
      | cons x l ih =>
        by_cases hb : x.1 ≤ t
        · rw [List.filterMap_cons, if_pos hb, List.filter_cons_of_pos (by simpa using hb), ih]; rfl
        · rw [List.filterMap_cons, if_neg hb, List.filter_cons_of_neg (by simpa using hb), ih]
    rw [List.nil_append, e]
    have hs := speed_last r.pieces t 0
    obtain ⟨x0, q0, e0, z0⟩ := or'.hd
    have ne : begun r.pieces t ≠ [] := by
      unfold begun
      rw [e0, List.filter_cons_of_pos (by rw [z0]; simpa using t0)]
      exact fun z => nomatch z
    generalize begun r.pieces t = L at *
    have hl : 0 < L.length := List.length_pos_iff.mpr ne
    have g : L.getLast? = some L[L.length - 1] := by
      rw [List.getLast?_eq_getElem?, List.getElem?_eq_getElem (by omega)]
    rw [g] at hs
    have at1 : atI (L.map fun x => rat x.2) (-1) = some (rat L[L.length - 1].2) := by
      unfold atI ixN
      have hi : -(((L.map fun x => rat x.2).length : Nat) : Int) ≤ -1 := by simp; omega
      rw [if_neg (by decide), if_pos hi]
      have e3 : (-1 + (((L.map fun x => rat x.2).length : Nat) : Int)).toNat = L.length - 1 := by simp; omega
      simp only [Option.bind_some, e3]
      rw [List.getElem?_map, List.getElem?_eq_getElem (by omega)]
      rfl
    simp only [kIx, at1]
    have hs' : L[L.length - 1].2 = r.speed t := hs.symm
    rw [hs']
    exact hq
/-- in_order of a short list -/
theorem prod_den : ∀ L : List (PV × Rat), ∃ C : Nat, 0 < C ∧ (∀ x ∈ L, x.2.den ∣ C) ∧ C < 2 ^ ((L.map fun x => sz x.2).sum + 1)
  | [] => ⟨1, by decide, by simp, by simp⟩
  | a :: L => by
    obtain ⟨C, h1, h2, h3⟩ := prod_den L
    refine ⟨a.2.den * C, Nat.mul_pos a.2.den_pos h1, fun x hx => ?_, ?_⟩
    · rcases List.mem_cons.mp hx with rfl | hx
      · exact Nat.dvd_mul_right _ _
      · exact Nat.dvd_trans (h2 x hx) (Nat.dvd_mul_left _ _)
    · rw [List.map_cons, List.sum_cons, Nat.add_assoc]
      exact lt_mul (den_lt a.2) h3
theorem sum_mem {L : List (PV × Rat)} {x : PV × Rat} (h : x ∈ L) : sz x.2 ≤ (L.map fun x => sz x.2).sum := by
  induction L with
  | nil => cases h
  | cons a L ih =>
    rw [List.map_cons, List.sum_cons]
    rcases List.mem_cons.mp h with rfl | h
    · omega
    · have := ih h
      omega
theorem sum_len : ∀ L : List (PV × Rat), L.length ≤ (L.map fun x => sz x.2).sum
  | [] => by simp
  | a :: L => by
    have := sum_len L
    have := sz_pos a.2
    rw [List.map_cons, List.sum_cons, List.length_cons]
    omega
theorem sz_bits {q : Rat} : bits q.den ≤ sz q := Nat.le_max_right _ _
theorem bits_mul {m n : Nat} : bits (m * n) ≤ bits m + bits n := by
  rw [bits_le (by have := bits_pos m; omega)]
  exact lt_mul (lt_bits m) (lt_bits n)
theorem bits_mono {m n : Nat} (h : m ≤ n) : bits m ≤ bits n := by
  rw [bits_le (bits_pos n)]
  have := lt_bits n
  omega
theorem in_order_ofC {L : List (PV × Rat)} {C : Nat} {Q : PV → Prop} (hn : ∀ x ∈ L, NumP x.1 x.2) (c0 : 0 < C) (cb : bits C ≤ 7300) (hd : ∀ x ∈ L, x.2.den ∣ C ∧ sz x.2 ≤ P0) (hl : L.length < 4000)
    (hq : Q (.lst ((riseL (L.map (·.2))).map rat))) : Ph_in_order [.lst (L.map (·.1))] Q :=
  ⟨L, C, rfl, hn, c0, fun x hx => ⟨(hd x hx).1, by have := (hd x hx).2; have := P0_eq; omega⟩, hl, by omega, fun rs h1 h2 => by rw [rise_eq h1 h2]; exact hq⟩
theorem in_order_of {L : List (PV × Rat)} {Q : PV → Prop} (hn : ∀ x ∈ L, NumP x.1 x.2) (hs : 2 * (L.map fun x => sz x.2).sum ≤ 7900)
    (hq : Q (.lst ((riseL (L.map (·.2))).map rat))) : Ph_in_order [.lst (L.map (·.1))] Q := by
  obtain ⟨C, h1, h2, h3⟩ := prod_den L
  have hb : bits C ≤ (L.map fun x => sz x.2).sum + 1 := (bits_le (Nat.succ_pos _)).mpr h3
  have hl := sum_len L
  exact ⟨L, C, rfl, hn, h1, fun x hx => ⟨h2 x hx, by have := sum_mem hx; omega⟩, by omega, by omega, fun rs h1 h2 => by rw [rise_eq h1 h2]; exact hq⟩
theorem sum_le {α : Type} (f : α → Nat) (c : Nat) : ∀ (L : List α), (∀ x ∈ L, f x ≤ c) → (L.map f).sum ≤ L.length * c
  | [], _ => by simp
  | a :: L, h => by
    have h1 := h a (List.mem_cons_self ..)
    have h2 := sum_le f c L fun x hx => h x (List.mem_cons_of_mem _ hx)
    rw [List.map_cons, List.sum_cons, List.length_cons, Nat.add_mul, Nat.one_mul]
    omega
theorem flat_len {α β : Type} (f : α → List β) (c : Nat) : ∀ (L : List α), (∀ x ∈ L, (f x).length ≤ c) → (L.flatMap f).length ≤ L.length * c
  | [], _ => by simp
  | a :: L, h => by
    have h1 := h a (List.mem_cons_self ..)
    have h2 := flat_len f c L fun x hx => h x (List.mem_cons_of_mem _ hx)
    rw [List.flatMap_cons, List.length_append, List.length_cons, Nat.add_mul, Nat.one_mul]
    omega
theorem fm_filter {α β : Type} (p : α → Prop) [DecidablePred p] (g : α → β) : ∀ l : List α, l.filterMap (fun x => if p x then some (g x) else none) = (l.filter fun x => decide (p x)).map g
  | [] => rfl
  | x :: l => by
    by_cases hb : p x
    · rw [List.filterMap_cons, if_pos hb, List.filter_cons_of_pos (by simpa using hb), fm_filter p g l]; rfl
    · rw [List.filterMap_cons, if_neg hb, List.filter_cons_of_neg (by simpa using hb), fm_filter p g l]
theorem cut_drop1 (l : List PV) : cutP l (some 1) none = l.drop 1 := by
  cases l with
  | nil => rfl
  | cons p r =>
    have e1 : HT.sIx (p :: r).length 0 (some 1) = 1 := by
      unfold HT.sIx
      simp
    have e2 : HT.sIx (p :: r).length (p :: r).length none = (p :: r).length := rfl
    unfold cutP
    rw [e1, e2]
    exact List.take_of_length_le (by simp)
theorem chs_mem {os : List Rn} {t : Rat} : t ∈ chs os ↔ ∃ r ∈ os, ∃ p ∈ r.pieces, t = p.1 := by
  unfold chs
  rw [List.mem_flatMap]
  constructor
  · rintro ⟨r, hr, hx⟩
    obtain ⟨p, hp, rfl⟩ := List.mem_map.mp hx
    exact ⟨r, hr, p, hp, rfl⟩
  · rintro ⟨r, hr, p, hp, rfl⟩
    exact ⟨r, hr, List.mem_map.mpr ⟨p, hp, rfl⟩⟩
theorem chs_len {R : RaceM} (ok : R.Ok) {ns : List Rn} (hns : ∀ r ∈ ns, r ∈ R.rs) : (chs ns).length ≤ ns.length * 20 := flat_len _ 20 ns fun r hr => by rw [List.length_map]; exact (ok.rn r (hns r hr)).hi
theorem hp_cut_times : ∀ as Q, Ph_cut_times as Q → as.length = 4 ∧ t_cut_times ⟨fun _ => Q .non, Q, fun _ => False, fun _ => False⟩ (startP N_cut_times as) := by
  rintro as Q ⟨R, ns, a, b, rfl, g, hns, h12, za, zb, hq⟩
  refine ⟨rfl, ?_⟩
  have ok := g.ok
  have pe := P0_eq
  simp only [st_cut_times, t_cut_times, RaceM.pv, pSeq, pNext, pIfS, pRet, pRetN, pAsg, pDrop, pPar, pAug, gNm, gTupP, gConsP, gNilP, pVar, pC, pBin, pChain, pUn, kNeg, pTst, pAndT, pOrT, pNotT, pAndV, pOrV, pNotV, pIf, pCons, pNil, pTup, pLst, pStar, pCallB, pCall, pMeth, pProp, pFld, pFrz, pIL, pIT, pZip, pEnum, pR1, pR2, pSlL, pPart, pNoPart, pLc, pLc2, pDc, pSortSc, pFor, pNewL, pNewD, pApp, pExt, pDPut, pSetL, pOwnD, pIsN, pNotN, pListVals, pIVals, pIKeys, pIItems, onDic, pIStr, pDGet1, pTsYes, pParL, pParR, pCel, pCelSet, pNewCel, pNeverS, wipeP, List.set_cons_zero, List.set_cons_succ, List.getElem?_cons_zero, List.getElem?_cons_succ, List.length_cons, List.length_nil]
  have lens := chs_len ok hns
  have szs : ∀ x ∈ chs ns, sz x ≤ P0 := fun x hx => by
    obtain ⟨r, hr, p, hp, rfl⟩ := chs_mem.mp hx
    exact (g.ch r (hns r hr) p hp).z
  have efl : (ns.flatMap fun r => r.pieces.map fun p => rat p.1) = (chs ns).map rat := by
    unfold chs
    rw [List.map_flatMap]
    congr 1
    funext r
    rw [List.map_map]; rfl
  refine lc2L_of (fun r : Rn => PV.str r.name) (fun r => r.pieces.map fun p => rat p.1) ns [] (fun r hr R' acc hl h => ?_) (by rw [efl, List.length_nil, List.length_map]; exact size_le (by omega)) ?_
  · simp only [ti_cut_times_1, pSeq, pNext, pIfS, pRet, pRetN, pAsg, pDrop, pPar, pAug, gNm, gTupP, gConsP, gNilP, pVar, pC, pBin, pChain, pUn, kNeg, pTst, pAndT, pOrT, pNotT, pAndV, pOrV, pNotV, pIf, pCons, pNil, pTup, pLst, pStar, pCallB, pCall, pMeth, pProp, pFld, pFrz, pIL, pIT, pZip, pEnum, pR1, pR2, pSlL, pPart, pNoPart, pLc, pLc2, pDc, pSortSc, pFor, pNewL, pNewD, pApp, pExt, pDPut, pSetL, pOwnD, pIsN, pNotN, pListVals, pIVals, pIKeys, pIItems, onDic, pIStr, pDGet1, pTsYes, pParL, pParR, pCel, pCelSet, pNewCel, pNeverS, wipeP, List.set_cons_zero, List.set_cons_succ, List.getElem?_cons_zero, List.getElem?_cons_succ, List.length_cons, List.length_nil]
    refine ⟨by trivial, by rfl, R, r, rfl, ok, hns r hr, ?_⟩
    refine lcL_of pcPV (fun p => some (rat p.1)) r.pieces acc (fun p hp T F h => ?_) (by simpa using hl) (by rw [List.filterMap_eq_map']; exact h)
    simp only [te_cut_times_2, pcPV, pSeq, pNext, pIfS, pRet, pRetN, pAsg, pDrop, pPar, pAug, gNm, gTupP, gConsP, gNilP, pVar, pC, pBin, pChain, pUn, kNeg, pTst, pAndT, pOrT, pNotT, pAndV, pOrV, pNotV, pIf, pCons, pNil, pTup, pLst, pStar, pCallB, pCall, pMeth, pProp, pFld, pFrz, pIL, pIT, pZip, pEnum, pR1, pR2, pSlL, pPart, pNoPart, pLc, pLc2, pDc, pSortSc, pFor, pNewL, pNewD, pApp, pExt, pDPut, pSetL, pOwnD, pIsN, pNotN, pListVals, pIVals, pIKeys, pIItems, onDic, pIStr, pDGet1, pTsYes, pParL, pParR, pCel, pCelSet, pNewCel, pNeverS, wipeP, List.set_cons_zero, List.set_cons_succ, List.getElem?_cons_zero, List.getElem?_cons_succ, List.length_cons, List.length_nil]
    exact ⟨by trivial, h⟩
  · rw [List.nil_append, efl]
    have cdx : ∃ C : Nat, 0 < C ∧ bits C ≤ 2000 ∧ ∀ x ∈ chs ns, x.den ∣ C := by
      obtain ⟨C, c0, c1, c2⟩ := g.cd
      exact ⟨C, c0, c1, fun x hx => by
        obtain ⟨r, hr, p, hp, rfl⟩ := chs_mem.mp hx
        exact c2 r (hns r hr) p hp⟩
    unfold cutR at hq
    generalize chs ns = xs at *
    refine lcL_of rat (fun x => if a < x ∧ x < b then some (rat x) else none) xs [] (fun x hx T F h => ?_) (by simp; exact size_le (by omega)) ?_
    · have zx := szs x hx
      simp only [tt_cut_times_3, te_cut_times_4, pSeq, pNext, pIfS, pRet, pRetN, pAsg, pDrop, pPar, pAug, gNm, gTupP, gConsP, gNilP, pVar, pC, pBin, pChain, pUn, kNeg, pTst, pAndT, pOrT, pNotT, pAndV, pOrV, pNotV, pIf, pCons, pNil, pTup, pLst, pStar, pCallB, pCall, pMeth, pProp, pFld, pFrz, pIL, pIT, pZip, pEnum, pR1, pR2, pSlL, pPart, pNoPart, pLc, pLc2, pDc, pSortSc, pFor, pNewL, pNewD, pApp, pExt, pDPut, pSetL, pOwnD, pIsN, pNotN, pListVals, pIVals, pIKeys, pIItems, onDic, pIStr, pDGet1, pTsYes, pParL, pParR, pCel, pCelSet, pNewCel, pNeverS, wipeP, List.set_cons_zero, List.set_cons_succ, List.getElem?_cons_zero, List.getElem?_cons_succ, List.length_cons, List.length_nil]
      refine ⟨_, _, a, x, rfl, .rat _, .rat _, by omega, ?_⟩
      simp only [kI0_int, cmp_lt]
      by_cases h1 : a < x
      · simp only [decide_eq_true h1]
        refine ⟨_, _, x, b, rfl, .rat _, .rat _, by omega, ?_⟩
        simp only [kI0_int, cmp_lt]
        by_cases h2 : x < b
        · rw [decide_eq_true h2]
          rw [if_pos ⟨h1, h2⟩] at h
          exact h
        · rw [decide_eq_false h2]
          rw [if_neg (fun z => h2 z.2)] at h
          exact h
      · rw [decide_eq_false h1]
        rw [if_neg (fun z => h1 z.1)] at h
        exact h
    · have efm : xs.filterMap (fun x => if a < x ∧ x < b then some (rat x) else none) = (xs.filter fun x => decide (a < x ∧ x < b)).map rat := by
        exact fm_filter _ _ _
      rw [List.nil_append, efm]
      have lys : (xs.filter fun x => decide (a < x ∧ x < b)).length ≤ xs.length := List.length_filter_le _ _
      have iny : ∀ x ∈ xs.filter fun x => decide (a < x ∧ x < b), x ∈ xs := fun x hx => (List.mem_filter.mp hx).1
      generalize hys : (xs.filter fun x => decide (a < x ∧ x < b)) = ys at *
      have eL : (rat a :: (ys.map rat ++ [rat b])) = (((a :: (ys ++ [b])).map fun x => (rat x, x)).map (·.1)) := by simp
      refine ⟨size_le (by simp; omega), ?_⟩
      rw [eL]
      obtain ⟨C, c0, c1, c2⟩ := cdx
      have m1 : bits (a.den * b.den * C) ≤ 3300 := by
        have h1 := bits_mul (m := a.den * b.den) (n := C)
        have h2 := bits_mul (m := a.den) (n := b.den)
        have h3 := sz_bits (q := a)
        have h4 := sz_bits (q := b)
        omega
      refine in_order_ofC (C := a.den * b.den * C) (fun x hx => ?_) (Nat.mul_pos (Nat.mul_pos a.den_pos b.den_pos) c0) (by omega) (fun x hx => ?_) (by simp; omega) ?_
      · obtain ⟨y, _, rfl⟩ := List.mem_map.mp hx
        exact .rat y
      · obtain ⟨y, hy, rfl⟩ := List.mem_map.mp hx
        show y.den ∣ _ ∧ sz y ≤ P0
        rcases List.mem_cons.mp hy with rfl | hy
        · exact ⟨Nat.dvd_mul_right_of_dvd (Nat.dvd_mul_right _ _) _, za⟩
        · rcases List.mem_append.mp hy with hy | hy
          · exact ⟨Nat.dvd_mul_left_of_dvd (c2 y (iny y hy)) _, szs y (iny y hy)⟩
          · rw [List.mem_singleton] at hy
            subst hy
            exact ⟨Nat.dvd_mul_right_of_dvd (Nat.dvd_mul_left _ _) _, zb⟩
      · have e : riseL (((a :: (ys ++ [b])).map fun x => (rat x, x)).map (·.2)) = riseL (a :: b :: ys) := by
          refine rise_eq (riseL_pw _) fun x => ?_
          rw [riseL_mem, List.map_map]
          have : ((a :: (ys ++ [b])).map ((fun x : PV × Rat => x.2) ∘ fun x => (rat x, x))) = a :: (ys ++ [b]) := List.map_id _
          rw [this]
          simp only [List.mem_cons, List.mem_append, List.not_mem_nil, or_false]
          constructor
          · rintro (h | h | h)
            · exact .inl h
            · exact .inr (.inr h)
            · exact .inr (.inl h)
          · rintro (h | h | h)
            · exact .inl h
            · exact .inr (.inr h)
            · exact .inr (.inl h)
        rw [e]
        exact hq
theorem pieces_tail {r : Rn} (ok : r.Ok) : ∀ x, (x ∈ (r.pieces.drop 1).map (·.1)) ↔ (x ∈ r.pieces.map (·.1) ∧ 0 < x) := by
  obtain ⟨p, q, e, z⟩ := ok.hd
  have up := ok.up
  rw [e] at up ⊢
  intro x
  show x ∈ q.map (·.1) ↔ _
  rw [List.map_cons, List.mem_cons]
  have h1 := (List.pairwise_cons.mp up).1
  constructor
  · intro h
    obtain ⟨y, hy, rfl⟩ := List.mem_map.mp h
    have := h1 y hy
    exact ⟨.inr h, by rw [z] at this; exact this⟩
  · rintro ⟨h | h, h0⟩
    · rw [h, z] at h0; exact absurd h0 (by decide)
    · exact h
theorem hp_Race_change_times : ∀ as Q, Ph_Race_change_times as Q → as.length = 1 ∧ t_Race_change_times ⟨fun _ => Q .non, Q, fun _ => False, fun _ => False⟩ (startP N_Race_change_times as) := by
  rintro as Q ⟨R, rfl, g, hq⟩
  refine ⟨rfl, ?_⟩
  have ok := g.ok
  have pe := P0_eq
  have hi := ok.hi
  simp only [st_Race_change_times, t_Race_change_times, RaceM.pv, pSeq, pNext, pIfS, pRet, pRetN, pAsg, pDrop, pPar, pAug, gNm, gTupP, gConsP, gNilP, pVar, pC, pBin, pChain, pUn, kNeg, pTst, pAndT, pOrT, pNotT, pAndV, pOrV, pNotV, pIf, pCons, pNil, pTup, pLst, pStar, pCallB, pCall, pMeth, pProp, pFld, pFrz, pIL, pIT, pZip, pEnum, pR1, pR2, pSlL, pPart, pNoPart, pLc, pLc2, pDc, pSortSc, pFor, pNewL, pNewD, pApp, pExt, pDPut, pSetL, pOwnD, pIsN, pNotN, pListVals, pIVals, pIKeys, pIItems, onDic, pIStr, pDGet1, pTsYes, pParL, pParR, pCel, pCelSet, pNewCel, pNeverS, wipeP, List.set_cons_zero, List.set_cons_succ, List.getElem?_cons_zero, List.getElem?_cons_succ, List.length_cons, List.length_nil]
  refine ⟨by trivial, by rfl, R, rfl, ?_⟩
  generalize hxs : (R.rs.flatMap fun r => (r.pieces.drop 1).map (·.1)) = xs
  have efl : (R.rs.flatMap fun r => (r.pieces.drop 1).map fun p => rat p.1) = xs.map rat := by
    rw [← hxs, List.map_flatMap]
    congr 1
    funext r
    rw [List.map_map]; rfl
  have lens : xs.length ≤ R.rs.length * 20 := by
    rw [← hxs]
    refine flat_len _ 20 R.rs fun r hr => ?_
    rw [List.length_map, List.length_drop]
    have := (ok.rn r hr).hi
    omega
  have inx : ∀ x, x ∈ xs ↔ x ∈ (chs R.rs).filter fun t => decide (0 < t) := fun x => by
    rw [← hxs, List.mem_filter, List.mem_flatMap, chs_mem]
    simp only [decide_eq_true_eq]
    constructor
    · rintro ⟨r, hr, h⟩
      obtain ⟨h1, h2⟩ := (pieces_tail (ok.rn r hr) x).mp h
      obtain ⟨p, hp, rfl⟩ := List.mem_map.mp h1
      exact ⟨⟨r, hr, p, hp, rfl⟩, h2⟩
    · rintro ⟨⟨r, hr, p, hp, rfl⟩, h⟩
      exact ⟨r, hr, (pieces_tail (ok.rn r hr) _).mpr ⟨List.mem_map.mpr ⟨p, hp, rfl⟩, h⟩⟩
  refine lc2L_of (fun r : Rn => PV.str r.name) (fun r => (r.pieces.drop 1).map fun p => rat p.1) R.rs [] (fun r hr R' acc hl h => ?_) (by rw [efl, List.length_nil, List.length_map]; exact size_le (by omega)) ?_
  · simp only [ti_Race_change_times_1, pSeq, pNext, pIfS, pRet, pRetN, pAsg, pDrop, pPar, pAug, gNm, gTupP, gConsP, gNilP, pVar, pC, pBin, pChain, pUn, kNeg, pTst, pAndT, pOrT, pNotT, pAndV, pOrV, pNotV, pIf, pCons, pNil, pTup, pLst, pStar, pCallB, pCall, pMeth, pProp, pFld, pFrz, pIL, pIT, pZip, pEnum, pR1, pR2, pSlL, pPart, pNoPart, pLc, pLc2, pDc, pSortSc, pFor, pNewL, pNewD, pApp, pExt, pDPut, pSetL, pOwnD, pIsN, pNotN, pListVals, pIVals, pIKeys, pIItems, onDic, pIStr, pDGet1, pTsYes, pParL, pParR, pCel, pCelSet, pNewCel, pNeverS, wipeP, List.set_cons_zero, List.set_cons_succ, List.getElem?_cons_zero, List.getElem?_cons_succ, List.length_cons, List.length_nil]
    refine ⟨by trivial, by rfl, R, r, rfl, ok, hr, ?_⟩
    dsimp only
    rw [cut_drop1, ← List.map_drop]
    refine lcL_of pcPV (fun p => some (rat p.1)) (r.pieces.drop 1) acc (fun p hp T F h => ?_) (by simpa using hl) (by rw [List.filterMap_eq_map']; exact h)
    simp only [te_Race_change_times_2, pcPV, pSeq, pNext, pIfS, pRet, pRetN, pAsg, pDrop, pPar, pAug, gNm, gTupP, gConsP, gNilP, pVar, pC, pBin, pChain, pUn, kNeg, pTst, pAndT, pOrT, pNotT, pAndV, pOrV, pNotV, pIf, pCons, pNil, pTup, pLst, pStar, pCallB, pCall, pMeth, pProp, pFld, pFrz, pIL, pIT, pZip, pEnum, pR1, pR2, pSlL, pPart, pNoPart, pLc, pLc2, pDc, pSortSc, pFor, pNewL, pNewD, pApp, pExt, pDPut, pSetL, pOwnD, pIsN, pNotN, pListVals, pIVals, pIKeys, pIItems, onDic, pIStr, pDGet1, pTsYes, pParL, pParR, pCel, pCelSet, pNewCel, pNeverS, wipeP, List.set_cons_zero, List.set_cons_succ, List.getElem?_cons_zero, List.getElem?_cons_succ, List.length_cons, List.length_nil]
    exact ⟨by trivial, h⟩
  · rw [List.nil_append, efl]
    have eL : xs.map rat = ((xs.map fun x => (rat x, x)).map (·.1)) := by rw [List.map_map]; rfl
    rw [eL]
    obtain ⟨C, c0, c1, c2⟩ := g.cd
    refine in_order_ofC (C := C) (fun x hx => ?_) c0 (by omega) (fun x hx => ?_) (by simp; omega) ?_
    · obtain ⟨y, _, rfl⟩ := List.mem_map.mp hx
      exact .rat y
    · obtain ⟨y, hy, rfl⟩ := List.mem_map.mp hx
      obtain ⟨r, hr, p, hp, e⟩ := chs_mem.mp (List.mem_filter.mp ((inx y).mp hy)).1
      subst e
      exact ⟨c2 r hr p hp, (g.ch r hr p hp).z⟩
    · have e : riseL ((xs.map fun x => (rat x, x)).map (·.2)) = riseL ((chs R.rs).filter fun t => decide (0 < t)) := by
        refine rise_eq (riseL_pw _) fun x => ?_
        rw [riseL_mem, List.map_map]
        have : (xs.map ((fun x : PV × Rat => x.2) ∘ fun x => (rat x, x))) = xs := List.map_id _
        rw [this, inx]
      rw [e]
      exact hq
end G


/-! ## ME -/
/-! Events. -/
namespace G
open PySem PySem.Spec PyProof.Rows L2 L3 MR
def RaceM.apart (R : RaceM) (o u : Rn) (t : Rat) : Int := ((o.pos t - u.pos t) / R.len).floor
/-- what stands side by side -/
def adj : List Rat → List (Rat × Rat)
  | x :: y :: r => (x, y) :: adj (y :: r)
  | _ => []
def RaceM.passStep (R : RaceM) (o u : Rn) (p : Rat × Rat) : Int := if u.speed p.1 < o.speed p.1 then R.apart o u p.2 - R.apart o u p.1 else 0
def RaceM.passL (R : RaceM) (o u : Rn) (rs : List Rat) : Int := ((adj rs).map (R.passStep o u)).sum
theorem adj_mem : ∀ {rs : List Rat} {p : Rat × Rat}, p ∈ adj rs → p.1 ∈ rs ∧ p.2 ∈ rs
  | x :: y :: r, p, h => by
    rcases List.mem_cons.mp h with rfl | h
    · simp
    · have := adj_mem (rs := y :: r) h
      exact ⟨List.mem_cons_of_mem _ this.1, List.mem_cons_of_mem _ this.2⟩
  | [], p, h => by cases h
  | [x], p, h => by cases h
theorem zip_adj : ∀ rs : List Rat, zipP (rs.map rat) ((rs.map rat).drop 1) = (adj rs).map fun p => PV.tup [rat p.1, rat p.2]
  | [] => rfl
  | [x] => rfl
  | x :: y :: r => by
    have ih := zip_adj (y :: r)
    show PV.tup [rat x, rat y] :: zipP ((y :: r).map rat) (((y :: r).map rat).drop 1) = _
    rw [ih]
    rfl
theorem adj_gap : ∀ {rs : List Rat} {p : Rat × Rat}, rs.Pairwise (· < ·) → p ∈ adj rs → p.1 < p.2 ∧ ∀ c ∈ rs, ¬ (p.1 < c ∧ c < p.2)
  | x :: y :: r, p, h, hp => by
    obtain ⟨h1, h2⟩ := List.pairwise_cons.mp h
    obtain ⟨h3, h4⟩ := List.pairwise_cons.mp h2
    rcases List.mem_cons.mp hp with rfl | hq
    · refine ⟨h1 y (List.mem_cons_self ..), fun c hc => ?_⟩
      rcases List.mem_cons.mp hc with rfl | hc
      · show ¬ (c < c ∧ c < y)
        grind
      · rcases List.mem_cons.mp hc with rfl | hc
        · show ¬ (x < c ∧ c < c)
          grind
        · have := h3 c hc
          show ¬ (x < c ∧ c < y)
          grind
    · obtain ⟨a1, a2⟩ := adj_gap h2 hq
      refine ⟨a1, fun c hc => ?_⟩
      rcases List.mem_cons.mp hc with rfl | hc
      · have := h1 p.1 (adj_mem (rs := y :: r) hq).1
        grind
      · exact a2 c hc
  | [], p, _, hp => by cases hp
  | [x], p, _, hp => by cases hp
theorem tele (g : Rat → Int) : ∀ (x : Rat) (l : List Rat), ((adj (x :: l)).map fun p => g p.2 - g p.1).sum = g ((x :: l).getLast (by simp)) - g x
  | x, [] => by simp [adj]
  | x, y :: r => by
    have ih := tele g y r
    show (((x, y) :: adj (y :: r)).map fun p => g p.2 - g p.1).sum = _
    rw [List.map_cons, List.sum_cons, ih]
    have : (x :: y :: r).getLast (by simp) = (y :: r).getLast (by simp) := List.getLast_cons (by simp)
    rw [this]
    show g y - g x + _ = _
    omega
theorem sum_sub {α : Type} (f g : α → Int) : ∀ l : List α, (l.map f).sum - (l.map g).sum = (l.map fun x => f x - g x).sum
  | [] => by simp
  | a :: l => by
    have := sum_sub f g l
    simp only [List.map_cons, List.sum_cons]
    omega
theorem sum_congr {α : Type} {f g : α → Int} {l : List α} (h : ∀ x ∈ l, f x = g x) : (l.map f).sum = (l.map g).sum := by
  rw [List.map_congr_left h]
/-- a rising list between its ends -/
theorem ends {rs : List Rat} {a b : Rat} (h : rs.Pairwise (· < ·)) (ha : a ∈ rs) (hb : b ∈ rs) (hm : ∀ x ∈ rs, a ≤ x ∧ x ≤ b) : ∃ l, ∃ hl : (a :: l) ≠ [], rs = a :: l ∧ (a :: l).getLast hl = b := by
  cases rs with
  | nil => cases ha
  | cons x l =>
    have hx : x = a := by
      rcases List.mem_cons.mp ha with e | ha'
      · exact e.symm
      · have h1 := (List.pairwise_cons.mp h).1 a ha'
        have h2 := (hm x (List.mem_cons_self ..)).1
        grind
    subst hx
    refine ⟨l, by simp, rfl, ?_⟩
    have hmem := List.getLast_mem (l := x :: l) (by simp)
    have h1 := (hm _ hmem).2
    have h2 : b ≤ (x :: l).getLast (by simp) := by
      obtain ⟨i, hi, e⟩ := List.mem_iff_getElem.mp hb
      rw [List.getLast_eq_getElem]
      rcases Nat.lt_or_ge i ((x :: l).length - 1) with c | c
      · have := List.pairwise_iff_getElem.mp h i ((x :: l).length - 1) hi (by omega) c
        rw [e] at this
        grind
      · have ei : i = (x :: l).length - 1 := by omega
        subst ei
        rw [e]
        exact Rat.le_refl
    grind
/-! events: when one runner comes, growing, to a whole number of lengths before another -/
def sbP : List (Rat × Rat) → Rat → Rat → Rat
  | [], _, d => d
  | (b, s) :: r, t, d => sbP r t (if b < t then s else d)
/-- the speed just before a time -/
def Rn.sb (r : Rn) (t : Rat) : Rat := sbP r.pieces t 0
theorem sbP_st : ∀ (ps : List (Rat × Rat)) (x t d : Rat), x < t → (∀ p ∈ ps, ¬ (x < p.1 ∧ p.1 < t)) → sbP ps t d = speedP ps x d
  | [], _, _, _, _, _ => rfl
  | (b, s) :: r, x, t, d, h, hc => by
    have h0 := hc (b, s) (List.mem_cons_self ..)
    have h0 : ¬ (x < b ∧ b < t) := h0
    have ih := sbP_st r x t (if b ≤ x then s else d) h fun p hp => hc p (List.mem_cons_of_mem _ hp)
    show sbP r t (if b < t then s else d) = speedP r x (if b ≤ x then s else d)
    rw [← ih]
    congr 1
    split <;> split <;> grind
theorem Rn.sb_st {r : Rn} {x t : Rat} (h : x < t) (hc : ∀ p ∈ r.pieces, ¬ (x < p.1 ∧ p.1 < t)) : r.sb t = r.speed x := sbP_st r.pieces x t 0 h hc
theorem speedP_st : ∀ (ps : List (Rat × Rat)) (x y d : Rat), x ≤ y → (∀ p ∈ ps, ¬ (x < p.1 ∧ p.1 ≤ y)) → speedP ps y d = speedP ps x d
  | [], _, _, _, _, _ => rfl
  | (b, s) :: r, x, y, d, h, hc => by
    have h0 : ¬ (x < b ∧ b ≤ y) := hc (b, s) (List.mem_cons_self ..)
    have ih := speedP_st r x y (if b ≤ x then s else d) h fun p hp => hc p (List.mem_cons_of_mem _ hp)
    show speedP r y (if b ≤ y then s else d) = speedP r x (if b ≤ x then s else d)
    rw [← ih]
    congr 1
    split <;> split <;> grind
theorem Rn.speed_st {r : Rn} {x y : Rat} (h : x ≤ y) (hc : ∀ p ∈ r.pieces, ¬ (x < p.1 ∧ p.1 ≤ y)) : r.speed y = r.speed x := speedP_st r.pieces x y 0 h hc
/-- whole numbers from lo on -/
def irng (lo : Int) (n : Nat) : List Int := (List.range n).map fun i : Nat => lo + (i : Int)
theorem irng_mem {lo : Int} {n : Nat} {k : Int} : k ∈ irng lo n ↔ lo ≤ k ∧ k < lo + n := by
  unfold irng
  rw [List.mem_map]
  constructor
  · rintro ⟨i, hi, rfl⟩
    have := List.mem_range.mp hi
    omega
  · intro h
    exact ⟨(k - lo).toNat, List.mem_range.mpr (by omega), by omega⟩
theorem irng_pw (lo : Int) (n : Nat) : (irng lo n).Pairwise (· < ·) := by
  unfold irng
  rw [List.pairwise_map]
  exact List.pairwise_lt_range.imp fun h => by omega
theorem irng_len (lo : Int) (n : Nat) : (irng lo n).length = n := by unfold irng; simp
/-- along a straight part from x on: the times at which a growing number of lengths becomes whole -/
def upS (len g oa ob x : Rat) : List Rat := (irng (oa.floor + 1) (ob.floor - oa.floor).toNat).map fun n : Int => x + ((n : Rat) - oa) * len / g
theorem floor_le_iff {q : Rat} {n : Int} : n ≤ q.floor ↔ (n : Rat) ≤ q := Rat.le_floor_iff
theorem lt_of_floor {q : Rat} {n : Int} : q.floor + 1 ≤ n ↔ q < (n : Rat) := by
  constructor
  · intro h
    have h1 := Rat.lt_floor_add_one q
    have h2 : ((q.floor + 1 : Int) : Rat) ≤ (n : Rat) := by exact_mod_cast h
    grind
  · intro h
    have h1 := Rat.floor_le q
    have h2 : (q.floor : Rat) < (n : Rat) := by grind
    have h3 : q.floor < n := by exact_mod_cast h2
    omega
theorem floor_mono {p q : Rat} (h : p ≤ q) : p.floor ≤ q.floor := by
  rw [floor_le_iff]
  have := Rat.floor_le p
  grind
theorem step_eq {len g oa x t n : Rat} (hg : 0 < g) (hl : 0 < len) : t = x + (n - oa) * len / g ↔ oa + g * (t - x) / len = n := by
  have g0 : g ≠ 0 := by grind
  have l0 : len ≠ 0 := by grind
  constructor
  · intro h
    have h1 : (t - x) * g = (n - oa) * len := by
      rw [h]
      have : (x + (n - oa) * len / g - x) = (n - oa) * len / g := by grind
      rw [this, Rat.div_mul_cancel g0]
    have h2 : g * (t - x) / len = n - oa := by
      rw [Rat.mul_comm, h1, Rat.mul_div_cancel l0]
    grind
  · intro h
    have h1 : g * (t - x) / len = n - oa := by grind
    have h2 : g * (t - x) = (n - oa) * len := by rw [← h1, Rat.div_mul_cancel l0]
    have h3 : (n - oa) * len / g = t - x := by rw [← h2, Rat.mul_comm, Rat.mul_div_cancel g0]
    grind
theorem mul_pos_iff {a b : Rat} (hb : 0 < b) : 0 < a * b ↔ 0 < a := by
  constructor
  · intro h
    refine Classical.byContradiction fun c => ?_
    have := Rat.mul_le_mul_of_nonneg_right (show a ≤ 0 by grind) (Rat.le_of_lt hb)
    grind
  · intro h; exact Rat.mul_pos h hb
theorem div_pos_iff {a b : Rat} (hb : 0 < b) : 0 < a / b ↔ 0 < a := by
  rw [Rat.div_def]; exact mul_pos_iff (Rat.inv_pos.mpr hb)
theorem upS_mem {len g oa ob x y t : Rat} (hg : 0 < g) (hl : 0 < len) (hb : ob = oa + g * (y - x) / len) : t ∈ upS len g oa ob x ↔ x < t ∧ t ≤ y ∧ ∃ n : Int, oa + g * (t - x) / len = (n : Rat) := by
  have key : ∀ u : Rat, (oa < oa + g * (u - x) / len ↔ x < u) := fun u => by
    have : 0 < g * (u - x) / len ↔ 0 < u - x := by rw [div_pos_iff hl, Rat.mul_comm, mul_pos_iff hg]
    grind
  have key2 : ∀ u : Rat, (oa + g * (u - x) / len ≤ ob ↔ u ≤ y) := fun u => by
    have h1 : 0 < g * (u - y) / len ↔ 0 < u - y := by rw [div_pos_iff hl, Rat.mul_comm, mul_pos_iff hg]
    have h2 : g * (u - y) / len = g * (u - x) / len - g * (y - x) / len := by
      rw [Rat.div_def, Rat.div_def, Rat.div_def]; grind
    grind
  unfold upS
  rw [List.mem_map]
  constructor
  · rintro ⟨n, hn, rfl⟩
    obtain ⟨h1, h2⟩ := irng_mem.mp hn
    have e := (step_eq (oa := oa) (x := x) (n := (n : Rat)) hg hl).mp rfl
    have h3 := lt_of_floor.mp h1
    have h4 : n ≤ ob.floor := by omega
    have h5 := floor_le_iff.mp h4
    rw [← e] at h3 h5
    exact ⟨(key _).mp h3, (key2 _).mp h5, n, e⟩
  · rintro ⟨h1, h2, n, e⟩
    have h3 := (key t).mpr h1
    have h4 := (key2 t).mpr h2
    rw [e] at h3 h4
    have h5 := lt_of_floor.mpr h3
    have h6 := floor_le_iff.mpr h4
    exact ⟨n, irng_mem.mpr ⟨h5, by omega⟩, ((step_eq hg hl).mpr e).symm⟩
theorem upS_pw {len g oa ob x : Rat} (hg : 0 < g) (hl : 0 < len) : (upS len g oa ob x).Pairwise (· < ·) := by
  unfold upS
  rw [List.pairwise_map]
  refine (irng_pw _ _).imp fun {a b} h => ?_
  have h2 : (a : Rat) < (b : Rat) := by exact_mod_cast h
  have h3 : 0 < ((b : Rat) - a) * len / g := by rw [div_pos_iff hg, mul_pos_iff hl]; grind
  have h4 : ((b : Rat) - a) * len / g = ((b : Rat) - oa) * len / g - ((a : Rat) - oa) * len / g := by
    rw [Rat.div_def, Rat.div_def, Rat.div_def]; grind
  grind
theorem upS_len {len g oa ob x : Rat} (h : oa ≤ ob) : ((upS len g oa ob x).length : Int) = ob.floor - oa.floor := by
  unfold upS
  rw [List.length_map, irng_len]
  have := floor_mono h
  omega
/-! ### over a window -/
theorem St.rn {os : List Rn} {x y : Rat} (s : St (chs os) x y) {r : Rn} (hr : r ∈ os) : ∀ p ∈ r.pieces, ¬ (x < p.1 ∧ p.1 < y) := fun p hp => s p.1 (chs_mem.mpr ⟨r, hr, p, hp, rfl⟩)
theorem Sm_app_mem {α : Type} {f : Rat → Rat → List α} {t : α} : ∀ {rs : List Rat}, t ∈ Sm (· ++ ·) [] f rs ↔ ∃ p ∈ adj rs, t ∈ f p.1 p.2
  | [] => by simp [Sm, adj]
  | [x] => by simp [Sm, adj]
  | x :: y :: r => by
    show t ∈ f x y ++ Sm (· ++ ·) [] f (y :: r) ↔ _
    rw [List.mem_append, Sm_app_mem (rs := y :: r)]
    show _ ↔ ∃ p ∈ (x, y) :: adj (y :: r), _
    simp
theorem Sm_app_pw {f : Rat → Rat → List Rat} : ∀ {rs : List Rat}, rs.Pairwise (· < ·) → (∀ p ∈ adj rs, (f p.1 p.2).Pairwise (· < ·) ∧ ∀ t ∈ f p.1 p.2, p.1 < t ∧ t ≤ p.2) → (Sm (· ++ ·) [] f rs).Pairwise (· < ·)
  | [], _, _ => by simp [Sm]
  | [x], _, _ => by simp [Sm]
  | x :: y :: r, h, hf => by
    obtain ⟨h1, h2⟩ := List.pairwise_cons.mp h
    obtain ⟨f1, f2⟩ := hf (x, y) (by simp [adj])
    show (f x y ++ Sm (· ++ ·) [] f (y :: r)).Pairwise _
    rw [List.pairwise_append]
    refine ⟨f1, Sm_app_pw h2 fun p hp => hf p (by simp [adj, hp]), fun a ha b hb => ?_⟩
    have h3 := (f2 a ha).2
    have h3 : a ≤ y := h3
    obtain ⟨p, hp, hb⟩ := Sm_app_mem.mp hb
    have h4 := ((hf p (by simp [adj, hp])).2 b hb).1
    have h5 : y ≤ p.1 := by
      rcases List.mem_cons.mp (adj_mem hp).1 with e | h
      · rw [e]; exact Rat.le_refl
      · exact Rat.le_of_lt ((List.pairwise_cons.mp h2).1 _ h)
    grind
theorem adj_cover : ∀ {rs : List Rat} {a b t : Rat}, (∃ l, ∃ hl : (a :: l) ≠ [], rs = a :: l ∧ (a :: l).getLast hl = b) → a < t → t ≤ b → ∃ p ∈ adj rs, p.1 < t ∧ t ≤ p.2 := by
  intro rs a b t ⟨l, hl, e, e2⟩ h1 h2
  subst e
  induction l generalizing a with
  | nil =>
    have : a = b := e2
    grind
  | cons y r ih =>
    by_cases c : t ≤ y
    · exact ⟨(a, y), by simp [adj], h1, c⟩
    · obtain ⟨p, hp, h3⟩ := ih (a := y) (by simp) (by rw [← e2]; exact (List.getLast_cons (by simp)).symm) (by grind)
      exact ⟨p, by simp [adj, hp], h3⟩
theorem cutR_ends {ch : List Rat} {a b : Rat} (h : a ≤ b) : ∃ l, ∃ hl : (a :: l) ≠ [], cutR ch a b = a :: l ∧ (a :: l).getLast hl = b :=
  ends cutR_pw (cutR_mem.mpr (.inl rfl)) (cutR_mem.mpr (.inr (.inl rfl))) fun x hx => by
    rcases cutR_mem.mp hx with h | h | h <;> grind
theorem cutR_adj {ch : List Rat} {a b : Rat} (h : a ≤ b) {p : Rat × Rat} (hp : p ∈ adj (cutR ch a b)) : a ≤ p.1 ∧ p.1 < p.2 ∧ p.2 ≤ b ∧ St ch p.1 p.2 := by
  obtain ⟨h1, h2⟩ := adj_gap cutR_pw hp
  obtain ⟨m1, m2⟩ := adj_mem hp
  have b1 : a ≤ p.1 := by rcases cutR_mem.mp m1 with h | h | h <;> grind
  have b2 : p.2 ≤ b := by rcases cutR_mem.mp m2 with h | h | h <;> grind
  exact ⟨b1, h1, b2, fun t ht c => h2 t (cutR_mem.mpr (.inr (.inr ⟨ht, by grind, by grind⟩))) c⟩
/-- by how many lengths o is before u, less v -/
def RaceM.off (R : RaceM) (o u : Rn) (v t : Rat) : Rat := (o.pos t - u.pos t - v) / R.len
/-- o comes from behind to v before u -/
structure RaceM.Up (R : RaceM) (o u : Rn) (v t : Rat) : Prop where
  w : ∃ n : Int, R.off o u v t = (n : Rat)
  s : u.sb t < o.sb t
def RaceM.upStep (R : RaceM) (o u : Rn) (v x y : Rat) : List Rat := if u.speed x < o.speed x then upS R.len (o.speed x - u.speed x) (R.off o u v x) (R.off o u v y) x else []
def RaceM.upL (R : RaceM) (o u : Rn) (v a b : Rat) : List Rat := Tot (· ++ ·) [] (R.upStep o u v) (chs [o, u]) a b
theorem off_line {R : RaceM} {o u : Rn} (oo : o.Ok) (ou : u.Ok) {v x y : Rat} (hx : 0 ≤ x) (hxy : x ≤ y) (so : ∀ p ∈ o.pieces, ¬ (x < p.1 ∧ p.1 < y)) (su : ∀ p ∈ u.pieces, ¬ (x < p.1 ∧ p.1 < y)) :
    R.off o u v y = R.off o u v x + (o.speed x - u.speed x) * (y - x) / R.len := by
  unfold RaceM.off
  rw [Rn.line oo hx hxy so, Rn.line ou hx hxy su, Rat.div_def, Rat.div_def, Rat.div_def]
  grind
theorem upStep_mem {R : RaceM} {o u : Rn} (l0 : 0 < R.len) (oo : o.Ok) (ou : u.Ok) {v x y t : Rat} (hx : 0 ≤ x) (hxy : x < y) (st : St (chs [o, u]) x y) : t ∈ R.upStep o u v x y ↔ x < t ∧ t ≤ y ∧ R.Up o u v t := by
  have so := st.rn (r := o) (by simp)
  have su := st.rn (r := u) (by simp)
  have lin := off_line (R := R) (v := v) oo ou hx (Rat.le_of_lt hxy) so su
  have at' : x < t → t ≤ y → (R.off o u v t = R.off o u v x + (o.speed x - u.speed x) * (t - x) / R.len) ∧ o.sb t = o.speed x ∧ u.sb t = u.speed x := fun h1 h2 =>
    ⟨off_line oo ou hx (Rat.le_of_lt h1) (fun p hp c => so p hp ⟨c.1, by grind⟩) (fun p hp c => su p hp ⟨c.1, by grind⟩),
      Rn.sb_st h1 fun p hp c => so p hp ⟨c.1, by grind⟩, Rn.sb_st h1 fun p hp c => su p hp ⟨c.1, by grind⟩⟩
  unfold RaceM.upStep
  by_cases g : u.speed x < o.speed x
  · rw [if_pos g, upS_mem (by grind) l0 lin]
    constructor
    · rintro ⟨h1, h2, n, e⟩
      obtain ⟨e1, e2, e3⟩ := at' h1 h2
      exact ⟨h1, h2, ⟨n, by rw [e1, e]⟩, by rw [e2, e3]; exact g⟩
    · rintro ⟨h1, h2, ⟨n, e⟩, _⟩
      obtain ⟨e1, _⟩ := at' h1 h2
      exact ⟨h1, h2, n, by rw [← e1, e]⟩
  · rw [if_neg g]
    constructor
    · intro h; cases h
    · rintro ⟨h1, h2, _, s⟩
      obtain ⟨_, e2, e3⟩ := at' h1 h2
      rw [e2, e3] at s
      exact absurd s g
theorem upL_mem {R : RaceM} {o u : Rn} (l0 : 0 < R.len) (oo : o.Ok) (ou : u.Ok) {v a b t : Rat} (ha : 0 ≤ a) (hab : a ≤ b) : t ∈ R.upL o u v a b ↔ a < t ∧ t ≤ b ∧ R.Up o u v t := by
  unfold RaceM.upL Tot
  rw [Sm_app_mem]
  constructor
  · rintro ⟨p, hp, ht⟩
    obtain ⟨h1, h2, h3, st⟩ := cutR_adj hab hp
    obtain ⟨h4, h5, h6⟩ := (upStep_mem l0 oo ou (by grind) h2 st).mp ht
    exact ⟨by grind, by grind, h6⟩
  · rintro ⟨h1, h2, h3⟩
    obtain ⟨p, hp, h4, h5⟩ := adj_cover (cutR_ends (ch := chs [o, u]) hab) h1 h2
    obtain ⟨h6, h7, h8, st⟩ := cutR_adj hab hp
    exact ⟨p, hp, (upStep_mem l0 oo ou (by grind) h7 st).mpr ⟨h4, h5, h3⟩⟩
theorem upStep_pw {R : RaceM} {o u : Rn} (l0 : 0 < R.len) {v x y : Rat} : (R.upStep o u v x y).Pairwise (· < ·) := by
  unfold RaceM.upStep
  split
  · exact upS_pw (by grind) l0
  · exact .nil
theorem upL_pw {R : RaceM} {o u : Rn} (l0 : 0 < R.len) (oo : o.Ok) (ou : u.Ok) {v a b : Rat} (ha : 0 ≤ a) (hab : a ≤ b) : (R.upL o u v a b).Pairwise (· < ·) := by
  refine Sm_app_pw cutR_pw fun p hp => ?_
  obtain ⟨h1, h2, h3, st⟩ := cutR_adj hab hp
  exact ⟨upStep_pw l0, fun t ht => by
    have := (upStep_mem l0 oo ou (by grind) h2 st).mp ht
    exact ⟨this.1, this.2.1⟩⟩
/-- the number of passes -/
def RaceM.passN (R : RaceM) (o u : Rn) (a b : Rat) : Nat := (R.upL o u 0 a b).length
theorem passL_Sm {R : RaceM} {o u : Rn} : ∀ rs : List Rat, R.passL o u rs = Sm (· + ·) 0 (fun x y => R.passStep o u (x, y)) rs
  | [] => rfl
  | [x] => rfl
  | x :: y :: r => by
    have := passL_Sm (R := R) (o := o) (u := u) (y :: r)
    unfold RaceM.passL at this ⊢
    show (((x, y) :: adj (y :: r)).map (R.passStep o u)).sum = _ + _
    rw [List.map_cons, List.sum_cons, this]
theorem Sm_len {α : Type} {f : Rat → Rat → List α} {g : Rat → Rat → Int} : ∀ {rs : List Rat}, (∀ p ∈ adj rs, ((f p.1 p.2).length : Int) = g p.1 p.2) → ((Sm (· ++ ·) [] f rs).length : Int) = Sm (· + ·) 0 g rs
  | [], _ => rfl
  | [x], _ => rfl
  | x :: y :: r, h => by
    have ih := Sm_len (rs := y :: r) fun p hp => h p (by simp [adj, hp])
    have h0 : ((f x y).length : Int) = g x y := h (x, y) (by simp [adj])
    show ((f x y ++ Sm (· ++ ·) [] f (y :: r)).length : Int) = g x y + Sm (· + ·) 0 g (y :: r)
    rw [List.length_append, ← ih, ← h0]
    omega
theorem off_apart {R : RaceM} {o u : Rn} {t : Rat} : (R.off o u 0 t).floor = R.apart o u t := by
  unfold RaceM.off RaceM.apart
  have : o.pos t - u.pos t - 0 = o.pos t - u.pos t := by grind
  rw [this]
theorem passL_passN {R : RaceM} {o u : Rn} (l0 : 0 < R.len) (oo : o.Ok) (ou : u.Ok) {a b : Rat} (ha : 0 ≤ a) (hab : a ≤ b) : R.passL o u (cutR (chs [o, u]) a b) = (R.passN o u a b : Int) := by
  unfold RaceM.passN RaceM.upL Tot
  rw [passL_Sm, Sm_len]
  intro p hp
  obtain ⟨h1, h2, h3, st⟩ := cutR_adj hab hp
  unfold RaceM.upStep RaceM.passStep
  by_cases g : u.speed p.1 < o.speed p.1
  · rw [if_pos g, if_pos g, upS_len, off_apart, off_apart]
    rw [off_line (R := R) (v := 0) oo ou (by grind) (Rat.le_of_lt h2) (st.rn (r := o) (by simp)) (st.rn (r := u) (by simp))]
    have : 0 < (o.speed p.1 - u.speed p.1) * (p.2 - p.1) / R.len := by
      rw [div_pos_iff l0, mul_pos_iff (by grind)]; grind
    grind
  · rw [if_neg g, if_neg g]; rfl
/-- two rising lists, matched by a rising map -/
theorem rising_map {l m : List Rat} (f : Rat → Rat) (mono : ∀ x y, x < y → f x < f y) (hl : l.Pairwise (· < ·)) (hm : m.Pairwise (· < ·)) (h : ∀ x, x ∈ m ↔ ∃ y ∈ l, f y = x) : l.map f = m :=
  rising_eq (by rw [List.pairwise_map]; exact hl.imp fun {a b} h => mono a b h) hm fun x => by rw [List.mem_map, h x]
end G


/-! ## HQ2 -/
/-! Passes, standings. -/
namespace G
open PySem PySem.Spec PyProof.Rows L2 L3 MR
def Ph_laps_apart : Con := fun as Q => ∃ (R : RaceM) (o u : Rn) (v : PV) (t : Rat), as = [R.pv, .str o.name, .str u.name, v] ∧ R.G ∧ o ∈ R.rs ∧ u ∈ R.rs ∧ NumP v t ∧ R.At t ∧ Q (.int (R.apart o u t))
def Ph_passes : Con := fun as Q => ∃ (R : RaceM) (o u : Rn) (v w : PV) (a b : Rat), as = [R.pv, .str o.name, .str u.name, v, w] ∧ R.G ∧ o ∈ R.rs ∧ u ∈ R.rs ∧ NumP v a ∧ NumP w b ∧ a ≤ b ∧ R.At a ∧ R.At b ∧ Q (.int (R.passN o u a b : Int))
def groupP (R : RaceM) (t p : Rat) : PV := .tup [rat p, .lst ((R.rs.filter fun r => decide (R.place r t = p)).map fun r => .str r.name)]
def RaceM.places (R : RaceM) (t : Rat) : List Rat := riseL (R.rs.map fun r => R.place r t)
def Ph_standing : Con := fun as Q => ∃ (R : RaceM) (v : PV) (t : Rat), as = [R.pv, v] ∧ R.G ∧ R.rs.length ≤ 6 ∧ NumP v t ∧ R.At t ∧ Q (.lst ((R.places t).map (groupP R t)))
def t_laps_apart : PTS := pSeq (pAsg (pCall Ph_minus (pCons (pMeth "Race" "position" Ph_Race_position (pVar 0) (pCons (pVar 1) (pCons (pVar 3) (pNil)))) (pCons (pMeth "Race" "position" Ph_Race_position (pVar 0) (pCons (pVar 2) (pCons (pVar 3) (pNil)))) (pNil)))) (gNm 4)) (pRet (pCall Ph_floor_of (pCons (pCall Ph_divided (pCons (pVar 4) (pCons (pProp "Race" Ph_Race_length (pVar 0)) (pNil)))) (pNil))))
abbrev N_laps_apart : List Str := ["race", "first", "second", "time", "apart"]
theorem st_laps_apart (a0 a1 a2 a3 : PV) : startP N_laps_apart [a0, a1, a2, a3] = [.val a0, .val a1, .val a2, .val a3, .no] := rfl
def tb_passes_1 : PTS := pIfS (pTst (pBin kGtI (pCall Ph_compare (pCons (pMeth "Race" "speed" Ph_Race_speed (pVar 0) (pCons (pVar 1) (pCons (pVar 9) (pNil)))) (pCons (pMeth "Race" "speed" Ph_Race_speed (pVar 0) (pCons (pVar 2) (pCons (pVar 9) (pNil)))) (pNil)))) (pC (.int 0)))) (pAug 8 (pBin kSubI (pCall Ph_laps_apart (pCons (pVar 0) (pCons (pVar 1) (pCons (pVar 2) (pCons (pVar 10) (pNil)))))) (pCall Ph_laps_apart (pCons (pVar 0) (pCons (pVar 1) (pCons (pVar 2) (pCons (pVar 9) (pNil)))))))) (pNext)
def t_passes : PTS := pSeq (pDrop (pMeth "Race" "validate_names" Ph_Race_validate_names (pVar 0) (pCons (pVar 1) (pCons (pVar 2) (pNil))))) (pSeq (pAsg (pCall Ph_as_window (pCons (pVar 3) (pCons (pVar 4) (pNil)))) (gTupP 2 (gConsP (gNm 5) (gConsP (gNm 6) (gNilP))))) (pSeq (pAsg (pCall Ph_cut_times (pCons (pVar 0) (pCons (pLst (pCons (pVar 1) (pCons (pVar 2) (pNil)))) (pCons (pVar 5) (pCons (pVar 6) (pNil)))))) (gNm 7)) (pSeq (pAsg (pC (.int 0)) (gNm 8)) (pSeq (pFor (pZip (pCons (pVar 7) (pCons (pSlL (pVar 7) (pPart (pC (.int 1))) (pNoPart)) (pNil)))) (gTupP 2 (gConsP (gNm 9) (gConsP (gNm 10) (gNilP)))) tb_passes_1) (pRet (pVar 8))))))
abbrev N_passes : List Str := ["race", "over", "under", "start", "end", "begin", "stop", "cuts", "count", "one", "other"]
theorem st_passes (a0 a1 a2 a3 a4 : PV) : startP N_passes [a0, a1, a2, a3, a4] = [.val a0, .val a1, .val a2, .val a3, .val a4, .no, .no, .no, .no, .no, .no] := rfl
def tk_standing_1 : PTE := pVar 3
def tv_standing_2 : PTE := pMeth "Race" "place" Ph_Race_place (pVar 0) (pCons (pVar 3) (pCons (pVar 1) (pNil)))
def tt_standing_3 : PTT := pTst (pBin kEq (pBin kDGet (pVar 2) (pVar 3)) (pVar 5))
def te_standing_4 : PTE := pVar 3
def te_standing_5 : PTE := pTup (pCons (pVar 5) (pCons (pLc (pIL (pMeth "Race" "names" Ph_Race_names (pVar 0) pNil)) (gNm 3) tt_standing_3 te_standing_4 [3]) (pNil)))
def t_standing : PTS := pSeq (pDrop (pCall Ph_as_time (pCons (pVar 1) (pNil)))) (pSeq (pAsg (pDc (pIL (pMeth "Race" "names" Ph_Race_names (pVar 0) pNil)) (gNm 3) pTsYes tk_standing_1 tv_standing_2 [3]) (gNm 2)) (pSeq (pAsg (pCall Ph_in_order (pCons (pListVals (pVar 2)) (pNil))) (gNm 4)) (pRet (pLc (pIL (pVar 4)) (gNm 5) pTsYes te_standing_5 [5]))))
abbrev N_standing : List Str := ["race", "time", "places", "name", "rows", "place"]
theorem st_standing (a0 a1 : PV) : startP N_standing [a0, a1] = [.val a0, .val a1, .no, .no, .no, .no] := rfl

theorem hp_laps_apart : ∀ as Q, Ph_laps_apart as Q → as.length = 4 ∧ t_laps_apart ⟨fun _ => Q .non, Q, fun _ => False, fun _ => False⟩ (startP N_laps_apart as) := by
  rintro as Q ⟨R, o, u, v, t, rfl, g, ho, hu, hv, a, hq⟩
  refine ⟨rfl, ?_⟩
  simp only [st_laps_apart, t_laps_apart, RaceM.pv, pSeq, pNext, pIfS, pRet, pRetN, pAsg, pDrop, pPar, pAug, gNm, gTupP, gConsP, gNilP, pVar, pC, pBin, pChain, pUn, kNeg, pTst, pAndT, pOrT, pNotT, pAndV, pOrV, pNotV, pIf, pCons, pNil, pTup, pLst, pStar, pCallB, pCall, pMeth, pProp, pFld, pFrz, pIL, pIT, pZip, pEnum, pR1, pR2, pSlL, pPart, pNoPart, pLc, pLc2, pDc, pSortSc, pFor, pNewL, pNewD, pApp, pExt, pDPut, pSetL, pOwnD, pIsN, pNotN, pListVals, pIVals, pIKeys, pIItems, onDic, pIStr, pDGet1, pTsYes, pParL, pParR, pCel, pCelSet, pNewCel, pNeverS, wipeP, List.set_cons_zero, List.set_cons_succ, List.getElem?_cons_zero, List.getElem?_cons_succ, List.length_cons, List.length_nil]
  have h1 := a.p o ho
  have h2 := a.p u hu
  have h3 := g.len
  have pe := P0_eq
  have h5 := sz_sub (o.pos t) (u.pos t)
  have h6 := sz_div (o.pos t - u.pos t) (len_ne g)
  exact ⟨by trivial, by rfl, R, o, v, t, rfl, g, ho, hv, a, by trivial, by rfl, R, u, v, t, rfl, g, hu, hv, a, _, _, o.pos t, u.pos t, rfl, .rat _, .rat _, by omega,
    by trivial, R, rfl, _, _, _, R.len, rfl, .rat _, .rat _, len_ne g, by omega, _, _, rfl, .rat _, by omega, hq⟩
theorem speedP_sz {B : Nat} : ∀ (ps : List (Rat × Rat)) (t d : Rat), (∀ x ∈ ps, sz x.2 ≤ B) → sz d ≤ B → sz (speedP ps t d) ≤ B
  | [], t, d, _, hd => hd
  | (b, s) :: r, t, d, h, hd => by
    unfold speedP
    refine speedP_sz r t _ (fun x hx => h x (List.mem_cons_of_mem _ hx)) ?_
    split
    · exact h (b, s) (List.mem_cons_self ..)
    · exact hd
theorem RaceM.G.speed_sz {R : RaceM} (g : R.G) {r : Rn} (hr : r ∈ R.rs) (t : Rat) : sz (r.speed t) ≤ P0 := speedP_sz r.pieces t 0 (g.sp r hr) (by rw [sz0]; decide)
theorem cut_at {R : RaceM} (g : R.G) {ns : List Rn} (hn : ∀ r ∈ ns, r ∈ R.rs) {a b x : Rat} (ha : R.At a) (hb : R.At b) (h : x ∈ cutR (chs ns) a b) : R.At x := by
  rcases cutR_mem.mp h with rfl | rfl | ⟨h, _⟩
  · exact ha
  · exact hb
  · obtain ⟨r, hr, p, hp, rfl⟩ := chs_mem.mp h
    exact g.ch r (hn r hr) p hp
theorem two_in {R : RaceM} {o u : Rn} (ho : o ∈ R.rs) (hu : u ∈ R.rs) : ∀ r ∈ [o, u], r ∈ R.rs := by
  intro r hr
  simp only [List.mem_cons, List.not_mem_nil, or_false] at hr
  rcases hr with rfl | rfl <;> assumption
theorem hp_passes : ∀ as Q, Ph_passes as Q → as.length = 5 ∧ t_passes ⟨fun _ => Q .non, Q, fun _ => False, fun _ => False⟩ (startP N_passes as) := by
  rintro as Q ⟨R, o, u, v, w, a, b, rfl, g, ho, hu, hv, hw, ab, ha, hb, hq⟩
  refine ⟨rfl, ?_⟩
  simp only [st_passes, t_passes, RaceM.pv, pSeq, pNext, pIfS, pRet, pRetN, pAsg, pDrop, pPar, pAug, gNm, gTupP, gConsP, gNilP, pVar, pC, pBin, pChain, pUn, kNeg, pTst, pAndT, pOrT, pNotT, pAndV, pOrV, pNotV, pIf, pCons, pNil, pTup, pLst, pStar, pCallB, pCall, pMeth, pProp, pFld, pFrz, pIL, pIT, pZip, pEnum, pR1, pR2, pSlL, pPart, pNoPart, pLc, pLc2, pDc, pSortSc, pFor, pNewL, pNewD, pApp, pExt, pDPut, pSetL, pOwnD, pIsN, pNotN, pListVals, pIVals, pIKeys, pIItems, onDic, pIStr, pDGet1, pTsYes, pParL, pParR, pCel, pCelSet, pNewCel, pNeverS, wipeP, List.set_cons_zero, List.set_cons_succ, List.getElem?_cons_zero, List.getElem?_cons_succ, List.length_cons, List.length_nil]
  have pe := P0_eq
  have ok := g.ok
  refine ⟨by trivial, by rfl, R, o, u, rfl, ok, ho, hu, v, w, a, b, rfl, hv, hw, ha.t0, ab, ha.z, hb.z, by trivial, size_le (by decide), R, [o, u], a, b, rfl, g, two_in ho hu, by simp, ha.z, hb.z, ?_⟩
  dsimp only
  rw [cut_drop1, zip_adj]
  rw [← passL_passN ok.len (ok.rn o ho) (ok.rn u hu) ha.t0 ab] at hq
  have cutz : ∀ x ∈ cutR (chs [o, u]) a b, R.At x := fun x hx => cut_at g (two_in ho hu) ha hb hx
  generalize cutR (chs [o, u]) a b = rs at *
  refine forL_of (fun p : Rat × Rat => PV.tup [rat p.1, rat p.2]) (fun rest ρ => ∃ (c : Int) (s9 s10 : Slt), (∀ p ∈ rest, p ∈ adj rs) ∧ c + (rest.map (R.passStep o u)).sum = R.passL o u rs ∧ ρ = [.val (.obj "Race" R.fs), .val (.str o.name), .val (.str u.name), .val v, .val w, .val (rat a), .val (rat b), .val (.lst (rs.map rat)), .val (.int c), s9, s10]) ?_ ?_ (adj rs) _ ⟨0, _, _, fun _ h => h, by unfold RaceM.passL; omega, rfl⟩
  · rintro ⟨x, y⟩ rest ρ ⟨c, s9, s10, hr, hs, rfl⟩ N hN
    obtain ⟨hx, hy⟩ := adj_mem (hr _ (List.mem_cons_self ..))
    have ax := cutz x hx
    have ay := cutz y hy
    have so := g.speed_sz ho x
    have su := g.speed_sz hu x
    simp only [tb_passes_1, pSeq, pNext, pIfS, pRet, pRetN, pAsg, pDrop, pPar, pAug, gNm, gTupP, gConsP, gNilP, pVar, pC, pBin, pChain, pUn, kNeg, pTst, pAndT, pOrT, pNotT, pAndV, pOrV, pNotV, pIf, pCons, pNil, pTup, pLst, pStar, pCallB, pCall, pMeth, pProp, pFld, pFrz, pIL, pIT, pZip, pEnum, pR1, pR2, pSlL, pPart, pNoPart, pLc, pLc2, pDc, pSortSc, pFor, pNewL, pNewD, pApp, pExt, pDPut, pSetL, pOwnD, pIsN, pNotN, pListVals, pIVals, pIKeys, pIItems, onDic, pIStr, pDGet1, pTsYes, pParL, pParR, pCel, pCelSet, pNewCel, pNeverS, wipeP, List.set_cons_zero, List.set_cons_succ, List.getElem?_cons_zero, List.getElem?_cons_succ, List.length_cons, List.length_nil]
    refine ⟨by trivial, by trivial, by rfl, R, o, _, x, rfl, g, ho, .rat x, ax.t0, ax.z, by trivial, by rfl, R, u, _, x, rfl, g, hu, .rat x, ax.t0, ax.z, _, _, o.speed x, u.speed x, rfl, .rat _, .rat _, by omega, ?_⟩
    simp only [kI0_int, cmp_gt]
    rw [List.map_cons, List.sum_cons] at hs
    by_cases h : u.speed x < o.speed x
    · have st : R.passStep o u (x, y) = R.apart o u y - R.apart o u x := by unfold RaceM.passStep; rw [if_pos h]
      simp only [decide_eq_true h]
      refine ⟨R, o, u, _, y, rfl, g, ho, hu, .rat y, ay, R, o, u, _, x, rfl, g, ho, hu, .rat x, ax, ?_⟩
      exact hN _ ⟨_, _, _, fun p hp => hr p (List.mem_cons_of_mem _ hp), by rw [← hs, st]; omega, rfl⟩
    · have st : R.passStep o u (x, y) = 0 := by unfold RaceM.passStep; rw [if_neg h]
      simp only [decide_eq_false h]
      exact hN _ ⟨c, _, _, fun p hp => hr p (List.mem_cons_of_mem _ hp), by rw [← hs, st]; omega, rfl⟩
  · rintro ρ ⟨c, s9, s10, _, hs, rfl⟩
    simp only [pSeq, pNext, pIfS, pRet, pRetN, pAsg, pDrop, pPar, pAug, gNm, gTupP, gConsP, gNilP, pVar, pC, pBin, pChain, pUn, kNeg, pTst, pAndT, pOrT, pNotT, pAndV, pOrV, pNotV, pIf, pCons, pNil, pTup, pLst, pStar, pCallB, pCall, pMeth, pProp, pFld, pFrz, pIL, pIT, pZip, pEnum, pR1, pR2, pSlL, pPart, pNoPart, pLc, pLc2, pDc, pSortSc, pFor, pNewL, pNewD, pApp, pExt, pDPut, pSetL, pOwnD, pIsN, pNotN, pListVals, pIVals, pIKeys, pIItems, onDic, pIStr, pDGet1, pTsYes, pParL, pParR, pCel, pCelSet, pNewCel, pNeverS, wipeP, List.set_cons_zero, List.set_cons_succ, List.getElem?_cons_zero, List.getElem?_cons_succ, List.length_cons, List.length_nil]
    have : c = R.passL o u rs := by simpa using hs
    rw [this]
    exact hq
theorem eqP_rat (a b : Rat) : eqP (rat a) (rat b) = some (decide (a = b)) := by
  have e : decide (a = b) = ((a.num == b.num) && ((a.den : Int) == (b.den : Int))) := by
    rw [Bool.eq_iff_iff]
    simp only [decide_eq_true_eq, Bool.and_eq_true, beq_iff_eq]
    constructor
    · rintro rfl; exact ⟨rfl, rfl⟩
    · rintro ⟨h1, h2⟩; exact Rat.ext h1 (by exact_mod_cast h2)
  have h : eqP (rat a) (rat b) = some (PyData.eqv (.tuple [.int a.num, .int (a.den : Int)]) (.tuple [.int b.num, .int (b.den : Int)])) := by rfl
  rw [h, e]
  simp [PyData.eqv, PyData.eqvAll]
theorem kEq_rat {a b : Rat} {Q : PV → Prop} : kEq (rat a) (rat b) Q = Q (.bl (decide (a = b))) := by simp only [kEq, eqP_rat]
theorem kNe_rat {a b : Rat} {Q : PV → Prop} : kNe (rat a) (rat b) Q = Q (.bl (!decide (a = b))) := by simp only [kNe, eqP_rat]
theorem kDGet_of {l : List (Key × PV)} {n : Str} {r : PV} (h : valA l (Sum.inr n) = some r) {Q : PV → Prop} : kDGet (.dic l) (.str n) Q = Q r := by
  simp only [kDGet, keyP, h]
theorem rise_len (l : List Rat) : (riseL l).length ≤ l.length := by
  have := List.Nodup.length_le_of_subset (l₂ := l) (List.Pairwise.imp (fun h => by intro e; subst e; exact absurd h (by grind)) (riseL_pw l)) fun x hx => riseL_mem.mp hx
  exact this
theorem hp_standing : ∀ as Q, Ph_standing as Q → as.length = 2 ∧ t_standing ⟨fun _ => Q .non, Q, fun _ => False, fun _ => False⟩ (startP N_standing as) := by
  rintro as Q ⟨R, v, t, rfl, g, r6, hv, a, hq⟩
  refine ⟨rfl, ?_⟩
  simp only [st_standing, t_standing, RaceM.pv, pSeq, pNext, pIfS, pRet, pRetN, pAsg, pDrop, pPar, pAug, gNm, gTupP, gConsP, gNilP, pVar, pC, pBin, pChain, pUn, kNeg, pTst, pAndT, pOrT, pNotT, pAndV, pOrV, pNotV, pIf, pCons, pNil, pTup, pLst, pStar, pCallB, pCall, pMeth, pProp, pFld, pFrz, pIL, pIT, pZip, pEnum, pR1, pR2, pSlL, pPart, pNoPart, pLc, pLc2, pDc, pSortSc, pFor, pNewL, pNewD, pApp, pExt, pDPut, pSetL, pOwnD, pIsN, pNotN, pListVals, pIVals, pIKeys, pIItems, onDic, pIStr, pDGet1, pTsYes, pParL, pParR, pCel, pCelSet, pNewCel, pNeverS, wipeP, List.set_cons_zero, List.set_cons_succ, List.getElem?_cons_zero, List.getElem?_cons_succ, List.length_cons, List.length_nil]
  have ok := g.ok
  have lr := ok.hi
  have pe := P0_eq
  have tz := a.z
  refine ⟨v, t, rfl, hv, a.t0, by omega, by trivial, by rfl, R, rfl, ?_⟩
  refine dcL_of (fun r : Rn => PV.str r.name) (fun r => some (Sum.inr r.name, rat (R.place r t))) R.rs [] (fun r hr T F h => ?_) (by simp; exact size_le (by omega)) ?_
  · simp only [tk_standing_1, tv_standing_2, pSeq, pNext, pIfS, pRet, pRetN, pAsg, pDrop, pPar, pAug, gNm, gTupP, gConsP, gNilP, pVar, pC, pBin, pChain, pUn, kNeg, pTst, pAndT, pOrT, pNotT, pAndV, pOrV, pNotV, pIf, pCons, pNil, pTup, pLst, pStar, pCallB, pCall, pMeth, pProp, pFld, pFrz, pIL, pIT, pZip, pEnum, pR1, pR2, pSlL, pPart, pNoPart, pLc, pLc2, pDc, pSortSc, pFor, pNewL, pNewD, pApp, pExt, pDPut, pSetL, pOwnD, pIsN, pNotN, pListVals, pIVals, pIKeys, pIItems, onDic, pIStr, pDGet1, pTsYes, pParL, pParR, pCel, pCelSet, pNewCel, pNeverS, wipeP, List.set_cons_zero, List.set_cons_succ, List.getElem?_cons_zero, List.getElem?_cons_succ, List.length_cons, List.length_nil, keyP]
    exact ⟨by trivial, by rfl, R, r, v, t, rfl, g, hr, hv, a, h⟩
  rw [List.filterMap_eq_map', mergeP_new _ _ (by
    rw [List.pairwise_map]
    exact ok.nd.imp fun h => by simpa using h) (by simp), List.nil_append]
  have eL : ((R.rs.map fun r => ((Sum.inr r.name : Key), rat (R.place r t))).map fun x => x.2) = ((R.rs.map fun r => (rat (R.place r t), R.place r t)).map (·.1)) := by
    rw [List.map_map, List.map_map]; rfl
  rw [eL]
  refine in_order_of (fun x hx => ?_) ?_ ?_
  · obtain ⟨r, _, rfl⟩ := List.mem_map.mp hx
    exact .rat _
  · rw [List.map_map]
    have := sum_le (fun r : Rn => sz (R.place r t)) P0 R.rs a.q
    have h2 : R.rs.length * P0 ≤ 6 * 640 := Nat.mul_le_mul r6 (by omega)
    exact Nat.le_trans (Nat.mul_le_mul_left 2 this) (by omega)
  · have e : riseL ((R.rs.map fun r => (rat (R.place r t), R.place r t)).map (·.2)) = R.places t := by rw [List.map_map]; rfl
    rw [e]
    have lrs : (R.places t).length ≤ R.rs.length := by
      have := rise_len (R.rs.map fun r => R.place r t)
      rw [List.length_map] at this
      exact this
    refine lcL_map rat (groupP R t) (R.places t) (fun p hp T h => ?_) (size_le (by omega)) hq
    simp only [te_standing_5, pSeq, pNext, pIfS, pRet, pRetN, pAsg, pDrop, pPar, pAug, gNm, gTupP, gConsP, gNilP, pVar, pC, pBin, pChain, pUn, kNeg, pTst, pAndT, pOrT, pNotT, pAndV, pOrV, pNotV, pIf, pCons, pNil, pTup, pLst, pStar, pCallB, pCall, pMeth, pProp, pFld, pFrz, pIL, pIT, pZip, pEnum, pR1, pR2, pSlL, pPart, pNoPart, pLc, pLc2, pDc, pSortSc, pFor, pNewL, pNewD, pApp, pExt, pDPut, pSetL, pOwnD, pIsN, pNotN, pListVals, pIVals, pIKeys, pIItems, onDic, pIStr, pDGet1, pTsYes, pParL, pParR, pCel, pCelSet, pNewCel, pNeverS, wipeP, List.set_cons_zero, List.set_cons_succ, List.getElem?_cons_zero, List.getElem?_cons_succ, List.length_cons, List.length_nil]
    refine ⟨by trivial, by rfl, R, rfl, ?_⟩
    refine lcL_of (fun r : Rn => PV.str r.name) (fun r => if R.place r t = p then some (.str r.name) else none) R.rs [] (fun r hr T' F h' => ?_) (by simp; exact size_le (by omega)) ?_
    · simp only [tt_standing_3, te_standing_4, pSeq, pNext, pIfS, pRet, pRetN, pAsg, pDrop, pPar, pAug, gNm, gTupP, gConsP, gNilP, pVar, pC, pBin, pChain, pUn, kNeg, pTst, pAndT, pOrT, pNotT, pAndV, pOrV, pNotV, pIf, pCons, pNil, pTup, pLst, pStar, pCallB, pCall, pMeth, pProp, pFld, pFrz, pIL, pIT, pZip, pEnum, pR1, pR2, pSlL, pPart, pNoPart, pLc, pLc2, pDc, pSortSc, pFor, pNewL, pNewD, pApp, pExt, pDPut, pSetL, pOwnD, pIsN, pNotN, pListVals, pIVals, pIKeys, pIItems, onDic, pIStr, pDGet1, pTsYes, pParL, pParR, pCel, pCelSet, pNewCel, pNeverS, wipeP, List.set_cons_zero, List.set_cons_succ, List.getElem?_cons_zero, List.getElem?_cons_succ, List.length_cons, List.length_nil]
      rw [kDGet_of (valA_map Rn.name (fun r => rat (R.place r t)) ok.nd hr), kEq_rat]
      by_cases hp' : R.place r t = p
      · rw [if_pos hp'] at h'
        rw [decide_eq_true hp']
        exact h'
      · rw [if_neg hp'] at h'
        rw [decide_eq_false hp']
        exact h'
    · rw [List.nil_append, fm_filter]
      exact ⟨size_le (by simp), h⟩
end G


/-! ## FR -/
/-! Loops over ranges. -/
namespace G
open PySem PySem.Spec PyProof.Rows L2 L3 MR
theorem rng_map0 (n : Nat) : rngP 0 n = (List.range n).map fun i : Nat => PV.int (0 + (i : Int)) := rfl
theorem forL_range {g : PTG} {tb : PTS} {E : PEnds} {n : Nat} (I : Nat → List Slt → Prop)
    (step : ∀ k, k < n → ∀ ρ, I k ρ → ∀ N : List Slt → Prop, (∀ ρ', I (k + 1) ρ' → N ρ') → g (.int (0 + (k : Int))) ρ fun ρ1 => tb ⟨N, E.rt, E.nx, N⟩ ρ1) (fin : ∀ ρ, I n ρ → E.nx ρ) (ρ : List Slt) (h : I 0 ρ) :
    pForL g tb E ((List.range n).map fun i : Nat => PV.int (0 + (i : Int))) ρ := by
  have key : ∀ (m k : Nat), k + m = n → ∀ ρ, I k ρ → pForL g tb E ((List.range' k m).map fun i : Nat => PV.int (0 + (i : Int))) ρ := fun m => by
    induction m with
    | zero => intro k hk ρ h; have : k = n := by omega
              subst this; exact fin ρ h
    | succ m ih =>
      intro k hk ρ h
      rw [List.range'_succ, List.map_cons]
      exact step k (by omega) ρ h _ fun ρ' h' => ih (k + 1) (by omega) ρ' h'
  rw [List.range_eq_range']
  exact key n 0 (by omega) ρ h
theorem cut_to (l : List PV) (k : Nat) : cutP l none (some (k : Int)) = l.take k := by
  unfold cutP
  rw [HT.sIx_none, HT.sIx_nat, List.drop_zero, Nat.sub_zero]
  rcases Nat.le_total k l.length with h | h
  · rw [Nat.min_eq_left h]
  · rw [Nat.min_eq_right h, List.take_of_length_le h, List.take_of_length_le (Nat.le_refl _)]
theorem cut_from (l : List PV) (k : Nat) : cutP l (some (k : Int)) none = l.drop k := by
  unfold cutP
  rw [HT.sIx_none, HT.sIx_nat]
  rcases Nat.le_total k l.length with h | h
  · rw [Nat.min_eq_left h]
    exact List.take_of_length_le (by simp)
  · rw [Nat.min_eq_right h, List.drop_of_length_le h, List.drop_of_length_le (Nat.le_refl _)]
    simp
end G


/-! ## MS -/
/-! Sorted texts. -/
namespace G
open PySem PySem.Spec PyProof.Rows L2 L3
theorem lt_cc {a b : Nat} {r t : List Nat} : ltCps (a :: r) (b :: t) = (decide (a < b) || a == b && ltCps r t) := by rw [ltCps]
theorem le_anti : ∀ {a b : List Nat}, ltCps a b = false → ltCps b a = false → a = b
  | [], [], _, _ => rfl
  | [], _ :: _, h, _ => by rw [ltCps] at h; cases h
  | _ :: _, [], _, h => by rw [ltCps] at h; cases h
  | a :: r, b :: t, h1, h2 => by
    rw [lt_cc] at h1 h2
    simp only [Bool.or_eq_false_iff, decide_eq_false_iff_not, Bool.and_eq_false_imp, beq_iff_eq] at h1 h2
    have e : a = b := by omega
    subst e
    rw [le_anti (h1.2 rfl) (h2.2 rfl)]
theorem le_tr : ∀ {a b c : List Nat}, ltCps b a = false → ltCps c b = false → ltCps c a = false
  | _, _, [], _, _ => by
    rename_i a b h1 h2
    cases a with
    | nil => rw [ltCps]
    | cons => cases b with
      | nil => rw [ltCps] at h1; cases h1
      | cons => rw [ltCps] at h2; cases h2
  | [], _, _ :: _, _, _ => by rw [ltCps]
  | _ :: _, [], _ :: _, h, _ => by rw [ltCps] at h; cases h
  | a :: r, b :: t, c :: u, h1, h2 => by
    rw [lt_cc] at h1 h2 ⊢
    simp only [Bool.or_eq_false_iff, decide_eq_false_iff_not, Bool.and_eq_false_imp, beq_iff_eq] at h1 h2 ⊢
    refine ⟨by omega, fun e => ?_⟩
    exact le_tr (h1.2 (by omega)) (h2.2 (by omega))
abbrev leS (a b : Str) : Prop := ltCps b.cps.toList a.cps.toList = false
theorem rising_pw : ∀ (x : Str) (l : List Str), risingS x l = true → (x :: l).Pairwise leS
  | x, [], _ => by simp
  | x, y :: r, h => by
    rw [risingS, Bool.and_eq_true, Bool.not_eq_true'] at h
    have ih := rising_pw y r h.2
    refine List.pairwise_cons.mpr ⟨fun z hz => ?_, ih⟩
    rcases List.mem_cons.mp hz with rfl | hz
    · exact h.1
    · exact le_tr h.1 ((List.pairwise_cons.mp ih).1 z hz)
theorem sorted_pw {l : List Str} (h : sortedS l = true) : l.Pairwise leS := by
  cases l with
  | nil => exact .nil
  | cons x r => exact rising_pw x r h
theorem str_ext {a b : Str} (h : a.cps.toList = b.cps.toList) : a = b := by
  cases a; cases b
  simp only [Str.mk.injEq]
  exact Array.toList_inj.mp h
/-- sorted by names that differ: one order alone -/
theorem sorted_unique {α : Type} (nm : α → Str) {l m : List α} (p : l.Perm m) (nd : m.Pairwise fun a b => nm a ≠ nm b) (hl : sortedS (l.map nm) = true) (hm : sortedS (m.map nm) = true) : l = m := by
  have h1 := List.pairwise_map.mp (sorted_pw hl)
  have h2 := List.pairwise_map.mp (sorted_pw hm)
  refine List.Perm.eq_of_pairwise (le := fun a b => leS (nm a) (nm b)) (fun a b ha hb x y => ?_) h1 h2 p
  have e := str_ext (le_anti y x)
  have ha' := p.mem_iff.mp ha
  obtain ⟨i, hi, rfl⟩ := List.mem_iff_getElem.mp ha'
  obtain ⟨j, hj, rfl⟩ := List.mem_iff_getElem.mp hb
  rcases Nat.lt_trichotomy i j with c | c | c
  · exact absurd e (List.pairwise_iff_getElem.mp nd i j hi hj c)
  · subst c; rfl
  · exact absurd e.symm (List.pairwise_iff_getElem.mp nd j i hj hi c)
end G


/-! ## HK3 -/
/-! What many laws share: the pool, numbers, pieces, races drawn. -/
namespace G
open PySem PySem.Spec PyProof.Rows L2 L3 MR
/-- a multiple of 1/k -/
def Dv (k : Nat) (q : Rat) : Prop := ∃ n : Int, q * (k : Rat) = (n : Rat)
theorem Dv.int {k : Nat} (i : Int) : Dv k (i : Rat) := ⟨i * k, by push_cast; rfl⟩
theorem Dv.zero {k : Nat} : Dv k 0 := ⟨0, by rw [Rat.zero_mul]; rfl⟩
theorem Dv.add {k : Nat} {a b : Rat} (h : Dv k a) (g : Dv k b) : Dv k (a + b) := by
  obtain ⟨n, e⟩ := h; obtain ⟨m, f⟩ := g
  exact ⟨n + m, by rw [Rat.add_mul, e, f]; push_cast; rfl⟩
theorem Dv.sub {k : Nat} {a b : Rat} (h : Dv k a) (g : Dv k b) : Dv k (a - b) := by
  obtain ⟨n, e⟩ := h; obtain ⟨m, f⟩ := g
  exact ⟨n - m, by rw [Rat.sub_eq_add_neg, Rat.add_mul, Rat.neg_mul, e, f]; push_cast; grind⟩
theorem Dv.neg {k : Nat} {a : Rat} (h : Dv k a) : Dv k (-a) := by
  obtain ⟨n, e⟩ := h
  exact ⟨-n, by rw [Rat.neg_mul, e]; push_cast; rfl⟩
theorem Dv.mul {j k : Nat} {a b : Rat} (h : Dv j a) (g : Dv k b) : Dv (j * k) (a * b) := by
  obtain ⟨n, e⟩ := h; obtain ⟨m, f⟩ := g
  refine ⟨n * m, ?_⟩
  have : a * b * ((j * k : Nat) : Rat) = (a * (j : Rat)) * (b * (k : Rat)) := by push_cast; grind
  rw [this, e, f]; push_cast; rfl
theorem Dv.up {j k : Nat} {a : Rat} (h : Dv j a) (d : j ∣ k) : Dv k a := by
  obtain ⟨n, e⟩ := h; obtain ⟨m, rfl⟩ := d
  refine ⟨n * m, ?_⟩
  have : a * ((j * m : Nat) : Rat) = (a * (j : Rat)) * (m : Rat) := by push_cast; grind
  rw [this, e]; push_cast; rfl
theorem Dv.imul {k : Nat} {a : Rat} (h : Dv k a) (i : Int) : Dv k (a * (i : Rat)) := by
  obtain ⟨n, e⟩ := h
  refine ⟨n * i, ?_⟩
  have : a * (i : Rat) * (k : Rat) = (a * (k : Rat)) * (i : Rat) := by grind
  rw [this, e]; push_cast; rfl
theorem Dv.of_den {q : Rat} {k : Nat} (h : q.den ∣ k) : Dv k q := by
  obtain ⟨m, rfl⟩ := h
  refine ⟨q.num * m, ?_⟩
  have h0 : ((q.den : Int) : Rat) ≠ 0 := by exact_mod_cast q.den_nz
  have h1 : q * (q.den : Rat) = (q.num : Rat) := by
    conv => lhs; lhs; rw [← Rat.num_divInt_den q]
    rw [Rat.divInt_eq_div]
    exact Rat.div_mul_cancel h0
  have : q * ((q.den * m : Nat) : Rat) = (q * (q.den : Rat)) * (m : Rat) := by push_cast; grind
  rw [this, h1]; push_cast; rfl
theorem Dv.den {q : Rat} {k : Nat} (h : Dv k q) (k0 : 0 < k) : q.den ∣ k := by
  obtain ⟨n, e⟩ := h
  have hk : ((k : Int) : Rat) ≠ 0 := by exact_mod_cast (show (k : Int) ≠ 0 by omega)
  have : q = Rat.divInt n k := by
    rw [Rat.divInt_eq_div, ← e]
    exact (Rat.mul_div_cancel hk).symm
  rw [this, Rat.den_divInt, if_neg (by omega)]
  exact Nat.div_dvd_of_dvd (Int.gcd_dvd_natAbs_left ..)
/-- sizes -/
theorem Dv.sz {q : Rat} {k : Nat} (h : Dv k q) (k0 : 0 < k) {M n : Nat} (h1 : -(M : Rat) ≤ q) (h2 : q ≤ (M : Rat)) (hM : M * k < 2 ^ n) (hk : k < 2 ^ n) (hn : 0 < n := by decide) : sz q ≤ n := by
  have hd := Nat.le_of_dvd k0 (h.den k0)
  refine sz_le hn ?_ (by omega)
  obtain ⟨z, e⟩ := h
  have kp : (0 : Rat) < (k : Rat) := by exact_mod_cast k0
  have e1 : (z : Rat) ≤ ((M * k : Nat) : Rat) := by rw [← e]; push_cast; exact Rat.mul_le_mul_of_nonneg_right h2 (Rat.le_of_lt kp)
  have e2 : -((M * k : Nat) : Rat) ≤ (z : Rat) := by
    rw [← e]; push_cast
    have := Rat.mul_le_mul_of_nonneg_right h1 (Rat.le_of_lt kp)
    rw [Rat.neg_mul] at this
    exact this
  have e3 : z ≤ ((M * k : Nat) : Int) := by exact_mod_cast e1
  have e5 : ((-((M * k : Nat) : Int) : Int) : Rat) ≤ (z : Rat) := by rw [Rat.intCast_neg]; exact e2
  have e4 : -((M * k : Nat) : Int) ≤ z := by exact_mod_cast e5
  have hk' : ((k : Int) : Rat) ≠ 0 := by exact_mod_cast (show (k : Int) ≠ 0 by omega)
  have eq : q = Rat.divInt z k := by
    rw [Rat.divInt_eq_div, ← e]
    exact (Rat.mul_div_cancel hk').symm
  have := num_divInt_le z k
  rw [← eq] at this
  omega
theorem den3 {q : Rat} (h : q.den ≤ 3) : Dv 6 q := Dv.of_den (by
  have := q.den_pos
  have : q.den = 1 ∨ q.den = 2 ∨ q.den = 3 := by omega
  rcases this with e | e | e <;> rw [e] <;> decide)
def Ph_law_pool : Con := fun as Q => ∃ (ns : List Int) (k : Nat), as = [.frz (ns.map PV.int), .int (k : Int)] ∧ k ≤ 100 ∧ Q .cel
def Ph_law_draw : Con := fun as Q => ∃ m : Int, as = [.cel, .int m] ∧ 0 < m ∧ m.natAbs.log2 < 9000 ∧ ∀ d : Int, 0 ≤ d → d < m → Q (.int d)
def Ph_law_choose : Con := fun as Q => ∃ l : List PV, as = [.cel, .lst l] ∧ l ≠ [] ∧ l.length < 1000 ∧ ∀ p ∈ l, Q p
def Ph_law_number : Con := fun as Q => ∃ lo hi : Int, as = [.cel, .int lo, .int hi] ∧ -900 ≤ lo ∧ lo ≤ hi ∧ 0 ≤ hi ∧ hi ≤ 900 ∧ ∀ v q, NumP v q → (lo ≤ 0 → (lo : Rat) ≤ q) → (0 < lo → 0 < q) → q ≤ (hi : Rat) + 1 → sz q ≤ 12 → q.den ≤ 3 → q.num.natAbs ≤ 2 * max lo.natAbs hi.natAbs + 2 → Q v
structure Drawn (ps : List RP) : Prop where
  ok : POk ps
  l : ps.length ≤ 3
  z : ∀ x ∈ ps, x.t ≤ 12 ∧ Dv 6 x.t ∧ x.s.num.natAbs ≤ 10 ∧ x.s.den ≤ 3 ∧ -4 ≤ x.s ∧ x.s ≤ 5
def Ph_law_pieces : Con := fun as Q => as = [.cel] ∧ ∀ ps : List RP, Drawn ps → Q (.lst (ps.map RP.pv))
/-- a drawn race -/
structure DrawnR (names : List Str) (R : RaceM) : Prop where
  ok : R.Ok
  nm : R.rs.map Rn.name = names
  lo : 1 ≤ R.len
  hi : R.len ≤ 12
  ld : Dv 2 R.len
  l : ∀ r ∈ R.rs, r.pieces.length ≤ 3
  st : ∀ r ∈ R.rs, Dv 6 r.start
  pc : ∀ r ∈ R.rs, ∀ p ∈ r.pieces, p.1 ≤ 12 ∧ Dv 6 p.1 ∧ Dv 6 p.2 ∧ -4 ≤ p.2 ∧ p.2 ≤ 5
def abcd : List Str := ["a", "b", "c", "d"]
def Ph_law_race : Con := fun as Q => ∃ m : Nat, as = [.cel, .int (m : Int)] ∧ 1 ≤ m ∧ m ≤ 4 ∧ ∀ R : RaceM, DrawnR (abcd.take m) R → Q R.pv
def t_law_pool : PTS := pSeq (pAsg (pC (.int 0)) (gNm 2)) (pSeq (pIfS (pTst (pBin kLtI (pVar 1) (pCallB kLen (pCons (pVar 0) (pNil))))) (pAsg (pBin kIx (pVar 0) (pVar 1)) (gNm 2)) (pNext)) (pSeq (pAsg (pBin kMdI (pBin kPowI (pBin kAddI (pBin kAddI (pBin kMdI (pVar 2) (pC (.int 2147483629))) (pBin kMulI (pBin kMulI (pC (.int 7919)) (pVar 1)) (pVar 1))) (pC (.int 31))) (pC (.int 3))) (pC (.int 2147483647))) (gNm 3)) (pSeq (pIfS (pTst (pBin kLtI (pVar 2) (pBin kPowI (pC (.int 10)) (pC (.int 18))))) (pAsg (pC (.int 0)) (gNm 2)) (pNext)) (pRet (pNewCel (pCons (pVar 2) (pCons (pVar 3) (pNil))))))))
abbrev N_law_pool : List Str := ["script", "k", "cell", "seed"]
theorem st_law_pool (a0 a1 : PV) : startP N_law_pool [a0, a1] = [.val a0, .val a1, .no, .no] := rfl
def t_law_draw : PTS := pSeq (pIfS (pTst (pBin kGtI (pCel 0 0) (pC (.int 0)))) (pSeq (pAsg (pBin kMdI (pCel 0 0) (pVar 1)) (gNm 2)) (pSeq (pCelSet 0 0 (pBin kFdI (pCel 0 0) (pVar 1))) (pRet (pVar 2)))) (pNext)) (pSeq (pCelSet 0 1 (pBin kMdI (pBin kAddI (pBin kMulI (pCel 0 1) (pC (.int 48271))) (pC (.int 11))) (pC (.int 2147483647)))) (pRet (pBin kMdI (pBin kFdI (pBin kMdI (pBin kMulI (pCel 0 1) (pCel 0 1)) (pC (.int 2147483629))) (pC (.int 64))) (pVar 1))))
abbrev N_law_draw : List Str := ["pool", "many", "digit"]
theorem st_law_draw (a0 a1 : PV) : startP N_law_draw [a0, a1] = [.val a0, .val a1, .no] := rfl
def t_law_choose : PTS := pRet (pBin kIx (pVar 1) (pCall Ph_law_draw (pCons (pVar 0) (pCons (pCallB kLen (pCons (pVar 1) (pNil))) (pNil)))))
abbrev N_law_choose : List Str := ["pool", "items"]
theorem st_law_choose (a0 a1 : PV) : startP N_law_choose [a0, a1] = [.val a0, .val a1] := rfl
def t_law_number : PTS := pSeq (pAsg (pBin kAddI (pVar 1) (pCall Ph_law_draw (pCons (pVar 0) (pCons (pBin kAddI (pBin kSubI (pVar 2) (pVar 1)) (pC (.int 1))) (pNil))))) (gNm 3)) (pSeq (pIfS (pTst (pBin kGtI (pCall Ph_law_draw (pCons (pVar 0) (pCons (pC (.int 3)) (pNil)))) (pC (.int 0)))) (pRet (pVar 3)) (pNext)) (pRet (pCall Ph_ratio (pCons (pBin kAddI (pBin kMulI (pVar 3) (pC (.int 2))) (pCall Ph_law_draw (pCons (pVar 0) (pCons (pC (.int 3)) (pNil))))) (pCons (pBin kAddI (pC (.int 2)) (pCall Ph_law_draw (pCons (pVar 0) (pCons (pC (.int 2)) (pNil))))) (pNil))))))
abbrev N_law_number : List Str := ["pool", "low", "high", "value"]
theorem st_law_number (a0 a1 a2 : PV) : startP N_law_number [a0, a1, a2] = [.val a0, .val a1, .val a2, .no] := rfl
def tb_law_pieces_1 : PTS := pSeq (pAsg (pCall Ph_plus (pCons (pVar 2) (pCons (pCall Ph_ratio (pCons (pBin kAddI (pC (.int 1)) (pCall Ph_law_draw (pCons (pVar 0) (pCons (pC (.int 6)) (pNil))))) (pCons (pBin kAddI (pC (.int 1)) (pCall Ph_law_draw (pCons (pVar 0) (pCons (pC (.int 3)) (pNil))))) (pNil)))) (pNil)))) (gNm 2)) (pApp 1 (pTup (pCons (pVar 2) (pCons (pCall Ph_law_number (pCons (pVar 0) (pCons (pUn kNeg (pC (.int 4))) (pCons (pC (.int 4)) (pNil))))) (pNil)))))
def t_law_pieces : PTS := pSeq (pParL 1 2 (pCons (pTup (pCons (pC (.int 0)) (pCons (pCall Ph_law_number (pCons (pVar 0) (pCons (pUn kNeg (pC (.int 4))) (pCons (pC (.int 4)) (pNil))))) (pNil)))) (pNil)) (pC (.int 0))) (pSeq (pFor (pR1 (pCons (pCall Ph_law_draw (pCons (pVar 0) (pCons (pC (.int 3)) (pNil)))) (pNil))) (gNm 3) tb_law_pieces_1) (pFrz 1 (pRet (pVar 1))))
abbrev N_law_pieces : List Str := ["pool", "pieces", "time", "turn"]
theorem st_law_pieces (a0 : PV) : startP N_law_pieces [a0] = [.val a0, .no, .no, .no] := rfl
def tb_law_race_1 : PTS := pDPut 2 (pVar 3) (pTup (pCons (pCall Ph_law_number (pCons (pVar 0) (pCons (pUn kNeg (pC (.int 3))) (pCons (pC (.int 9)) (pNil))))) (pCons (pCall Ph_law_pieces (pCons (pVar 0) (pNil))) (pNil))))
def t_law_race : PTS := pSeq (pNewD 2) (pSeq (pFor (pIL (pSlL (pLst (pCons (pC (.str "a")) (pCons (pC (.str "b")) (pCons (pC (.str "c")) (pCons (pC (.str "d")) (pNil)))))) (pNoPart) (pPart (pVar 1)))) (gNm 3) tb_law_race_1) (pFrz 2 (pRet (pCall Ph_Race (pCons (pCall Ph_law_choose (pCons (pVar 0) (pCons (pLst (pCons (pC (.int 10)) (pCons (pC (.int 7)) (pCons (pC (.int 1)) (pCons (pTup (pCons (pC (.int 5)) (pCons (pC (.int 2)) (pNil)))) (pCons (pC (.int 12)) (pCons (pC (.int 3)) (pNil)))))))) (pNil)))) (pCons (pVar 2) (pNil)))))))
abbrev N_law_race : List Str := ["pool", "many", "runners", "name"]
theorem st_law_race (a0 a1 : PV) : startP N_law_race [a0, a1] = [.val a0, .val a1, .no, .no] := rfl

theorem kLen_frz {l : List PV} {Q : PV → Prop} : kLen [.frz l] Q = Q (.int l.length) := rfl
theorem mod_lit {i j : Int} (h : j ≠ 0 := by decide) : ModOk i j := h
theorem mul_lit {i j : Int} (h1 : i.natAbs < 2 ^ 64 := by omega) (h2 : j.natAbs < 2 ^ 64 := by omega) : MulOk i j := by
  have a1 : i.natAbs.log2 < 64 := log2_lt_of (by decide) h1
  have a2 : j.natAbs.log2 < 64 := log2_lt_of (by decide) h2
  show i.natAbs.log2 + j.natAbs.log2 < 1000000
  omega
theorem hp_law_pool : ∀ as Q, Ph_law_pool as Q → as.length = 2 ∧ t_law_pool ⟨fun _ => Q .non, Q, fun _ => False, fun _ => False⟩ (startP N_law_pool as) := by
  rintro as Q ⟨ns, k, rfl, hk, hq⟩
  refine ⟨rfl, ?_⟩
  simp only [st_law_pool, t_law_pool, pSeq, pNext, pIfS, pRet, pRetN, pAsg, pDrop, pPar, pAug, gNm, gTupP, gConsP, gNilP, pVar, pC, pBin, pChain, pUn, kNeg, pTst, pAndT, pOrT, pNotT, pAndV, pOrV, pNotV, pIf, pCons, pNil, pTup, pLst, pStar, pCallB, pCall, pMeth, pProp, pFld, pFrz, pIL, pIT, pZip, pEnum, pR1, pR2, pSlL, pPart, pNoPart, pLc, pLc2, pDc, pSortSc, pFor, pNewL, pNewD, pApp, pExt, pDPut, pSetL, pOwnD, pIsN, pNotN, pListVals, pIVals, pIKeys, pIItems, onDic, pIStr, pDGet1, pTsYes, pParL, pParR, pCel, pCelSet, pNewCel, pNeverS, wipeP, List.set_cons_zero, List.set_cons_succ, List.getElem?_cons_zero, List.getElem?_cons_succ, List.length_cons, List.length_nil, kLen_frz, List.length_map, kI0_int]
  have rest : ∀ c : Int, kMdI (.int c) (.int 2147483629) fun p =>
      kMulI (.int 7919) (.int (k : Int)) fun p_1 => kMulI p_1 (.int (k : Int)) fun p_2 => kAddI p p_2 fun p => kAddI p (.int 31) fun p => kPowI p (.int 3) fun p => kMdI p (.int 2147483647) fun s =>
        kPowI (.int 10) (.int 18) fun p => kLtI (.int c) p fun p => match p with
          | .bl b => (match b with
            | true => (match [.int 0, s] with
              | [.int _, .int s] => 0 ≤ s ∧ s < 2147483648 ∧ Q .cel
              | _ => False)
            | false => (match [.int c, s] with
              | [.int _, .int s] => 0 ≤ s ∧ s < 2147483648 ∧ Q .cel
              | _ => False))
          | _ => False := fun c => by
    have m0 := Int.fmod_nonneg_of_pos c (show (0 : Int) < 2147483629 by decide)
    have m1 := Int.fmod_lt_of_pos c (show (0 : Int) < 2147483629 by decide)
    simp only [kII_int, kI0_int]
    refine ⟨mod_lit, mul_lit, ?_, ⟨by decide, by decide, ?_⟩, mod_lit, ⟨by decide, by decide, by decide⟩, ?_⟩
    · have : (7919 * (k : Int)).natAbs < 2 ^ 64 := by omega
      exact mul_lit this
    · have e : 7919 * (k : Int) * (k : Int) ≤ 7919 * 100 * 100 := by
        have := Nat.mul_le_mul hk hk
        have : (k : Int) * (k : Int) ≤ 100 * 100 := by exact_mod_cast this
        rw [Int.mul_assoc]; omega
      have e0 : 0 ≤ 7919 * (k : Int) * (k : Int) := by
        rw [Int.mul_assoc]
        have := Int.mul_nonneg (Int.natCast_nonneg k) (Int.natCast_nonneg k)
        omega
      omega
    · generalize (c.fmod 2147483629 + 7919 * (k : Int) * (k : Int) + 31) ^ (3 : Int).toNat = z
      have s0 := Int.fmod_nonneg_of_pos z (show (0 : Int) < 2147483647 by decide)
      have s1 := Int.fmod_lt_of_pos z (show (0 : Int) < 2147483647 by decide)
      by_cases h : c < (10 : Int) ^ (18 : Int).toNat
      · simp only [decide_eq_true h]
        exact ⟨s0, by omega, hq⟩
      · simp only [decide_eq_false h]
        exact ⟨s0, by omega, hq⟩
  by_cases h : (k : Int) < (ns.length : Int)
  · simp only [decide_eq_true h]
    have hk' : k < (ns.map PV.int).length := by rw [List.length_map]; omega
    have e : ∀ Q : PV → Prop, kIx (.frz (ns.map PV.int)) (.int (k : Int)) Q = Q (.int (ns[k]'(by simpa using hk'))) := fun Q => by
      simp only [kIx, atI_nat hk', List.getElem_map]
    rw [e]
    exact rest _
  · simp only [decide_eq_false h]
    exact rest 0
theorem hp_law_draw : ∀ as Q, Ph_law_draw as Q → as.length = 2 ∧ t_law_draw ⟨fun _ => Q .non, Q, fun _ => False, fun _ => False⟩ (startP N_law_draw as) := by
  rintro as Q ⟨m, rfl, h0, hl, hq⟩
  refine ⟨rfl, ?_⟩
  have mn : m ≠ 0 := by omega
  have fin : ∀ x : Int, Q (.int (x.fmod m)) := fun x => hq _ (Int.fmod_nonneg_of_pos x h0) (Int.fmod_lt_of_pos x h0)
  simp only [st_law_draw, t_law_draw, pSeq, pNext, pIfS, pRet, pRetN, pAsg, pDrop, pPar, pAug, gNm, gTupP, gConsP, gNilP, pVar, pC, pBin, pChain, pUn, kNeg, pTst, pAndT, pOrT, pNotT, pAndV, pOrV, pNotV, pIf, pCons, pNil, pTup, pLst, pStar, pCallB, pCall, pMeth, pProp, pFld, pFrz, pIL, pIT, pZip, pEnum, pR1, pR2, pSlL, pPart, pNoPart, pLc, pLc2, pDc, pSortSc, pFor, pNewL, pNewD, pApp, pExt, pDPut, pSetL, pOwnD, pIsN, pNotN, pListVals, pIVals, pIKeys, pIItems, onDic, pIStr, pDGet1, pTsYes, pParL, pParR, pCel, pCelSet, pNewCel, pNeverS, wipeP, List.set_cons_zero, List.set_cons_succ, List.getElem?_cons_zero, List.getElem?_cons_succ, List.length_cons, List.length_nil, kI0_int]
  refine .inl ⟨by trivial, fun c => ?_⟩
  by_cases hc : 0 < c
  · simp only [decide_eq_true hc, kII_int]
    exact .inl ⟨by trivial, fun c2 => ⟨mn, .inl ⟨by trivial, fun c3 => ⟨⟨mn, hl⟩, .inl (by trivial), fin c2⟩⟩⟩⟩
  · simp only [decide_eq_false hc, kII_int]
    refine .inr ⟨by trivial, fun s s0 s1 => ⟨mul_lit, mod_lit, .inr ⟨by trivial, Int.fmod_nonneg_of_pos _ (by decide), ?_⟩, .inr ⟨by trivial, fun x x0 x1 => .inr ⟨by trivial, fun y y0 y1 => ?_⟩⟩⟩⟩
    · have := Int.fmod_lt_of_pos (s * 48271 + 11) (show (0 : Int) < 2147483647 by decide)
      omega
    · exact ⟨mul_lit, mod_lit, ⟨by decide, by decide⟩, mn, fin _⟩
theorem hp_law_choose : ∀ as Q, Ph_law_choose as Q → as.length = 2 ∧ t_law_choose ⟨fun _ => Q .non, Q, fun _ => False, fun _ => False⟩ (startP N_law_choose as) := by
  rintro as Q ⟨l, rfl, hne, hl, hq⟩
  refine ⟨rfl, ?_⟩
  simp only [st_law_choose, t_law_choose, pSeq, pNext, pIfS, pRet, pRetN, pAsg, pDrop, pPar, pAug, gNm, gTupP, gConsP, gNilP, pVar, pC, pBin, pChain, pUn, kNeg, pTst, pAndT, pOrT, pNotT, pAndV, pOrV, pNotV, pIf, pCons, pNil, pTup, pLst, pStar, pCallB, pCall, pMeth, pProp, pFld, pFrz, pIL, pIT, pZip, pEnum, pR1, pR2, pSlL, pPart, pNoPart, pLc, pLc2, pDc, pSortSc, pFor, pNewL, pNewD, pApp, pExt, pDPut, pSetL, pOwnD, pIsN, pNotN, pListVals, pIVals, pIKeys, pIItems, onDic, pIStr, pDGet1, pTsYes, pParL, pParR, pCel, pCelSet, pNewCel, pNeverS, wipeP, List.set_cons_zero, List.set_cons_succ, List.getElem?_cons_zero, List.getElem?_cons_succ, List.length_cons, List.length_nil, kLen_lst]
  have l0 := List.length_pos_iff.mpr hne
  refine ⟨_, rfl, by omega, ?_, fun d d0 d1 => ?_⟩
  · rw [Int.natAbs_natCast]
    have : l.length.log2 < 10 := log2_lt_of (by decide) (Nat.lt_of_lt_of_le hl (by decide))
    omega
  · have hd : d.toNat < l.length := by omega
    show kIx (.lst l) (.int d) Q
    rw [kIx_nat (i := d.toNat) (by omega) hd]
    exact hq _ (List.getElem_mem _)
theorem lg_small {m : Int} (h : m.natAbs < 2048 := by omega) : m.natAbs.log2 < 9000 := by
  have : m.natAbs.log2 < 11 := log2_lt_of (by decide) h
  omega
theorem nat_small {m : Int} {a k : Nat} (h : m.natAbs ≤ a) (k2 : a < 2 ^ k := by decide) : m.natAbs < 2 ^ k := Nat.lt_of_le_of_lt h k2
theorem divInt_le {n e c : Int} (he : 0 < e) (h : n ≤ c * e) : Rat.divInt n e ≤ (c : Rat) := by
  rw [Rat.divInt_eq_div]
  have hp : (0 : Rat) < (e : Rat) := by exact_mod_cast he
  have : ¬ (c : Rat) < (n : Rat) / (e : Rat) := fun z => by
    rw [Rat.lt_div_iff hp] at z
    have : c * e < n := by exact_mod_cast z
    omega
  grind
theorem le_divInt {n e c : Int} (he : 0 < e) (h : c * e ≤ n) : (c : Rat) ≤ Rat.divInt n e := by
  rw [Rat.divInt_eq_div]
  have hp : (0 : Rat) < (e : Rat) := by exact_mod_cast he
  have : ¬ (n : Rat) / (e : Rat) < (c : Rat) := fun z => by
    rw [Rat.div_lt_iff hp] at z
    have : n < c * e := by exact_mod_cast z
    omega
  grind
theorem divInt_pos {n e : Int} (he : 0 < e) (h : 0 < n) : 0 < Rat.divInt n e := by
  rw [Rat.divInt_eq_div]
  have hp : (0 : Rat) < (e : Rat) := by exact_mod_cast he
  rw [Rat.lt_div_iff hp, Rat.zero_mul]
  exact_mod_cast h
theorem hp_law_number : ∀ as Q, Ph_law_number as Q → as.length = 3 ∧ t_law_number ⟨fun _ => Q .non, Q, fun _ => False, fun _ => False⟩ (startP N_law_number as) := by
  rintro as Q ⟨lo, hi, rfl, l0, lh, h0, h9, hq⟩
  refine ⟨rfl, ?_⟩
  simp only [st_law_number, t_law_number, pSeq, pNext, pIfS, pRet, pRetN, pAsg, pDrop, pPar, pAug, gNm, gTupP, gConsP, gNilP, pVar, pC, pBin, pChain, pUn, kNeg, pTst, pAndT, pOrT, pNotT, pAndV, pOrV, pNotV, pIf, pCons, pNil, pTup, pLst, pStar, pCallB, pCall, pMeth, pProp, pFld, pFrz, pIL, pIT, pZip, pEnum, pR1, pR2, pSlL, pPart, pNoPart, pLc, pLc2, pDc, pSortSc, pFor, pNewL, pNewD, pApp, pExt, pDPut, pSetL, pOwnD, pIsN, pNotN, pListVals, pIVals, pIKeys, pIItems, onDic, pIStr, pDGet1, pTsYes, pParL, pParR, pCel, pCelSet, pNewCel, pNeverS, wipeP, List.set_cons_zero, List.set_cons_succ, List.getElem?_cons_zero, List.getElem?_cons_succ, List.length_cons, List.length_nil, kI0_int]
  refine ⟨_, rfl, by omega, lg_small, fun d d0 d1 => ?_⟩
  simp only [kI0_int, pSeq, pNext, pIfS, pRet, pRetN, pAsg, pDrop, pPar, pAug, gNm, gTupP, gConsP, gNilP, pVar, pC, pBin, pChain, pUn, kNeg, pTst, pAndT, pOrT, pNotT, pAndV, pOrV, pNotV, pIf, pCons, pNil, pTup, pLst, pStar, pCallB, pCall, pMeth, pProp, pFld, pFrz, pIL, pIT, pZip, pEnum, pR1, pR2, pSlL, pPart, pNoPart, pLc, pLc2, pDc, pSortSc, pFor, pNewL, pNewD, pApp, pExt, pDPut, pSetL, pOwnD, pIsN, pNotN, pListVals, pIVals, pIKeys, pIItems, onDic, pIStr, pDGet1, pTsYes, pParL, pParR, pCel, pCelSet, pNewCel, pNeverS, wipeP, List.set_cons_zero, List.set_cons_succ, List.getElem?_cons_zero, List.getElem?_cons_succ, List.length_cons, List.length_nil]
  refine ⟨_, rfl, by decide, lg_small, fun x x0 x1 => ?_⟩
  simp only [kI0_int, pSeq, pNext, pIfS, pRet, pRetN, pAsg, pDrop, pPar, pAug, gNm, gTupP, gConsP, gNilP, pVar, pC, pBin, pChain, pUn, kNeg, pTst, pAndT, pOrT, pNotT, pAndV, pOrV, pNotV, pIf, pCons, pNil, pTup, pLst, pStar, pCallB, pCall, pMeth, pProp, pFld, pFrz, pIL, pIT, pZip, pEnum, pR1, pR2, pSlL, pPart, pNoPart, pLc, pLc2, pDc, pSortSc, pFor, pNewL, pNewD, pApp, pExt, pDPut, pSetL, pOwnD, pIsN, pNotN, pListVals, pIVals, pIKeys, pIItems, onDic, pIStr, pDGet1, pTsYes, pParL, pParR, pCel, pCelSet, pNewCel, pNeverS, wipeP, List.set_cons_zero, List.set_cons_succ, List.getElem?_cons_zero, List.getElem?_cons_succ, List.length_cons, List.length_nil]
  have vlo : lo ≤ lo + d := by omega
  have vhi : lo + d ≤ hi := by omega
  by_cases hx : 0 < x
  · simp only [decide_eq_true hx]
    refine hq _ _ (.int _) (fun _ => by exact_mod_cast vlo) (fun h => by have z : 0 < lo + d := (by omega); exact_mod_cast z) ?_ (sz_int_le (by decide) ?_) (by show 1 ≤ 3; decide) (by show (lo + d).natAbs ≤ _; omega)
    · have : ((lo + d : Int) : Rat) ≤ (hi : Rat) := by exact_mod_cast vhi
      grind
    · have : (lo + d).natAbs ≤ 900 := by omega
      exact Nat.lt_of_le_of_lt this (by decide)
  · simp only [decide_eq_false hx, kII_int]
    refine ⟨mul_lit, _, rfl, by decide, lg_small, fun y y0 y1 => ?_⟩
    simp only [kI0_int, pSeq, pNext, pIfS, pRet, pRetN, pAsg, pDrop, pPar, pAug, gNm, gTupP, gConsP, gNilP, pVar, pC, pBin, pChain, pUn, kNeg, pTst, pAndT, pOrT, pNotT, pAndV, pOrV, pNotV, pIf, pCons, pNil, pTup, pLst, pStar, pCallB, pCall, pMeth, pProp, pFld, pFrz, pIL, pIT, pZip, pEnum, pR1, pR2, pSlL, pPart, pNoPart, pLc, pLc2, pDc, pSortSc, pFor, pNewL, pNewD, pApp, pExt, pDPut, pSetL, pOwnD, pIsN, pNotN, pListVals, pIVals, pIKeys, pIItems, onDic, pIStr, pDGet1, pTsYes, pParL, pParR, pCel, pCelSet, pNewCel, pNeverS, wipeP, List.set_cons_zero, List.set_cons_succ, List.getElem?_cons_zero, List.getElem?_cons_succ, List.length_cons, List.length_nil]
    refine ⟨_, rfl, by decide, lg_small, fun z z0 z1 => ?_⟩
    simp only [kI0_int, pSeq, pNext, pIfS, pRet, pRetN, pAsg, pDrop, pPar, pAug, gNm, gTupP, gConsP, gNilP, pVar, pC, pBin, pChain, pUn, kNeg, pTst, pAndT, pOrT, pNotT, pAndV, pOrV, pNotV, pIf, pCons, pNil, pTup, pLst, pStar, pCallB, pCall, pMeth, pProp, pFld, pFrz, pIL, pIT, pZip, pEnum, pR1, pR2, pSlL, pPart, pNoPart, pLc, pLc2, pDc, pSortSc, pFor, pNewL, pNewD, pApp, pExt, pDPut, pSetL, pOwnD, pIsN, pNotN, pListVals, pIVals, pIKeys, pIItems, onDic, pIStr, pDGet1, pTsYes, pParL, pParR, pCel, pCelSet, pNewCel, pNeverS, wipeP, List.set_cons_zero, List.set_cons_succ, List.getElem?_cons_zero, List.getElem?_cons_succ, List.length_cons, List.length_nil]
    have e0 : (0 : Int) < 2 + z := by omega
    refine ⟨_, _, rfl, by omega, ?_, ?_⟩
    · have : (2 + z).natAbs.log2 < 9000 := lg_small
      have : (2 + z).natAbs.log2 < 10 := log2_lt_of (by decide) (nat_small (a := 3) (by omega))
      omega
    · have zc : z = 0 ∨ z = 1 := by omega
      refine hq _ _ (.rat _) (fun h => le_divInt e0 ?_) (fun h => divInt_pos e0 (by omega)) ?_ (sz_divInt (by decide) (by omega) ?_ ?_) ?_ (Nat.le_trans (num_divInt_le _ _) (by omega))
      · rcases zc with rfl | rfl <;> omega
      · have := divInt_le (n := (lo + d) * 2 + y) (e := 2 + z) (c := hi + 1) e0 (by rcases zc with rfl | rfl <;> omega)
        rw [Rat.intCast_add] at this
        exact this
      · have : ((lo + d) * 2 + y).natAbs ≤ 2000 := by omega
        exact Nat.lt_of_le_of_lt this (by decide)
      · have : (2 + z).natAbs ≤ 3 := by omega
        exact Nat.lt_of_le_of_lt this (by decide)
      · exact Nat.le_trans (den_divInt_le (by omega)) (by omega)
theorem rise_snoc {ps : List RP} {x : RP} (h : ps.Pairwise (·.t < ·.t)) (h2 : ∀ p ∈ ps, p.t < x.t) : (ps ++ [x]).Pairwise (·.t < ·.t) := by
  rw [List.pairwise_append]
  exact ⟨h, List.pairwise_singleton _ _, fun a ha b hb => by rw [List.mem_singleton] at hb; subst hb; exact h2 a ha⟩
theorem hp_law_pieces : ∀ as Q, Ph_law_pieces as Q → as.length = 1 ∧ t_law_pieces ⟨fun _ => Q .non, Q, fun _ => False, fun _ => False⟩ (startP N_law_pieces as) := by
  rintro as Q ⟨rfl, hq⟩
  refine ⟨rfl, ?_⟩
  simp only [st_law_pieces, t_law_pieces, pSeq, pNext, pIfS, pRet, pRetN, pAsg, pDrop, pPar, pAug, gNm, gTupP, gConsP, gNilP, pVar, pC, pBin, pChain, pUn, kNeg, pTst, pAndT, pOrT, pNotT, pAndV, pOrV, pNotV, pIf, pCons, pNil, pTup, pLst, pStar, pCallB, pCall, pMeth, pProp, pFld, pFrz, pIL, pIT, pZip, pEnum, pR1, pR2, pSlL, pPart, pNoPart, pLc, pLc2, pDc, pSortSc, pFor, pNewL, pNewD, pApp, pExt, pDPut, pSetL, pOwnD, pIsN, pNotN, pListVals, pIVals, pIKeys, pIItems, onDic, pIStr, pDGet1, pTsYes, pParL, pParR, pCel, pCelSet, pNewCel, pNeverS, wipeP, List.set_cons_zero, List.set_cons_succ, List.getElem?_cons_zero, List.getElem?_cons_succ, List.length_cons, List.length_nil]
  refine ⟨-4, 4, rfl, by decide, by decide, by decide, by decide, fun v s hv s1 _ s2 _ s3 s4 => ⟨size_le (by decide), size_le (by decide), _, rfl, by decide, lg_small, fun n n0 n3 => ?_⟩⟩
  simp only [pSeq, pNext, pIfS, pRet, pRetN, pAsg, pDrop, pPar, pAug, gNm, gTupP, gConsP, gNilP, pVar, pC, pBin, pChain, pUn, kNeg, pTst, pAndT, pOrT, pNotT, pAndV, pOrV, pNotV, pIf, pCons, pNil, pTup, pLst, pStar, pCallB, pCall, pMeth, pProp, pFld, pFrz, pIL, pIT, pZip, pEnum, pR1, pR2, pSlL, pPart, pNoPart, pLc, pLc2, pDc, pSortSc, pFor, pNewL, pNewD, pApp, pExt, pDPut, pSetL, pOwnD, pIsN, pNotN, pListVals, pIVals, pIKeys, pIItems, onDic, pIStr, pDGet1, pTsYes, pParL, pParR, pCel, pCelSet, pNewCel, pNeverS, wipeP, List.set_cons_zero, List.set_cons_succ, List.getElem?_cons_zero, List.getElem?_cons_succ, List.length_cons, List.length_nil]
  refine ⟨by omega, by omega, ?_⟩
  have s1 : (-4 : Rat) ≤ s := by have := s1 (by decide); exact_mod_cast this
  have s2 : s ≤ (5 : Rat) := by
    have e : ((4 : Int) : Rat) + 1 = 5 := by decide +kernel
    rw [e] at s2; exact s2
  refine forL_of (fun i : Nat => PV.int (0 + (i : Int))) (fun rest ρ => ∃ (ps : List RP) (tv : PV) (t : Rat) (s3 : Slt), ps.length + rest.length ≤ 3 ∧ POk ps ∧ (∀ x ∈ ps, x.t ≤ 12 ∧ Dv 6 x.t ∧ x.s.num.natAbs ≤ 10 ∧ x.s.den ≤ 3 ∧ -4 ≤ x.s ∧ x.s ≤ 5) ∧ NumP tv t ∧ 0 ≤ t ∧ sz t ≤ 1 + 4 * (ps.length - 1) ∧ Dv 6 t ∧ t ≤ ((6 * (ps.length - 1) : Nat) : Rat) ∧ (∀ x ∈ ps, x.t ≤ t) ∧ ρ = [.val .cel, .own (.lst (ps.map RP.pv)), .val tv, s3]) ?_ ?_ (List.range n.toNat) _ ?_
  · rintro i rest ρ ⟨ps, tv, t, s3, hl, ok, bd, ht, t0, tz, td, tm, hle, rfl⟩ N hN
    have lp := ok.lo
    simp only [tb_law_pieces_1, pSeq, pNext, pIfS, pRet, pRetN, pAsg, pDrop, pPar, pAug, gNm, gTupP, gConsP, gNilP, pVar, pC, pBin, pChain, pUn, kNeg, pTst, pAndT, pOrT, pNotT, pAndV, pOrV, pNotV, pIf, pCons, pNil, pTup, pLst, pStar, pCallB, pCall, pMeth, pProp, pFld, pFrz, pIL, pIT, pZip, pEnum, pR1, pR2, pSlL, pPart, pNoPart, pLc, pLc2, pDc, pSortSc, pFor, pNewL, pNewD, pApp, pExt, pDPut, pSetL, pOwnD, pIsN, pNotN, pListVals, pIVals, pIKeys, pIItems, onDic, pIStr, pDGet1, pTsYes, pParL, pParR, pCel, pCelSet, pNewCel, pNeverS, wipeP, List.set_cons_zero, List.set_cons_succ, List.getElem?_cons_zero, List.getElem?_cons_succ, List.length_cons, List.length_nil]
    simp only [List.length_cons] at hl
    refine ⟨_, rfl, by decide, lg_small, fun x x0 x6 => ?_⟩
    simp only [kI0_int, pSeq, pNext, pIfS, pRet, pRetN, pAsg, pDrop, pPar, pAug, gNm, gTupP, gConsP, gNilP, pVar, pC, pBin, pChain, pUn, kNeg, pTst, pAndT, pOrT, pNotT, pAndV, pOrV, pNotV, pIf, pCons, pNil, pTup, pLst, pStar, pCallB, pCall, pMeth, pProp, pFld, pFrz, pIL, pIT, pZip, pEnum, pR1, pR2, pSlL, pPart, pNoPart, pLc, pLc2, pDc, pSortSc, pFor, pNewL, pNewD, pApp, pExt, pDPut, pSetL, pOwnD, pIsN, pNotN, pListVals, pIVals, pIKeys, pIItems, onDic, pIStr, pDGet1, pTsYes, pParL, pParR, pCel, pCelSet, pNewCel, pNeverS, wipeP, List.set_cons_zero, List.set_cons_succ, List.getElem?_cons_zero, List.getElem?_cons_succ, List.length_cons, List.length_nil]
    refine ⟨_, rfl, by decide, lg_small, fun y y0 y3 => ?_⟩
    simp only [kI0_int, pSeq, pNext, pIfS, pRet, pRetN, pAsg, pDrop, pPar, pAug, gNm, gTupP, gConsP, gNilP, pVar, pC, pBin, pChain, pUn, kNeg, pTst, pAndT, pOrT, pNotT, pAndV, pOrV, pNotV, pIf, pCons, pNil, pTup, pLst, pStar, pCallB, pCall, pMeth, pProp, pFld, pFrz, pIL, pIT, pZip, pEnum, pR1, pR2, pSlL, pPart, pNoPart, pLc, pLc2, pDc, pSortSc, pFor, pNewL, pNewD, pApp, pExt, pDPut, pSetL, pOwnD, pIsN, pNotN, pListVals, pIVals, pIKeys, pIItems, onDic, pIStr, pDGet1, pTsYes, pParL, pParR, pCel, pCelSet, pNewCel, pNeverS, wipeP, List.set_cons_zero, List.set_cons_succ, List.getElem?_cons_zero, List.getElem?_cons_succ, List.length_cons, List.length_nil]
    have y1 : (0 : Int) < 1 + y := by omega
    have zy : (1 + y).natAbs.log2 < 10 := log2_lt_of (by decide) (nat_small (a := 3) (by omega))
    refine ⟨_, _, rfl, by omega, by omega, ?_⟩
    have zq : sz (Rat.divInt (1 + x) (1 + y)) ≤ 3 := sz_divInt (by decide) (by omega) (nat_small (a := 6) (by omega)) (nat_small (a := 3) (by omega))
    have pq : 0 < Rat.divInt (1 + x) (1 + y) := divInt_pos y1 (by omega)
    have dq : Dv 6 (Rat.divInt (1 + x) (1 + y)) := den3 (Nat.le_trans (den_divInt_le (by omega)) (by omega))
    have q6 : Rat.divInt (1 + x) (1 + y) ≤ ((6 : Int) : Rat) := divInt_le y1 (by omega)
    have q6 : Rat.divInt (1 + x) (1 + y) ≤ 6 := q6
    generalize Rat.divInt (1 + x) (1 + y) = q at *
    have lm : ((6 * (ps.length - 1) : Nat) : Rat) + 6 = ((6 * (ps.length + 1 - 1) : Nat) : Rat) := by
      have : 6 * (ps.length - 1) + 6 = 6 * (ps.length + 1 - 1) := by omega
      rw [← this]; push_cast; rfl
    have lm2 : ((6 * (ps.length + 1 - 1) : Nat) : Rat) ≤ 12 := by
      have : 6 * (ps.length + 1 - 1) ≤ 12 := by omega
      exact_mod_cast this
    refine ⟨_, _, t, q, rfl, ht, .rat q, by omega, ?_⟩
    have zt := sz_add t q
    refine ⟨-4, 4, rfl, by decide, by decide, by decide, by decide, fun v s hv s1 _ s2 _ s3' s4' => ⟨size_le (by decide), by rw [List.length_map]; exact Nat.lt_of_lt_of_le (show ps.length < 3 by omega) (size_le (by decide)), hN _ ⟨ps ++ [⟨rat (t + q), v, t + q, s⟩], rat (t + q), t + q, .val (.int (0 + (i : Int))), ?_, ⟨?_, ?_, ?_, ?_, ?_⟩, ?_, .rat _, by grind, ?_, td.add dq, ?_, ?_, ?_⟩⟩⟩
    · simp; omega
    · simp
    · simp; omega
    · intro z hz
      rcases List.mem_append.mp hz with hz | hz
      · exact ok.ok z hz
      · rw [List.mem_singleton] at hz
        subst hz
        exact ⟨.rat _, hv, by show sz (t + q) ≤ 1900; omega, by show 0 ≤ t + q; grind⟩
    · obtain ⟨z, r, e, z0⟩ := ok.hd
      exact ⟨z, r ++ [_], by rw [e]; rfl, z0⟩
    · refine rise_snoc ok.up fun p hp => ?_
      have := hle p hp
      show p.t < t + q
      grind
    · intro z hz
      rcases List.mem_append.mp hz with hz | hz
      · exact bd z hz
      · rw [List.mem_singleton] at hz
        subst hz
        refine ⟨by show t + q ≤ 12; grind, td.add dq, s4', s3', by have := s1 (by decide); exact_mod_cast this, ?_⟩
        have e : ((4 : Int) : Rat) + 1 = 5 := by decide +kernel
        rw [e] at s2; exact s2
    · simp; omega
    · rw [List.length_append, List.length_singleton]
      grind
    · intro z hz
      rcases List.mem_append.mp hz with hz | hz
      · have := hle z hz
        grind
      · rw [List.mem_singleton] at hz
        subst hz
        exact Rat.le_refl
    · rw [List.map_append]; rfl
  · rintro ρ ⟨ps, tv, t, s3, hl, ok, bd, ht, t0, tz, td, tm, hle, rfl⟩
    simp only [pSeq, pNext, pIfS, pRet, pRetN, pAsg, pDrop, pPar, pAug, gNm, gTupP, gConsP, gNilP, pVar, pC, pBin, pChain, pUn, kNeg, pTst, pAndT, pOrT, pNotT, pAndV, pOrV, pNotV, pIf, pCons, pNil, pTup, pLst, pStar, pCallB, pCall, pMeth, pProp, pFld, pFrz, pIL, pIT, pZip, pEnum, pR1, pR2, pSlL, pPart, pNoPart, pLc, pLc2, pDc, pSortSc, pFor, pNewL, pNewD, pApp, pExt, pDPut, pSetL, pOwnD, pIsN, pNotN, pListVals, pIVals, pIKeys, pIItems, onDic, pIStr, pDGet1, pTsYes, pParL, pParR, pCel, pCelSet, pNewCel, pNeverS, wipeP, List.set_cons_zero, List.set_cons_succ, List.getElem?_cons_zero, List.getElem?_cons_succ, List.length_cons, List.length_nil]
    exact hq ps ⟨ok, by simpa using hl, bd⟩
  · refine ⟨[⟨.int 0, v, 0, s⟩], .int 0, 0, .no, by simp; omega, ⟨by simp, by simp, fun x hx => ?_, ⟨_, [], rfl, rfl⟩, by simp⟩, fun x hx => ?_, num0, Rat.le_refl, by rw [sz0]; simp, .zero, Rat.le_refl, fun x hx => ?_, rfl⟩
    · rw [List.mem_singleton] at hx
      subst hx
      exact ⟨num0, hv, by show sz 0 ≤ 1900; rw [sz0]; decide, Rat.le_refl⟩
    · rw [List.mem_singleton] at hx
      subst hx
      exact ⟨by show (0 : Rat) ≤ 12; decide +kernel, .zero, s4, s3, s1, s2⟩
    · rw [List.mem_singleton] at hx
      subst hx
      exact Rat.le_refl
end G


/-! ## HK4 -/
/-! Drawn races. -/
namespace G
open PySem PySem.Spec PyProof.Rows L2 L3 MR
theorem norm_ok {len : Rat} {r : RR} (h : r.Ok) : (RR.norm len r).Ok := by
  obtain ⟨lo, hi, ok, ⟨x, q, e, z⟩, up⟩ := h.p
  refine ⟨by simpa [RR.norm] using lo, by simpa [RR.norm] using hi, ⟨(x.t, x.s), q.map fun x => (x.t, x.s), by simp [RR.norm, e], z⟩, ?_⟩
  show (r.ps.map fun x => (x.t, x.s)).Pairwise _
  rw [List.pairwise_map]
  exact up
theorem made_ok {len : Rat} {rs : List RR} (h0 : 0 < len) (h1 : 1 ≤ rs.length) (h2 : rs.length ≤ 12) (nd : rs.Pairwise fun a b => a.name ≠ b.name) (ok : ∀ r ∈ rs, r.Ok) : RaceM.Ok ⟨len, rs.map (RR.norm len)⟩ := by
  refine ⟨h0, by simpa using h1, by simpa using h2, ?_, fun r hr => ?_, fun r hr => ?_⟩
  · show (rs.map (RR.norm len)).Pairwise _
    rw [List.pairwise_map]
    exact nd
  · obtain ⟨x, hx, rfl⟩ := List.mem_map.mp hr
    exact norm_ok (ok x hx)
  · obtain ⟨x, hx, rfl⟩ := List.mem_map.mp hr
    exact ⟨rem_nonneg h0, rem_lt h0⟩
theorem cut_abcd {m : Nat} (h1 : 1 ≤ m) (h4 : m ≤ 4) : cutP [.str "a", .str "b", .str "c", .str "d"] none (some (m : Int)) = (abcd.take m).map PV.str := by
  have : m = 1 ∨ m = 2 ∨ m = 3 ∨ m = 4 := by omega
  rcases this with rfl | rfl | rfl | rfl <;> rfl
theorem abcd_ok : ∀ n ∈ abcd, okName n = true := by decide +kernel
theorem abcd_nd : abcd.Pairwise fun a b => a ≠ b := by decide +kernel
theorem abcd_sorted {m : Nat} (h1 : 1 ≤ m) (h4 : m ≤ 4) : sortedS (abcd.take m) = true := by
  have : m = 1 ∨ m = 2 ∨ m = 3 ∨ m = 4 := by omega
  rcases this with rfl | rfl | rfl | rfl <;> decide +kernel
/-- the lengths that are drawn -/
def LenOk (p : PV) : Prop := ∃ len : Rat, NumP p len ∧ 1 ≤ len ∧ len ≤ 12 ∧ Dv 2 len
theorem len_int {i : Int} (h1 : 1 ≤ i) (h2 : i ≤ 12) : LenOk (.int i) := ⟨i, .int i, by exact_mod_cast h1, by exact_mod_cast h2, .int i⟩
theorem rat_of {q : Rat} {n : Int} {d : Nat} (h1 : q.num = n) (h2 : q.den = d) : rat q = .tup [.int n, .int (d : Int)] := by unfold rat; rw [h1, h2]
theorem len_52 : LenOk (.tup [.int 5, .int 2]) := ⟨5 / 2, .inr (rat_of (n := 5) (d := 2) (by decide +kernel) (by decide +kernel)).symm, by decide +kernel, by decide +kernel, ⟨5, by decide +kernel⟩⟩
theorem len_92 : LenOk (.tup [.int 9, .int 2]) := ⟨9 / 2, .inr (rat_of (n := 9) (d := 2) (by decide +kernel) (by decide +kernel)).symm, by decide +kernel, by decide +kernel, ⟨9, by decide +kernel⟩⟩
theorem rem_dv {k : Nat} {a b : Rat} (ha : Dv k a) (hb : Dv k b) : Dv k (rem a b) := by
  unfold rem
  exact ha.sub (hb.imul _)
/-- a race of drawn runners -/
theorem drawn_made {len : Rat} {rs : List RR} {names : List Str} (h1 : 1 ≤ len) (h12 : len ≤ 12) (ld : Dv 2 len) (ok : RaceM.Ok ⟨len, rs.map (RR.norm len)⟩) (hn : rs.map RR.name = names) (hr : ∀ r ∈ rs, Dv 6 r.s ∧ Drawn r.ps) : DrawnR names ⟨len, rs.map (RR.norm len)⟩ := by
  refine ⟨ok, by rw [← hn, List.map_map]; rfl, h1, h12, ld, fun r hr' => ?_, fun r hr' => ?_, fun r hr' p hp => ?_⟩
  · obtain ⟨x, hx, rfl⟩ := List.mem_map.mp hr'
    show (x.ps.map _).length ≤ 3
    rw [List.length_map]; exact (hr x hx).2.l
  · obtain ⟨x, hx, rfl⟩ := List.mem_map.mp hr'
    exact rem_dv (hr x hx).1 (ld.up (by decide))
  · obtain ⟨x, hx, rfl⟩ := List.mem_map.mp hr'
    obtain ⟨y, hy, rfl⟩ := List.mem_map.mp hp
    obtain ⟨z1, z2, z3, z4, z5⟩ := (hr x hx).2.z y hy
    exact ⟨z1, z2, den3 z4, z5⟩
theorem drawn_ps {ps : List RP} (h : Drawn ps) : POk ps := h.ok
theorem hp_law_race : ∀ as Q, Ph_law_race as Q → as.length = 2 ∧ t_law_race ⟨fun _ => Q .non, Q, fun _ => False, fun _ => False⟩ (startP N_law_race as) := by
  rintro as Q ⟨m, rfl, m1, m4, hq⟩
  refine ⟨rfl, ?_⟩
  simp only [st_law_race, t_law_race, pSeq, pNext, pIfS, pRet, pRetN, pAsg, pDrop, pPar, pAug, gNm, gTupP, gConsP, gNilP, pVar, pC, pBin, pChain, pUn, kNeg, pTst, pAndT, pOrT, pNotT, pAndV, pOrV, pNotV, pIf, pCons, pNil, pTup, pLst, pStar, pCallB, pCall, pMeth, pProp, pFld, pFrz, pIL, pIT, pZip, pEnum, pR1, pR2, pSlL, pPart, pNoPart, pLc, pLc2, pDc, pSortSc, pFor, pNewL, pNewD, pApp, pExt, pDPut, pSetL, pOwnD, pIsN, pNotN, pListVals, pIVals, pIKeys, pIItems, onDic, pIStr, pDGet1, pTsYes, pParL, pParR, pCel, pCelSet, pNewCel, pNeverS, wipeP, List.set_cons_zero, List.set_cons_succ, List.getElem?_cons_zero, List.getElem?_cons_succ, List.length_cons, List.length_nil]
  refine ⟨size_le (by decide), ?_⟩
  rw [cut_abcd m1 m4]
  refine forL_of PV.str (fun rest ρ => ∃ (done : List RR) (s3 : Slt), done.map RR.name ++ rest = abcd.take m ∧ (∀ r ∈ done, NumP r.sv r.s ∧ sz r.s ≤ 12 ∧ r.s.den ≤ 3 ∧ Drawn r.ps) ∧ ρ = [.val .cel, .val (.int (m : Int)), .own (.dic (done.map fun r => ((Sum.inr r.name : Key), r.pv))), s3]) ?_ ?_ (abcd.take m) _ ⟨[], .no, rfl, by simp, rfl⟩
  · rintro n rest ρ ⟨done, s3, hd, hr, rfl⟩ N hN
    simp only [tb_law_race_1, pSeq, pNext, pIfS, pRet, pRetN, pAsg, pDrop, pPar, pAug, gNm, gTupP, gConsP, gNilP, pVar, pC, pBin, pChain, pUn, kNeg, pTst, pAndT, pOrT, pNotT, pAndV, pOrV, pNotV, pIf, pCons, pNil, pTup, pLst, pStar, pCallB, pCall, pMeth, pProp, pFld, pFrz, pIL, pIT, pZip, pEnum, pR1, pR2, pSlL, pPart, pNoPart, pLc, pLc2, pDc, pSortSc, pFor, pNewL, pNewD, pApp, pExt, pDPut, pSetL, pOwnD, pIsN, pNotN, pListVals, pIVals, pIKeys, pIItems, onDic, pIStr, pDGet1, pTsYes, pParL, pParR, pCel, pCelSet, pNewCel, pNeverS, wipeP, List.set_cons_zero, List.set_cons_succ, List.getElem?_cons_zero, List.getElem?_cons_succ, List.length_cons, List.length_nil]
    refine ⟨-3, 9, rfl, by decide, by decide, by decide, by decide, fun v q hv _ _ _ hz hd3 _ => ?_⟩
    refine ⟨rfl, fun ps hps => ⟨size_le (by decide), ?_⟩⟩
    simp only [keyP]
    have nd : (done.map RR.name ++ n :: rest).Pairwise fun a b => a ≠ b := by
      rw [hd]; exact abcd_nd.sublist (List.take_sublist _ _)
    have ln : done.length ≤ 4 := by
      have := congrArg List.length hd
      simp [abcd] at this
      omega
    refine ⟨by rw [List.length_map]; exact Nat.lt_of_lt_of_le (show done.length < 5 by omega) (size_le (by decide)), hN _ ⟨done ++ [⟨n, v, q, ps⟩], .val (.str n), by rw [List.map_append, List.append_assoc]; exact hd, fun r hr' => ?_, ?_⟩⟩
    · rcases List.mem_append.mp hr' with h | h
      · exact hr r h
      · rw [List.mem_singleton] at h
        subst h
        exact ⟨hv, hz, hd3, hps⟩
    · rw [putA_new, List.map_append]
      · rfl
      · intro p hp
        obtain ⟨x, hx, rfl⟩ := List.mem_map.mp hp
        have := (List.pairwise_append.mp nd).2.2 x.name (List.mem_map.mpr ⟨x, hx, rfl⟩) n (List.mem_cons_self ..)
        simpa using this
  · rintro ρ ⟨rs, s3, hd, hr, rfl⟩
    rw [List.append_nil] at hd
    simp only [pSeq, pNext, pIfS, pRet, pRetN, pAsg, pDrop, pPar, pAug, gNm, gTupP, gConsP, gNilP, pVar, pC, pBin, pChain, pUn, kNeg, pTst, pAndT, pOrT, pNotT, pAndV, pOrV, pNotV, pIf, pCons, pNil, pTup, pLst, pStar, pCallB, pCall, pMeth, pProp, pFld, pFrz, pIL, pIT, pZip, pEnum, pR1, pR2, pSlL, pPart, pNoPart, pLc, pLc2, pDc, pSortSc, pFor, pNewL, pNewD, pApp, pExt, pDPut, pSetL, pOwnD, pIsN, pNotN, pListVals, pIVals, pIKeys, pIItems, onDic, pIStr, pDGet1, pTsYes, pParL, pParR, pCel, pCelSet, pNewCel, pNeverS, wipeP, List.set_cons_zero, List.set_cons_succ, List.getElem?_cons_zero, List.getElem?_cons_succ, List.length_cons, List.length_nil]
    refine ⟨size_le (by decide), size_le (by decide), _, rfl, by simp, by simp, fun p hp => ?_⟩
    have hlen : LenOk p := by
      simp only [List.mem_cons, List.not_mem_nil, or_false] at hp
      rcases hp with rfl | rfl | rfl | rfl | rfl | rfl
      · exact len_int (by decide) (by decide)
      · exact len_int (by decide) (by decide)
      · exact len_int (by decide) (by decide)
      · exact len_52
      · exact len_int (by decide) (by decide)
      · exact len_int (by decide) (by decide)
    obtain ⟨len, hl, h1, h12, ld⟩ := hlen
    have n12 : -((12 : Nat) : Rat) ≤ 0 := by decide +kernel
    have lz : sz len ≤ 5 := ld.sz (n := 5) (by decide) (M := 12) (by grind) h12 (by decide) (by decide)
    have rl : rs.length = m := by
      have := congrArg List.length hd
      simp [abcd] at this
      omega
    have nd : rs.Pairwise fun a b => a.name ≠ b.name := by
      have : (rs.map RR.name).Pairwise fun a b => a ≠ b := by rw [hd]; exact abcd_nd.sublist (List.take_sublist _ _)
      exact List.pairwise_map.mp this
    have ok : ∀ r ∈ rs, r.Ok := fun r h => by
      obtain ⟨a1, a2, _, a3⟩ := hr r h
      have hn : r.name ∈ abcd := by
        have : r.name ∈ rs.map RR.name := List.mem_map.mpr ⟨r, h, rfl⟩
        rw [hd] at this
        exact List.mem_of_mem_take this
      exact ⟨abcd_ok _ hn, a1, by omega, a3.ok⟩
    have l0 : 0 < len := by grind
    refine ⟨p, len, rs, rfl, hl, l0, by omega, by omega, by omega, nd, ok, fun rs' hp' hs' => ?_⟩
    have e : rs' = rs := sorted_unique RR.name hp' nd hs' (by rw [hd]; exact abcd_sorted m1 m4)
    subst e
    exact hq _ (drawn_made h1 h12 ld (made_ok l0 (by omega) (by omega) nd ok) hd fun r h => ⟨den3 (hr r h).2.2.1, (hr r h).2.2.2⟩)
/-- a drawn race is of moderate sizes -/
theorem DrawnR.lz {R : RaceM} {names : List Str} (D : DrawnR names R) : sz R.len ≤ 5 := by
  have := D.lo
  have e : -((12 : Nat) : Rat) ≤ 0 := by decide +kernel
  exact D.ld.sz (n := 5) (by decide) (M := 12) (by grind) D.hi (by decide) (by decide)
theorem DrawnR.sz7 {R : RaceM} {names : List Str} (D : DrawnR names R) {r : Rn} (hr : r ∈ R.rs) : sz r.start ≤ 7 ∧ ∀ p ∈ r.pieces, sz p.1 ≤ 7 ∧ sz p.2 ≤ 7 := by
  have e12 : -((12 : Nat) : Rat) ≤ 0 := by decide +kernel
  refine ⟨(D.st r hr).sz (by decide) (M := 12) ?_ ?_ (by decide) (by decide), fun p hp => ⟨(D.pc r hr p hp).2.1.sz (by decide) (M := 12) ?_ (D.pc r hr p hp).1 (by decide) (by decide), (D.pc r hr p hp).2.2.1.sz (by decide) (M := 5) ?_ (D.pc r hr p hp).2.2.2.2 (by decide) (by decide)⟩⟩
  · have := (D.ok.st r hr).1; grind
  · have := (D.ok.st r hr).2; have := D.hi
    have e : ((12 : Nat) : Rat) = 12 := rfl
    grind
  · have h0 : 0 ≤ p.1 := by
      obtain ⟨x, q, e, z⟩ := (D.ok.rn r hr).hd
      have up := (D.ok.rn r hr).up
      rw [e] at hp up
      rcases List.mem_cons.mp hp with rfl | hp
      · rw [z]; exact Rat.le_refl
      · have := (List.pairwise_cons.mp up).1 p hp
        grind
    grind
  · have := (D.pc r hr p hp).2.2.2.1
    have e : -((5 : Nat) : Rat) ≤ -4 := by decide +kernel
    grind
theorem DrawnR.at {R : RaceM} {names : List Str} (D : DrawnR names R) {t : Rat} (t0 : 0 ≤ t) (h : sz t ≤ 180) : R.At t := by
  have pe := P0_eq
  have hp : ∀ r ∈ R.rs, sz (r.pos t) ≤ 622 := fun r hr => by
    obtain ⟨h1, h2⟩ := D.sz7 hr
    have h3 := walk_sz r.pieces t r.start h2
    have h4 : r.pieces.length * (3 * 7 + sz t + 4) ≤ 3 * 205 := Nat.mul_le_mul (D.l r hr) (by omega)
    show sz (walkP r.pieces t r.start) ≤ 622
    omega
  refine ⟨t0, by omega, fun r hr => by have := hp r hr; omega, fun r hr => ?_⟩
  have := hp r hr
  have := rem_sz (r.pos t) D.ok.len
  have := D.lz
  unfold RaceM.place
  omega
theorem Rn.Ok.nn {r : Rn} (ok : r.Ok) {p : Rat × Rat} (hp : p ∈ r.pieces) : 0 ≤ p.1 := by
  obtain ⟨x, q, e, z⟩ := ok.hd
  have up := ok.up
  rw [e] at hp up
  rcases List.mem_cons.mp hp with rfl | hp
  · rw [z]; exact Rat.le_refl
  · have := (List.pairwise_cons.mp up).1 p hp
    grind
theorem DrawnR.g {R : RaceM} {names : List Str} (D : DrawnR names R) : R.G := by
  have pe := P0_eq
  refine ⟨D.ok, by have := D.lz; omega, fun r hr => by have := (D.sz7 hr).1; omega, fun r hr x hx => by have := ((D.sz7 hr).2 x hx).2; omega, fun r hr x hx => D.at ((D.ok.rn r hr).nn hx) (by have := ((D.sz7 hr).2 x hx).1; omega), 6, by decide, by decide, fun r hr x hx => (D.pc r hr x hx).2.1.den (by decide)⟩
end G


/-! ## GA -/
/-! Gaps: rows, counts, times. -/
namespace G
open PySem PySem.Spec PyProof.Rows L2 L3 MR
/-! plain -/
structure GRow where
  x : Rat
  g : Rat
  low : Rat
  lo : Int
  hi : Int
def GRow.pv (w : GRow) : PV := .tup [rat w.x, rat w.g, rat w.low, .int w.lo, .int w.hi]
def GRow.dir (w : GRow) : Int := if 0 < w.g then 1 else -1
def GRow.many (w : GRow) : Nat := if 0 < w.g then (w.hi + 1 - w.lo).toNat else (w.lo - (w.hi - 1)).toNat
def GRow.time (len : Rat) (w : GRow) (n : Int) : Rat := w.x + ((n : Rat) - w.low) * len / w.g
def GRow.times (len : Rat) (w : GRow) : List Rat := (List.range w.many).map fun i : Nat => w.time len (w.lo + (i : Int) * w.dir)
def RaceM.gRow (R : RaceM) (f s : Rn) (v : Rat) (p : Rat × Rat) : Option GRow :=
  if 0 < s.speed p.1 - f.speed p.1 then some ⟨p.1, s.speed p.1 - f.speed p.1, R.off s f v p.1, (R.off s f v p.1).floor + 1, (R.off s f v p.2).floor⟩
  else if s.speed p.1 - f.speed p.1 < 0 then some ⟨p.1, s.speed p.1 - f.speed p.1, R.off s f v p.1, -(-R.off s f v p.1).floor - 1, -(-R.off s f v p.2).floor⟩
  else none
def RaceM.gRows (R : RaceM) (f s : Rn) (v a b : Rat) : List GRow := (adj (cutR (chs [f, s]) a b)).filterMap (R.gRow f s v)
def RaceM.gapStep (R : RaceM) (f s : Rn) (v x y : Rat) : List Rat := R.upStep s f v x y ++ R.upStep f s (-v) x y
def RaceM.gapL (R : RaceM) (f s : Rn) (v a b : Rat) : List Rat := Tot (· ++ ·) [] (R.gapStep f s v) (chs [f, s]) a b
theorem off_neg {R : RaceM} {f s : Rn} {v t : Rat} : R.off f s (-v) t = -(R.off s f v t) := by
  unfold RaceM.off
  rw [Rat.div_def, Rat.div_def]; grind
theorem gRow_times {R : RaceM} {f s : Rn} {v : Rat} (p : Rat × Rat) : R.gapStep f s v p.1 p.2 = ((R.gRow f s v p).map (GRow.times R.len)).getD [] := by
  unfold RaceM.gapStep RaceM.gRow RaceM.upStep
  by_cases h : 0 < s.speed p.1 - f.speed p.1
  · rw [if_pos (show f.speed p.1 < s.speed p.1 by grind), if_neg (show ¬ s.speed p.1 < f.speed p.1 by grind), if_pos h, List.append_nil]
    simp only [Option.map_some, Option.getD_some, GRow.times, GRow.many, GRow.dir, GRow.time, if_pos h, upS, irng, List.map_map]
    have e : ((R.off s f v p.2).floor - (R.off s f v p.1).floor).toNat = ((R.off s f v p.2).floor + 1 - ((R.off s f v p.1).floor + 1)).toNat := by congr 1; omega
    rw [e]
    refine List.map_congr_left fun i _ => ?_
    simp only [Function.comp, Int.mul_one]
  · rw [if_neg (show ¬ f.speed p.1 < s.speed p.1 by grind), if_neg h, List.nil_append]
    by_cases h2 : s.speed p.1 - f.speed p.1 < 0
    · rw [if_pos (show s.speed p.1 < f.speed p.1 by grind), if_pos h2]
      simp only [Option.map_some, Option.getD_some, GRow.times, GRow.many, GRow.dir, GRow.time, if_neg h, upS, irng, List.map_map, off_neg]
      have e : ((-R.off s f v p.2).floor - (-R.off s f v p.1).floor).toNat = (-(-R.off s f v p.1).floor - 1 - (-(-R.off s f v p.2).floor - 1)).toNat := by congr 1; omega
      rw [e]
      refine List.map_congr_left fun i _ => ?_
      simp only [Function.comp]
      have e2 : ((-(-R.off s f v p.1).floor - 1 + (i : Int) * -1 : Int) : Rat) = -(((-R.off s f v p.1).floor + 1 + (i : Int) : Int) : Rat) := by push_cast; grind
      rw [e2]
      generalize (((-R.off s f v p.1).floor + 1 + (i : Int) : Int) : Rat) = n
      have e3 : f.speed p.1 - s.speed p.1 = -(s.speed p.1 - f.speed p.1) := by grind
      rw [e3]
      have g0 : s.speed p.1 - f.speed p.1 ≠ 0 := by grind
      generalize s.speed p.1 - f.speed p.1 = g at g0
      have dn : ∀ a : Rat, a / (-g) = -(a / g) := fun a => by grind
      rw [dn]
      have : (-n - R.off s f v p.1) * R.len = -((n - -R.off s f v p.1) * R.len) := by grind
      rw [this]
      have nd : ∀ a : Rat, -a / g = -(a / g) := fun a => by rw [Rat.div_def, Rat.div_def, Rat.neg_mul]
      rw [nd]
    · rw [if_neg (show ¬ s.speed p.1 < f.speed p.1 by grind), if_neg h2]; rfl
theorem Sm_flat {α : Type} (f : Rat → Rat → List α) : ∀ rs : List Rat, Sm (· ++ ·) [] f rs = (adj rs).flatMap fun p => f p.1 p.2
  | [] => rfl
  | [x] => rfl
  | x :: y :: r => by
    show f x y ++ Sm (· ++ ·) [] f (y :: r) = _
    rw [Sm_flat f (y :: r)]; rfl
theorem flat_fm {α β γ : Type} (g : α → Option β) (h : β → List γ) : ∀ l : List α, (l.filterMap g).flatMap h = l.flatMap fun a => ((g a).map h).getD []
  | [] => rfl
  | a :: l => by
    rw [List.filterMap_cons, List.flatMap_cons, ← flat_fm g h l]
    cases g a <;> simp
theorem gapL_rows {R : RaceM} {f s : Rn} {v a b : Rat} : R.gapL f s v a b = (R.gRows f s v a b).flatMap (GRow.times R.len) := by
  unfold RaceM.gapL Tot RaceM.gRows
  rw [Sm_flat, flat_fm]
  congr 1
  funext p
  exact gRow_times p
theorem gapL_mem {R : RaceM} {f s : Rn} (l0 : 0 < R.len) (of : f.Ok) (os : s.Ok) {v a b t : Rat} (ha : 0 ≤ a) (hab : a ≤ b) : t ∈ R.gapL f s v a b ↔ a < t ∧ t ≤ b ∧ (R.Up s f v t ∨ R.Up f s (-v) t) := by
  have sw : ∀ {x y : Rat}, St (chs [f, s]) x y → St (chs [s, f]) x y := fun st t ht c => st t (by
    obtain ⟨r, hr, h⟩ := chs_mem.mp ht
    exact chs_mem.mpr ⟨r, by simp only [List.mem_cons, List.not_mem_nil, or_false] at hr ⊢; exact hr.symm, h⟩) c
  unfold RaceM.gapL Tot
  rw [Sm_app_mem]
  constructor
  · rintro ⟨p, hp, ht⟩
    obtain ⟨h1, h2, h3, st⟩ := cutR_adj hab hp
    rcases List.mem_append.mp ht with ht | ht
    · obtain ⟨h4, h5, h6⟩ := (upStep_mem l0 os of (by grind) h2 (sw st)).mp ht
      exact ⟨by grind, by grind, .inl h6⟩
    · obtain ⟨h4, h5, h6⟩ := (upStep_mem l0 of os (by grind) h2 st).mp ht
      exact ⟨by grind, by grind, .inr h6⟩
  · rintro ⟨h1, h2, h3⟩
    obtain ⟨p, hp, h4, h5⟩ := adj_cover (cutR_ends (ch := chs [f, s]) hab) h1 h2
    obtain ⟨h6, h7, h8, st⟩ := cutR_adj hab hp
    refine ⟨p, hp, List.mem_append.mpr ?_⟩
    rcases h3 with h3 | h3
    · exact .inl ((upStep_mem l0 os of (by grind) h7 (sw st)).mpr ⟨h4, h5, h3⟩)
    · exact .inr ((upStep_mem l0 of os (by grind) h7 st).mpr ⟨h4, h5, h3⟩)
theorem gapStep_pw {R : RaceM} {f s : Rn} (l0 : 0 < R.len) {v x y : Rat} : (R.gapStep f s v x y).Pairwise (· < ·) := by
  unfold RaceM.gapStep
  by_cases h : f.speed x < s.speed x
  · have : R.upStep f s (-v) x y = [] := by unfold RaceM.upStep; rw [if_neg (by grind)]
    rw [this, List.append_nil]; exact upStep_pw l0
  · have : R.upStep s f v x y = [] := by unfold RaceM.upStep; rw [if_neg h]
    rw [this, List.nil_append]; exact upStep_pw l0
theorem gapL_pw {R : RaceM} {f s : Rn} (l0 : 0 < R.len) (of : f.Ok) (os : s.Ok) {v a b : Rat} (ha : 0 ≤ a) (hab : a ≤ b) : (R.gapL f s v a b).Pairwise (· < ·) := by
  refine Sm_app_pw cutR_pw fun p hp => ?_
  obtain ⟨h1, h2, h3, st⟩ := cutR_adj hab hp
  have sw : St (chs [s, f]) p.1 p.2 := fun t ht c => st t (by
    obtain ⟨r, hr, h⟩ := chs_mem.mp ht
    exact chs_mem.mpr ⟨r, by simp only [List.mem_cons, List.not_mem_nil, or_false] at hr ⊢; exact hr.symm, h⟩) c
  refine ⟨gapStep_pw l0, fun t ht => ?_⟩
  rcases List.mem_append.mp ht with ht | ht
  · have := (upStep_mem l0 os of (by grind) h2 sw).mp ht
    exact ⟨this.1, this.2.1⟩
  · have := (upStep_mem l0 of os (by grind) h2 st).mp ht
    exact ⟨this.1, this.2.1⟩
/-! contracts -/
def Ph_as_gap : Con := fun as Q => ∃ (R : RaceM) (w : PV) (v : Rat), as = [R.pv, w] ∧ R.G ∧ NumP w v ∧ 0 ≤ v ∧ v < R.len ∧ sz v ≤ P0 ∧ Q (rat v)
def Ph_approach : Con := fun as Q => ∃ (R : RaceM) (f s : Rn) (t : Rat), as = [R.pv, .str f.name, .str s.name, rat t] ∧ R.G ∧ f ∈ R.rs ∧ s ∈ R.rs ∧ 0 ≤ t ∧ sz t ≤ P0 ∧ Q (rat (s.speed t - f.speed t))
def Ph_offset : Con := fun as Q => ∃ (R : RaceM) (f s : Rn) (v t : Rat), as = [R.pv, .str f.name, .str s.name, rat v, rat t] ∧ R.G ∧ f ∈ R.rs ∧ s ∈ R.rs ∧ sz v ≤ P0 ∧ R.At t ∧ Q (rat (R.off s f v t))
def Ph_rows_of : Con := fun as Q => ∃ (R : RaceM) (f s : Rn) (v a b : Rat), as = [R.pv, .str f.name, .str s.name, rat v, rat a, rat b] ∧ R.G ∧ f ∈ R.rs ∧ s ∈ R.rs ∧ sz v ≤ P0 ∧ R.At a ∧ R.At b ∧ Q (.lst ((R.gRows f s v a b).map GRow.pv))
def Ph_direction : Con := fun as Q => ∃ w : GRow, as = [w.pv] ∧ Q (.int w.dir)
def Ph_count_gap : Con := fun as Q => ∃ (R : RaceM) (f s : Rn) (w wa wb : PV) (v a b : Rat), as = [R.pv, .str f.name, .str s.name, w, wa, wb] ∧ R.G ∧ f ∈ R.rs ∧ s ∈ R.rs ∧ NumP w v ∧ 0 ≤ v ∧ v < R.len ∧ sz v ≤ P0 ∧ NumP wa a ∧ NumP wb b ∧ a ≤ b ∧ R.At a ∧ R.At b ∧ Q (.int ((R.gapL f s v a b).length : Nat))
structure GRow.Ok (w : GRow) : Prop where
  x : sz w.x ≤ P0
  g : sz w.g ≤ 1300
  g0 : w.g ≠ 0
  low : sz w.low ≤ 2600
  lo : w.lo.natAbs < 2 ^ 2600
  hi : w.hi.natAbs < 2 ^ 2600
def Ph_time_in_row : Con := fun as Q => ∃ (R : RaceM) (w : GRow) (n : Int), as = [R.pv, w.pv, .int n] ∧ R.G ∧ w.Ok ∧ n.natAbs < 2 ^ 2600 ∧ Q (rat (w.time R.len n))
def Ph_gap_times : Con := fun as Q => ∃ (R : RaceM) (f s : Rn) (w wa wb : PV) (v a b : Rat), as = [R.pv, .str f.name, .str s.name, w, wa, wb] ∧ R.G ∧ f ∈ R.rs ∧ s ∈ R.rs ∧ NumP w v ∧ 0 ≤ v ∧ v < R.len ∧ sz v ≤ P0 ∧ NumP wa a ∧ NumP wb b ∧ a ≤ b ∧ R.At a ∧ R.At b ∧
  (R.gapL f s v a b).length ≤ 2000 ∧ (∀ w ∈ R.gRows f s v a b, w.lo.natAbs < 2 ^ 61 ∧ w.hi.natAbs < 2 ^ 61) ∧ Q (.lst ((R.gapL f s v a b).map rat))
def t_as_gap : PTS := pSeq (pIfS (pOrT (pNotT (pTst (pCall Ph_is_number (pCons (pVar 1) (pNil))))) (pOrT (pTst (pBin kLtI (pCall Ph_compare (pCons (pVar 1) (pCons (pC (.int 0)) (pNil)))) (pC (.int 0)))) (pTst (pBin kGeI (pCall Ph_compare (pCons (pVar 1) (pCons (pProp "Race" Ph_Race_length (pVar 0)) (pNil)))) (pC (.int 0)))))) (pNeverS) (pNext)) (pRet (pCall Ph_as_ratio (pCons (pVar 1) (pNil))))
abbrev N_as_gap : List Str := ["race", "value"]
theorem st_as_gap (a0 a1 : PV) : startP N_as_gap [a0, a1] = [.val a0, .val a1] := rfl
def t_approach : PTS := pRet (pCall Ph_minus (pCons (pMeth "Race" "speed" Ph_Race_speed (pVar 0) (pCons (pVar 2) (pCons (pVar 3) (pNil)))) (pCons (pMeth "Race" "speed" Ph_Race_speed (pVar 0) (pCons (pVar 1) (pCons (pVar 3) (pNil)))) (pNil))))
abbrev N_approach : List Str := ["race", "first", "second", "time"]
theorem st_approach (a0 a1 a2 a3 : PV) : startP N_approach [a0, a1, a2, a3] = [.val a0, .val a1, .val a2, .val a3] := rfl
def t_offset : PTS := pSeq (pAsg (pCall Ph_minus (pCons (pMeth "Race" "position" Ph_Race_position (pVar 0) (pCons (pVar 2) (pCons (pVar 4) (pNil)))) (pCons (pMeth "Race" "position" Ph_Race_position (pVar 0) (pCons (pVar 1) (pCons (pVar 4) (pNil)))) (pNil)))) (gNm 5)) (pRet (pCall Ph_divided (pCons (pCall Ph_minus (pCons (pVar 5) (pCons (pVar 3) (pNil)))) (pCons (pProp "Race" Ph_Race_length (pVar 0)) (pNil)))))
abbrev N_offset : List Str := ["race", "first", "second", "value", "time", "apart"]
theorem st_offset (a0 a1 a2 a3 a4 : PV) : startP N_offset [a0, a1, a2, a3, a4] = [.val a0, .val a1, .val a2, .val a3, .val a4, .no] := rfl
def tb_rows_of_1 : PTS := pSeq (pAsg (pCall Ph_approach (pCons (pVar 0) (pCons (pVar 1) (pCons (pVar 2) (pCons (pVar 8) (pNil)))))) (gNm 10)) (pSeq (pPar 11 12 (pCons (pCall Ph_offset (pCons (pVar 0) (pCons (pVar 1) (pCons (pVar 2) (pCons (pVar 3) (pCons (pVar 8) (pNil))))))) (pCons (pCall Ph_offset (pCons (pVar 0) (pCons (pVar 1) (pCons (pVar 2) (pCons (pVar 3) (pCons (pVar 9) (pNil))))))) (pNil)))) (pSeq (pIfS (pTst (pBin kGtI (pBin kIx (pVar 10) (pC (.int 0))) (pC (.int 0)))) (pApp 6 (pTup (pCons (pVar 8) (pCons (pVar 10) (pCons (pVar 11) (pCons (pBin kAddI (pCall Ph_floor_of (pCons (pVar 11) (pNil))) (pC (.int 1))) (pCons (pCall Ph_floor_of (pCons (pVar 12) (pNil))) (pNil)))))))) (pNext)) (pIfS (pTst (pBin kLtI (pBin kIx (pVar 10) (pC (.int 0))) (pC (.int 0)))) (pApp 6 (pTup (pCons (pVar 8) (pCons (pVar 10) (pCons (pVar 11) (pCons (pBin kSubI (pUn kNeg (pCall Ph_floor_of (pCons (pCall Ph_minus (pCons (pC (.int 0)) (pCons (pVar 11) (pNil)))) (pNil)))) (pC (.int 1))) (pCons (pUn kNeg (pCall Ph_floor_of (pCons (pCall Ph_minus (pCons (pC (.int 0)) (pCons (pVar 12) (pNil)))) (pNil)))) (pNil)))))))) (pNext))))
def t_rows_of : PTS := pSeq (pNewL 6) (pSeq (pAsg (pCall Ph_cut_times (pCons (pVar 0) (pCons (pLst (pCons (pVar 1) (pCons (pVar 2) (pNil)))) (pCons (pVar 4) (pCons (pVar 5) (pNil)))))) (gNm 7)) (pSeq (pFor (pZip (pCons (pVar 7) (pCons (pSlL (pVar 7) (pPart (pC (.int 1))) (pNoPart)) (pNil)))) (gTupP 2 (gConsP (gNm 8) (gConsP (gNm 9) (gNilP)))) tb_rows_of_1) (pFrz 6 (pRet (pVar 6)))))
abbrev N_rows_of : List Str := ["race", "first", "second", "value", "begin", "stop", "found", "cuts", "one", "other", "growth", "low", "high"]
theorem st_rows_of (a0 a1 a2 a3 a4 a5 : PV) : startP N_rows_of [a0, a1, a2, a3, a4, a5] = [.val a0, .val a1, .val a2, .val a3, .val a4, .val a5, .no, .no, .no, .no, .no, .no, .no] := rfl
def t_direction : PTS := pRet (pIf (pTst (pBin kGtI (pBin kIx (pBin kIx (pVar 0) (pC (.int 1))) (pC (.int 0))) (pC (.int 0)))) (pC (.int 1)) (pUn kNeg (pC (.int 1))))
abbrev N_direction : List Str := ["row"]
theorem st_direction (a0 : PV) : startP N_direction [a0] = [.val a0] := rfl
def te_count_gap_1 : PTE := pCallB kMax2 (pCons (pC (.int 0)) (pCons (pBin kAddI (pBin kMulI (pBin kSubI (pBin kIx (pVar 10) (pC (.int 4))) (pBin kIx (pVar 10) (pC (.int 3)))) (pCall Ph_direction (pCons (pVar 10) (pNil)))) (pC (.int 1))) (pNil)))
def t_count_gap : PTS := pSeq (pDrop (pMeth "Race" "validate_names" Ph_Race_validate_names (pVar 0) (pCons (pVar 1) (pCons (pVar 2) (pNil))))) (pSeq (pAsg (pCall Ph_as_gap (pCons (pVar 0) (pCons (pVar 3) (pNil)))) (gNm 6)) (pSeq (pAsg (pCall Ph_as_window (pCons (pVar 4) (pCons (pVar 5) (pNil)))) (gTupP 2 (gConsP (gNm 7) (gConsP (gNm 8) (gNilP))))) (pSeq (pAsg (pCall Ph_rows_of (pCons (pVar 0) (pCons (pVar 1) (pCons (pVar 2) (pCons (pVar 6) (pCons (pVar 7) (pCons (pVar 8) (pNil)))))))) (gNm 9)) (pRet (pCallB kSum (pCons (pLc (pIL (pVar 9)) (gNm 10) pTsYes te_count_gap_1 [10]) (pNil)))))))
abbrev N_count_gap : List Str := ["race", "first", "second", "value", "start", "end", "wanted", "begin", "stop", "rows", "row"]
theorem st_count_gap (a0 a1 a2 a3 a4 a5 : PV) : startP N_count_gap [a0, a1, a2, a3, a4, a5] = [.val a0, .val a1, .val a2, .val a3, .val a4, .val a5, .no, .no, .no, .no, .no] := rfl
def t_time_in_row : PTS := pSeq (pAsg (pSlT (pVar 1) (pNoPart) (pPart (pC (.int 3)))) (gTupP 3 (gConsP (gNm 3) (gConsP (gNm 4) (gConsP (gNm 5) (gNilP)))))) (pRet (pCall Ph_plus (pCons (pVar 3) (pCons (pCall Ph_divided (pCons (pCall Ph_times (pCons (pCall Ph_minus (pCons (pVar 2) (pCons (pVar 5) (pNil)))) (pCons (pProp "Race" Ph_Race_length (pVar 0)) (pNil)))) (pCons (pVar 4) (pNil)))) (pNil)))))
abbrev N_time_in_row : List Str := ["race", "row", "number", "one", "growth", "low"]
theorem st_time_in_row (a0 a1 a2 : PV) : startP N_time_in_row [a0, a1, a2] = [.val a0, .val a1, .val a2, .no, .no, .no] := rfl
def te_gap_times_1 : PTE := pCall Ph_time_in_row (pCons (pVar 0) (pCons (pVar 9) (pCons (pVar 11) (pNil))))
def tb_gap_times_2 : PTS := pSeq (pAsg (pCall Ph_direction (pCons (pVar 9) (pNil))) (gNm 10)) (pExt 8 (pLc (pR3 (pCons (pBin kIx (pVar 9) (pC (.int 3))) (pCons (pBin kAddI (pBin kIx (pVar 9) (pC (.int 4))) (pVar 10)) (pCons (pVar 10) (pNil))))) (gNm 11) pTsYes te_gap_times_1 [11]))
def t_gap_times : PTS := pSeq (pIfS (pTst (pBin kGtI (pCall Ph_count_gap (pCons (pVar 0) (pCons (pVar 1) (pCons (pVar 2) (pCons (pVar 3) (pCons (pVar 4) (pCons (pVar 5) (pNil)))))))) (pC (.int 2000)))) (pNeverS) (pNext)) (pSeq (pAsg (pCall Ph_as_window (pCons (pVar 4) (pCons (pVar 5) (pNil)))) (gTupP 2 (gConsP (gNm 6) (gConsP (gNm 7) (gNilP))))) (pSeq (pNewL 8) (pSeq (pFor (pIL (pCall Ph_rows_of (pCons (pVar 0) (pCons (pVar 1) (pCons (pVar 2) (pCons (pCall Ph_as_ratio (pCons (pVar 3) (pNil))) (pCons (pVar 6) (pCons (pVar 7) (pNil))))))))) (gNm 9) tb_gap_times_2) (pFrz 8 (pRet (pVar 8))))))
abbrev N_gap_times : List Str := ["race", "first", "second", "value", "start", "end", "begin", "stop", "found", "row", "step", "number"]
theorem st_gap_times (a0 a1 a2 a3 a4 a5 : PV) : startP N_gap_times [a0, a1, a2, a3, a4, a5] = [.val a0, .val a1, .val a2, .val a3, .val a4, .val a5, .no, .no, .no, .no, .no, .no] := rfl

theorem hp_as_gap : ∀ as Q, Ph_as_gap as Q → as.length = 2 ∧ t_as_gap ⟨fun _ => Q .non, Q, fun _ => False, fun _ => False⟩ (startP N_as_gap as) := by
  rintro as Q ⟨R, w, v, rfl, g, hw, v0, vl, vz, hq⟩
  refine ⟨rfl, ?_⟩
  simp only [st_as_gap, t_as_gap, RaceM.pv, pSeq, pNext, pIfS, pRet, pRetN, pAsg, pDrop, pPar, pAug, gNm, gTupP, gConsP, gNilP, pVar, pC, pBin, pChain, pUn, kNeg, pTst, pTru, pAndT, pOrT, pNotT, pAndV, pOrV, pNotV, pIf, pCons, pNil, pTup, pLst, pStar, pCallB, pCall, pMeth, pProp, pFld, pFrz, pIL, pIT, pZip, pEnum, pR1, pR2, pR3, pSlL, pSlT, pPart, pNoPart, pLc, pLc2, pDc, pSortSc, pFor, pNewL, pNewD, pApp, pExt, pDPut, pSetL, pOwnD, pIsN, pNotN, pListVals, pIVals, pIKeys, pIItems, onDic, pIStr, pDGet1, pTsYes, pParL, pParR, pCel, pCelSet, pNewCel, pNeverS, wipeP, List.set_cons_zero, List.set_cons_succ, List.getElem?_cons_zero, List.getElem?_cons_succ, List.length_cons, List.length_nil]
  have pe := P0_eq
  have lz := g.len
  refine ⟨w, v, rfl, hw, ?_⟩
  simp only [Bool.not_true]
  refine ⟨_, _, v, 0, rfl, hw, num0, by rw [sz0]; omega, ?_⟩
  simp only [kI0_int, decide_eq_false (cmp_ge0 v0)]
  refine ⟨by trivial, R, rfl, _, _, v, R.len, rfl, hw, .rat _, by omega, ?_⟩
  have : ¬ R.len ≤ v := by grind
  simp only [kI0_int, cmp_ge, decide_eq_false this]
  exact ⟨w, v, rfl, hw, hq⟩
theorem hp_approach : ∀ as Q, Ph_approach as Q → as.length = 4 ∧ t_approach ⟨fun _ => Q .non, Q, fun _ => False, fun _ => False⟩ (startP N_approach as) := by
  rintro as Q ⟨R, f, s, t, rfl, g, hf, hs, t0, tz, hq⟩
  refine ⟨rfl, ?_⟩
  simp only [st_approach, t_approach, RaceM.pv, pSeq, pNext, pIfS, pRet, pRetN, pAsg, pDrop, pPar, pAug, gNm, gTupP, gConsP, gNilP, pVar, pC, pBin, pChain, pUn, kNeg, pTst, pTru, pAndT, pOrT, pNotT, pAndV, pOrV, pNotV, pIf, pCons, pNil, pTup, pLst, pStar, pCallB, pCall, pMeth, pProp, pFld, pFrz, pIL, pIT, pZip, pEnum, pR1, pR2, pR3, pSlL, pSlT, pPart, pNoPart, pLc, pLc2, pDc, pSortSc, pFor, pNewL, pNewD, pApp, pExt, pDPut, pSetL, pOwnD, pIsN, pNotN, pListVals, pIVals, pIKeys, pIItems, onDic, pIStr, pDGet1, pTsYes, pParL, pParR, pCel, pCelSet, pNewCel, pNeverS, wipeP, List.set_cons_zero, List.set_cons_succ, List.getElem?_cons_zero, List.getElem?_cons_succ, List.length_cons, List.length_nil]
  have pe := P0_eq
  have z1 := g.speed_sz hf t
  have z2 := g.speed_sz hs t
  exact ⟨by trivial, by rfl, R, s, _, t, rfl, g, hs, .rat t, t0, tz, by trivial, by rfl, R, f, _, t, rfl, g, hf, .rat t, t0, tz, _, _, _, _, rfl, .rat _, .rat _, by omega, hq⟩
theorem off_sz {R : RaceM} (g : R.G) {f s : Rn} (hf : f ∈ R.rs) (hs : s ∈ R.rs) {v t : Rat} (vz : sz v ≤ P0) (a : R.At t) : sz (R.off s f v t) ≤ 2562 := by
  have pe := P0_eq
  have z1 := a.p f hf
  have z2 := a.p s hs
  have z3 := g.len
  have z4 := sz_sub (s.pos t) (f.pos t)
  have z5 := sz_sub (s.pos t - f.pos t) v
  have z6 := sz_div (s.pos t - f.pos t - v) (len_ne g)
  unfold RaceM.off
  omega
theorem hp_offset : ∀ as Q, Ph_offset as Q → as.length = 5 ∧ t_offset ⟨fun _ => Q .non, Q, fun _ => False, fun _ => False⟩ (startP N_offset as) := by
  rintro as Q ⟨R, f, s, v, t, rfl, g, hf, hs, vz, a, hq⟩
  refine ⟨rfl, ?_⟩
  simp only [st_offset, t_offset, RaceM.pv, pSeq, pNext, pIfS, pRet, pRetN, pAsg, pDrop, pPar, pAug, gNm, gTupP, gConsP, gNilP, pVar, pC, pBin, pChain, pUn, kNeg, pTst, pTru, pAndT, pOrT, pNotT, pAndV, pOrV, pNotV, pIf, pCons, pNil, pTup, pLst, pStar, pCallB, pCall, pMeth, pProp, pFld, pFrz, pIL, pIT, pZip, pEnum, pR1, pR2, pR3, pSlL, pSlT, pPart, pNoPart, pLc, pLc2, pDc, pSortSc, pFor, pNewL, pNewD, pApp, pExt, pDPut, pSetL, pOwnD, pIsN, pNotN, pListVals, pIVals, pIKeys, pIItems, onDic, pIStr, pDGet1, pTsYes, pParL, pParR, pCel, pCelSet, pNewCel, pNeverS, wipeP, List.set_cons_zero, List.set_cons_succ, List.getElem?_cons_zero, List.getElem?_cons_succ, List.length_cons, List.length_nil]
  have pe := P0_eq
  have z1 := a.p f hf
  have z2 := a.p s hs
  have z3 := g.len
  have z4 := sz_sub (s.pos t) (f.pos t)
  have z5 := sz_sub (s.pos t - f.pos t) v
  exact ⟨by trivial, by rfl, R, s, _, t, rfl, g, hs, .rat t, a, by trivial, by rfl, R, f, _, t, rfl, g, hf, .rat t, a, _, _, _, _, rfl, .rat _, .rat _, by omega, _, _, _, _, rfl, .rat _, .rat _, by omega, by trivial, R, rfl, _, _, _, _, rfl, .rat _, .rat _, len_ne g, by omega, hq⟩
theorem num_zero {q : Rat} : (0 : Int) < q.num ↔ 0 < q := MR.num_pos
theorem hp_rows_of : ∀ as Q, Ph_rows_of as Q → as.length = 6 ∧ t_rows_of ⟨fun _ => Q .non, Q, fun _ => False, fun _ => False⟩ (startP N_rows_of as) := by
  rintro as Q ⟨R, f, s, v, a, b, rfl, g, hf, hs, vz, ha, hb, hq⟩
  refine ⟨rfl, ?_⟩
  simp only [st_rows_of, t_rows_of, RaceM.pv, pSeq, pNext, pIfS, pRet, pRetN, pAsg, pDrop, pPar, pAug, gNm, gTupP, gConsP, gNilP, pVar, pC, pBin, pChain, pUn, kNeg, pTst, pTru, pAndT, pOrT, pNotT, pAndV, pOrV, pNotV, pIf, pCons, pNil, pTup, pLst, pStar, pCallB, pCall, pMeth, pProp, pFld, pFrz, pIL, pIT, pZip, pEnum, pR1, pR2, pR3, pSlL, pSlT, pPart, pNoPart, pLc, pLc2, pDc, pSortSc, pFor, pNewL, pNewD, pApp, pExt, pDPut, pSetL, pOwnD, pIsN, pNotN, pListVals, pIVals, pIKeys, pIItems, onDic, pIStr, pDGet1, pTsYes, pParL, pParR, pCel, pCelSet, pNewCel, pNeverS, wipeP, List.set_cons_zero, List.set_cons_succ, List.getElem?_cons_zero, List.getElem?_cons_succ, List.length_cons, List.length_nil]
  have pe := P0_eq
  have rl : (adj (cutR (chs [f, s]) a b)).length ≤ 100 := by
    have h1 : ∀ l : List Rat, (adj l).length ≤ l.length := fun l => by
      induction l with
      | nil => simp [adj]
      | cons x r ih => cases r with
        | nil => simp [adj]
        | cons y r => simp only [adj, List.length_cons] at ih ⊢; omega
    have h2 := h1 (cutR (chs [f, s]) a b)
    have h3 := rise_len (a :: b :: (chs [f, s]).filter fun t => decide (a < t ∧ t < b))
    have h4 := List.length_filter_le (fun t => decide (a < t ∧ t < b)) (chs [f, s])
    have h5 := chs_len g.ok (two_in hf hs)
    simp only [List.length_cons, List.length_nil] at h3 h5
    unfold cutR at *
    omega
  refine ⟨size_le (by decide), R, [f, s], a, b, rfl, g, two_in hf hs, by simp, ha.z, hb.z, ?_⟩
  dsimp only
  rw [cut_drop1, zip_adj]
  have cutz : ∀ x ∈ cutR (chs [f, s]) a b, R.At x := fun x hx => cut_at g (two_in hf hs) ha hb hx
  unfold RaceM.gRows at hq
  generalize cutR (chs [f, s]) a b = rs at *
  refine forL_of (fun p : Rat × Rat => PV.tup [rat p.1, rat p.2]) (fun rest ρ => ∃ (done : List (Rat × Rat)) (s8 s9 s10 s11 s12 : Slt), done ++ rest = adj rs ∧ ρ = [.val (.obj "Race" R.fs), .val (.str f.name), .val (.str s.name), .val (rat v), .val (rat a), .val (rat b), .own (.lst ((done.filterMap (R.gRow f s v)).map GRow.pv)), .val (.lst (rs.map rat)), s8, s9, s10, s11, s12]) ?_ ?_ (adj rs) _ ⟨[], _, _, _, _, _, rfl, rfl⟩
  · rintro ⟨x, y⟩ rest ρ ⟨done, s8, s9, s10, s11, s12, hd, rfl⟩ N hN
    obtain ⟨hx, hy⟩ := adj_mem (p := (x, y)) (rs := rs) (by rw [← hd]; simp)
    have ax := cutz x hx
    have ay := cutz y hy
    have so := g.speed_sz hf x
    have su := g.speed_sz hs x
    have zx := off_sz g hf hs vz ax
    have zy := off_sz g hf hs vz ay
    have ld : (done.filterMap (R.gRow f s v)).length < sizeLine := by
      have h1 := List.length_filterMap_le (R.gRow f s v) done
      have h2 := congrArg List.length hd
      simp at h2
      exact Nat.lt_of_lt_of_le (show _ < 1000 by omega) (size_le (by decide))
    have ldm : ((done.filterMap (R.gRow f s v)).map GRow.pv).length < sizeLine := by rw [List.length_map]; exact ld
    simp only [tb_rows_of_1, pSeq, pNext, pIfS, pRet, pRetN, pAsg, pDrop, pPar, pAug, gNm, gTupP, gConsP, gNilP, pVar, pC, pBin, pChain, pUn, kNeg, pTst, pTru, pAndT, pOrT, pNotT, pAndV, pOrV, pNotV, pIf, pCons, pNil, pTup, pLst, pStar, pCallB, pCall, pMeth, pProp, pFld, pFrz, pIL, pIT, pZip, pEnum, pR1, pR2, pR3, pSlL, pSlT, pPart, pNoPart, pLc, pLc2, pDc, pSortSc, pFor, pNewL, pNewD, pApp, pExt, pDPut, pSetL, pOwnD, pIsN, pNotN, pListVals, pIVals, pIKeys, pIItems, onDic, pIStr, pDGet1, pTsYes, pParL, pParR, pCel, pCelSet, pNewCel, pNeverS, wipeP, List.set_cons_zero, List.set_cons_succ, List.getElem?_cons_zero, List.getElem?_cons_succ, List.length_cons, List.length_nil]
    refine ⟨by trivial, R, f, s, x, rfl, g, hf, hs, ax.t0, ax.z, R, f, s, v, x, rfl, g, hf, hs, vz, ax, R, f, s, v, y, rfl, g, hf, hs, vz, ay, ?_⟩
    simp only [kIx_rat0, kI0_int]
    have nx : ∀ o : Option GRow, R.gRow f s v (x, y) = o → N [.val (.obj "Race" R.fs), .val (.str f.name), .val (.str s.name), .val (rat v), .val (rat a), .val (rat b), .own (.lst ((done.filterMap (R.gRow f s v)).map GRow.pv ++ (o.map GRow.pv).toList)), .val (.lst (rs.map rat)), .val (rat x), .val (rat y), .val (rat (s.speed x - f.speed x)), .val (rat (R.off s f v x)), .val (rat (R.off s f v y))] := fun o ho => by
      refine hN _ ⟨done ++ [(x, y)], .val (rat x), .val (rat y), .val (rat (s.speed x - f.speed x)), .val (rat (R.off s f v x)), .val (rat (R.off s f v y)), by rw [← hd]; simp, ?_⟩
      rw [List.filterMap_append, List.map_append]
      have : [((x, y) : Rat × Rat)].filterMap (R.gRow f s v) = o.toList := by rw [List.filterMap_cons, ho]; cases o <;> rfl
      rw [this]
      cases o <;> rfl
    by_cases h1 : 0 < s.speed x - f.speed x
    · have n1 : (0 : Int) < (s.speed x - f.speed x).num := num_zero.mpr h1
      have n2 : ¬ (s.speed x - f.speed x).num < 0 := by omega
      simp only [decide_eq_true n1, decide_eq_false n2, kI0_int]
      refine ⟨_, _, rfl, .rat _, by omega, _, _, rfl, .rat _, by omega, size_le (by decide), ldm, ?_⟩
      exact nx (some _) (by unfold RaceM.gRow; rw [if_pos h1])
    · have n1 : ¬ (0 : Int) < (s.speed x - f.speed x).num := fun h => h1 (num_zero.mp h)
      simp only [decide_eq_false n1]
      by_cases h2 : s.speed x - f.speed x < 0
      · have n2 : (s.speed x - f.speed x).num < 0 := MR.num_neg.mpr h2
        simp only [decide_eq_true n2, kI0_int]
        have e0 : ∀ q : Rat, 0 - q = -q := fun q => by grind
        have z1 := sz_sub 0 (R.off s f v x)
        have z2 := sz_sub 0 (R.off s f v y)
        rw [sz0, e0] at z1 z2
        refine ⟨_, _, 0, _, rfl, num0, .rat _, by rw [sz0]; omega, ?_⟩
        rw [e0]
        refine ⟨_, _, rfl, .rat _, by omega, ?_⟩
        refine ⟨_, _, 0, _, rfl, num0, .rat _, by rw [sz0]; omega, ?_⟩
        rw [e0]
        refine ⟨_, _, rfl, .rat _, by omega, size_le (by decide), ldm, ?_⟩
        exact nx (some _) (by unfold RaceM.gRow; rw [if_neg h1, if_pos h2])
      · have n2 : ¬ (s.speed x - f.speed x).num < 0 := fun h => h2 (MR.num_neg.mp h)
        simp only [decide_eq_false n2]
        have := nx none (by unfold RaceM.gRow; rw [if_neg h1, if_neg h2])
        simpa using this
  · rintro ρ ⟨done, s8, s9, s10, s11, s12, hd, rfl⟩
    rw [List.append_nil] at hd
    subst hd
    simp only [pSeq, pNext, pIfS, pRet, pRetN, pAsg, pDrop, pPar, pAug, gNm, gTupP, gConsP, gNilP, pVar, pC, pBin, pChain, pUn, kNeg, pTst, pTru, pAndT, pOrT, pNotT, pAndV, pOrV, pNotV, pIf, pCons, pNil, pTup, pLst, pStar, pCallB, pCall, pMeth, pProp, pFld, pFrz, pIL, pIT, pZip, pEnum, pR1, pR2, pR3, pSlL, pSlT, pPart, pNoPart, pLc, pLc2, pDc, pSortSc, pFor, pNewL, pNewD, pApp, pExt, pDPut, pSetL, pOwnD, pIsN, pNotN, pListVals, pIVals, pIKeys, pIItems, onDic, pIStr, pDGet1, pTsYes, pParL, pParR, pCel, pCelSet, pNewCel, pNeverS, wipeP, List.set_cons_zero, List.set_cons_succ, List.getElem?_cons_zero, List.getElem?_cons_succ, List.length_cons, List.length_nil]
    exact hq
theorem hp_direction : ∀ as Q, Ph_direction as Q → as.length = 1 ∧ t_direction ⟨fun _ => Q .non, Q, fun _ => False, fun _ => False⟩ (startP N_direction as) := by
  rintro as Q ⟨w, rfl, hq⟩
  refine ⟨rfl, ?_⟩
  simp only [st_direction, t_direction, GRow.pv, pSeq, pNext, pIfS, pRet, pRetN, pAsg, pDrop, pPar, pAug, gNm, gTupP, gConsP, gNilP, pVar, pC, pBin, pChain, pUn, kNeg, pTst, pTru, pAndT, pOrT, pNotT, pAndV, pOrV, pNotV, pIf, pCons, pNil, pTup, pLst, pStar, pCallB, pCall, pMeth, pProp, pFld, pFrz, pIL, pIT, pZip, pEnum, pR1, pR2, pR3, pSlL, pSlT, pPart, pNoPart, pLc, pLc2, pDc, pSortSc, pFor, pNewL, pNewD, pApp, pExt, pDPut, pSetL, pOwnD, pIsN, pNotN, pListVals, pIVals, pIKeys, pIItems, onDic, pIStr, pDGet1, pTsYes, pParL, pParR, pCel, pCelSet, pNewCel, pNeverS, wipeP, List.set_cons_zero, List.set_cons_succ, List.getElem?_cons_zero, List.getElem?_cons_succ, List.length_cons, List.length_nil]
  have k1 : ∀ {l : List PV} {p q : PV} {Q : PV → Prop}, kIx (.tup (p :: q :: l)) (.int 1) Q = Q q := fun {l p q Q} => by
    have h : atI (p :: q :: l) 1 = some q := by
      have := atI_nat (l := p :: q :: l) (i := 1) (by simp)
      exact this
    simp only [kIx, h]
  rw [k1]
  simp only [kIx_rat0, kI0_int]
  unfold GRow.dir at hq
  by_cases h : 0 < w.g
  · rw [if_pos h] at hq
    rw [decide_eq_true (num_zero.mpr h)]
    exact hq
  · rw [if_neg h] at hq
    rw [decide_eq_false fun z => h (num_zero.mp z)]
    exact hq
end G


/-! ## GB -/
set_option exponentiation.threshold 3000
/-! Gaps counted and listed. -/
namespace G
open PySem PySem.Spec PyProof.Rows L2 L3 MR
theorem intsP_map {α : Type} (f : α → Int) : ∀ l : List α, intsP (l.map fun x => PV.int (f x)) = some (l.map f)
  | [] => rfl
  | a :: r => by simp [intsP, intsP_map f r]
theorem kMax_int {i j : Int} {Q : PV → Prop} : kMax2 [.int i, .int j] Q = Q (.int (if j > i then j else i)) := rfl
theorem kMin_int {i j : Int} {Q : PV → Prop} : kMin2 [.int i, .int j] Q = Q (.int (if j < i then j else i)) := rfl
theorem kIx_5 {w : GRow} {Q : PV → Prop} : kIx w.pv (.int 3) Q = Q (.int w.lo) ∧ kIx w.pv (.int 4) Q = Q (.int w.hi) := by
  have h3 : atI [rat w.x, rat w.g, rat w.low, .int w.lo, .int w.hi] 3 = some (.int w.lo) := atI_nat (l := [rat w.x, rat w.g, rat w.low, .int w.lo, .int w.hi]) (i := 3) (by simp)
  have h4 : atI [rat w.x, rat w.g, rat w.low, .int w.lo, .int w.hi] 4 = some (.int w.hi) := atI_nat (l := [rat w.x, rat w.g, rat w.low, .int w.lo, .int w.hi]) (i := 4) (by simp)
  constructor
  · simp only [GRow.pv, kIx, h3]
  · simp only [GRow.pv, kIx, h4]
theorem gRow_ok {R : RaceM} (g : R.G) {f s : Rn} (hf : f ∈ R.rs) (hs : s ∈ R.rs) {v a b : Rat} (vz : sz v ≤ P0) (ha : R.At a) (hb : R.At b) : ∀ w ∈ R.gRows f s v a b, w.Ok := fun w hw => by
  have pe := P0_eq
  obtain ⟨p, hp, e⟩ := List.mem_filterMap.mp hw
  obtain ⟨m1, m2⟩ := adj_mem hp
  have a1 := cut_at g (two_in hf hs) ha hb m1
  have a2 := cut_at g (two_in hf hs) ha hb m2
  have z1 := off_sz g hf hs vz a1
  have z2 := off_sz g hf hs vz a2
  have z3 := g.speed_sz hf p.1
  have z4 := g.speed_sz hs p.1
  have z5 := sz_sub (s.speed p.1) (f.speed p.1)
  have fl : ∀ q : Rat, sz q ≤ 2562 → q.floor.natAbs < 2 ^ 2562 := fun q h => by
    have h1 := floor_abs q
    have h2 := num_lt q
    have h3 : (2 : Nat) ^ sz q ≤ 2 ^ 2562 := Nat.pow_le_pow_right (by decide) h
    omega
  have ng : ∀ q : Rat, sz q ≤ 2562 → sz (-q) ≤ 2562 := fun q h => by
    unfold sz at h ⊢
    rw [Rat.neg_num, Rat.neg_den, Int.natAbs_neg]; exact h
  have p2 : (2 : Nat) ^ 2562 + 1 < 2 ^ 2600 := by
    have : (2 : Nat) ^ 2600 = 2 ^ 2562 * 2 ^ 38 := by rw [← Nat.pow_add]
    have h0 : 0 < (2 : Nat) ^ 2562 := Nat.pow_pos (by decide)
    omega
  have f1 := fl _ z1
  have f2 := fl _ z2
  have f3 := fl _ (ng _ z1)
  have f4 := fl _ (ng _ z2)
  have mk : ∀ (x g low : Rat) (lo hi : Int), sz x ≤ P0 → sz g ≤ 1300 → g ≠ 0 → sz low ≤ 2600 → lo.natAbs < 2 ^ 2600 → hi.natAbs < 2 ^ 2600 → GRow.Ok ⟨x, g, low, lo, hi⟩ := fun _ _ _ _ _ h1 h2 h3 h4 h5 h6 => ⟨h1, h2, h3, h4, h5, h6⟩
  have zg : sz (s.speed p.1 - f.speed p.1) ≤ 1300 := by omega
  generalize (2 : Nat) ^ 2600 = A at *
  generalize (2 : Nat) ^ 2562 = B at *
  unfold RaceM.gRow at e
  split at e
  · rename_i h
    cases e
    exact mk _ _ _ _ _ a1.z zg (by grind) (by omega) (by omega) (by omega)
  · split at e
    · rename_i h
      cases e
      exact mk _ _ _ _ _ a1.z zg (by grind) (by omega) (by omega) (by omega)
    · cases e
theorem rows_len {R : RaceM} (g : R.G) {f s : Rn} (hf : f ∈ R.rs) (hs : s ∈ R.rs) {v a b : Rat} : (R.gRows f s v a b).length ≤ 100 := by
  have h1 : ∀ l : List Rat, (adj l).length ≤ l.length := fun l => by
    induction l with
    | nil => simp [adj]
    | cons x r ih => cases r with
      | nil => simp [adj]
      | cons y r => simp only [adj, List.length_cons] at ih ⊢; omega
  have h2 := h1 (cutR (chs [f, s]) a b)
  have h3 := rise_len (a :: b :: (chs [f, s]).filter fun t => decide (a < t ∧ t < b))
  have h4 := List.length_filter_le (fun t => decide (a < t ∧ t < b)) (chs [f, s])
  have h5 := chs_len g.ok (two_in hf hs)
  have h6 := List.length_filterMap_le (R.gRow f s v) (adj (cutR (chs [f, s]) a b))
  simp only [List.length_cons, List.length_nil] at h3 h5
  unfold RaceM.gRows
  unfold cutR at *
  omega
theorem cnt_many (w : GRow) (h : 0 ≤ (if 0 < w.g then w.hi + 1 - w.lo else w.lo - (w.hi - 1))) : (if (w.hi - w.lo) * w.dir + 1 > 0 then (w.hi - w.lo) * w.dir + 1 else 0) = (w.many : Int) := by
  unfold GRow.dir GRow.many
  split at h
  · rename_i hg
    rw [if_pos hg, if_pos hg]
    split <;> omega
  · rename_i hg
    rw [if_neg hg, if_neg hg]
    split <;> omega
theorem gRow_many {R : RaceM} (l0 : 0 < R.len) {f s : Rn} (of : f.Ok) (os : s.Ok) {v a b : Rat} (ha : 0 ≤ a) (hab : a ≤ b) : ∀ w ∈ R.gRows f s v a b, 0 ≤ (if 0 < w.g then w.hi + 1 - w.lo else w.lo - (w.hi - 1)) := fun w hw => by
  obtain ⟨p, hp, e⟩ := List.mem_filterMap.mp hw
  obtain ⟨h1, h2, h3, st⟩ := cutR_adj hab hp
  have lin := off_line (R := R) (v := v) os of (x := p.1) (y := p.2) (by grind) (Rat.le_of_lt h2) (st.rn (r := s) (by simp)) (st.rn (r := f) (by simp))
  unfold RaceM.gRow at e
  split at e
  · rename_i h
    cases e
    rw [if_pos h]
    have : 0 < (s.speed p.1 - f.speed p.1) * (p.2 - p.1) / R.len := by
      rw [div_pos_iff l0, mul_pos_iff (by grind)]; exact h
    have := floor_mono (p := R.off s f v p.1) (q := R.off s f v p.2) (by grind)
    show 0 ≤ (R.off s f v p.2).floor + 1 - ((R.off s f v p.1).floor + 1)
    omega
  · rename_i h0
    split at e
    · rename_i h
      cases e
      rw [if_neg h0]
      have : 0 < (f.speed p.1 - s.speed p.1) * (p.2 - p.1) / R.len := by
        rw [div_pos_iff l0, mul_pos_iff (by grind)]; grind
      have e2 : (f.speed p.1 - s.speed p.1) * (p.2 - p.1) / R.len = -((s.speed p.1 - f.speed p.1) * (p.2 - p.1) / R.len) := by
        rw [Rat.div_def, Rat.div_def]; grind
      have := floor_mono (p := -R.off s f v p.1) (q := -R.off s f v p.2) (by grind)
      show 0 ≤ -(-R.off s f v p.1).floor - 1 - (-(-R.off s f v p.2).floor - 1)
      omega
    · cases e
theorem flat_sum {α β : Type} (f : α → List β) : ∀ l : List α, (((l.flatMap f).length : Nat) : Int) = (l.map fun a => (((f a).length : Nat) : Int)).sum
  | [] => rfl
  | a :: l => by
    rw [List.flatMap_cons, List.length_append, List.map_cons, List.sum_cons, ← flat_sum f l]
    push_cast; rfl
theorem times_len {len : Rat} (w : GRow) : (w.times len).length = w.many := by unfold GRow.times; simp
theorem lg_of {n : Int} {k : Nat} (h : n.natAbs < 2 ^ k) (hk : 0 < k) : n.natAbs.log2 < k := log2_lt_of hk h
theorem hp_count_gap : ∀ as Q, Ph_count_gap as Q → as.length = 6 ∧ t_count_gap ⟨fun _ => Q .non, Q, fun _ => False, fun _ => False⟩ (startP N_count_gap as) := by
  rintro as Q ⟨R, f, s, w, wa, wb, v, a, b, rfl, g, hf, hs, hw, v0, vl, vz, hwa, hwb, ab, ha, hb, hq⟩
  refine ⟨rfl, ?_⟩
  have ok := g.ok
  have al := gRow_ok g hf hs vz ha hb
  have rl := rows_len g hf hs (v := v) (a := a) (b := b)
  have mn := gRow_many ok.len (ok.rn f hf) (ok.rn s hs) (v := v) ha.t0 ab
  rw [gapL_rows, flat_sum] at hq
  simp only [st_count_gap, t_count_gap, RaceM.pv, pSeq, pNext, pIfS, pRet, pRetN, pAsg, pDrop, pPar, pAug, gNm, gTupP, gConsP, gNilP, pVar, pC, pBin, pChain, pUn, kNeg, pTst, pTru, pAndT, pOrT, pNotT, pAndV, pOrV, pNotV, pIf, pCons, pNil, pTup, pLst, pStar, pCallB, pCall, pMeth, pProp, pFld, pFrz, pIL, pIT, pZip, pEnum, pR1, pR2, pR3, pSlL, pSlT, pPart, pNoPart, pLc, pLc2, pDc, pSortSc, pFor, pNewL, pNewD, pApp, pExt, pDPut, pSetL, pOwnD, pIsN, pNotN, pListVals, pIVals, pIKeys, pIItems, onDic, pIStr, pDGet1, pTsYes, pParL, pParR, pCel, pCelSet, pNewCel, pNeverS, wipeP, List.set_cons_zero, List.set_cons_succ, List.getElem?_cons_zero, List.getElem?_cons_succ, List.length_cons, List.length_nil]
  refine ⟨by trivial, by rfl, R, f, s, rfl, ok, hf, hs, R, _, v, rfl, g, hw, v0, vl, vz, _, _, a, b, rfl, hwa, hwb, ha.t0, ab, ha.z, hb.z, by trivial, R, f, s, v, a, b, rfl, g, hf, hs, vz, ha, hb, ?_⟩
  refine lcL_map GRow.pv (fun w => .int (w.many : Int)) (R.gRows f s v a b) (fun w hw T h => ?_) (size_le (by omega)) ?_
  · have o := al w hw
    simp only [te_count_gap_1, pSeq, pNext, pIfS, pRet, pRetN, pAsg, pDrop, pPar, pAug, gNm, gTupP, gConsP, gNilP, pVar, pC, pBin, pChain, pUn, kNeg, pTst, pTru, pAndT, pOrT, pNotT, pAndV, pOrV, pNotV, pIf, pCons, pNil, pTup, pLst, pStar, pCallB, pCall, pMeth, pProp, pFld, pFrz, pIL, pIT, pZip, pEnum, pR1, pR2, pR3, pSlL, pSlT, pPart, pNoPart, pLc, pLc2, pDc, pSortSc, pFor, pNewL, pNewD, pApp, pExt, pDPut, pSetL, pOwnD, pIsN, pNotN, pListVals, pIVals, pIKeys, pIItems, onDic, pIStr, pDGet1, pTsYes, pParL, pParR, pCel, pCelSet, pNewCel, pNeverS, wipeP, List.set_cons_zero, List.set_cons_succ, List.getElem?_cons_zero, List.getElem?_cons_succ, List.length_cons, List.length_nil, kIx_5.1, kIx_5.2, kI0_int]
    refine ⟨w, rfl, ?_⟩
    simp only [kII_int]
    refine ⟨?_, ?_⟩
    · have h1 := o.lo
      have h2 := o.hi
      have h3 : (w.hi - w.lo).natAbs.log2 < 2602 := lg_of (by
        have : (2 : Nat) ^ 2602 = 2 ^ 2600 * 4 := by rw [show (4 : Nat) = 2 ^ 2 from rfl, ← Nat.pow_add]
        generalize (2 : Nat) ^ 2600 = A at *
        omega) (by decide)
      have h4 : w.dir.natAbs.log2 = 0 := by unfold GRow.dir; split <;> decide
      show (w.hi - w.lo).natAbs.log2 + w.dir.natAbs.log2 < 1000000
      omega
    · simp only [kI0_int]
      show T (.int (if (w.hi - w.lo) * w.dir + 1 > 0 then (w.hi - w.lo) * w.dir + 1 else 0))
      rw [cnt_many w (mn w hw)]
      exact h
  · show kSum [.lst _] Q
    simp only [kSum, intsP_map]
    have e : (R.gRows f s v a b).map (fun a => (((GRow.times R.len a).length : Nat) : Int)) = (R.gRows f s v a b).map fun w => (w.many : Int) := List.map_congr_left fun w _ => by rw [times_len]
    rw [e] at hq
    exact hq
theorem cut3 {p q r s t : PV} : cutP [p, q, r, s, t] none (some 3) = [p, q, r] := by rfl
theorem hp_time_in_row : ∀ as Q, Ph_time_in_row as Q → as.length = 3 ∧ t_time_in_row ⟨fun _ => Q .non, Q, fun _ => False, fun _ => False⟩ (startP N_time_in_row as) := by
  rintro as Q ⟨R, w, n, rfl, g, o, hn, hq⟩
  refine ⟨rfl, ?_⟩
  have pe := P0_eq
  have zl := g.len
  have zw := o.low
  have zg := o.g
  have zx := o.x
  have zn : sz (n : Rat) ≤ 2600 := sz_int_le (by decide) hn
  have z1 := sz_sub (n : Rat) w.low
  have z2 := sz_mul ((n : Rat) - w.low) R.len
  have z3 := sz_div (((n : Rat) - w.low) * R.len) o.g0
  simp only [st_time_in_row, t_time_in_row, RaceM.pv, GRow.pv, pSeq, pNext, pIfS, pRet, pRetN, pAsg, pDrop, pPar, pAug, gNm, gTupP, gConsP, gNilP, pVar, pC, pBin, pChain, pUn, kNeg, pTst, pTru, pAndT, pOrT, pNotT, pAndV, pOrV, pNotV, pIf, pCons, pNil, pTup, pLst, pStar, pCallB, pCall, pMeth, pProp, pFld, pFrz, pIL, pIT, pZip, pEnum, pR1, pR2, pR3, pSlL, pSlT, pPart, pNoPart, pLc, pLc2, pDc, pSortSc, pFor, pNewL, pNewD, pApp, pExt, pDPut, pSetL, pOwnD, pIsN, pNotN, pListVals, pIVals, pIKeys, pIItems, onDic, pIStr, pDGet1, pTsYes, pParL, pParR, pCel, pCelSet, pNewCel, pNeverS, wipeP, List.set_cons_zero, List.set_cons_succ, List.getElem?_cons_zero, List.getElem?_cons_succ, List.length_cons, List.length_nil, cut3]
  refine ⟨by simp, by trivial, ?_⟩
  exact ⟨_, _, _, _, rfl, .int n, .rat _, by omega, by trivial, R, rfl, _, _, _, _, rfl, .rat _, .rat _, by omega, _, _, _, _, rfl, .rat _, .rat _, o.g0, by omega, _, _, _, _, rfl, .rat _, .rat _, by omega, hq⟩
theorem hp_gap_times : ∀ as Q, Ph_gap_times as Q → as.length = 6 ∧ t_gap_times ⟨fun _ => Q .non, Q, fun _ => False, fun _ => False⟩ (startP N_gap_times as) := by
  rintro as Q ⟨R, f, s, w, wa, wb, v, a, b, rfl, g, hf, hs, hw, v0, vl, vz, hwa, hwb, ab, ha, hb, l2, hr, hq⟩
  refine ⟨rfl, ?_⟩
  have ok := g.ok
  have al := gRow_ok g hf hs vz ha hb
  simp only [st_gap_times, t_gap_times, RaceM.pv, pSeq, pNext, pIfS, pRet, pRetN, pAsg, pDrop, pPar, pAug, gNm, gTupP, gConsP, gNilP, pVar, pC, pBin, pChain, pUn, kNeg, pTst, pTru, pAndT, pOrT, pNotT, pAndV, pOrV, pNotV, pIf, pCons, pNil, pTup, pLst, pStar, pCallB, pCall, pMeth, pProp, pFld, pFrz, pIL, pIT, pZip, pEnum, pR1, pR2, pR3, pSlL, pSlT, pPart, pNoPart, pLc, pLc2, pDc, pSortSc, pFor, pNewL, pNewD, pApp, pExt, pDPut, pSetL, pOwnD, pIsN, pNotN, pListVals, pIVals, pIKeys, pIItems, onDic, pIStr, pDGet1, pTsYes, pParL, pParR, pCel, pCelSet, pNewCel, pNeverS, wipeP, List.set_cons_zero, List.set_cons_succ, List.getElem?_cons_zero, List.getElem?_cons_succ, List.length_cons, List.length_nil]
  refine ⟨R, f, s, w, wa, wb, v, a, b, rfl, g, hf, hs, hw, v0, vl, vz, hwa, hwb, ab, ha, hb, ?_⟩
  have nl : ¬ (2000 : Int) < ((R.gapL f s v a b).length : Nat) := by omega
  simp only [kI0_int, decide_eq_false nl]
  refine ⟨_, _, a, b, rfl, hwa, hwb, ha.t0, ab, ha.z, hb.z, by trivial, w, v, rfl, hw, R, f, s, v, a, b, rfl, g, hf, hs, vz, ha, hb, ?_⟩
  rw [gapL_rows] at hq l2
  generalize R.gRows f s v a b = rows at *
  refine forL_of GRow.pv (fun rest ρ => ∃ (done : List GRow) (s9 s10 s11 : Slt), done ++ rest = rows ∧ ρ = [.val (.obj "Race" R.fs), .val (.str f.name), .val (.str s.name), .val w, .val wa, .val wb, .val (rat a), .val (rat b), .own (.lst ((done.flatMap (GRow.times R.len)).map rat)), s9, s10, s11]) ?_ ?_ rows _ ⟨[], _, _, _, rfl, rfl⟩
  · rintro w' rest ρ ⟨done, s9, s10, s11, hd, rfl⟩ N hN
    have hw' : w' ∈ rows := by rw [← hd]; simp
    have o := al w' hw'
    obtain ⟨b1, b2⟩ := hr w' hw'
    have lt : (done.flatMap (GRow.times R.len)).length + w'.many ≤ 2000 := by
      rw [← hd, List.flatMap_append, List.flatMap_cons, List.length_append, List.length_append, times_len] at l2
      omega
    simp only [tb_gap_times_2, pSeq, pNext, pIfS, pRet, pRetN, pAsg, pDrop, pPar, pAug, gNm, gTupP, gConsP, gNilP, pVar, pC, pBin, pChain, pUn, kNeg, pTst, pTru, pAndT, pOrT, pNotT, pAndV, pOrV, pNotV, pIf, pCons, pNil, pTup, pLst, pStar, pCallB, pCall, pMeth, pProp, pFld, pFrz, pIL, pIT, pZip, pEnum, pR1, pR2, pR3, pSlL, pSlT, pPart, pNoPart, pLc, pLc2, pDc, pSortSc, pFor, pNewL, pNewD, pApp, pExt, pDPut, pSetL, pOwnD, pIsN, pNotN, pListVals, pIVals, pIKeys, pIItems, onDic, pIStr, pDGet1, pTsYes, pParL, pParR, pCel, pCelSet, pNewCel, pNeverS, wipeP, List.set_cons_zero, List.set_cons_succ, List.getElem?_cons_zero, List.getElem?_cons_succ, List.length_cons, List.length_nil]
    refine ⟨w', rfl, ?_⟩
    simp only [kIx_5.1, kIx_5.2, kI0_int]
    have fin : ∀ c : Int, c = w'.dir → pLcL (gNm 11) pTsYes te_gap_times_1 [.val (.obj "Race" R.fs), .val (.str f.name), .val (.str s.name), .val w, .val wa, .val wb, .val (rat a), .val (rat b), .own (.lst ((done.flatMap (GRow.times R.len)).map rat)), .val w'.pv, .val (.int w'.dir), .no]
        (fun acc => ((done.flatMap (GRow.times R.len)).map rat).length + acc.length ≤ sizeLine ∧ N [.val (.obj "Race" R.fs), .val (.str f.name), .val (.str s.name), .val w, .val wa, .val wb, .val (rat a), .val (rat b), .own (.lst ((done.flatMap (GRow.times R.len)).map rat ++ acc)), .val w'.pv, .val (.int w'.dir), s11]) (rngC w'.lo c w'.many) [] := by
      rintro c rfl
      unfold rngC
      refine lcL_map (fun i : Nat => PV.int (w'.lo + (i : Int) * w'.dir)) (fun i => rat (w'.time R.len (w'.lo + (i : Int) * w'.dir))) (List.range w'.many) (fun i hi T h => ?_) (size_le (by simp; omega)) ?_
      · have hi' := List.mem_range.mp hi
        simp only [te_gap_times_1, pSeq, pNext, pIfS, pRet, pRetN, pAsg, pDrop, pPar, pAug, gNm, gTupP, gConsP, gNilP, pVar, pC, pBin, pChain, pUn, kNeg, pTst, pTru, pAndT, pOrT, pNotT, pAndV, pOrV, pNotV, pIf, pCons, pNil, pTup, pLst, pStar, pCallB, pCall, pMeth, pProp, pFld, pFrz, pIL, pIT, pZip, pEnum, pR1, pR2, pR3, pSlL, pSlT, pPart, pNoPart, pLc, pLc2, pDc, pSortSc, pFor, pNewL, pNewD, pApp, pExt, pDPut, pSetL, pOwnD, pIsN, pNotN, pListVals, pIVals, pIKeys, pIItems, onDic, pIStr, pDGet1, pTsYes, pParL, pParR, pCel, pCelSet, pNewCel, pNeverS, wipeP, List.set_cons_zero, List.set_cons_succ, List.getElem?_cons_zero, List.getElem?_cons_succ, List.length_cons, List.length_nil]
        refine ⟨R, w', _, rfl, g, o, ?_, h⟩
        have h1 : (w'.lo + (i : Int) * w'.dir).natAbs ≤ w'.lo.natAbs + i := by
          unfold GRow.dir; split <;> omega
        have h2 : (2 : Nat) ^ 61 + 2000 < 2 ^ 2600 := Nat.lt_of_lt_of_le (show (2 : Nat) ^ 61 + 2000 < 2 ^ 62 by decide) (Nat.pow_le_pow_right (by decide) (by decide))
        omega
      · refine ⟨size_le (by simp only [List.length_map, List.length_range]; omega), hN _ ⟨done ++ [w'], .val w'.pv, .val (.int w'.dir), s11, by rw [← hd]; simp, ?_⟩⟩
        rw [List.flatMap_append, List.map_append]
        have : ((w' :: []).flatMap (GRow.times R.len)).map rat = (List.range w'.many).map fun i : Nat => rat (w'.time R.len (w'.lo + (i : Int) * w'.dir)) := by
          rw [List.flatMap_cons, List.flatMap_nil, List.append_nil]
          unfold GRow.times
          rw [List.map_map]; rfl
        rw [this]
    refine ⟨⟨by omega, by omega, ?_, ?_⟩, ?_⟩
    · unfold GRow.dir; split <;> omega
    · unfold GRow.dir; split <;> omega
    · by_cases hg : 0 < w'.g
      · refine .inl ⟨by unfold GRow.dir; rw [if_pos hg], ?_⟩
        have e : (w'.hi + w'.dir - w'.lo).toNat = w'.many := by unfold GRow.dir GRow.many; rw [if_pos hg, if_pos hg]
        rw [e]
        exact fin 1 (by unfold GRow.dir; rw [if_pos hg])
      · refine .inr ⟨by unfold GRow.dir; rw [if_neg hg], ?_⟩
        have e : (w'.lo - (w'.hi + w'.dir)).toNat = w'.many := by unfold GRow.dir GRow.many; rw [if_neg hg, if_neg hg]; congr 1
        rw [e]
        exact fin (-1) (by unfold GRow.dir; rw [if_neg hg])
  · rintro ρ ⟨done, s9, s10, s11, hd, rfl⟩
    rw [List.append_nil] at hd
    subst hd
    simp only [pSeq, pNext, pIfS, pRet, pRetN, pAsg, pDrop, pPar, pAug, gNm, gTupP, gConsP, gNilP, pVar, pC, pBin, pChain, pUn, kNeg, pTst, pTru, pAndT, pOrT, pNotT, pAndV, pOrV, pNotV, pIf, pCons, pNil, pTup, pLst, pStar, pCallB, pCall, pMeth, pProp, pFld, pFrz, pIL, pIT, pZip, pEnum, pR1, pR2, pR3, pSlL, pSlT, pPart, pNoPart, pLc, pLc2, pDc, pSortSc, pFor, pNewL, pNewD, pApp, pExt, pDPut, pSetL, pOwnD, pIsN, pNotN, pListVals, pIVals, pIKeys, pIItems, onDic, pIStr, pDGet1, pTsYes, pParL, pParR, pCel, pCelSet, pNewCel, pNeverS, wipeP, List.set_cons_zero, List.set_cons_succ, List.getElem?_cons_zero, List.getElem?_cons_succ, List.length_cons, List.length_nil]
    exact hq
end G


/-! ## GD -/
/-! Drawn races: how far, how fine, how often. -/
namespace G
open PySem PySem.Spec PyProof.Rows L2 L3 MR
/-- bounded by -/
def Ab (q M : Rat) : Prop := -M ≤ q ∧ q ≤ M
theorem Ab.add {a b M N : Rat} (h : Ab a M) (g : Ab b N) : Ab (a + b) (M + N) := ⟨by have := h.1; have := g.1; grind, by have := h.2; have := g.2; grind⟩
theorem Ab.sub {a b M N : Rat} (h : Ab a M) (g : Ab b N) : Ab (a - b) (M + N) := ⟨by have := h.1; have := g.2; grind, by have := h.2; have := g.1; grind⟩
theorem Ab.mono {a M N : Rat} (h : Ab a M) (g : M ≤ N) : Ab a N := ⟨by have := h.1; grind, by have := h.2; grind⟩
theorem Ab.mul {a b M N : Rat} (h : Ab a M) (b0 : 0 ≤ b) (g : b ≤ N) (M0 : 0 ≤ M) : Ab (a * b) (M * N) := by
  have h1 := Rat.mul_le_mul_of_nonneg_right h.2 b0
  have h2 := Rat.mul_le_mul_of_nonneg_right h.1 b0
  have h3 := Rat.mul_le_mul_of_nonneg_left g M0
  constructor <;> grind
theorem walk_ab {S : Rat} (S0 : 0 ≤ S) : ∀ (ps : List (Rat × Rat)) (b s t f F : Rat), ((b, s) :: ps).Pairwise (·.1 < ·.1) → (∀ p ∈ (b, s) :: ps, Ab p.2 S) → b ≤ t → Ab f F → Ab (walkP ((b, s) :: ps) t f) (F + S * (t - b))
  | [], b, s, t, f, F, _, hs, hb, hf => by
    rw [walk_last]
    have h1 : Ab s S := hs (b, s) (List.mem_cons_self ..)
    split
    · exact hf.add (h1.mul (by grind) Rat.le_refl S0)
    · have := Rat.mul_nonneg S0 (show 0 ≤ t - b by grind)
      exact hf.mono (by grind)
  | (b', s') :: r, b, s, t, f, F, up, hs, hb, hf => by
    obtain ⟨u1, u2⟩ := List.pairwise_cons.mp up
    have bb : b < b' := u1 (b', s') (List.mem_cons_self ..)
    have h1 : Ab s S := hs (b, s) (List.mem_cons_self ..)
    rw [walk_more]
    by_cases c : b' ≤ t
    · have e : (if b' < t then b' else t) = b' := by split <;> grind
      rw [e, if_pos bb]
      have h2 := walk_ab S0 r b' s' t (f + s * (b' - b)) (F + S * (b' - b)) u2 (fun p hp => hs p (List.mem_cons_of_mem _ hp)) c (hf.add (h1.mul (by grind) Rat.le_refl S0))
      have e2 : F + S * (b' - b) + S * (t - b') = F + S * (t - b) := by grind
      rw [e2] at h2
      exact h2
    · have e : (if b' < t then b' else t) = t := by split <;> grind
      rw [e, walk_after _ t _ fun p hp => by
        rcases List.mem_cons.mp hp with rfl | hp
        · show t ≤ b'; grind
        · have : b' < p.1 := (List.pairwise_cons.mp u2).1 p hp
          grind]
      split
      · exact hf.add (h1.mul (by grind) Rat.le_refl S0)
      · have := Rat.mul_nonneg S0 (show 0 ≤ t - b by grind)
        exact hf.mono (by grind)
theorem Rn.pos_ab {r : Rn} (ok : r.Ok) {S F t : Rat} (S0 : 0 ≤ S) (hs : ∀ p ∈ r.pieces, Ab p.2 S) (hf : Ab r.start F) (t0 : 0 ≤ t) : Ab (r.pos t) (F + S * t) := by
  obtain ⟨⟨b, s⟩, q, e, z⟩ := ok.hd
  have z : b = 0 := z
  have up := ok.up
  unfold Rn.pos
  rw [e] at up hs ⊢
  have h := walk_ab S0 q b s t r.start F up hs (by rw [z]; exact t0) hf
  rw [z] at h ⊢
  have e2 : F + S * (t - 0) = F + S * t := by grind
  rw [e2] at h
  exact h
theorem walk_dv {d e : Nat} (de : d ∣ e) : ∀ (ps : List (Rat × Rat)) (t f : Rat), (∀ p ∈ ps, Dv d p.1 ∧ Dv d p.2) → Dv e t → Dv (d * e) f → Dv (d * e) (walkP ps t f)
  | [], _, _, _, _, hf => hf
  | [(b, s)], t, f, hp, ht, hf => by
    obtain ⟨h1, h2⟩ := hp (b, s) (List.mem_cons_self ..)
    rw [walk_last]
    split
    · exact hf.add (h2.mul (ht.sub (h1.up de)))
    · exact hf
  | (b, s) :: (b', s') :: r, t, f, hp, ht, hf => by
    obtain ⟨h1, h2⟩ := hp (b, s) (List.mem_cons_self ..)
    obtain ⟨h3, h4⟩ := hp (b', s') (by simp)
    rw [walk_more]
    refine walk_dv de ((b', s') :: r) t _ (fun p h => hp p (List.mem_cons_of_mem _ h)) ht ?_
    have he : Dv e (if b' < t then b' else t) := by
      split
      · exact h3.up de
      · exact ht
    generalize (if b' < t then b' else t) = e' at he ⊢
    split
    · exact hf.add (h2.mul (he.sub (h1.up de)))
    · exact hf
theorem speedP_in {C : Rat → Prop} : ∀ (ps : List (Rat × Rat)) (t d : Rat), (∀ p ∈ ps, C p.2) → C d → C (speedP ps t d)
  | [], _, _, _, h => h
  | (b, s) :: r, t, d, h, hd => by
    unfold speedP
    refine speedP_in r t _ (fun p hp => h p (List.mem_cons_of_mem _ hp)) ?_
    split
    · exact h (b, s) (List.mem_cons_self ..)
    · exact hd
section
variable {R : RaceM} {names : List Str}
theorem DrawnR.pos_ab (D : DrawnR names R) {r : Rn} (hr : r ∈ R.rs) {t : Rat} (t0 : 0 ≤ t) : Ab (r.pos t) (12 + 5 * t) :=
  Rn.pos_ab (D.ok.rn r hr) (by decide +kernel) (fun p hp => ⟨by have := (D.pc r hr p hp).2.2.2.1; grind, (D.pc r hr p hp).2.2.2.2⟩) ⟨by have := (D.ok.st r hr).1; grind, by have := (D.ok.st r hr).2; have := D.hi; grind⟩ t0
theorem DrawnR.pos_dv (D : DrawnR names R) {r : Rn} (hr : r ∈ R.rs) {t : Rat} {e : Nat} (he : 6 ∣ e) (ht : Dv e t) : Dv (6 * e) (r.pos t) :=
  walk_dv he r.pieces t r.start (fun p hp => ⟨(D.pc r hr p hp).2.1, (D.pc r hr p hp).2.2.1⟩) ht ((D.st r hr).up (Nat.dvd_mul_right _ _))
theorem DrawnR.sp_dv (D : DrawnR names R) {r : Rn} (hr : r ∈ R.rs) (t : Rat) : Dv 6 (r.speed t) := speedP_in r.pieces t 0 (fun p hp => (D.pc r hr p hp).2.2.1) .zero
theorem DrawnR.sp_ab (D : DrawnR names R) {r : Rn} (hr : r ∈ R.rs) (t : Rat) : -4 ≤ r.speed t ∧ r.speed t ≤ 5 :=
  speedP_in (C := fun q => -4 ≤ q ∧ q ≤ 5) r.pieces t 0 (fun p hp => (D.pc r hr p hp).2.2.2) ⟨by decide +kernel, by decide +kernel⟩
/-- a time of a fine size -/
theorem den_dv (t : Rat) : Dv (6 * t.den) t := Dv.of_den (Nat.dvd_mul_left _ _)
end
/-- the distance forward -/
def RaceM.gap (R : RaceM) (f s : Rn) (t : Rat) : Rat := rem (s.pos t - f.pos t) R.len
section
variable {R : RaceM} {names : List Str}
theorem DrawnR.rem_sz (D : DrawnR names R) {q t : Rat} (h : Dv (6 * (6 * t.den)) q) (tz : sz t ≤ 180) : sz (rem q R.len) ≤ 190 := by
  have k0 : 0 < 6 * (6 * t.den) := by have := t.den_pos; omega
  have hd : Dv (6 * (6 * t.den)) (rem q R.len) := rem_dv h (D.ld.up (by rw [show 6 * (6 * t.den) = 2 * (18 * t.den) by omega]; exact Nat.dvd_mul_right _ _))
  have h0 := rem_nonneg (a := q) D.ok.len
  have h1 := rem_lt (a := q) D.ok.len
  have h2 := D.hi
  have dl := den_lt t
  have dl2 : (2 : Nat) ^ sz t ≤ 2 ^ 180 := Nat.pow_le_pow_right (by decide) tz
  have e : (2 : Nat) ^ 190 = 1024 * 2 ^ 180 := by rw [show (1024 : Nat) = 2 ^ 10 from rfl, ← Nat.pow_add]
  have n12 : -((12 : Nat) : Rat) ≤ 0 := by decide +kernel
  have e12 : ((12 : Nat) : Rat) = 12 := rfl
  exact hd.sz (n := 190) (M := 12) k0 (by grind) (by grind) (by omega) (by omega)
theorem DrawnR.gap_sz (D : DrawnR names R) {f s : Rn} (hf : f ∈ R.rs) (hs : s ∈ R.rs) {t : Rat} (tz : sz t ≤ 180) : sz (R.gap f s t) ≤ 190 :=
  D.rem_sz ((D.pos_dv hs (Nat.dvd_mul_right _ _) (den_dv t)).sub (D.pos_dv hf (Nat.dvd_mul_right _ _) (den_dv t))) tz
/-- sums along cuts -/
theorem adj_sum : ∀ (x : Rat) (l : List Rat), ((adj (x :: l)).map fun p => p.2 - p.1).sum = (x :: l).getLast (by simp) - x
  | x, [] => by simp [adj]; grind
  | x, y :: r => by
    have ih := adj_sum y r
    show (((x, y) :: adj (y :: r)).map fun p => p.2 - p.1).sum = _
    rw [List.map_cons, List.sum_cons, ih]
    have : (x :: y :: r).getLast (by simp) = (y :: r).getLast (by simp) := List.getLast_cons (by simp)
    rw [this]
    grind
theorem sum_bd {α : Type} (f : α → Nat) (g : α → Rat) (c : Rat) : ∀ l : List α, (∀ x ∈ l, (f x : Rat) ≤ c * g x + 1) → (((l.map f).sum : Nat) : Rat) ≤ c * (l.map g).sum + (l.length : Rat)
  | [], _ => by simp; grind
  | a :: l, h => by
    have h1 := h a (List.mem_cons_self ..)
    have h2 := sum_bd f g c l fun x hx => h x (List.mem_cons_of_mem _ hx)
    rw [List.map_cons, List.map_cons, List.sum_cons, List.sum_cons, List.length_cons]
    push_cast
    grind
theorem flat_len_sum {α β : Type} (f : α → List β) : ∀ l : List α, (l.flatMap f).length = (l.map fun a => (f a).length).sum
  | [] => rfl
  | a :: l => by rw [List.flatMap_cons, List.length_append, List.map_cons, List.sum_cons, flat_len_sum f l]
theorem adj_len : ∀ l : List Rat, (adj l).length ≤ l.length
  | [] => by simp [adj]
  | [x] => by simp [adj]
  | x :: y :: r => by
    have := adj_len (y :: r)
    simp only [adj, List.length_cons] at this ⊢
    omega
theorem cut_len {R : RaceM} (ok : R.Ok) {f s : Rn} (hf : f ∈ R.rs) (hs : s ∈ R.rs) {a b : Rat} : (adj (cutR (chs [f, s]) a b)).length ≤ 42 := by
  have h2 := adj_len (cutR (chs [f, s]) a b)
  have h3 := rise_len (a :: b :: (chs [f, s]).filter fun t => decide (a < t ∧ t < b))
  have h4 := List.length_filter_le (fun t => decide (a < t ∧ t < b)) (chs [f, s])
  have h5 := chs_len ok (two_in hf hs)
  simp only [List.length_cons, List.length_nil] at h3 h5
  unfold cutR at *
  omega
theorem upS_len_le {len g oa ob x : Rat} (h : oa ≤ ob) : ((upS len g oa ob x).length : Rat) ≤ ob - oa + 1 := by
  have h1 := upS_len (len := len) (g := g) (x := x) h
  have h2 : (((upS len g oa ob x).length : Int) : Rat) = ((ob.floor - oa.floor : Int) : Rat) := by rw [h1]
  have h3 := Rat.floor_le ob
  have h4 := Rat.lt_floor_add_one oa
  rw [Rat.intCast_add] at h4
  rw [Rat.intCast_sub] at h2
  have e1 : ((1 : Int) : Rat) = 1 := rfl
  have h5 : (((upS len g oa ob x).length : Nat) : Rat) = (ob.floor : Rat) - (oa.floor : Rat) := h2
  grind
theorem DrawnR.gap_many (D : DrawnR names R) {f s : Rn} (hf : f ∈ R.rs) (hs : s ∈ R.rs) {v a b : Rat} (ha : 0 ≤ a) (hab : a ≤ b) : ((R.gapL f s v a b).length : Rat) ≤ 9 * (b - a) + 42 := by
  have l0 := D.ok.len
  have step : ∀ p ∈ adj (cutR (chs [f, s]) a b), (((R.gapStep f s v p.1 p.2).length : Nat) : Rat) ≤ 9 * (p.2 - p.1) + 1 := fun p hp => by
    obtain ⟨h1, h2, h3, st⟩ := cutR_adj hab hp
    have s1 := D.sp_ab hf p.1
    have s2 := D.sp_ab hs p.1
    have lin := off_line (R := R) (v := v) (D.ok.rn s hs) (D.ok.rn f hf) (x := p.1) (y := p.2) (by grind) (Rat.le_of_lt h2) (st.rn (r := s) (by simp)) (st.rn (r := f) (by simp))
    have fr : ∀ c : Rat, 0 < c → c ≤ 9 → 0 < c * (p.2 - p.1) / R.len ∧ c * (p.2 - p.1) / R.len ≤ 9 * (p.2 - p.1) := fun c c0 c9 => by
      refine ⟨by rw [div_pos_iff l0, mul_pos_iff (by grind)]; exact c0, ?_⟩
      have h1 : c * (p.2 - p.1) ≤ 9 * (p.2 - p.1) := Rat.mul_le_mul_of_nonneg_right c9 (by grind)
      have h2 : 0 ≤ 9 * (p.2 - p.1) := Rat.mul_nonneg (by decide +kernel) (by grind)
      have h3 := Rat.mul_le_mul_of_nonneg_left D.lo h2
      refine Classical.byContradiction fun z => ?_
      have z : 9 * (p.2 - p.1) < c * (p.2 - p.1) / R.len := by grind
      rw [Rat.lt_div_iff l0] at z
      grind
    unfold RaceM.gapStep RaceM.upStep
    by_cases h : f.speed p.1 < s.speed p.1
    · rw [if_pos h, if_neg (show ¬ s.speed p.1 < f.speed p.1 by grind), List.append_nil]
      obtain ⟨c1, c2⟩ := fr (s.speed p.1 - f.speed p.1) (by grind) (by grind)
      have := upS_len_le (len := R.len) (g := s.speed p.1 - f.speed p.1) (oa := R.off s f v p.1) (ob := R.off s f v p.2) (x := p.1) (by grind)
      grind
    · rw [if_neg h, List.nil_append]
      by_cases h' : s.speed p.1 < f.speed p.1
      · rw [if_pos h']
        obtain ⟨c1, c2⟩ := fr (f.speed p.1 - s.speed p.1) (by grind) (by grind)
        have e2 : (f.speed p.1 - s.speed p.1) * (p.2 - p.1) / R.len = -((s.speed p.1 - f.speed p.1) * (p.2 - p.1) / R.len) := by
          rw [Rat.div_def, Rat.div_def]; grind
        have := upS_len_le (len := R.len) (g := f.speed p.1 - s.speed p.1) (oa := R.off f s (-v) p.1) (ob := R.off f s (-v) p.2) (x := p.1) (by rw [off_neg, off_neg]; grind)
        rw [off_neg, off_neg] at this ⊢
        grind
      · rw [if_neg h']
        have : 0 ≤ 9 * (p.2 - p.1) := Rat.mul_nonneg (by decide +kernel) (by grind)
        show ((0 : Nat) : Rat) ≤ _
        have e : ((0 : Nat) : Rat) = 0 := rfl
        grind
  unfold RaceM.gapL Tot
  rw [Sm_flat, flat_len_sum]
  have h1 := sum_bd (fun p : Rat × Rat => (R.gapStep f s v p.1 p.2).length) (fun p => p.2 - p.1) 9 _ step
  obtain ⟨l, hl, e, hlast⟩ := cutR_ends (ch := chs [f, s]) hab
  have h2 : ((adj (cutR (chs [f, s]) a b)).map fun p => p.2 - p.1).sum = b - a := by rw [e, adj_sum, hlast]
  rw [h2] at h1
  have h3 : ((adj (cutR (chs [f, s]) a b)).length : Rat) ≤ ((42 : Nat) : Rat) := by exact_mod_cast cut_len D.ok hf hs
  have e42 : ((42 : Nat) : Rat) = 42 := rfl
  grind
theorem floor_ab {q : Rat} {M : Nat} (h : Ab q M) : q.floor.natAbs ≤ M + 1 := by
  have h1 : q.floor ≤ M := by
    have := floor_mono h.2
    have e : ((M : Nat) : Rat).floor = M := Rat.floor_intCast (M : Int)
    rw [e] at this
    exact this
  have h2 : -(M : Int) ≤ q.floor := by
    rw [floor_le_iff]
    have e : ((-(M : Int) : Int) : Rat) = -((M : Nat) : Rat) := by push_cast; rfl
    rw [e]
    exact h.1
  omega
theorem div_ab {q l M : Rat} (h : Ab q M) (hl : 1 ≤ l) (M0 : 0 ≤ M) : Ab (q / l) M := by
  have l0 : 0 < l := by grind
  have h3 := Rat.mul_le_mul_of_nonneg_left hl M0
  constructor
  · refine Classical.byContradiction fun z => ?_
    have z : q / l < -M := by grind
    rw [Rat.div_lt_iff l0] at z
    have := h.1
    grind
  · refine Classical.byContradiction fun z => ?_
    have z : M < q / l := by grind
    rw [Rat.lt_div_iff l0] at z
    have := h.2
    grind
theorem DrawnR.off_ab (D : DrawnR names R) {f s : Rn} (hf : f ∈ R.rs) (hs : s ∈ R.rs) {v t : Rat} (hv : Ab v 12) (t0 : 0 ≤ t) {T : Nat} (tT : t ≤ T) : Ab (R.off s f v t) ((36 + 10 * T : Nat) : Rat) := by
  have h1 := (D.pos_ab hs t0).sub (D.pos_ab hf t0)
  have h2 := h1.sub hv
  have T0 : (0 : Rat) ≤ (T : Rat) := by grind
  have e : ((36 + 10 * T : Nat) : Rat) = 36 + 10 * (T : Rat) := by push_cast; rfl
  rw [e]
  exact div_ab (h2.mono (by grind)) D.lo (by grind)
/-- gaps of a drawn race may be listed -/
theorem DrawnR.rows_ok (D : DrawnR names R) {f s : Rn} (hf : f ∈ R.rs) (hs : s ∈ R.rs) {v a b : Rat} (v0 : 0 ≤ v) (vl : v < R.len) (ha : 0 ≤ a) (hab : a ≤ b) (hb : b ≤ ((2 ^ 50 : Nat) : Rat)) : ∀ w ∈ R.gRows f s v a b, w.lo.natAbs < 2 ^ 61 ∧ w.hi.natAbs < 2 ^ 61 := fun w hw => by
  obtain ⟨p, hp, e⟩ := List.mem_filterMap.mp hw
  obtain ⟨h1, h2, h3, st⟩ := cutR_adj hab hp
  have hv : Ab v 12 := ⟨by grind, by have := D.hi; grind⟩
  have o1 := D.off_ab hf hs (t := p.1) hv (by grind) (T := 2 ^ 50) (by grind)
  have o2 := D.off_ab hf hs (t := p.2) hv (by grind) (T := 2 ^ 50) (by grind)
  have n1 : Ab (-R.off s f v p.1) ((36 + 10 * 2 ^ 50 : Nat) : Rat) := ⟨by have := o1.2; grind, by have := o1.1; grind⟩
  have n2 : Ab (-R.off s f v p.2) ((36 + 10 * 2 ^ 50 : Nat) : Rat) := ⟨by have := o2.2; grind, by have := o2.1; grind⟩
  have f1 := floor_ab o1
  have f2 := floor_ab o2
  have f3 := floor_ab n1
  have f4 := floor_ab n2
  unfold RaceM.gRow at e
  have mk : ∀ (x g low : Rat) (lo hi : Int), lo.natAbs < 2 ^ 61 → hi.natAbs < 2 ^ 61 → (GRow.mk x g low lo hi).lo.natAbs < 2 ^ 61 ∧ (GRow.mk x g low lo hi).hi.natAbs < 2 ^ 61 := fun _ _ _ _ _ h1 h2 => ⟨h1, h2⟩
  split at e
  · cases e
    exact mk _ _ _ _ _ (by omega) (by omega)
  · split at e
    · cases e
      exact mk _ _ _ _ _ (by omega) (by omega)
    · cases e
theorem nat_of_rat {n : Nat} {q : Rat} {m : Nat} (h : (n : Rat) ≤ q) (g : q ≤ (m : Rat)) : n ≤ m := by
  have : (n : Rat) ≤ (m : Rat) := by grind
  exact_mod_cast this
end
end G


/-! ## GE -/
/-! Drawn races: how fine the times of events are; gaps. -/
namespace G
open PySem PySem.Spec PyProof.Rows L2 L3 MR
def K54 : Nat := 164249358725037825439200
theorem k54 {k : Nat} (h0 : 0 < k) (h : k ≤ 54) : k ∣ K54 := by
  have : ∀ k ∈ List.range 55, k ≠ 0 → k ∣ K54 := by decide +kernel
  exact this k (List.mem_range.mpr (by omega)) (by omega)
section
variable {R : RaceM} {names : List Str}
theorem DrawnR.up_dv (D : DrawnR names R) {o u : Rn} (ho : o ∈ R.rs) (hu : u ∈ R.rs) {v x t : Rat} {e : Nat} (he : 6 ∣ e) (hx : Dv e x) (x0 : 0 ≤ x) (xt : x < t) (st : St (chs [o, u]) x t) (hv : Dv (6 * e) v) (h : R.Up o u v t) : Dv (6 * e * K54) t := by
  have l0 := D.ok.len
  have so := st.rn (r := o) (by simp)
  have su := st.rn (r := u) (by simp)
  obtain ⟨⟨n, en⟩, s⟩ := h
  rw [Rn.sb_st xt so, Rn.sb_st xt su] at s
  have lin := off_line (R := R) (v := v) (D.ok.rn o ho) (D.ok.rn u hu) x0 (Rat.le_of_lt xt) so su
  obtain ⟨k, ek⟩ := (D.sp_dv ho x).sub (D.sp_dv hu x)
  have b1 := D.sp_ab ho x
  have b2 := D.sp_ab hu x
  have g0 : 0 < o.speed x - u.speed x := by grind
  have g9 : o.speed x - u.speed x ≤ 9 := by grind
  generalize o.speed x - u.speed x = g at *
  have e6 : ((6 : Nat) : Rat) = 6 := rfl
  rw [e6] at ek
  have k0 : 0 < k := by
    have : (0 : Rat) < (k : Rat) := by rw [← ek]; exact Rat.mul_pos g0 (by decide +kernel)
    exact_mod_cast this
  have k54' : k ≤ 54 := by
    have : (k : Rat) ≤ ((54 : Int) : Rat) := by
      have e : ((54 : Int) : Rat) = 54 := rfl
      rw [← ek, e]; grind
    exact_mod_cast this
  -- the way
  have hw : g * (t - x) = (n : Rat) * R.len - (o.pos x - u.pos x - v) := by
    rw [en] at lin
    have l1 : R.len ≠ 0 := by grind
    unfold RaceM.off at lin
    have h1 : (n : Rat) * R.len = ((o.pos x - u.pos x - v) / R.len + g * (t - x) / R.len) * R.len := by rw [← lin]
    rw [Rat.add_mul, Rat.div_mul_cancel l1, Rat.div_mul_cancel l1] at h1
    grind
  have dw : Dv (6 * e) (g * (t - x)) := by
    rw [hw]
    have d1 : Dv (6 * e) ((n : Rat) * R.len) := by
      rw [Rat.mul_comm]
      obtain ⟨c, rfl⟩ := he
      exact (D.ld.imul n).up ⟨18 * c, by omega⟩
    exact d1.sub (((D.pos_dv ho he hx).sub (D.pos_dv hu he hx)).sub hv)
  obtain ⟨m, em⟩ := dw
  have dt : Dv (6 * e * k.toNat) (t - x) := by
    refine ⟨m * 6, ?_⟩
    have h1 : ((6 * e * k.toNat : Nat) : Rat) = ((6 * e : Nat) : Rat) * (k : Rat) := by
      have : ((k.toNat : Nat) : Rat) = (k : Rat) := by
        have : ((k.toNat : Int) : Rat) = (k : Rat) := by rw [Int.toNat_of_nonneg (by omega)]
        exact this
      push_cast
      rw [this]
    rw [h1, ← ek]
    have : (t - x) * (((6 * e : Nat) : Rat) * (g * 6)) = g * (t - x) * ((6 * e : Nat) : Rat) * 6 := by grind
    rw [this, em]
    push_cast; rfl
  have hk := k54 (k := k.toNat) (by omega) (by omega)
  have d2 : Dv (6 * e * K54) (t - x) := dt.up (Nat.mul_dvd_mul_left _ hk)
  have d3 : Dv (6 * e * K54) x := hx.up (by rw [Nat.mul_comm 6 e, Nat.mul_assoc]; exact Nat.dvd_mul_right _ _)
  have := d2.add d3
  have e2 : t - x + x = t := by grind
  rw [e2] at this
  exact this
theorem DrawnR.cut_dv (D : DrawnR names R) {o u : Rn} (ho : o ∈ R.rs) (hu : u ∈ R.rs) {a b x : Rat} {e : Nat} (he : 6 ∣ e) (ha : Dv e a) (hb : Dv e b) (h : x ∈ cutR (chs [o, u]) a b) : Dv e x := by
  rcases cutR_mem.mp h with rfl | rfl | ⟨h, _⟩
  · exact ha
  · exact hb
  · obtain ⟨r, hr, p, hp, rfl⟩ := chs_mem.mp h
    exact (D.pc r (two_in ho hu r hr) p hp).2.1.up he
/-- a last look back -/
theorem back {ch : List Rat} {a t : Rat} (h : a < t) : ∃ x, (x = a ∨ x ∈ ch) ∧ a ≤ x ∧ x < t ∧ St ch x t := by
  obtain ⟨p, hp, h1, h2⟩ := adj_cover (cutR_ends (ch := ch) (Rat.le_of_lt h)) h Rat.le_refl
  obtain ⟨h3, h4, h5, st⟩ := cutR_adj (Rat.le_of_lt h) hp
  refine ⟨p.1, ?_, h3, h1, st.sub Rat.le_refl h2⟩
  rcases cutR_mem.mp (adj_mem hp).1 with e | e | e
  · exact .inl e
  · grind
  · exact .inr e.1
theorem DrawnR.ev_dv (D : DrawnR names R) {o u : Rn} (ho : o ∈ R.rs) (hu : u ∈ R.rs) {v a t : Rat} {e : Nat} (he : 6 ∣ e) (ha : Dv e a) (a0 : 0 ≤ a) (h : a < t) (hv : Dv (6 * e) v) (up : R.Up o u v t) : Dv (6 * e * K54) t := by
  obtain ⟨x, hx, h1, h2, st⟩ := back (ch := chs [o, u]) h
  refine D.up_dv ho hu he ?_ (by grind) h2 st hv up
  rcases hx with rfl | hx
  · exact ha
  · obtain ⟨r, hr, p, hp, rfl⟩ := chs_mem.mp hx
    exact (D.pc r (two_in ho hu r hr) p hp).2.1.up he
theorem Up.dv_neg {k : Nat} {v : Rat} (h : Dv k v) : Dv k (-v) := h.neg
theorem DrawnR.gapL_dv (D : DrawnR names R) {f s : Rn} (hf : f ∈ R.rs) (hs : s ∈ R.rs) {v a b t : Rat} {e : Nat} (he : 6 ∣ e) (ha : Dv e a) (a0 : 0 ≤ a) (ab : a ≤ b) (hv : Dv (6 * e) v) (ht : t ∈ R.gapL f s v a b) : Dv (6 * e * K54) t ∧ a < t ∧ t ≤ b := by
  obtain ⟨h1, h2, h3⟩ := (gapL_mem D.ok.len (D.ok.rn f hf) (D.ok.rn s hs) a0 ab).mp ht
  refine ⟨?_, h1, h2⟩
  rcases h3 with h3 | h3
  · exact D.ev_dv hs hf he ha a0 h1 hv h3
  · exact D.ev_dv hf hs he ha a0 h1 hv.neg h3
end
/-! gaps -/
def Ph_gap : Con := fun as Q => ∃ (R : RaceM) (f s : Rn) (v : PV) (t : Rat), as = [R.pv, .str f.name, .str s.name, v] ∧ R.G ∧ f ∈ R.rs ∧ s ∈ R.rs ∧ NumP v t ∧ R.At t ∧ Q (rat (R.gap f s t))
def RaceM.others (R : RaceM) (r : Rn) : List Rn := R.rs.filter fun o => !decide (o.name = r.name)
def RaceM.aheadG (R : RaceM) (r : Rn) (t : Rat) : List Rat := riseL (((R.others r).map fun o => R.gap r o t).filter fun q => decide (0 < q))
def aheadP (R : RaceM) (r : Rn) (t : Rat) : List Rat → PV
  | [] => .non
  | g :: _ => .tup [rat g, .lst (((R.others r).filter fun o => decide (R.gap r o t = g)).map fun o => .str o.name)]
def Ph_runners_ahead : Con := fun as Q => ∃ (R : RaceM) (r : Rn) (v : PV) (t : Rat), as = [R.pv, .str r.name, v] ∧ R.G ∧ R.rs.length ≤ 6 ∧ r ∈ R.rs ∧ NumP v t ∧ R.At t ∧ (∀ o ∈ R.rs, sz (R.gap r o t) ≤ P0) ∧ (∀ o ∈ R.rs, PyData.strOk o.name = true) ∧ Q (aheadP R r t (R.aheadG r t))
def t_gap : PTS := pSeq (pDrop (pMeth "Race" "validate_names" Ph_Race_validate_names (pVar 0) (pCons (pVar 1) (pCons (pVar 2) (pNil))))) (pSeq (pAsg (pCall Ph_minus (pCons (pMeth "Race" "position" Ph_Race_position (pVar 0) (pCons (pVar 2) (pCons (pVar 3) (pNil)))) (pCons (pMeth "Race" "position" Ph_Race_position (pVar 0) (pCons (pVar 1) (pCons (pVar 3) (pNil)))) (pNil)))) (gNm 4)) (pRet (pCall Ph_remainder (pCons (pVar 4) (pCons (pProp "Race" Ph_Race_length (pVar 0)) (pNil))))))
abbrev N_gap : List Str := ["race", "first", "second", "time", "apart"]
theorem st_gap (a0 a1 a2 a3 : PV) : startP N_gap [a0, a1, a2, a3] = [.val a0, .val a1, .val a2, .val a3, .no] := rfl
def tt_runners_ahead_1 : PTT := pTst (pBin kNe (pVar 4) (pVar 1))
def tk_runners_ahead_2 : PTE := pVar 4
def tv_runners_ahead_3 : PTE := pCall Ph_gap (pCons (pVar 0) (pCons (pVar 1) (pCons (pVar 4) (pCons (pVar 2) (pNil)))))
def tt_runners_ahead_4 : PTT := pTst (pBin kGtI (pCall Ph_compare (pCons (pVar 6) (pCons (pC (.int 0)) (pNil)))) (pC (.int 0)))
def te_runners_ahead_5 : PTE := pVar 6
def tt_runners_ahead_6 : PTT := pTst (pBin kEq (pDGet1 (pVar 3) (pVar 4)) (pBin kIx (pVar 5) (pC (.int 0))))
def te_runners_ahead_7 : PTE := pVar 4
def t_runners_ahead : PTS := pSeq (pDrop (pMeth "Race" "start" Ph_Race_start (pVar 0) (pCons (pVar 1) (pNil)))) (pSeq (pDrop (pCall Ph_as_time (pCons (pVar 2) (pNil)))) (pSeq (pAsg (pDc (pIL (pMeth "Race" "names" Ph_Race_names (pVar 0) pNil)) (gNm 4) tt_runners_ahead_1 tk_runners_ahead_2 tv_runners_ahead_3 [4]) (gNm 3)) (pSeq (pAsg (pCall Ph_in_order (pCons (pLc (pIVals (pVar 3)) (gNm 6) tt_runners_ahead_4 te_runners_ahead_5 [6]) (pNil))) (gNm 5)) (pSeq (pIfS (pNotT (pTru (pVar 5))) (pRet (pC .non)) (pNext)) (pRet (pTup (pCons (pBin kIx (pVar 5) (pC (.int 0))) (pCons (pLc (pIL (pMeth "Race" "names" Ph_Race_names (pVar 0) pNil)) (gNm 4) tt_runners_ahead_6 te_runners_ahead_7 [4]) (pNil)))))))))
abbrev N_runners_ahead : List Str := ["race", "name", "time", "gaps", "other", "found", "value"]
theorem st_runners_ahead (a0 a1 a2 : PV) : startP N_runners_ahead [a0, a1, a2] = [.val a0, .val a1, .val a2, .no, .no, .no, .no] := rfl

theorem hp_gap : ∀ as Q, Ph_gap as Q → as.length = 4 ∧ t_gap ⟨fun _ => Q .non, Q, fun _ => False, fun _ => False⟩ (startP N_gap as) := by
  rintro as Q ⟨R, f, s, v, t, rfl, g, hf, hs, hv, a, hq⟩
  refine ⟨rfl, ?_⟩
  have pe := P0_eq
  have z1 := a.p f hf
  have z2 := a.p s hs
  have z3 := sz_sub (s.pos t) (f.pos t)
  have z4 := g.len
  simp only [st_gap, t_gap, RaceM.pv, pSeq, pNext, pIfS, pRet, pRetN, pAsg, pDrop, pPar, pAug, gNm, gTupP, gConsP, gNilP, pVar, pC, pBin, pChain, pUn, kNeg, pTst, pTru, pAndT, pOrT, pNotT, pAndV, pOrV, pNotV, pIf, pCons, pNil, pTup, pLst, pStar, pCallB, pCall, pMeth, pProp, pFld, pFrz, pIL, pIT, pZip, pEnum, pR1, pR2, pR3, pSlL, pSlT, pPart, pNoPart, pLc, pLc2, pDc, pSortSc, pFor, pNewL, pNewD, pApp, pExt, pDPut, pSetL, pOwnD, pIsN, pNotN, pListVals, pIVals, pIKeys, pIItems, onDic, pIStr, pDGet1, pTsYes, pParL, pParR, pCel, pCelSet, pNewCel, pNeverS, wipeP, List.set_cons_zero, List.set_cons_succ, List.getElem?_cons_zero, List.getElem?_cons_succ, List.length_cons, List.length_nil]
  exact ⟨by trivial, by rfl, R, f, s, rfl, g.ok, hf, hs, by trivial, by rfl, R, s, v, t, rfl, g, hs, hv, a, by trivial, by rfl, R, f, v, t, rfl, g, hf, hv, a, _, _, _, _, rfl, .rat _, .rat _, by omega, by trivial, R, rfl, _, _, _, _, rfl, .rat _, .rat _, g.ok.len, by omega, hq⟩
theorem kNe_str {a b : Str} (ha : PyData.strOk a = true) (hb : PyData.strOk b = true) {Q : PV → Prop} : kNe (.str a) (.str b) Q = Q (.bl (!decide (a = b))) := by
  have h : eqP (.str a) (.str b) = some (decide (a = b)) := by
    unfold eqP
    simp only [toD]
    rw [if_pos]
    · rw [PyData.eqv]
      congr 1
    · unfold SeqAt.shaped
      rw [PyData.canLay0, PyData.canLay0, PyData.depth, PyData.depth, ha, hb]
      exact ⟨rfl, rfl⟩
  simp only [kNe, h]
theorem dvals (rs : List Rn) (v : Rn → Rat) : (rs.map fun o => ((Sum.inr o.name : Key), rat (v o))).map (fun x => x.2) = rs.map fun o => rat (v o) := by rw [List.map_map]; rfl
theorem valA_out (nm : Rn → Str) (v : Rn → PV) : ∀ {rs : List Rn} {n : Str}, (∀ r ∈ rs, nm r ≠ n) → valA (rs.map fun r => ((Sum.inr (nm r) : Key), v r)) (Sum.inr n) = none
  | [], _, _ => rfl
  | r :: rs, n, h => by
    have h1 := h r (List.mem_cons_self ..)
    rw [List.map_cons, valA_cons, if_neg (by simpa using h1)]
    exact valA_out nm v fun r hr => h r (List.mem_cons_of_mem _ hr)
theorem others_mem {R : RaceM} {r o : Rn} : o ∈ R.others r ↔ o ∈ R.rs ∧ o.name ≠ r.name := by
  unfold RaceM.others
  rw [List.mem_filter]
  simp
theorem eqP_non_rat (q : Rat) : eqP .non (rat q) = some false := by
  have h : eqP .non (rat q) = some (PyData.eqv .none (.tuple [.int q.num, .int (q.den : Int)])) := by rfl
  rw [h]; rfl
theorem hp_runners_ahead : ∀ as Q, Ph_runners_ahead as Q → as.length = 3 ∧ t_runners_ahead ⟨fun _ => Q .non, Q, fun _ => False, fun _ => False⟩ (startP N_runners_ahead as) := by
  rintro as Q ⟨R, r, v, t, rfl, g, r6, hr, hv, a, gz, sn, hq⟩
  refine ⟨rfl, ?_⟩
  have pe := P0_eq
  have ok := g.ok
  have lr := ok.hi
  have tz := a.z
  have rn := sn r hr
  simp only [st_runners_ahead, t_runners_ahead, RaceM.pv, pSeq, pNext, pIfS, pRet, pRetN, pAsg, pDrop, pPar, pAug, gNm, gTupP, gConsP, gNilP, pVar, pC, pBin, pChain, pUn, kNeg, pTst, pTru, pAndT, pOrT, pNotT, pAndV, pOrV, pNotV, pIf, pCons, pNil, pTup, pLst, pStar, pCallB, pCall, pMeth, pProp, pFld, pFrz, pIL, pIT, pZip, pEnum, pR1, pR2, pR3, pSlL, pSlT, pPart, pNoPart, pLc, pLc2, pDc, pSortSc, pFor, pNewL, pNewD, pApp, pExt, pDPut, pSetL, pOwnD, pIsN, pNotN, pListVals, pIVals, pIKeys, pIItems, onDic, pIStr, pDGet1, pTsYes, pParL, pParR, pCel, pCelSet, pNewCel, pNeverS, wipeP, List.set_cons_zero, List.set_cons_succ, List.getElem?_cons_zero, List.getElem?_cons_succ, List.length_cons, List.length_nil]
  refine ⟨by trivial, by rfl, R, r, rfl, ok, hr, v, t, rfl, hv, a.t0, by omega, by trivial, by rfl, R, rfl, ?_⟩
  have lo : (R.others r).length ≤ R.rs.length := List.length_filter_le _ _
  have ndo : (R.others r).Pairwise fun a b => a.name ≠ b.name := ok.nd.sublist List.filter_sublist
  refine dcL_of (fun r : Rn => PV.str r.name) (fun o => if o.name = r.name then none else some (Sum.inr o.name, rat (R.gap r o t))) R.rs [] (fun o ho T F h => ?_) (by simp; exact size_le (by omega)) ?_
  · simp only [tt_runners_ahead_1, tk_runners_ahead_2, tv_runners_ahead_3, pSeq, pNext, pIfS, pRet, pRetN, pAsg, pDrop, pPar, pAug, gNm, gTupP, gConsP, gNilP, pVar, pC, pBin, pChain, pUn, kNeg, pTst, pTru, pAndT, pOrT, pNotT, pAndV, pOrV, pNotV, pIf, pCons, pNil, pTup, pLst, pStar, pCallB, pCall, pMeth, pProp, pFld, pFrz, pIL, pIT, pZip, pEnum, pR1, pR2, pR3, pSlL, pSlT, pPart, pNoPart, pLc, pLc2, pDc, pSortSc, pFor, pNewL, pNewD, pApp, pExt, pDPut, pSetL, pOwnD, pIsN, pNotN, pListVals, pIVals, pIKeys, pIItems, onDic, pIStr, pDGet1, pTsYes, pParL, pParR, pCel, pCelSet, pNewCel, pNeverS, wipeP, List.set_cons_zero, List.set_cons_succ, List.getElem?_cons_zero, List.getElem?_cons_succ, List.length_cons, List.length_nil, keyP]
    rw [kNe_str (sn o ho) rn]
    by_cases c : o.name = r.name
    · rw [if_pos c] at h
      simp only [decide_eq_true c, Bool.not_true]
      exact h
    · rw [if_neg c] at h
      simp only [decide_eq_false c, Bool.not_false]
      exact ⟨R, r, o, v, t, rfl, g, hr, ho, hv, a, h⟩
  have efm : R.rs.filterMap (fun o => if o.name = r.name then none else some ((Sum.inr o.name : Key), rat (R.gap r o t))) = (R.others r).map fun o => ((Sum.inr o.name : Key), rat (R.gap r o t)) := by
    unfold RaceM.others
    induction R.rs with
    | nil => rfl
    | cons x l ih =>
      by_cases c : x.name = r.name
      · rw [List.filterMap_cons, if_pos c, List.filter_cons_of_neg (by simpa using c), ih]
      · rw [List.filterMap_cons, if_neg c, List.filter_cons_of_pos (by simpa using c), ih]; rfl
  rw [efm, mergeP_new _ _ (by
    rw [List.pairwise_map]
    exact ndo.imp fun h => by simpa using h) (by simp), List.nil_append]
  rw [dvals (R.others r) fun o => R.gap r o t]
  have e2 : ((R.others r).map fun o => rat (R.gap r o t)) = ((R.others r).map fun o => R.gap r o t).map rat := by rw [List.map_map]; rfl
  rw [e2]
  have gsz : ∀ x ∈ (R.others r).map fun o => R.gap r o t, sz x ≤ P0 := fun x hx => by
    obtain ⟨o, ho, rfl⟩ := List.mem_map.mp hx
    exact gz o (others_mem.mp ho).1
  have gl : ((R.others r).map fun o => R.gap r o t).length ≤ 6 := by rw [List.length_map]; omega
  have aG : R.aheadG r t = riseL (((R.others r).map fun o => R.gap r o t).filter fun q => decide (0 < q)) := rfl
  generalize ((R.others r).map fun o => R.gap r o t) = gs at *
  refine lcL_of rat (fun x => if 0 < x then some (rat x) else none) gs [] (fun x hx T F h => ?_) (by simp; exact size_le (by omega)) ?_
  · have zx := gsz x hx
    simp only [tt_runners_ahead_4, te_runners_ahead_5, pSeq, pNext, pIfS, pRet, pRetN, pAsg, pDrop, pPar, pAug, gNm, gTupP, gConsP, gNilP, pVar, pC, pBin, pChain, pUn, kNeg, pTst, pTru, pAndT, pOrT, pNotT, pAndV, pOrV, pNotV, pIf, pCons, pNil, pTup, pLst, pStar, pCallB, pCall, pMeth, pProp, pFld, pFrz, pIL, pIT, pZip, pEnum, pR1, pR2, pR3, pSlL, pSlT, pPart, pNoPart, pLc, pLc2, pDc, pSortSc, pFor, pNewL, pNewD, pApp, pExt, pDPut, pSetL, pOwnD, pIsN, pNotN, pListVals, pIVals, pIKeys, pIItems, onDic, pIStr, pDGet1, pTsYes, pParL, pParR, pCel, pCelSet, pNewCel, pNeverS, wipeP, List.set_cons_zero, List.set_cons_succ, List.getElem?_cons_zero, List.getElem?_cons_succ, List.length_cons, List.length_nil]
    refine ⟨_, _, x, 0, rfl, .rat _, num0, by rw [sz0]; omega, ?_⟩
    simp only [kI0_int, cmp_gt]
    by_cases c : 0 < x
    · rw [if_pos c] at h
      rw [decide_eq_true c]
      exact h
    · rw [if_neg c] at h
      rw [decide_eq_false c]
      exact h
  rw [List.nil_append, fm_filter]
  have fl : (gs.filter fun x => decide (0 < x)).length ≤ 6 := Nat.le_trans (List.length_filter_le _ _) gl
  have e3 : (gs.filter fun x => decide (0 < x)).map rat = ((gs.filter fun x => decide (0 < x)).map fun x => (rat x, x)).map (·.1) := by rw [List.map_map]; rfl
  rw [e3]
  refine in_order_of (fun x hx => ?_) ?_ ?_
  · obtain ⟨y, _, rfl⟩ := List.mem_map.mp hx
    exact .rat _
  · rw [List.map_map]
    have := sum_le (fun x : Rat => sz x) P0 (gs.filter fun x => decide (0 < x)) fun x hx => gsz x (List.mem_filter.mp hx).1
    have h2 : (gs.filter fun x => decide (0 < x)).length * P0 ≤ 6 * 640 := Nat.mul_le_mul fl (by omega)
    exact Nat.le_trans (Nat.mul_le_mul_left 2 this) (by omega)
  · have e4 : riseL (((gs.filter fun x => decide (0 < x)).map fun x => (rat x, x)).map (·.2)) = R.aheadG r t := by
      rw [List.map_map, aG]
      congr 1
      exact List.map_id _
    rw [e4]
    cases hG : R.aheadG r t with
    | nil =>
      rw [hG] at hq
      simp only [List.map_nil, List.isEmpty_nil, Bool.not_true]
      exact hq
    | cons q l =>
      rw [hG] at hq
      simp only [List.map_cons, List.isEmpty_cons, Bool.not_false]
      have k0 : ∀ Q : PV → Prop, kIx (.lst (rat q :: l.map rat)) (.int 0) Q = Q (rat q) := fun Q => by
        rw [kIx_nat (i := 0) (j := 0) rfl (by simp)]; rfl
      simp only [k0]
      refine ⟨by trivial, by rfl, R, rfl, ?_⟩
      refine lcL_of (fun r : Rn => PV.str r.name) (fun o => if (!decide (o.name = r.name) && decide (R.gap r o t = q)) = true then some (.str o.name) else none) R.rs [] (fun o ho T F h => ?_) (by simp; exact size_le (by omega)) ?_
      · simp only [tt_runners_ahead_6, te_runners_ahead_7, pSeq, pNext, pIfS, pRet, pRetN, pAsg, pDrop, pPar, pAug, gNm, gTupP, gConsP, gNilP, pVar, pC, pBin, pChain, pUn, kNeg, pTst, pTru, pAndT, pOrT, pNotT, pAndV, pOrV, pNotV, pIf, pCons, pNil, pTup, pLst, pStar, pCallB, pCall, pMeth, pProp, pFld, pFrz, pIL, pIT, pZip, pEnum, pR1, pR2, pR3, pSlL, pSlT, pPart, pNoPart, pLc, pLc2, pDc, pSortSc, pFor, pNewL, pNewD, pApp, pExt, pDPut, pSetL, pOwnD, pIsN, pNotN, pListVals, pIVals, pIKeys, pIItems, onDic, pIStr, pDGet1, pTsYes, pParL, pParR, pCel, pCelSet, pNewCel, pNeverS, wipeP, List.set_cons_zero, List.set_cons_succ, List.getElem?_cons_zero, List.getElem?_cons_succ, List.length_cons, List.length_nil, keyP, k0]
        by_cases c : o.name = r.name
        · rw [valA_out Rn.name (fun o => rat (R.gap r o t)) fun x hx e => (others_mem.mp hx).2 (by rw [e, c])]
          rw [if_neg (by simp [c])] at h
          simp only [Option.getD_none, kEq, eqP_non_rat]
          exact h
        · rw [valA_map Rn.name (fun o => rat (R.gap r o t)) ndo (others_mem.mpr ⟨ho, c⟩)]
          simp only [Option.getD_some, kEq_rat]
          by_cases c2 : R.gap r o t = q
          · rw [if_pos (by simp [c, c2])] at h
            rw [decide_eq_true c2]
            exact h
          · rw [if_neg (by simp [c2])] at h
            rw [decide_eq_false c2]
            exact h
      · rw [List.nil_append, fm_filter]
        have e5 : (R.rs.filter fun o => decide ((!decide (o.name = r.name) && decide (R.gap r o t = q)) = true)) = (R.others r).filter fun o => decide (R.gap r o t = q) := by
          unfold RaceM.others
          rw [List.filter_filter]
          congr 1
          funext o
          simp [Bool.and_comm]
        rw [e5]
        exact ⟨size_le (by decide), hq⟩
end G


/-! ## GF -/
/-! Data compared; gaps, plain. -/
namespace G
open PySem PySem.Spec PyProof.Rows L2 L3 MR
def ratD (q : Rat) : PyData := .tuple [.int q.num, .int (q.den : Int)]
theorem toD_rat (q : Rat) : toD (rat q) = some (ratD q) := rfl
/-- things that are told by data -/
structure Told (α : Type) where
  pv : α → PV
  d : α → PyData
  h : ∀ a, toD (pv a) = some (d a)
  lay : ∀ a, PyData.canLay0 (d a) = true
  n : Nat
  dp : ∀ a, (d a).depth ≤ n
theorem toDs_told {α : Type} (T : Told α) : ∀ l : List α, toDs (l.map T.pv) = some (l.map T.d)
  | [] => rfl
  | q :: l => by simp only [List.map_cons, toDs, toDs_told T l, T.h]
theorem lay_told {α : Type} (T : Told α) : ∀ l : List α, PyData.canLayAll0 (l.map T.d) = true
  | [] => rfl
  | q :: l => by rw [List.map_cons, PyData.canLayAll0, lay_told T l, T.lay]; rfl
theorem depth_told {α : Type} (T : Told α) : ∀ l : List α, PyData.depthAll (l.map T.d) ≤ T.n
  | [] => by simp [PyData.depthAll]
  | q :: l => by
    rw [List.map_cons, PyData.depthAll]
    exact Nat.max_le.mpr ⟨T.dp q, depth_told T l⟩
def Told.list {α : Type} (T : Told α) : Told (List α) where
  pv := fun l => .lst (l.map T.pv)
  d := fun l => .list (l.map T.d)
  h := fun l => by simp only [toD, toDs_told T l, Option.map_some]
  lay := fun l => by rw [PyData.canLay0]; exact lay_told T l
  n := T.n + 1
  dp := fun l => by rw [PyData.depth]; have := depth_told T l; omega
def Told.pair {α β : Type} (T : Told α) (U : Told β) : Told (α × β) where
  pv := fun p => .tup [T.pv p.1, U.pv p.2]
  d := fun p => .tuple [T.d p.1, U.d p.2]
  h := fun p => by simp only [toD, toDs, T.h, U.h, Option.map_some]
  lay := fun p => by simp only [PyData.canLay0, PyData.canLayAll0, T.lay, U.lay]; rfl
  n := max T.n U.n + 1
  dp := fun p => by
    simp only [PyData.depth, PyData.depthAll]
    have := T.dp p.1
    have := U.dp p.2
    omega
def Told.rat : Told Rat where
  pv := G.rat
  d := ratD
  h := fun _ => rfl
  lay := fun _ => rfl
  n := 1
  dp := fun _ => Nat.le_refl _
def Told.int : Told Int where
  pv := .int
  d := .int
  h := fun _ => rfl
  lay := fun _ => rfl
  n := 0
  dp := fun _ => Nat.le_refl _
/-- texts that may be laid -/
structure Tx where
  s : Str
  ok : PyData.strOk s = true
deriving DecidableEq
def Told.str : Told Tx where
  pv := fun t => .str t.s
  d := fun t => .str t.s
  h := fun _ => rfl
  lay := fun t => by rw [PyData.canLay0]; exact t.ok
  n := 0
  dp := fun _ => Nat.le_refl _
theorem shaped_told {α : Type} (T : Told α) (h : T.n ≤ 60) (a : α) : SeqAt.shaped (T.d a) = true := by
  unfold SeqAt.shaped
  rw [Bool.and_eq_true]
  refine ⟨T.lay a, decide_eq_true ?_⟩
  have := T.dp a
  omega
theorem eqP_told {α β : Type} (T : Told α) (U : Told β) (h : T.n ≤ 60) (h' : U.n ≤ 60) (a : α) (b : β) : eqP (T.pv a) (U.pv b) = some (PyData.eqv (T.d a) (U.d b)) := by
  unfold eqP
  simp only [T.h, U.h]
  rw [if_pos ⟨shaped_told T h a, shaped_told U h' b⟩]
/-- eqv decides equality -/
structure Told.Ex {α : Type} (T : Told α) : Prop where
  e : ∀ a b, PyData.eqv (T.d a) (T.d b) = true ↔ a = b
theorem eqvAll_told {α : Type} {T : Told α} (x : T.Ex) : ∀ l m : List α, PyData.eqvAll (l.map T.d) (m.map T.d) = true ↔ l = m
  | [], [] => by simp [PyData.eqvAll]
  | [], _ :: _ => by simp [PyData.eqvAll]
  | _ :: _, [] => by simp [PyData.eqvAll]
  | a :: l, b :: m => by
    simp only [List.map_cons, PyData.eqvAll, Bool.and_eq_true, x.e, eqvAll_told x l m, List.cons.injEq]
theorem Told.Ex.list {α : Type} {T : Told α} (x : T.Ex) : T.list.Ex := ⟨fun l m => by
  show PyData.eqv (.list (l.map T.d)) (.list (m.map T.d)) = true ↔ _
  rw [PyData.eqv]
  exact eqvAll_told x l m⟩
theorem Told.Ex.pair {α β : Type} {T : Told α} {U : Told β} (x : T.Ex) (y : U.Ex) : (T.pair U).Ex := ⟨fun p q => by
  show PyData.eqv (.tuple [T.d p.1, U.d p.2]) (.tuple [T.d q.1, U.d q.2]) = true ↔ _
  simp only [PyData.eqv, PyData.eqvAll, Bool.and_true, Bool.and_eq_true, x.e, y.e]
  exact (Prod.ext_iff).symm⟩
theorem Told.Ex.int : Told.int.Ex := ⟨fun a b => by
  show PyData.eqv (.int a) (.int b) = true ↔ _
  simp [PyData.eqv]⟩
theorem Told.Ex.str : Told.str.Ex := ⟨fun a b => by
  show PyData.eqv (.str a.s) (.str b.s) = true ↔ _
  obtain ⟨s, h⟩ := a
  obtain ⟨s', h'⟩ := b
  simp [PyData.eqv]⟩
theorem Told.Ex.rat : Told.rat.Ex := ⟨fun a b => by
  show PyData.eqv (ratD a) (ratD b) = true ↔ _
  simp only [ratD, PyData.eqv, PyData.eqvAll, Bool.and_true, Bool.and_eq_true, beq_iff_eq]
  constructor
  · rintro ⟨h1, h2⟩; exact Rat.ext h1 (by exact_mod_cast h2)
  · rintro rfl; exact ⟨rfl, rfl⟩⟩
theorem kEq_told {α : Type} [DecidableEq α] {T : Told α} (x : T.Ex) (h : T.n ≤ 60) {a b : α} {Q : PV → Prop} : kEq (T.pv a) (T.pv b) Q = Q (.bl (decide (a = b))) := by
  have e : PyData.eqv (T.d a) (T.d b) = decide (a = b) := by
    rw [Bool.eq_iff_iff, x.e]; simp
  simp only [kEq, eqP_told T T h h, e]
theorem kNe_told {α : Type} [DecidableEq α] {T : Told α} (x : T.Ex) (h : T.n ≤ 60) {a b : α} {Q : PV → Prop} : kNe (T.pv a) (T.pv b) Q = Q (.bl (!decide (a = b))) := by
  have e : PyData.eqv (T.d a) (T.d b) = decide (a = b) := by
    rw [Bool.eq_iff_iff, x.e]; simp
  simp only [kNe, eqP_told T T h h, e]
theorem kIn_told {α : Type} [DecidableEq α] {T : Told α} (x : T.Ex) (h : T.n ≤ 50) {a : α} {l : List α} {neg : Bool} {Q : PV → Prop} (hq : Q (.bl (if neg then !l.contains a else l.contains a))) : kIn neg (T.pv a) (.lst (l.map T.pv)) Q := by
  have e : inP (T.pv a) (l.map T.pv) = some (l.contains a) := by
    clear hq
    unfold inP
    simp only [T.h, toDs_told T l]
    rw [if_pos]
    · congr 1
      induction l with
      | nil => rfl
      | cons b l ih =>
        rw [List.map_cons, List.any_cons, List.contains_cons, ih]
        congr 1
        rw [Bool.eq_iff_iff]
        simp only [beq_iff_eq]
        first
          | exact (x.e _ _)
          | exact (x.e _ _).trans eq_comm
          | (rw [x.e]; exact eq_comm)
    · exact ⟨shaped_told T (by omega) a, shaped_told T.list (by show T.n + 1 ≤ 60; omega) l⟩
  simp only [kIn, e]
  cases neg <;> simpa using hq
theorem kIn_str {x : Str} {l : List Str} {neg : Bool} {Q : PV → Prop} (hx : PyData.strOk x = true) (hl : ∀ y ∈ l, PyData.strOk y = true) (hq : Q (.bl (if neg then !l.contains x else l.contains x))) : kIn neg (.str x) (.lst (l.map PV.str)) Q := by
  obtain ⟨m, em⟩ : ∃ m : List Tx, m.map Tx.s = l := by
    clear hq
    induction l with
    | nil => exact ⟨[], rfl⟩
    | cons a l ih =>
      obtain ⟨m, e⟩ := ih fun y hy => hl y (List.mem_cons_of_mem _ hy)
      exact ⟨⟨a, hl a (List.mem_cons_self ..)⟩ :: m, by rw [List.map_cons, e]⟩
  have e1 : l.map PV.str = m.map Told.str.pv := by rw [← em, List.map_map]; rfl
  have e2 : l.contains x = m.contains ⟨x, hx⟩ := by
    rw [Bool.eq_iff_iff, List.contains_iff_mem, List.contains_iff_mem, ← em, List.mem_map]
    constructor
    · rintro ⟨⟨y, hy⟩, h1, h2⟩
      have h2 : y = x := h2
      subst h2
      exact h1
    · intro h; exact ⟨_, h, rfl⟩
  rw [e1]
  rw [e2] at hq
  exact kIn_told (T := Told.str) Told.Ex.str (by decide) (a := ⟨x, hx⟩) hq
/-! gaps, plain -/
theorem rem_shift {a l : Rat} (hl : 0 < l) (n : Int) : rem (a + l * (n : Rat)) l = rem a l := by
  refine rem_unique (n := (a / l).floor + n) hl (rem_nonneg hl) (rem_lt hl) ?_
  have := rem_eq a l
  rw [Rat.intCast_add]
  grind
theorem gap_cases {R : RaceM} (l0 : 0 < R.len) (f s : Rn) (t : Rat) : R.gap f s t = if R.place f t ≤ R.place s t then R.place s t - R.place f t else R.place s t - R.place f t + R.len := by
  have e1 := rem_eq (f.pos t) R.len
  have e2 := rem_eq (s.pos t) R.len
  have f0 := rem_nonneg (a := f.pos t) l0
  have f1 := rem_lt (a := f.pos t) l0
  have s0 := rem_nonneg (a := s.pos t) l0
  have s1 := rem_lt (a := s.pos t) l0
  unfold RaceM.gap RaceM.place
  split
  · refine rem_unique (n := (s.pos t / R.len).floor - (f.pos t / R.len).floor) l0 (by grind) (by grind) ?_
    rw [Rat.intCast_sub]
    grind
  · refine rem_unique (n := (s.pos t / R.len).floor - (f.pos t / R.len).floor - 1) l0 (by grind) (by grind) ?_
    rw [Rat.intCast_sub, Rat.intCast_sub]
    have : ((1 : Int) : Rat) = 1 := rfl
    grind
theorem gap_add {R : RaceM} (l0 : 0 < R.len) (f s h : Rn) (t : Rat) : rem (R.gap f s t + R.gap s h t) R.len = R.gap f h t := by
  have e1 := rem_eq (s.pos t - f.pos t) R.len
  have e2 := rem_eq (h.pos t - s.pos t) R.len
  have : R.gap f s t + R.gap s h t = (h.pos t - f.pos t) + R.len * ((-((s.pos t - f.pos t) / R.len).floor - ((h.pos t - s.pos t) / R.len).floor : Int) : Rat) := by
    unfold RaceM.gap
    rw [Rat.intCast_sub, Rat.intCast_neg]
    grind
  rw [this, rem_shift l0]
  rfl
end G


/-! ## PT -/
/-! Tables of passes. -/
namespace G
open PySem PySem.Spec PyProof.Rows L2 L3 MR
abbrev TRow := Str × Str × Nat
def RaceM.tblAt (R : RaceM) (a b : Rat) (o : Rn) : List TRow := R.rs.filterMap fun u => if 0 < R.passN o u a b then some (o.name, u.name, R.passN o u a b) else none
def RaceM.tbl (R : RaceM) (a b : Rat) : List TRow := R.rs.flatMap (R.tblAt a b)
def tKey (x : TRow) : List Key := [.inr x.1, .inr x.2.1]
def tRow (x : TRow) : List Key × PV := (tKey x, .int (x.2.2 : Nat))
def tblPV (l : List TRow) : PV := .dct (l.map tRow)
def Ph_pass_table : Con := fun as Q => ∃ (R : RaceM) (v w : PV) (a b : Rat), as = [R.pv, v, w] ∧ R.G ∧ NumP v a ∧ NumP w b ∧ a ≤ b ∧ R.At a ∧ R.At b ∧ Q (tblPV (R.tbl a b))
def Ph_all_passes : Con := fun as Q => ∃ (R : RaceM) (v w : PV) (a b : Rat), as = [R.pv, v, w] ∧ R.G ∧ NumP v a ∧ NumP w b ∧ a ≤ b ∧ R.At a ∧ R.At b ∧ Q (.int (((R.tbl a b).map fun x => x.2.2).sum : Nat))
def tb_pass_table_1 : PTS := pSeq (pAsg (pCall Ph_passes (pCons (pVar 0) (pCons (pVar 4) (pCons (pVar 5) (pCons (pVar 1) (pCons (pVar 2) (pNil))))))) (gNm 6)) (pIfS (pTst (pBin kGtI (pVar 6) (pC (.int 0)))) (pDPut 3 (pTup (pCons (pVar 4) (pCons (pVar 5) (pNil)))) (pVar 6)) (pNext))
def tb_pass_table_2 : PTS := pFor (pIL (pMeth "Race" "names" Ph_Race_names (pVar 0) pNil)) (gNm 5) tb_pass_table_1
def t_pass_table : PTS := pSeq (pDrop (pCall Ph_as_window (pCons (pVar 1) (pCons (pVar 2) (pNil))))) (pSeq (pNewT 3) (pSeq (pFor (pIL (pMeth "Race" "names" Ph_Race_names (pVar 0) pNil)) (gNm 4) tb_pass_table_2) (pFrz 3 (pRet (pVar 3)))))
abbrev N_pass_table : List Str := ["race", "start", "end", "found", "over", "under", "count"]
theorem st_pass_table (a0 a1 a2 : PV) : startP N_pass_table [a0, a1, a2] = [.val a0, .val a1, .val a2, .no, .no, .no, .no] := rfl
def t_all_passes : PTS := pRet (pCallB kSum (pCons (pListValsT (pCall Ph_pass_table (pCons (pVar 0) (pCons (pVar 1) (pCons (pVar 2) (pNil)))))) (pNil)))
abbrev N_all_passes : List Str := ["race", "start", "end"]
theorem st_all_passes (a0 a1 a2 : PV) : startP N_all_passes [a0, a1, a2] = [.val a0, .val a1, .val a2] := rfl

theorem tbl_len {R : RaceM} (ok : R.Ok) {a b : Rat} : (R.tbl a b).length ≤ 144 := by
  have h : ∀ o ∈ R.rs, (R.tblAt a b o).length ≤ 12 := fun o _ => Nat.le_trans (List.length_filterMap_le _ _) ok.hi
  have := flat_len _ 12 R.rs h
  have hi := ok.hi
  unfold RaceM.tbl
  have : R.rs.length * 12 ≤ 12 * 12 := Nat.mul_le_mul_right _ hi
  omega
theorem tblAt_fst {R : RaceM} {a b : Rat} {o : Rn} {x : TRow} (h : x ∈ R.tblAt a b o) : x.1 = o.name ∧ ∃ u ∈ R.rs, x.2.1 = u.name ∧ x.2.2 = R.passN o u a b ∧ 0 < R.passN o u a b := by
  obtain ⟨u, hu, e⟩ := List.mem_filterMap.mp h
  split at e
  · cases e
    exact ⟨rfl, u, hu, rfl, rfl, by assumption⟩
  · cases e
theorem hp_pass_table : ∀ as Q, Ph_pass_table as Q → as.length = 3 ∧ t_pass_table ⟨fun _ => Q .non, Q, fun _ => False, fun _ => False⟩ (startP N_pass_table as) := by
  rintro as Q ⟨R, v, w, a, b, rfl, g, hv, hw, ab, ha, hb, hq⟩
  refine ⟨rfl, ?_⟩
  have ok := g.ok
  have hi := ok.hi
  simp only [st_pass_table, t_pass_table, RaceM.pv, pNewT, pSeq, pNext, pIfS, pRet, pRetN, pAsg, pDrop, pPar, pAug, gNm, gTupP, gConsP, gNilP, pVar, pC, pBin, pChain, pUn, kNeg, pTst, pTru, pAndT, pOrT, pNotT, pAndV, pOrV, pNotV, pIf, pCons, pNil, pTup, pLst, pStar, pCallB, pCall, pMeth, pProp, pFld, pFrz, pIL, pIT, pZip, pEnum, pR1, pR2, pR3, pSlL, pSlT, pPart, pNoPart, pLc, pLc2, pDc, pSortSc, pFor, pNewL, pNewD, pApp, pExt, pDPut, pSetL, pOwnD, pIsN, pNotN, pListVals, pListValsT, pIVals, pIKeys, pIItems, onDic, pIStr, pDGet1, pTsYes, pParL, pParR, pCel, pCelSet, pNewCel, pNeverS, wipeP, List.set_cons_zero, List.set_cons_succ, List.getElem?_cons_zero, List.getElem?_cons_succ, List.length_cons, List.length_nil]
  refine ⟨v, w, a, b, rfl, hv, hw, ha.t0, ab, ha.z, hb.z, by trivial, by rfl, R, rfl, ?_⟩
  have tl := tbl_len ok (a := a) (b := b)
  unfold RaceM.tbl at hq tl
  refine forL_of (fun r : Rn => PV.str r.name) (fun rest ρ => ∃ (done : List Rn) (s4 s5 s6 : Slt), done ++ rest = R.rs ∧ ρ = [.val (.obj "Race" R.fs), .val v, .val w, .own (.dct ((done.flatMap (R.tblAt a b)).map tRow)), s4, s5, s6]) ?_ ?_ R.rs _ ⟨[], _, _, _, rfl, rfl⟩
  · rintro o rest ρ ⟨done, s4, s5, s6, hd, rfl⟩ N hN
    have ho : o ∈ R.rs := by rw [← hd]; simp
    have nd := ok.nd
    rw [← hd] at nd
    have nd2 := (List.pairwise_append.mp nd).2.2
    simp only [tb_pass_table_2, pSeq, pNext, pIfS, pRet, pRetN, pAsg, pDrop, pPar, pAug, gNm, gTupP, gConsP, gNilP, pVar, pC, pBin, pChain, pUn, kNeg, pTst, pTru, pAndT, pOrT, pNotT, pAndV, pOrV, pNotV, pIf, pCons, pNil, pTup, pLst, pStar, pCallB, pCall, pMeth, pProp, pFld, pFrz, pIL, pIT, pZip, pEnum, pR1, pR2, pR3, pSlL, pSlT, pPart, pNoPart, pLc, pLc2, pDc, pSortSc, pFor, pNewL, pNewD, pApp, pExt, pDPut, pSetL, pOwnD, pIsN, pNotN, pListVals, pListValsT, pIVals, pIKeys, pIItems, onDic, pIStr, pDGet1, pTsYes, pParL, pParR, pCel, pCelSet, pNewCel, pNeverS, wipeP, List.set_cons_zero, List.set_cons_succ, List.getElem?_cons_zero, List.getElem?_cons_succ, List.length_cons, List.length_nil]
    refine ⟨by trivial, by rfl, R, rfl, ?_⟩
    refine forL_of (fun r : Rn => PV.str r.name) (fun rest2 ρ => ∃ (done2 : List Rn) (s5 s6 : Slt), done2 ++ rest2 = R.rs ∧ ρ = [.val (.obj "Race" R.fs), .val v, .val w, .own (.dct ((done.flatMap (R.tblAt a b) ++ done2.filterMap fun u => if 0 < R.passN o u a b then some (o.name, u.name, R.passN o u a b) else none).map tRow)), .val (.str o.name), s5, s6]) ?_ ?_ R.rs _ ⟨[], _, _, rfl, by rw [List.filterMap_nil, List.append_nil]⟩
    · rintro u rest2 ρ ⟨done2, s5, s6, hd2, rfl⟩ N2 hN2
      have hu : u ∈ R.rs := by rw [← hd2]; simp
      have nd' := ok.nd
      rw [← hd2] at nd'
      have nd3 := (List.pairwise_append.mp nd').2.2
      simp only [tb_pass_table_1, pSeq, pNext, pIfS, pRet, pRetN, pAsg, pDrop, pPar, pAug, gNm, gTupP, gConsP, gNilP, pVar, pC, pBin, pChain, pUn, kNeg, pTst, pTru, pAndT, pOrT, pNotT, pAndV, pOrV, pNotV, pIf, pCons, pNil, pTup, pLst, pStar, pCallB, pCall, pMeth, pProp, pFld, pFrz, pIL, pIT, pZip, pEnum, pR1, pR2, pR3, pSlL, pSlT, pPart, pNoPart, pLc, pLc2, pDc, pSortSc, pFor, pNewL, pNewD, pApp, pExt, pDPut, pSetL, pOwnD, pIsN, pNotN, pListVals, pListValsT, pIVals, pIKeys, pIItems, onDic, pIStr, pDGet1, pTsYes, pParL, pParR, pCel, pCelSet, pNewCel, pNeverS, wipeP, List.set_cons_zero, List.set_cons_succ, List.getElem?_cons_zero, List.getElem?_cons_succ, List.length_cons, List.length_nil]
      refine ⟨R, o, u, v, w, a, b, rfl, g, ho, hu, hv, hw, ab, ha, hb, ?_⟩
      simp only [kI0_int]
      by_cases h : 0 < R.passN o u a b
      · have h' : (0 : Int) < (R.passN o u a b : Int) := by omega
        simp only [decide_eq_true h']
        refine ⟨size_le (by decide), ?_⟩
        have l1 : (done.flatMap (R.tblAt a b) ++ done2.filterMap fun u => if 0 < R.passN o u a b then some (o.name, u.name, R.passN o u a b) else none).length ≤ 144 + 12 := by
          have h1 : (done.flatMap (R.tblAt a b)).length ≤ 144 := by
            rw [← hd, List.flatMap_append, List.length_append] at tl
            omega
          have h2 := List.length_filterMap_le (fun u => if 0 < R.passN o u a b then some (o.name, u.name, R.passN o u a b) else none) done2
          have h3 := congrArg List.length hd2
          simp only [List.length_append, List.length_cons] at h3
          rw [List.length_append]
          omega
        have ek : keysP [PV.str o.name, PV.str u.name] = some [.inr o.name, .inr u.name] := rfl
        simp only [ek]
        refine ⟨by rw [List.length_map]; exact Nat.lt_of_le_of_lt l1 (Nat.lt_of_lt_of_le (show 156 < 157 by decide) (size_le (by decide))), hN2 _ ⟨done2 ++ [u], .val (.str u.name), .val (.int (R.passN o u a b : Int)), by rw [← hd2]; simp, ?_⟩⟩
        rw [putA_new, List.filterMap_append, List.filterMap_cons, if_pos h, List.filterMap_nil, ← List.append_assoc, List.map_append (l₂ := [_])]
        · rfl
        · intro p hp e
          obtain ⟨x, hx, rfl⟩ := List.mem_map.mp hp
          have e : [(Sum.inr x.1 : Key), .inr x.2.1] = [.inr o.name, .inr u.name] := e
          simp only [List.cons.injEq, Sum.inr.injEq, and_true] at e
          rcases List.mem_append.mp hx with hx | hx
          · obtain ⟨o', ho', hx⟩ := List.mem_flatMap.mp hx
            have := (tblAt_fst hx).1
            exact nd2 o' ho' o (List.mem_cons_self ..) (by rw [← this]; exact e.1)
          · obtain ⟨u', hu', e'⟩ := List.mem_filterMap.mp hx
            split at e'
            · cases e'
              exact nd3 u' hu' u (List.mem_cons_self ..) e.2
            · cases e'
      · have h' : ¬ (0 : Int) < (R.passN o u a b : Int) := by omega
        simp only [decide_eq_false h']
        refine hN2 _ ⟨done2 ++ [u], .val (.str u.name), .val (.int (R.passN o u a b : Int)), by rw [← hd2]; simp, ?_⟩
        rw [List.filterMap_append, List.filterMap_cons, if_neg h, List.filterMap_nil, List.append_nil]
    · rintro ρ ⟨done2, s5, s6, hd2, rfl⟩
      rw [List.append_nil] at hd2
      subst hd2
      refine hN _ ⟨done ++ [o], .val (.str o.name), s5, s6, by rw [← hd]; simp, ?_⟩
      rw [List.flatMap_append, List.flatMap_cons, List.flatMap_nil, List.append_nil]
      rfl
  · rintro ρ ⟨done, s4, s5, s6, hd, rfl⟩
    rw [List.append_nil] at hd
    subst hd
    simp only [pSeq, pNext, pIfS, pRet, pRetN, pAsg, pDrop, pPar, pAug, gNm, gTupP, gConsP, gNilP, pVar, pC, pBin, pChain, pUn, kNeg, pTst, pTru, pAndT, pOrT, pNotT, pAndV, pOrV, pNotV, pIf, pCons, pNil, pTup, pLst, pStar, pCallB, pCall, pMeth, pProp, pFld, pFrz, pIL, pIT, pZip, pEnum, pR1, pR2, pR3, pSlL, pSlT, pPart, pNoPart, pLc, pLc2, pDc, pSortSc, pFor, pNewL, pNewD, pApp, pExt, pDPut, pSetL, pOwnD, pIsN, pNotN, pListVals, pListValsT, pIVals, pIKeys, pIItems, onDic, pIStr, pDGet1, pTsYes, pParL, pParR, pCel, pCelSet, pNewCel, pNeverS, wipeP, List.set_cons_zero, List.set_cons_succ, List.getElem?_cons_zero, List.getElem?_cons_succ, List.length_cons, List.length_nil]
    exact hq
theorem hp_all_passes : ∀ as Q, Ph_all_passes as Q → as.length = 3 ∧ t_all_passes ⟨fun _ => Q .non, Q, fun _ => False, fun _ => False⟩ (startP N_all_passes as) := by
  rintro as Q ⟨R, v, w, a, b, rfl, g, hv, hw, ab, ha, hb, hq⟩
  refine ⟨rfl, ?_⟩
  simp only [st_all_passes, t_all_passes, pSeq, pNext, pIfS, pRet, pRetN, pAsg, pDrop, pPar, pAug, gNm, gTupP, gConsP, gNilP, pVar, pC, pBin, pChain, pUn, kNeg, pTst, pTru, pAndT, pOrT, pNotT, pAndV, pOrV, pNotV, pIf, pCons, pNil, pTup, pLst, pStar, pCallB, pCall, pMeth, pProp, pFld, pFrz, pIL, pIT, pZip, pEnum, pR1, pR2, pR3, pSlL, pSlT, pPart, pNoPart, pLc, pLc2, pDc, pSortSc, pFor, pNewL, pNewD, pApp, pExt, pDPut, pSetL, pOwnD, pIsN, pNotN, pListVals, pListValsT, pIVals, pIKeys, pIItems, onDic, pIStr, pDGet1, pTsYes, pParL, pParR, pCel, pCelSet, pNewCel, pNeverS, wipeP, List.set_cons_zero, List.set_cons_succ, List.getElem?_cons_zero, List.getElem?_cons_succ, List.length_cons, List.length_nil]
  refine ⟨R, v, w, a, b, rfl, g, hv, hw, ab, ha, hb, ?_⟩
  simp only [tblPV, List.map_map]
  have e : (R.tbl a b).map ((fun x => x.2) ∘ tRow) = (R.tbl a b).map fun x => PV.int ((x.2.2 : Nat) : Int) := rfl
  rw [e]
  simp only [kSum, intsP_map]
  have e2 : ((R.tbl a b).map fun x => ((x.2.2 : Nat) : Int)).sum = (((R.tbl a b).map fun x => x.2.2).sum : Nat) := by
    induction R.tbl a b with
    | nil => rfl
    | cons x l ih => rw [List.map_cons, List.sum_cons, List.map_cons, List.sum_cons, ih]; push_cast; rfl
  rw [e2]
  exact hq
end G


/-! ## LK -/
/-! Races alike: scaled, turned. -/
namespace G
open PySem PySem.Spec PyProof.Rows L2 L3 MR
def affP (w k c : Rat) (ps : List (Rat × Rat)) : List (Rat × Rat) := ps.map fun p => (p.1 * w, (k * p.2 + c) / w)
theorem scale_lt {w x y : Rat} (w0 : 0 < w) : x * w < y * w ↔ x < y := by
  constructor
  · intro h
    refine Classical.byContradiction fun c => ?_
    have := Rat.mul_le_mul_of_nonneg_right (show y ≤ x by grind) (Rat.le_of_lt w0)
    grind
  · intro h; exact Rat.mul_lt_mul_of_pos_right h w0
theorem scale_le {w x y : Rat} (w0 : 0 < w) : x * w ≤ y * w ↔ x ≤ y := by
  have := scale_lt (x := y) (y := x) w0
  constructor <;> intro h
  · refine Classical.byContradiction fun c => ?_
    have := this.mpr (by grind)
    grind
  · refine Classical.byContradiction fun c => ?_
    have := this.mp (by grind)
    grind
theorem aff_step {w A x y : Rat} (w0 : 0 < w) : A / w * (x * w - y * w) = A * (x - y) := by
  have h : w⁻¹ * w = 1 := by rw [Rat.mul_comm]; exact Rat.mul_inv_cancel w (by grind)
  rw [Rat.div_def]
  have : A * w⁻¹ * (x * w - y * w) = A * (x - y) * (w⁻¹ * w) := by grind
  rw [this, h, Rat.mul_one]
theorem walk_aff {w k c : Rat} (w0 : 0 < w) : ∀ (ps : List (Rat × Rat)) (b s t f d : Rat), ((b, s) :: ps).Pairwise (·.1 < ·.1) → b ≤ t → walkP (affP w k c ((b, s) :: ps)) (t * w) (k * f + d) = k * walkP ((b, s) :: ps) t f + d + c * (t - b)
  | [], b, s, t, f, d, _, hb => by
    show walkP [(b * w, (k * s + c) / w)] (t * w) (k * f + d) = _
    rw [walk_last, walk_last]
    by_cases h : b < t
    · rw [if_pos ((scale_lt w0).mpr h), if_pos h, aff_step w0]; grind
    · have e : b = t := by grind
      rw [if_neg (fun z => h ((scale_lt w0).mp z)), if_neg h, e]; grind
  | (b', s') :: r, b, s, t, f, d, up, hb => by
    obtain ⟨u1, u2⟩ := List.pairwise_cons.mp up
    have bb : b < b' := u1 (b', s') (List.mem_cons_self ..)
    show walkP ((b * w, (k * s + c) / w) :: (b' * w, (k * s' + c) / w) :: affP w k c r) (t * w) (k * f + d) = _
    rw [walk_more, walk_more]
    by_cases h : b' ≤ t
    · have e : (if b' < t then b' else t) = b' := by split <;> grind
      have e' : (if b' * w < t * w then b' * w else t * w) = b' * w := by
        have := (scale_le w0).mpr h
        split <;> grind
      rw [e, e', if_pos bb, if_pos ((scale_lt w0).mpr bb), aff_step w0]
      have ih := walk_aff (k := k) (c := c) w0 r b' s' t (f + s * (b' - b)) (d + c * (b' - b)) u2 h
      have e2 : k * f + d + (k * s + c) * (b' - b) = k * (f + s * (b' - b)) + (d + c * (b' - b)) := by grind
      rw [e2]
      refine Eq.trans ih ?_
      grind
    · have e : (if b' < t then b' else t) = t := by split <;> grind
      have e' : (if b' * w < t * w then b' * w else t * w) = t * w := by
        have := (scale_le (x := t) (y := b') w0).mpr (by grind)
        split <;> grind
      have aft : ∀ p ∈ (b', s') :: r, t ≤ p.1 := fun p hp => by
        rcases List.mem_cons.mp hp with rfl | hp
        · show t ≤ b'; grind
        · have : b' < p.1 := (List.pairwise_cons.mp u2).1 p hp
          grind
      have aft' : ∀ p ∈ (b' * w, (k * s' + c) / w) :: affP w k c r, t * w ≤ p.1 := fun p hp => by
        have hp : p ∈ affP w k c ((b', s') :: r) := hp
        obtain ⟨q, hq, rfl⟩ := List.mem_map.mp hp
        exact (scale_le w0).mpr (aft q hq)
      rw [e, e', walk_after _ _ _ aft, walk_after _ _ _ aft']
      by_cases h2 : b < t
      · rw [if_pos ((scale_lt w0).mpr h2), if_pos h2, aff_step w0]; grind
      · have e3 : b = t := by grind
        rw [if_neg (fun z => h2 ((scale_lt w0).mp z)), if_neg h2, e3]; grind
theorem sbP_aff {w k c : Rat} (w0 : 0 < w) : ∀ (ps : List (Rat × Rat)) (t x : Rat), sbP (affP w k c ps) (t * w) ((k * x + c) / w) = (k * sbP ps t x + c) / w
  | [], t, x => rfl
  | (b, s) :: r, t, x => by
    show sbP (affP w k c r) (t * w) (if b * w < t * w then (k * s + c) / w else (k * x + c) / w) = (k * sbP r t (if b < t then s else x) + c) / w
    by_cases h : b < t
    · rw [if_pos ((scale_lt w0).mpr h), if_pos h]; exact sbP_aff w0 r t s
    · rw [if_neg (fun z => h ((scale_lt w0).mp z)), if_neg h]; exact sbP_aff w0 r t x
theorem speedP_aff {w k c : Rat} (w0 : 0 < w) : ∀ (ps : List (Rat × Rat)) (t x : Rat), speedP (affP w k c ps) (t * w) ((k * x + c) / w) = (k * speedP ps t x + c) / w
  | [], t, x => rfl
  | (b, s) :: r, t, x => by
    show speedP (affP w k c r) (t * w) (if b * w ≤ t * w then (k * s + c) / w else (k * x + c) / w) = (k * speedP r t (if b ≤ t then s else x) + c) / w
    by_cases h : b ≤ t
    · rw [if_pos ((scale_le w0).mpr h), if_pos h]; exact speedP_aff w0 r t s
    · rw [if_neg (fun z => h ((scale_le w0).mp z)), if_neg h]; exact speedP_aff w0 r t x
/-- one runner's way, scaled and moved -/
structure RnAff (w k c d : Rat) (r r' : Rn) : Prop where
  name : r'.name = r.name
  start : r'.start = k * r.start + d
  pieces : r'.pieces = affP w k c r.pieces
section
variable {w k c d : Rat} {r r' : Rn}
theorem RnAff.pos (h : RnAff w k c d r r') (ok : r.Ok) (w0 : 0 < w) {t : Rat} (t0 : 0 ≤ t) : r'.pos (t * w) = k * r.pos t + d + c * t := by
  obtain ⟨⟨b, s⟩, q, e, z⟩ := ok.hd
  have z : b = 0 := z
  have up := ok.up
  unfold Rn.pos
  rw [h.pieces, h.start]
  rw [e] at up ⊢
  rw [walk_aff w0 q b s t r.start d up (by rw [z]; exact t0), z]
  grind
theorem RnAff.sb (h : RnAff w k c d r r') (ok : r.Ok) (w0 : 0 < w) {t : Rat} (t0 : 0 < t) : r'.sb (t * w) = (k * r.sb t + c) / w := by
  obtain ⟨⟨b, s⟩, q, e, z⟩ := ok.hd
  have z : b = 0 := z
  unfold Rn.sb
  rw [h.pieces, e, z]
  show sbP (affP w k c q) (t * w) (if 0 * w < t * w then (k * s + c) / w else 0) = (k * sbP q t (if 0 < t then s else 0) + c) / w
  rw [if_pos ((scale_lt w0).mpr t0), if_pos t0]
  exact sbP_aff w0 q t s
theorem RnAff.speed (h : RnAff w k c d r r') (ok : r.Ok) (w0 : 0 < w) {t : Rat} (t0 : 0 ≤ t) : r'.speed (t * w) = (k * r.speed t + c) / w := by
  obtain ⟨⟨b, s⟩, q, e, z⟩ := ok.hd
  have z : b = 0 := z
  unfold Rn.speed
  rw [h.pieces, e, z]
  show speedP (affP w k c q) (t * w) (if 0 * w ≤ t * w then (k * s + c) / w else 0) = (k * speedP q t (if 0 ≤ t then s else 0) + c) / w
  rw [if_pos ((scale_le w0).mpr t0), if_pos t0]
  exact speedP_aff w0 q t s
theorem RnAff.ok (h : RnAff w k c d r r') (ok : r.Ok) (w0 : 0 < w) : r'.Ok := by
  obtain ⟨x, q, e, z⟩ := ok.hd
  refine ⟨by rw [h.pieces, affP, List.length_map]; exact ok.lo, by rw [h.pieces, affP, List.length_map]; exact ok.hi, ⟨_, _, by rw [h.pieces, e]; rfl, by show x.1 * w = 0; rw [z, Rat.zero_mul]⟩, ?_⟩
  rw [h.pieces]
  unfold affP
  rw [List.pairwise_map]
  exact ok.up.imp fun h => (scale_lt w0).mpr h
end
/-- two races alike: lengths by k, times by w, all turned by whole lengths and one way c t + d -/
structure Like (w k : Rat) (f : Rn → Rn) (R R' : RaceM) : Prop where
  w0 : 0 < w
  k0 : 0 < k
  len : R'.len = k * R.len
  rs : R'.rs = R.rs.map f
  nm : ∀ r ∈ R.rs, (f r).name = r.name
  ok : R'.Ok
  ps : ∀ o ∈ R.rs, ∀ u ∈ R.rs, ∃ n : Int, ∀ t, 0 ≤ t → (f o).pos (t * w) - (f u).pos (t * w) = k * (o.pos t - u.pos t) + R'.len * (n : Rat)
  sb : ∀ o ∈ R.rs, ∀ u ∈ R.rs, ∀ t, 0 < t → ((f u).sb (t * w) < (f o).sb (t * w) ↔ u.sb t < o.sb t)
section
variable {w k : Rat} {f : Rn → Rn} {R R' : RaceM}
theorem Like.off (L : Like w k f R R') (l0 : 0 < R.len) {o u : Rn} (ho : o ∈ R.rs) (hu : u ∈ R.rs) : ∃ n : Int, ∀ v t : Rat, 0 ≤ t → R'.off (f o) (f u) (k * v) (t * w) = R.off o u v t + (n : Rat) := by
  obtain ⟨n, h⟩ := L.ps o ho u hu
  refine ⟨n, fun v t t0 => ?_⟩
  have e := h t t0
  unfold RaceM.off
  have k1 : k ≠ 0 := by have := L.k0; grind
  have l1 : R.len ≠ 0 := by grind
  rw [e, L.len]
  have kl : k * R.len ≠ 0 := by
    have := Rat.mul_pos L.k0 l0
    grind
  have e2 : k * (o.pos t - u.pos t) + k * R.len * (n : Rat) - k * v = (o.pos t - u.pos t - v + R.len * n) * k := by grind
  rw [e2, Rat.mul_comm k R.len, Rat.div_def, Rat.inv_mul_rev, Rat.div_def]
  have h1 : k * k⁻¹ = 1 := Rat.mul_inv_cancel k k1
  have h2 : R.len * R.len⁻¹ = 1 := Rat.mul_inv_cancel _ l1
  have : (o.pos t - u.pos t - v + R.len * n) * k * (k⁻¹ * R.len⁻¹) = (o.pos t - u.pos t - v) * R.len⁻¹ * (k * k⁻¹) + n * (R.len * R.len⁻¹) * (k * k⁻¹) := by grind
  rw [this, h1, h2]
  grind
theorem Like.up (L : Like w k f R R') (l0 : 0 < R.len) {o u : Rn} (ho : o ∈ R.rs) (hu : u ∈ R.rs) {v t : Rat} (t0 : 0 < t) : R'.Up (f o) (f u) (k * v) (t * w) ↔ R.Up o u v t := by
  obtain ⟨n, h⟩ := L.off l0 ho hu
  have e := h v t (Rat.le_of_lt t0)
  constructor
  · rintro ⟨⟨m, em⟩, s⟩
    exact ⟨⟨m - n, by rw [Rat.intCast_sub]; grind⟩, (L.sb o ho u hu t t0).mp s⟩
  · rintro ⟨⟨m, em⟩, s⟩
    exact ⟨⟨m + n, by rw [Rat.intCast_add]; grind⟩, (L.sb o ho u hu t t0).mpr s⟩
theorem Like.fin (L : Like w k f R R') {r : Rn} (hr : r ∈ R.rs) : f r ∈ R'.rs := by rw [L.rs]; exact List.mem_map.mpr ⟨r, hr, rfl⟩
theorem Like.lists (L : Like w k f R R') {P P' : Rat → Prop} (hP : ∀ t, 0 < t → (P' (t * w) ↔ P t)) {a b : Rat} (a0 : 0 ≤ a) {l l' : List Rat} (hl : l.Pairwise (· < ·)) (hl' : l'.Pairwise (· < ·))
    (m : ∀ t, t ∈ l ↔ a < t ∧ t ≤ b ∧ P t) (m' : ∀ t, t ∈ l' ↔ a * w < t ∧ t ≤ b * w ∧ P' t) : l' = l.map fun t => t * w := by
  have w0 := L.w0
  refine (rising_map (fun t => t * w) (fun x y h => (scale_lt w0).mpr h) hl hl' fun x => ?_).symm
  have wi : x / w * w = x := Rat.div_mul_cancel (by grind)
  rw [m' x]
  constructor
  · rintro ⟨h1, h2, h3⟩
    rw [← wi] at h1 h2 h3
    have h1 := (scale_lt w0).mp h1
    have h2 := (scale_le w0).mp h2
    exact ⟨x / w, (m _).mpr ⟨h1, h2, (hP _ (by grind)).mp h3⟩, wi⟩
  · rintro ⟨y, hy, rfl⟩
    obtain ⟨h1, h2, h3⟩ := (m y).mp hy
    exact ⟨(scale_lt w0).mpr h1, (scale_le w0).mpr h2, (hP y (by grind)).mpr h3⟩
theorem Like.passN (L : Like w k f R R') (ok : R.Ok) {o u : Rn} (ho : o ∈ R.rs) (hu : u ∈ R.rs) {a b : Rat} (a0 : 0 ≤ a) (ab : a ≤ b) : R'.passN (f o) (f u) (a * w) (b * w) = R.passN o u a b := by
  have w0 := L.w0
  have aw : 0 ≤ a * w := Rat.mul_nonneg a0 (Rat.le_of_lt w0)
  have abw : a * w ≤ b * w := (scale_le w0).mpr ab
  have k00 : k * 0 = 0 := by grind
  have := L.lists (P := R.Up o u 0) (P' := R'.Up (f o) (f u) 0) (fun t t0 => by have := L.up ok.len ho hu (v := 0) t0; rw [k00] at this; exact this) a0 (b := b)
    (upL_pw ok.len (ok.rn o ho) (ok.rn u hu) a0 ab) (upL_pw L.ok.len (L.ok.rn _ (L.fin ho)) (L.ok.rn _ (L.fin hu)) aw abw)
    (fun t => upL_mem ok.len (ok.rn o ho) (ok.rn u hu) a0 ab) (fun t => upL_mem L.ok.len (L.ok.rn _ (L.fin ho)) (L.ok.rn _ (L.fin hu)) aw abw)
  unfold RaceM.passN
  rw [this, List.length_map]
theorem Like.gapL (L : Like w k f R R') (ok : R.Ok) {o u : Rn} (ho : o ∈ R.rs) (hu : u ∈ R.rs) {v a b : Rat} (a0 : 0 ≤ a) (ab : a ≤ b) : R'.gapL (f o) (f u) (k * v) (a * w) (b * w) = (R.gapL o u v a b).map fun t => t * w := by
  have w0 := L.w0
  have aw : 0 ≤ a * w := Rat.mul_nonneg a0 (Rat.le_of_lt w0)
  have abw : a * w ≤ b * w := (scale_le w0).mpr ab
  have kn : -(k * v) = k * (-v) := by grind
  refine L.lists (P := fun t => R.Up u o v t ∨ R.Up o u (-v) t) (P' := fun t => R'.Up (f u) (f o) (k * v) t ∨ R'.Up (f o) (f u) (-(k * v)) t) (fun t t0 => ?_) a0 (b := b)
    (gapL_pw ok.len (ok.rn o ho) (ok.rn u hu) a0 ab) (gapL_pw L.ok.len (L.ok.rn _ (L.fin ho)) (L.ok.rn _ (L.fin hu)) aw abw)
    (fun t => gapL_mem ok.len (ok.rn o ho) (ok.rn u hu) a0 ab) (fun t => gapL_mem L.ok.len (L.ok.rn _ (L.fin ho)) (L.ok.rn _ (L.fin hu)) aw abw)
  rw [kn, L.up ok.len hu ho t0, L.up ok.len ho hu t0]
theorem Like.tbl (L : Like w k f R R') (ok : R.Ok) {a b : Rat} (a0 : 0 ≤ a) (ab : a ≤ b) : R'.tbl (a * w) (b * w) = R.tbl a b := by
  have inner : ∀ o ∈ R.rs, R'.tblAt (a * w) (b * w) (f o) = R.tblAt a b o := fun o ho => by
    unfold RaceM.tblAt
    rw [L.rs, List.filterMap_map]
    have gen : ∀ l : List Rn, (∀ u ∈ l, u ∈ R.rs) → l.filterMap ((fun u => if 0 < R'.passN (f o) u (a * w) (b * w) then some ((f o).name, u.name, R'.passN (f o) u (a * w) (b * w)) else none) ∘ f) = l.filterMap fun u => if 0 < R.passN o u a b then some (o.name, u.name, R.passN o u a b) else none := fun l => by
      induction l with
      | nil => intro _; rfl
      | cons u l ih =>
        intro h
        have hu := h u (List.mem_cons_self ..)
        rw [List.filterMap_cons, List.filterMap_cons, ih fun o ho => h o (List.mem_cons_of_mem _ ho)]
        simp only [Function.comp]
        rw [L.passN ok ho hu a0 ab, L.nm o ho, L.nm u hu]
    exact gen R.rs fun _ h => h
  unfold RaceM.tbl
  rw [L.rs, List.flatMap_map]
  have gen : ∀ l : List Rn, (∀ o ∈ l, o ∈ R.rs) → l.flatMap (fun o => R'.tblAt (a * w) (b * w) (f o)) = l.flatMap (R.tblAt a b) := fun l => by
    induction l with
    | nil => intro _; rfl
    | cons x l ih =>
      intro h
      rw [List.flatMap_cons, List.flatMap_cons, inner x (h x (List.mem_cons_self ..)), ih fun o ho => h o (List.mem_cons_of_mem _ ho)]
  exact gen R.rs fun _ h => h
end
/-- rows of moderate numbers -/
theorem rows_of_off {R : RaceM} {o u : Rn} {v a b : Rat} (hab : a ≤ b) {M : Nat} (hM : M ≤ 2 ^ 60) (h : ∀ t, a ≤ t → t ≤ b → Ab (R.off o u v t) (M : Rat)) : ∀ w ∈ R.gRows u o v a b, w.lo.natAbs < 2 ^ 61 ∧ w.hi.natAbs < 2 ^ 61 := fun w hw => by
  obtain ⟨p, hp, e⟩ := List.mem_filterMap.mp hw
  obtain ⟨h1, h2, h3, st⟩ := cutR_adj hab hp
  have o1 := h p.1 h1 (by grind)
  have o2 := h p.2 (by grind) h3
  have n1 : Ab (-R.off o u v p.1) (M : Rat) := ⟨by have := o1.2; grind, by have := o1.1; grind⟩
  have n2 : Ab (-R.off o u v p.2) (M : Rat) := ⟨by have := o2.2; grind, by have := o2.1; grind⟩
  have f1 := floor_ab o1
  have f2 := floor_ab o2
  have f3 := floor_ab n1
  have f4 := floor_ab n2
  have mk : ∀ (x g low : Rat) (lo hi : Int), lo.natAbs < 2 ^ 61 → hi.natAbs < 2 ^ 61 → (GRow.mk x g low lo hi).lo.natAbs < 2 ^ 61 ∧ (GRow.mk x g low lo hi).hi.natAbs < 2 ^ 61 := fun _ _ _ _ _ h1 h2 => ⟨h1, h2⟩
  unfold RaceM.gRow at e
  split at e
  · cases e
    exact mk _ _ _ _ _ (by omega) (by omega)
  · split at e
    · cases e
      exact mk _ _ _ _ _ (by omega) (by omega)
    · cases e
end G


/-! ## K82a -/
/-! Races made of races. -/
namespace G
open PySem PySem.Spec PyProof.Rows L2 L3 MR
theorem eqP_self {α : Type} (T : Told α) (h : T.n ≤ 60) (a : α) : eqP (T.pv a) (T.pv a) = some true := by
  rw [eqP_told T T h h, PySem.SeqAt.eqv_refl _ (T.lay a)]
theorem kNe_self {α : Type} (T : Told α) (h : T.n ≤ 60) (a : α) {Q : PV → Prop} (hq : Q (.bl false)) : kNe (T.pv a) (T.pv a) Q := by
  simp only [kNe, eqP_self T h a, Bool.not_true]; exact hq
theorem kEq_self {α : Type} (T : Told α) (h : T.n ≤ 60) (a : α) {Q : PV → Prop} (hq : Q (.bl true)) : kEq (T.pv a) (T.pv a) Q := by
  simp only [kEq, eqP_self T h a]; exact hq
theorem names_tx : ∀ l : List Rn, (∀ r ∈ l, PyData.strOk r.name = true) → ∃ m : List Tx, (l.map fun r => PV.str r.name) = m.map Told.str.pv
  | [], _ => ⟨[], rfl⟩
  | r :: l, h => by
    obtain ⟨m, e⟩ := names_tx l fun x hx => h x (List.mem_cons_of_mem _ hx)
    exact ⟨⟨r.name, h r (List.mem_cons_self ..)⟩ :: m, by rw [List.map_cons, List.map_cons, e]; rfl⟩
/-- names as they are drawn -/
def Named (R : RaceM) : Prop := ∃ m : Nat, 1 ≤ m ∧ m ≤ 4 ∧ R.rs.map Rn.name = abcd.take m
theorem Named.mem {R : RaceM} (h : Named R) {r : Rn} (hr : r ∈ R.rs) : r.name ∈ abcd := by
  obtain ⟨m, _, _, e⟩ := h
  have : r.name ∈ R.rs.map Rn.name := List.mem_map.mpr ⟨r, hr, rfl⟩
  rw [e] at this
  exact List.mem_of_mem_take this
theorem Named.str {R : RaceM} (h : Named R) : ∀ r ∈ R.rs, PyData.strOk r.name = true := fun r hr => abcd_strOk' _ (h.mem hr)
  where abcd_strOk' : ∀ n ∈ abcd, PyData.strOk n = true := by decide +kernel
theorem Named.sorted {R : RaceM} (h : Named R) : sortedS (R.rs.map Rn.name) = true := by
  obtain ⟨m, h1, h2, e⟩ := h
  rw [e]; exact abcd_sorted h1 h2
theorem Named.len {R : RaceM} (h : Named R) : 1 ≤ R.rs.length ∧ R.rs.length ≤ 4 := by
  obtain ⟨m, h1, h2, e⟩ := h
  have := congrArg List.length e
  simp [abcd] at this
  omega
theorem Named.nd {R : RaceM} (h : Named R) : R.rs.Pairwise fun a b => a.name ≠ b.name := by
  obtain ⟨m, h1, h2, e⟩ := h
  have : (R.rs.map Rn.name).Pairwise fun a b => a ≠ b := by rw [e]; exact abcd_nd.sublist (List.take_sublist _ _)
  exact List.pairwise_map.mp this
theorem Named.map {R : RaceM} (h : Named R) {len : Rat} {f : Rn → Rn} (hf : ∀ r, (f r).name = r.name) : Named ⟨len, R.rs.map f⟩ := by
  obtain ⟨m, h1, h2, e⟩ := h
  refine ⟨m, h1, h2, ?_⟩
  show (R.rs.map f).map Rn.name = _
  rw [List.map_map, ← e]
  exact List.map_congr_left fun r _ => hf r
/-- a runner as given to Race() -/
def mkRR (st : Rn → Rat) (g : Rat × Rat → Rat × Rat) (r : Rn) : RR := ⟨r.name, rat (st r), st r, r.pieces.map fun p => ⟨rat (g p).1, rat (g p).2, (g p).1, (g p).2⟩⟩
def mkRn (len : Rat) (st : Rn → Rat) (g : Rat × Rat → Rat × Rat) (r : Rn) : Rn := ⟨r.name, rem (st r) len, r.pieces.map g⟩
theorem mkRR_norm (len : Rat) (st : Rn → Rat) (g : Rat × Rat → Rat × Rat) (r : Rn) : RR.norm len (mkRR st g r) = mkRn len st g r := by
  unfold RR.norm mkRR mkRn
  rw [List.map_map]
  rfl
theorem mkRR_pv (st : Rn → Rat) (g : Rat × Rat → Rat × Rat) (r : Rn) : (mkRR st g r).pv = .tup [rat (st r), .lst ((r.pieces.map g).map pcPV)] := by
  unfold mkRR RR.pv
  rw [List.map_map, List.map_map]
  rfl
structure MakeOk (R : RaceM) (len : Rat) (st : Rn → Rat) (g : Rat × Rat → Rat × Rat) : Prop where
  nm : Named R
  ok : R.Ok
  l0 : 0 < len
  lz : sz len ≤ 1900
  st : ∀ r ∈ R.rs, sz (st r) ≤ 1900
  tz : ∀ r ∈ R.rs, ∀ p ∈ r.pieces, sz (g p).1 ≤ 1900
  z : ∀ p, p.1 = 0 → (g p).1 = 0
  up : ∀ p q, p.1 < q.1 → (g p).1 < (g q).1
theorem MakeOk.rr {R : RaceM} {len : Rat} {st : Rn → Rat} {g : Rat × Rat → Rat × Rat} (h : MakeOk R len st g) : ∀ r ∈ R.rs.map (mkRR st g), r.Ok := fun x hx => by
  obtain ⟨r, hr, rfl⟩ := List.mem_map.mp hx
  have or' := h.ok.rn r hr
  obtain ⟨p0, q0, e0, z0⟩ := or'.hd
  refine ⟨abcd_ok _ (h.nm.mem hr), .rat _, h.st r hr, ?_⟩
  refine ⟨by simpa [mkRR] using or'.lo, by simpa [mkRR] using or'.hi, fun y hy => ?_, ⟨⟨rat (g p0).1, rat (g p0).2, (g p0).1, (g p0).2⟩, q0.map fun p => ⟨rat (g p).1, rat (g p).2, (g p).1, (g p).2⟩, by simp only [mkRR, e0, List.map_cons], h.z p0 z0⟩, ?_⟩
  · obtain ⟨p, hp, rfl⟩ := List.mem_map.mp hy
    refine ⟨.rat _, .rat _, h.tz r hr p hp, ?_⟩
    show 0 ≤ (g p).1
    have up := or'.up
    rw [e0] at hp up
    rcases List.mem_cons.mp hp with rfl | hp
    · rw [h.z _ z0]; exact Rat.le_refl
    · have := h.up p0 p ((List.pairwise_cons.mp up).1 p hp)
      rw [h.z _ z0] at this
      exact Rat.le_of_lt this
  · show (r.pieces.map _).Pairwise _
    rw [List.pairwise_map]
    exact or'.up.imp fun h' => h.up _ _ h'
theorem MakeOk.made {R : RaceM} {len : Rat} {st : Rn → Rat} {g : Rat × Rat → Rat × Rat} (h : MakeOk R len st g) : RaceM.Ok ⟨len, R.rs.map (mkRn len st g)⟩ := by
  have hl := h.nm.len
  have := made_ok h.l0 (rs := R.rs.map (mkRR st g)) (by simpa using hl.1) (by rw [List.length_map]; omega) (by
    rw [List.pairwise_map]; exact h.nm.nd) h.rr
  rw [List.map_map] at this
  have e : RR.norm len ∘ mkRR st g = mkRn len st g := funext fun r => mkRR_norm len st g r
  rw [e] at this
  exact this
theorem MakeOk.make {R : RaceM} {len : Rat} {st : Rn → Rat} {g : Rat × Rat → Rat × Rat} (h : MakeOk R len st g) {lv : PV} (hl : NumP lv len) {Q : PV → Prop} (hq : Q (RaceM.pv ⟨len, R.rs.map (mkRn len st g)⟩)) :
    Ph_Race [lv, .dic (R.rs.map fun r => ((Sum.inr r.name : Key), PV.tup [rat (st r), .lst ((r.pieces.map g).map pcPV)]))] Q := by
  have hn := h.nm.len
  refine ⟨lv, len, R.rs.map (mkRR st g), ?_, hl, h.l0, h.lz, by simpa using hn.1, by rw [List.length_map]; omega, by rw [List.pairwise_map]; exact h.nm.nd, h.rr, fun rs' hp hs => ?_⟩
  · rw [List.map_map]
    have e : (R.rs.map fun r => ((Sum.inr r.name : Key), PV.tup [rat (st r), .lst ((r.pieces.map g).map pcPV)])) = R.rs.map ((fun r : RR => ((Sum.inr r.name : Key), r.pv)) ∘ mkRR st g) := List.map_congr_left fun r _ => by
      show _ = ((Sum.inr (mkRR st g r).name : Key), (mkRR st g r).pv)
      rw [mkRR_pv]; rfl
    rw [e]
  · have sn : sortedS ((R.rs.map (mkRR st g)).map RR.name) = true := by
      rw [List.map_map]
      exact h.nm.sorted
    have e : rs' = R.rs.map (mkRR st g) := sorted_unique RR.name hp (by rw [List.pairwise_map]; exact h.nm.nd) hs sn
    subst e
    rw [List.map_map]
    have e2 : RR.norm len ∘ mkRR st g = mkRn len st g := funext fun r => mkRR_norm len st g r
    rw [e2]
    exact hq
/-- a loop that fills a dict of runners -/
theorem dic_new {R : RaceM} (nd : R.rs.Pairwise fun a b => a.name ≠ b.name) {done rest : List Rn} {r : Rn} (hd : done ++ r :: rest = R.rs) (v : Rn → PV) :
    putA (done.map fun r => ((Sum.inr r.name : Key), v r)) (Sum.inr r.name) (v r) = (done ++ [r]).map fun r => ((Sum.inr r.name : Key), v r) := by
  rw [putA_new, List.map_append]
  · rfl
  · intro p hp e
    obtain ⟨x, hx, rfl⟩ := List.mem_map.mp hp
    rw [← hd] at nd
    have := (List.pairwise_append.mp nd).2.2 x hx r (List.mem_cons_self ..)
    exact this (by simpa using e)
structure Msz (R : RaceM) (B : Nat) : Prop where
  len : sz R.len ≤ B
  st : ∀ r ∈ R.rs, sz r.start ≤ B
  pc : ∀ r ∈ R.rs, ∀ p ∈ r.pieces, sz p.1 ≤ B ∧ sz p.2 ≤ B
def Ph_Race_slowed : Con := fun as Q => ∃ (R : RaceM) (v : PV) (w : Rat), as = [R.pv, v] ∧ Named R ∧ R.Ok ∧ Msz R 900 ∧ NumP v w ∧ 0 < w ∧ sz w ≤ 900 ∧ Q (RaceM.pv ⟨R.len, R.rs.map (mkRn R.len Rn.start fun p => (p.1 * w, p.2 / w))⟩)
def Ph_Race_turned : Con := fun as Q => ∃ (R : RaceM) (v : PV) (d : Rat), as = [R.pv, v] ∧ Named R ∧ R.Ok ∧ Msz R 900 ∧ NumP v d ∧ sz d ≤ 900 ∧ Q (RaceM.pv ⟨R.len, R.rs.map (mkRn R.len (fun r => r.start + d) id)⟩)
def Ph_law_longer : Con := fun as Q => ∃ (R : RaceM) (v : PV) (k : Rat), as = [R.pv, v] ∧ Named R ∧ R.Ok ∧ Msz R 900 ∧ NumP v k ∧ 0 < k ∧ sz k ≤ 900 ∧ Q (RaceM.pv ⟨R.len * k, R.rs.map (mkRn (R.len * k) (fun r => r.start * k) fun p => (p.1, p.2 * k))⟩)
def te_Race_slowed_1 : PTE := pTup (pCons (pCall Ph_times (pCons (pVar 5) (pCons (pVar 1) (pNil)))) (pCons (pCall Ph_divided (pCons (pVar 6) (pCons (pVar 1) (pNil)))) (pNil)))
def tb_Race_slowed_2 : PTS := pSeq (pAsg (pLc (pIL (pMeth "Race" "pieces" Ph_Race_pieces (pVar 0) (pCons (pVar 3) (pNil)))) (gTupP 2 (gConsP (gNm 5) (gConsP (gNm 6) (gNilP)))) pTsYes te_Race_slowed_1 [5, 6]) (gNm 4)) (pDPut 2 (pVar 3) (pTup (pCons (pMeth "Race" "start" Ph_Race_start (pVar 0) (pCons (pVar 3) (pNil))) (pCons (pVar 4) (pNil)))))
def t_Race_slowed : PTS := pSeq (pIfS (pOrT (pNotT (pTst (pCall Ph_is_number (pCons (pVar 1) (pNil))))) (pTst (pBin kLeI (pCall Ph_compare (pCons (pVar 1) (pCons (pC (.int 0)) (pNil)))) (pC (.int 0))))) (pNeverS) (pNext)) (pSeq (pNewD 2) (pSeq (pFor (pIL (pMeth "Race" "names" Ph_Race_names (pVar 0) pNil)) (gNm 3) tb_Race_slowed_2) (pFrz 2 (pRet (pCall Ph_Race (pCons (pProp "Race" Ph_Race_length (pVar 0)) (pCons (pVar 2) (pNil))))))))
abbrev N_Race_slowed : List Str := ["self", "factor", "found", "name", "pieces", "time", "speed"]
theorem st_Race_slowed (a0 a1 : PV) : startP N_Race_slowed [a0, a1] = [.val a0, .val a1, .no, .no, .no, .no, .no] := rfl
def tk_Race_turned_1 : PTE := pVar 2
def tv_Race_turned_2 : PTE := pTup (pCons (pCall Ph_plus (pCons (pMeth "Race" "start" Ph_Race_start (pVar 0) (pCons (pVar 2) (pNil))) (pCons (pVar 1) (pNil)))) (pCons (pMeth "Race" "pieces" Ph_Race_pieces (pVar 0) (pCons (pVar 2) (pNil))) (pNil)))
def t_Race_turned : PTS := pRet (pCall Ph_Race (pCons (pProp "Race" Ph_Race_length (pVar 0)) (pCons (pDc (pIL (pMeth "Race" "names" Ph_Race_names (pVar 0) pNil)) (gNm 2) pTsYes tk_Race_turned_1 tv_Race_turned_2 [2]) (pNil))))
abbrev N_Race_turned : List Str := ["self", "shift", "name"]
theorem st_Race_turned (a0 a1 : PV) : startP N_Race_turned [a0, a1] = [.val a0, .val a1, .no] := rfl
def te_law_longer_1 : PTE := pTup (pCons (pVar 5) (pCons (pCall Ph_times (pCons (pVar 6) (pCons (pVar 1) (pNil)))) (pNil)))
def tb_law_longer_2 : PTS := pSeq (pAsg (pLc (pIL (pMeth "Race" "pieces" Ph_Race_pieces (pVar 0) (pCons (pVar 3) (pNil)))) (gTupP 2 (gConsP (gNm 5) (gConsP (gNm 6) (gNilP)))) pTsYes te_law_longer_1 [5, 6]) (gNm 4)) (pDPut 2 (pVar 3) (pTup (pCons (pCall Ph_times (pCons (pMeth "Race" "start" Ph_Race_start (pVar 0) (pCons (pVar 3) (pNil))) (pCons (pVar 1) (pNil)))) (pCons (pVar 4) (pNil)))))
def t_law_longer : PTS := pSeq (pNewD 2) (pSeq (pFor (pIL (pMeth "Race" "names" Ph_Race_names (pVar 0) pNil)) (gNm 3) tb_law_longer_2) (pFrz 2 (pRet (pCall Ph_Race (pCons (pCall Ph_times (pCons (pProp "Race" Ph_Race_length (pVar 0)) (pCons (pVar 1) (pNil)))) (pCons (pVar 2) (pNil)))))))
abbrev N_law_longer : List Str := ["race", "factor", "runners", "name", "pieces", "time", "speed"]
theorem st_law_longer (a0 a1 : PV) : startP N_law_longer [a0, a1] = [.val a0, .val a1, .no, .no, .no, .no, .no] := rfl

theorem hp_Race_slowed : ∀ as Q, Ph_Race_slowed as Q → as.length = 2 ∧ t_Race_slowed ⟨fun _ => Q .non, Q, fun _ => False, fun _ => False⟩ (startP N_Race_slowed as) := by
  rintro as Q ⟨R, v, w, rfl, nm, ok, ms, hv, w0, wz, hq⟩
  refine ⟨rfl, ?_⟩
  simp only [st_Race_slowed, t_Race_slowed, RaceM.pv, pSeq, pNext, pIfS, pRet, pRetN, pAsg, pDrop, pPar, pAug, gNm, gTupP, gConsP, gNilP, pVar, pC, pBin, pChain, pUn, kNeg, pTst, pTru, pAndT, pOrT, pNotT, pAndV, pOrV, pNotV, pIf, pCons, pNil, pTup, pLst, pStar, pCallB, pCall, pMeth, pProp, pFld, pFrz, pIL, pIT, pZip, pEnum, pR1, pR2, pR3, pSlL, pSlT, pPart, pNoPart, pLc, pLc2, pDc, pSortSc, pFor, pNewL, pNewD, pApp, pExt, pDPut, pSetL, pOwnD, pIsN, pNotN, pListVals, pListValsT, pIVals, pIKeys, pIItems, onDic, pIStr, pDGet1, pTsYes, pParL, pParR, pCel, pCelSet, pNewCel, pNeverS, wipeP, List.set_cons_zero, List.set_cons_succ, List.getElem?_cons_zero, List.getElem?_cons_succ, List.length_cons, List.length_nil]
  refine ⟨v, w, rfl, hv, ?_⟩
  simp only [Bool.not_true]
  refine ⟨_, _, w, 0, rfl, hv, num0, by rw [sz0]; omega, ?_⟩
  have c1 : ¬ w ≤ 0 := by grind
  simp only [kI0_int, cmp_le, decide_eq_false c1]
  refine ⟨by trivial, by rfl, R, rfl, ?_⟩
  have hn := nm.len
  refine forL_of (fun r : Rn => PV.str r.name) (fun rest ρ => ∃ (done : List Rn) (s3 s4 s5 s6 : Slt), done ++ rest = R.rs ∧ ρ = [.val (.obj "Race" R.fs), .val v, .own (.dic (done.map fun r => ((Sum.inr r.name : Key), PV.tup [rat r.start, .lst ((r.pieces.map fun p => (p.1 * w, p.2 / w)).map pcPV)]))), s3, s4, s5, s6]) ?_ ?_ R.rs _ ⟨[], _, _, _, _, rfl, rfl⟩
  · rintro r rest ρ ⟨done, s3, s4, s5, s6, hd, rfl⟩ N hN
    have hr : r ∈ R.rs := by rw [← hd]; simp
    have p20 := (ok.rn r hr).hi
    simp only [tb_Race_slowed_2, pSeq, pNext, pIfS, pRet, pRetN, pAsg, pDrop, pPar, pAug, gNm, gTupP, gConsP, gNilP, pVar, pC, pBin, pChain, pUn, kNeg, pTst, pTru, pAndT, pOrT, pNotT, pAndV, pOrV, pNotV, pIf, pCons, pNil, pTup, pLst, pStar, pCallB, pCall, pMeth, pProp, pFld, pFrz, pIL, pIT, pZip, pEnum, pR1, pR2, pR3, pSlL, pSlT, pPart, pNoPart, pLc, pLc2, pDc, pSortSc, pFor, pNewL, pNewD, pApp, pExt, pDPut, pSetL, pOwnD, pIsN, pNotN, pListVals, pListValsT, pIVals, pIKeys, pIItems, onDic, pIStr, pDGet1, pTsYes, pParL, pParR, pCel, pCelSet, pNewCel, pNeverS, wipeP, List.set_cons_zero, List.set_cons_succ, List.getElem?_cons_zero, List.getElem?_cons_succ, List.length_cons, List.length_nil]
    refine ⟨by trivial, by rfl, R, r, rfl, ok, hr, ?_⟩
    refine lcL_map pcPV (fun p => pcPV (p.1 * w, p.2 / w)) r.pieces (fun p hp T h => ?_) (size_le (by omega)) ?_
    · have z := ms.pc r hr p hp
      simp only [te_Race_slowed_1, pcPV, pSeq, pNext, pIfS, pRet, pRetN, pAsg, pDrop, pPar, pAug, gNm, gTupP, gConsP, gNilP, pVar, pC, pBin, pChain, pUn, kNeg, pTst, pTru, pAndT, pOrT, pNotT, pAndV, pOrV, pNotV, pIf, pCons, pNil, pTup, pLst, pStar, pCallB, pCall, pMeth, pProp, pFld, pFrz, pIL, pIT, pZip, pEnum, pR1, pR2, pR3, pSlL, pSlT, pPart, pNoPart, pLc, pLc2, pDc, pSortSc, pFor, pNewL, pNewD, pApp, pExt, pDPut, pSetL, pOwnD, pIsN, pNotN, pListVals, pListValsT, pIVals, pIKeys, pIItems, onDic, pIStr, pDGet1, pTsYes, pParL, pParR, pCel, pCelSet, pNewCel, pNeverS, wipeP, List.set_cons_zero, List.set_cons_succ, List.getElem?_cons_zero, List.getElem?_cons_succ, List.length_cons, List.length_nil]
      exact ⟨by trivial, _, _, _, _, rfl, .rat _, hv, by omega, _, _, _, _, rfl, .rat _, hv, by grind, by omega, size_le (by decide), h⟩
    · refine ⟨by trivial, by rfl, R, r, rfl, ok, hr, size_le (by decide), ?_⟩
      simp only [keyP]
      have ld : done.length ≤ 4 := by
        have := congrArg List.length hd
        simp at this
        omega
      refine ⟨by rw [List.length_map]; exact Nat.lt_of_le_of_lt ld (Nat.lt_of_lt_of_le (show 4 < 5 by decide) (size_le (by decide))), hN _ ⟨done ++ [r], .val (.str r.name), .val (.lst (r.pieces.map fun p => pcPV (p.1 * w, p.2 / w))), s5, s6, by rw [← hd]; simp, ?_⟩⟩
      have := dic_new nm.nd hd fun r => PV.tup [rat r.start, .lst ((r.pieces.map fun p => (p.1 * w, p.2 / w)).map pcPV)]
      simp only [List.map_map] at this ⊢
      rw [← this]
      rfl
  · rintro ρ ⟨done, s3, s4, s5, s6, hd, rfl⟩
    rw [List.append_nil] at hd
    subst hd
    refine ⟨by trivial, R, rfl, ?_⟩
    refine MakeOk.make (R := R) (len := R.len) (st := Rn.start) (g := fun p => (p.1 * w, p.2 / w)) ⟨nm, ok, ok.len, by have := ms.len; omega, fun r hr => by have := ms.st r hr; omega, fun r hr p hp => by have := (ms.pc r hr p hp).1; have := sz_mul p.1 w; show sz (p.1 * w) ≤ 1900; omega, fun p h => by show p.1 * w = 0; rw [h, Rat.zero_mul], fun p q h => (scale_lt w0).mpr h⟩ (.rat _) hq
theorem hp_Race_turned : ∀ as Q, Ph_Race_turned as Q → as.length = 2 ∧ t_Race_turned ⟨fun _ => Q .non, Q, fun _ => False, fun _ => False⟩ (startP N_Race_turned as) := by
  rintro as Q ⟨R, v, d, rfl, nm, ok, ms, hv, dz, hq⟩
  refine ⟨rfl, ?_⟩
  have hn := nm.len
  simp only [st_Race_turned, t_Race_turned, RaceM.pv, pSeq, pNext, pIfS, pRet, pRetN, pAsg, pDrop, pPar, pAug, gNm, gTupP, gConsP, gNilP, pVar, pC, pBin, pChain, pUn, kNeg, pTst, pTru, pAndT, pOrT, pNotT, pAndV, pOrV, pNotV, pIf, pCons, pNil, pTup, pLst, pStar, pCallB, pCall, pMeth, pProp, pFld, pFrz, pIL, pIT, pZip, pEnum, pR1, pR2, pR3, pSlL, pSlT, pPart, pNoPart, pLc, pLc2, pDc, pSortSc, pFor, pNewL, pNewD, pApp, pExt, pDPut, pSetL, pOwnD, pIsN, pNotN, pListVals, pListValsT, pIVals, pIKeys, pIItems, onDic, pIStr, pDGet1, pTsYes, pParL, pParR, pCel, pCelSet, pNewCel, pNeverS, wipeP, List.set_cons_zero, List.set_cons_succ, List.getElem?_cons_zero, List.getElem?_cons_succ, List.length_cons, List.length_nil]
  refine ⟨by trivial, R, rfl, by trivial, by rfl, R, rfl, ?_⟩
  refine dcL_of (fun r : Rn => PV.str r.name) (fun r => some (Sum.inr r.name, PV.tup [rat (r.start + d), .lst ((r.pieces.map id).map pcPV)])) R.rs [] (fun r hr T F h => ?_) (by simp; exact size_le (by omega)) ?_
  · have z := ms.st r hr
    simp only [tk_Race_turned_1, tv_Race_turned_2, pSeq, pNext, pIfS, pRet, pRetN, pAsg, pDrop, pPar, pAug, gNm, gTupP, gConsP, gNilP, pVar, pC, pBin, pChain, pUn, kNeg, pTst, pTru, pAndT, pOrT, pNotT, pAndV, pOrV, pNotV, pIf, pCons, pNil, pTup, pLst, pStar, pCallB, pCall, pMeth, pProp, pFld, pFrz, pIL, pIT, pZip, pEnum, pR1, pR2, pR3, pSlL, pSlT, pPart, pNoPart, pLc, pLc2, pDc, pSortSc, pFor, pNewL, pNewD, pApp, pExt, pDPut, pSetL, pOwnD, pIsN, pNotN, pListVals, pListValsT, pIVals, pIKeys, pIItems, onDic, pIStr, pDGet1, pTsYes, pParL, pParR, pCel, pCelSet, pNewCel, pNeverS, wipeP, List.set_cons_zero, List.set_cons_succ, List.getElem?_cons_zero, List.getElem?_cons_succ, List.length_cons, List.length_nil, keyP]
    rw [List.map_id] at h
    exact ⟨by trivial, by rfl, R, r, rfl, ok, hr, _, _, _, _, rfl, .rat _, hv, by omega, by trivial, by rfl, R, r, rfl, ok, hr, size_le (by decide), h⟩
  rw [List.filterMap_eq_map', mergeP_new _ _ (by
    rw [List.pairwise_map]
    exact nm.nd.imp fun h => by simpa using h) (by simp), List.nil_append]
  refine MakeOk.make (R := R) (len := R.len) (st := fun r => r.start + d) (g := id) ⟨nm, ok, ok.len, by have := ms.len; omega, fun r hr => by have := ms.st r hr; have := sz_add r.start d; omega, fun r hr p hp => by have := (ms.pc r hr p hp).1; show sz p.1 ≤ 1900; omega, fun p h => h, fun p q h => h⟩ (.rat _) hq
theorem hp_law_longer : ∀ as Q, Ph_law_longer as Q → as.length = 2 ∧ t_law_longer ⟨fun _ => Q .non, Q, fun _ => False, fun _ => False⟩ (startP N_law_longer as) := by
  rintro as Q ⟨R, v, k, rfl, nm, ok, ms, hv, k0, kz, hq⟩
  refine ⟨rfl, ?_⟩
  have hn := nm.len
  simp only [st_law_longer, t_law_longer, RaceM.pv, pSeq, pNext, pIfS, pRet, pRetN, pAsg, pDrop, pPar, pAug, gNm, gTupP, gConsP, gNilP, pVar, pC, pBin, pChain, pUn, kNeg, pTst, pTru, pAndT, pOrT, pNotT, pAndV, pOrV, pNotV, pIf, pCons, pNil, pTup, pLst, pStar, pCallB, pCall, pMeth, pProp, pFld, pFrz, pIL, pIT, pZip, pEnum, pR1, pR2, pR3, pSlL, pSlT, pPart, pNoPart, pLc, pLc2, pDc, pSortSc, pFor, pNewL, pNewD, pApp, pExt, pDPut, pSetL, pOwnD, pIsN, pNotN, pListVals, pListValsT, pIVals, pIKeys, pIItems, onDic, pIStr, pDGet1, pTsYes, pParL, pParR, pCel, pCelSet, pNewCel, pNeverS, wipeP, List.set_cons_zero, List.set_cons_succ, List.getElem?_cons_zero, List.getElem?_cons_succ, List.length_cons, List.length_nil]
  refine ⟨by trivial, by rfl, R, rfl, ?_⟩
  refine forL_of (fun r : Rn => PV.str r.name) (fun rest ρ => ∃ (done : List Rn) (s3 s4 s5 s6 : Slt), done ++ rest = R.rs ∧ ρ = [.val (.obj "Race" R.fs), .val v, .own (.dic (done.map fun r => ((Sum.inr r.name : Key), PV.tup [rat (r.start * k), .lst ((r.pieces.map fun p => (p.1, p.2 * k)).map pcPV)]))), s3, s4, s5, s6]) ?_ ?_ R.rs _ ⟨[], _, _, _, _, rfl, rfl⟩
  · rintro r rest ρ ⟨done, s3, s4, s5, s6, hd, rfl⟩ N hN
    have hr : r ∈ R.rs := by rw [← hd]; simp
    have p20 := (ok.rn r hr).hi
    simp only [tb_law_longer_2, pSeq, pNext, pIfS, pRet, pRetN, pAsg, pDrop, pPar, pAug, gNm, gTupP, gConsP, gNilP, pVar, pC, pBin, pChain, pUn, kNeg, pTst, pTru, pAndT, pOrT, pNotT, pAndV, pOrV, pNotV, pIf, pCons, pNil, pTup, pLst, pStar, pCallB, pCall, pMeth, pProp, pFld, pFrz, pIL, pIT, pZip, pEnum, pR1, pR2, pR3, pSlL, pSlT, pPart, pNoPart, pLc, pLc2, pDc, pSortSc, pFor, pNewL, pNewD, pApp, pExt, pDPut, pSetL, pOwnD, pIsN, pNotN, pListVals, pListValsT, pIVals, pIKeys, pIItems, onDic, pIStr, pDGet1, pTsYes, pParL, pParR, pCel, pCelSet, pNewCel, pNeverS, wipeP, List.set_cons_zero, List.set_cons_succ, List.getElem?_cons_zero, List.getElem?_cons_succ, List.length_cons, List.length_nil]
    refine ⟨by trivial, by rfl, R, r, rfl, ok, hr, ?_⟩
    refine lcL_map pcPV (fun p => pcPV (p.1, p.2 * k)) r.pieces (fun p hp T h => ?_) (size_le (by omega)) ?_
    · have z := ms.pc r hr p hp
      simp only [te_law_longer_1, pcPV, pSeq, pNext, pIfS, pRet, pRetN, pAsg, pDrop, pPar, pAug, gNm, gTupP, gConsP, gNilP, pVar, pC, pBin, pChain, pUn, kNeg, pTst, pTru, pAndT, pOrT, pNotT, pAndV, pOrV, pNotV, pIf, pCons, pNil, pTup, pLst, pStar, pCallB, pCall, pMeth, pProp, pFld, pFrz, pIL, pIT, pZip, pEnum, pR1, pR2, pR3, pSlL, pSlT, pPart, pNoPart, pLc, pLc2, pDc, pSortSc, pFor, pNewL, pNewD, pApp, pExt, pDPut, pSetL, pOwnD, pIsN, pNotN, pListVals, pListValsT, pIVals, pIKeys, pIItems, onDic, pIStr, pDGet1, pTsYes, pParL, pParR, pCel, pCelSet, pNewCel, pNeverS, wipeP, List.set_cons_zero, List.set_cons_succ, List.getElem?_cons_zero, List.getElem?_cons_succ, List.length_cons, List.length_nil]
      exact ⟨by trivial, _, _, _, _, rfl, .rat _, hv, by omega, size_le (by decide), h⟩
    · have z := ms.st r hr
      refine ⟨by trivial, by rfl, R, r, rfl, ok, hr, _, _, _, _, rfl, .rat _, hv, by omega, size_le (by decide), ?_⟩
      simp only [keyP]
      have ld : done.length ≤ 4 := by
        have := congrArg List.length hd
        simp at this
        omega
      refine ⟨by rw [List.length_map]; exact Nat.lt_of_le_of_lt ld (Nat.lt_of_lt_of_le (show 4 < 5 by decide) (size_le (by decide))), hN _ ⟨done ++ [r], .val (.str r.name), .val (.lst (r.pieces.map fun p => pcPV (p.1, p.2 * k))), s5, s6, by rw [← hd]; simp, ?_⟩⟩
      have := dic_new nm.nd hd fun r => PV.tup [rat (r.start * k), .lst ((r.pieces.map fun p => (p.1, p.2 * k)).map pcPV)]
      simp only [List.map_map] at this ⊢
      rw [← this]
      rfl
  · rintro ρ ⟨done, s3, s4, s5, s6, hd, rfl⟩
    rw [List.append_nil] at hd
    subst hd
    refine ⟨by trivial, R, rfl, _, _, _, _, rfl, .rat _, hv, by have := ms.len; omega, ?_⟩
    refine MakeOk.make (R := R) (len := R.len * k) (st := fun r => r.start * k) (g := fun p => (p.1, p.2 * k)) ⟨nm, ok, Rat.mul_pos ok.len k0, by have := ms.len; have := sz_mul R.len k; omega, fun r hr => by have := ms.st r hr; have := sz_mul r.start k; omega, fun r hr p hp => by have := (ms.pc r hr p hp).1; show sz p.1 ≤ 1900; omega, fun p h => h, fun p q h => h⟩ (.rat _) hq
end G


/-! ## LK2 -/
/-! Races alike: how they come about; small numbers. -/
namespace G
open PySem PySem.Spec PyProof.Rows L2 L3 MR
theorem like_of {w k c d : Rat} {f : Rn → Rn} {R R' : RaceM} (ok : R.Ok) (w0 : 0 < w) (k0 : 0 < k) (len : R'.len = k * R.len) (rs : R'.rs = R.rs.map f) (ok' : R'.Ok) (h : ∀ r ∈ R.rs, ∃ n : Int, RnAff w k c (d - R'.len * (n : Rat)) r (f r)) : Like w k f R R' where
  w0 := w0
  k0 := k0
  len := len
  rs := rs
  nm := fun r hr => let ⟨_, h⟩ := h r hr; h.name
  ok := ok'
  ps := fun o ho u hu => by
    obtain ⟨n, ho'⟩ := h o ho
    obtain ⟨m, hu'⟩ := h u hu
    refine ⟨m - n, fun t t0 => ?_⟩
    rw [ho'.pos (ok.rn o ho) w0 t0, hu'.pos (ok.rn u hu) w0 t0, Rat.intCast_sub]
    grind
  sb := fun o ho u hu t t0 => by
    obtain ⟨n, ho'⟩ := h o ho
    obtain ⟨m, hu'⟩ := h u hu
    rw [ho'.sb (ok.rn o ho) w0 t0, hu'.sb (ok.rn u hu) w0 t0]
    have e : ∀ x y : Rat, (x / w < y / w ↔ x < y) := fun x y => by
      have wi : 0 < w⁻¹ := Rat.inv_pos.mpr w0
      rw [Rat.div_def, Rat.div_def]
      exact scale_lt wi
    rw [e]
    have e2 := scale_lt (x := u.sb t) (y := o.sb t) k0
    rw [Rat.mul_comm _ k, Rat.mul_comm _ k] at e2
    constructor
    · intro h; exact e2.mp (by grind)
    · intro h; have := e2.mpr h; grind
theorem pos_zero {r : Rn} (ok : r.Ok) : r.pos 0 = r.start := walk_after _ _ _ fun p hp => ok.nn hp
theorem off_zero {R : RaceM} (ok : R.Ok) {o u : Rn} (ho : o ∈ R.rs) (hu : u ∈ R.rs) {v : Rat} (v0 : 0 ≤ v) (vl : v < R.len) : Ab (R.off o u v 0) 2 := by
  unfold RaceM.off
  rw [pos_zero (ok.rn o ho), pos_zero (ok.rn u hu)]
  have h1 := ok.st o ho
  have h2 := ok.st u hu
  have l0 := ok.len
  constructor
  · refine Classical.byContradiction fun z => ?_
    have z : (o.start - u.start - v) / R.len < -2 := by grind
    rw [Rat.div_lt_iff l0] at z
    grind
  · refine Classical.byContradiction fun z => ?_
    have z : 2 < (o.start - u.start - v) / R.len := by grind
    rw [Rat.lt_div_iff l0] at z
    grind
/-- the numbers of whole lengths differ by little -/
theorem Like.off_ab {w k : Rat} {f : Rn → Rn} {R R' : RaceM} (L : Like w k f R R') (ok : R.Ok) {o u : Rn} (ho : o ∈ R.rs) (hu : u ∈ R.rs) {v t M : Rat} (v0 : 0 ≤ v) (vl : v < R.len) (t0 : 0 ≤ t) (h : Ab (R.off o u v t) M) : Ab (R'.off (f o) (f u) (k * v) (t * w)) (M + 4) := by
  obtain ⟨n, hn⟩ := L.off ok.len ho hu
  have k0 := L.k0
  have e0 := hn v 0 Rat.le_refl
  rw [Rat.zero_mul] at e0
  have b0 := off_zero ok ho hu v0 vl
  have b1 := off_zero L.ok (L.fin ho) (L.fin hu) (v := k * v) (Rat.mul_nonneg (Rat.le_of_lt k0) v0) (by
    rw [L.len]
    have := scale_lt (x := v) (y := R.len) k0
    rw [Rat.mul_comm v, Rat.mul_comm R.len] at this
    exact this.mpr vl)
  rw [e0] at b1
  rw [hn v t t0]
  constructor
  · have := h.1; have := b0.2; have := b1.1; grind
  · have := h.2; have := b0.1; have := b1.2; grind
theorem Like.rows {w k : Rat} {f : Rn → Rn} {R R' : RaceM} (L : Like w k f R R') (ok : R.Ok) {o u : Rn} (ho : o ∈ R.rs) (hu : u ∈ R.rs) {v a b : Rat} (v0 : 0 ≤ v) (vl : v < R.len) (a0 : 0 ≤ a) (ab : a ≤ b) {M : Nat} (hM : M ≤ 2 ^ 59) (h : ∀ t, a ≤ t → t ≤ b → Ab (R.off u o v t) (M : Rat)) : ∀ x ∈ R'.gRows (f o) (f u) (k * v) (a * w) (b * w), x.lo.natAbs < 2 ^ 61 ∧ x.hi.natAbs < 2 ^ 61 := by
  have w0 := L.w0
  refine rows_of_off (M := M + 4) ((scale_le w0).mpr ab) (by omega) fun t h1 h2 => ?_
  have wi : t / w * w = t := Rat.div_mul_cancel (by grind)
  rw [← wi] at h1 h2 ⊢
  have h1 := (scale_le w0).mp h1
  have h2 := (scale_le w0).mp h2
  have e : ((M + 4 : Nat) : Rat) = (M : Rat) + 4 := by push_cast; rfl
  rw [e]
  exact L.off_ab ok hu ho v0 vl (by grind) (h _ h1 h2)
/-- names of the pairs of a table differ -/
theorem pair_nd {R : RaceM} (nd : R.rs.Pairwise fun a b => a.name ≠ b.name) (a b : Rat) : (R.tbl a b).Pairwise fun x y => tKey x ≠ tKey y := by
  unfold RaceM.tbl
  have key : ∀ x y : TRow, tKey x = tKey y → x.1 = y.1 ∧ x.2.1 = y.2.1 := fun x y e => by
    have e : [(Sum.inr x.1 : Key), .inr x.2.1] = [.inr y.1, .inr y.2.1] := e
    simp only [List.cons.injEq, Sum.inr.injEq, and_true] at e
    exact e
  rw [List.pairwise_flatMap]
  refine ⟨fun o ho => ?_, nd.imp_of_mem fun {o o'} ho ho' hne x hx y hy e => ?_⟩
  · unfold RaceM.tblAt
    rw [List.pairwise_filterMap]
    refine nd.imp fun {u u'} hne x hx y hy e => ?_
    split at hx
    · split at hy
      · cases hx; cases hy
        exact hne (key _ _ e).2
      · cases hy
    · cases hx
  · have h1 := (tblAt_fst hx).1
    have h2 := (tblAt_fst hy).1
    exact hne (by rw [← h1, ← h2]; exact (key _ _ e).1)
theorem cntP_rows : ∀ l : List TRow, cntP (l.map tRow) = some (l.map fun x => (tKey x, (x.2.2 : Int)))
  | [] => rfl
  | x :: l => by simp only [List.map_cons, tRow, cntP, cntP_rows l, Option.map_some]
theorem find_key : ∀ {l : List TRow} {x : TRow}, l.Pairwise (fun x y => tKey x ≠ tKey y) → x ∈ l → ((l.map fun x => (tKey x, (x.2.2 : Int))).find? fun q => decide (q.1 = tKey x)).map (·.2) = some (x.2.2 : Int)
  | [], x, _, h => by cases h
  | y :: l, x, hp, h => by
    obtain ⟨h1, h2⟩ := List.pairwise_cons.mp hp
    rw [List.map_cons, List.find?_cons]
    by_cases c : tKey y = tKey x
    · have : y = x := by
        rcases List.mem_cons.mp h with e | h
        · exact e.symm
        · exact absurd c (h1 x h)
      subst this
      simp
    · rw [decide_eq_false c]
      rcases List.mem_cons.mp h with e | h
      · subst e; exact absurd rfl c
      · exact find_key h2 h
theorem sameT_perm {l m : List TRow} (p : l.Perm m) (nd : m.Pairwise fun x y => tKey x ≠ tKey y) : sameT (l.map tRow) (m.map tRow) := by
  refine ⟨_, _, cntP_rows l, cntP_rows m, by rw [List.length_map, List.length_map]; exact p.length_eq, fun q hq => ?_⟩
  obtain ⟨x, hx, rfl⟩ := List.mem_map.mp hq
  exact find_key nd (p.mem_iff.mp hx)
theorem kNeT {l m : List TRow} (p : l.Perm m) (nd : m.Pairwise fun x y => tKey x ≠ tKey y) {Q : PV → Prop} (hq : Q (.bl false)) : kEqT true (tblPV l) (tblPV m) Q := ⟨sameT_perm p nd, hq⟩
theorem rem_scale {k x l : Rat} (k0 : 0 < k) (l0 : 0 < l) : rem (k * x) (k * l) = k * rem x l := by
  have kl : 0 < k * l := Rat.mul_pos k0 l0
  have h0 := rem_nonneg (a := x) l0
  have h1 := rem_lt (a := x) l0
  have e := rem_eq x l
  refine rem_unique (n := (x / l).floor) kl (Rat.mul_nonneg (Rat.le_of_lt k0) h0) ?_ ?_
  · have := scale_lt (x := rem x l) (y := l) k0
    rw [Rat.mul_comm _ k, Rat.mul_comm l k] at this
    exact this.mpr h1
  · have : k * x = k * (rem x l + l * ((x / l).floor : Rat)) := by rw [← e]
    grind
/-- standings as data -/
theorem rows_told {R : RaceM} (sn : ∀ r ∈ R.rs, PyData.strOk r.name = true) (t : Rat) : ∀ l : List Rat, ∃ m : List (Rat × List Tx), l.map (groupP R t) = m.map (Told.rat.pair Told.str.list).pv
  | [] => ⟨[], rfl⟩
  | p :: l => by
    obtain ⟨m, e⟩ := rows_told sn t l
    obtain ⟨n, e2⟩ := names_tx (R.rs.filter fun r => decide (R.place r t = p)) fun r hr => sn r (List.mem_filter.mp hr).1
    refine ⟨(p, n) :: m, ?_⟩
    rw [List.map_cons, List.map_cons, e]
    congr 1
    show PV.tup [rat p, .lst _] = PV.tup [rat p, .lst _]
    rw [e2]
end G


/-! ## K82b -/
/-! The law k82: scaled races. -/
namespace G
open PySem PySem.Spec PyProof.Rows L2 L3 MR
def longR (R : RaceM) (k : Rat) : RaceM := ⟨R.len * k, R.rs.map (mkRn (R.len * k) (fun r => r.start * k) fun p => (p.1, p.2 * k))⟩
def slowR (R : RaceM) (w : Rat) : RaceM := ⟨R.len, R.rs.map (mkRn R.len Rn.start fun p => (p.1 * w, p.2 / w))⟩
def turnR (R : RaceM) (d : Rat) : RaceM := ⟨R.len, R.rs.map (mkRn R.len (fun r => r.start + d) id)⟩
def scR (R : RaceM) (k w : Rat) : RaceM := slowR (longR R k) w
def scF (R : RaceM) (k w : Rat) (r : Rn) : Rn := mkRn (R.len * k) Rn.start (fun p => (p.1 * w, p.2 / w)) (mkRn (R.len * k) (fun r => r.start * k) (fun p => (p.1, p.2 * k)) r)
def tuF (R : RaceM) (k w d : Rat) (r : Rn) : Rn := mkRn (R.len * k) (fun r => r.start + d) id (scF R k w r)
/-- factors that are drawn -/
structure Fac (k w : Rat) : Prop where
  k0 : 0 < k
  w0 : 0 < w
  kz : sz k ≤ 97
  wz : sz w ≤ 100
  wd : Dv 7 w
section
variable {R : RaceM} {m : Nat} {k w : Rat}
structure Sc (m : Nat) (R : RaceM) (k w : Rat) : Prop where
  m1 : 1 ≤ m
  m4 : m ≤ 4
  D : DrawnR (abcd.take m) R
  F : Fac k w
theorem Sc.nm (S : Sc m R k w) : Named R := ⟨m, S.m1, S.m4, S.D.nm⟩
theorem Sc.st (S : Sc m R k w) {r : Rn} (hr : r ∈ R.rs) : 0 ≤ r.start * k ∧ r.start * k < R.len * k := by
  have h := S.D.ok.st r hr
  exact ⟨Rat.mul_nonneg h.1 (Rat.le_of_lt S.F.k0), (scale_lt S.F.k0).mpr h.2⟩
theorem Sc.aff (S : Sc m R k w) {r : Rn} (hr : r ∈ R.rs) : RnAff w k 0 0 r (scF R k w r) := by
  have h := S.st hr
  refine ⟨rfl, ?_, ?_⟩
  · show rem (rem (r.start * k) (R.len * k)) (R.len * k) = k * r.start + 0
    rw [rem_self h.1 h.2, rem_self h.1 h.2]; grind
  · show (r.pieces.map _).map _ = _
    rw [List.map_map]
    unfold affP
    refine List.map_congr_left fun p _ => ?_
    show (p.1 * w, p.2 * k / w) = (p.1 * w, (k * p.2 + 0) / w)
    have : p.2 * k = k * p.2 + 0 := by grind
    rw [this]
theorem Sc.msz (S : Sc m R k w) : Msz R 7 := ⟨by have := S.D.lz; omega, fun r hr => (S.D.sz7 hr).1, fun r hr => (S.D.sz7 hr).2⟩
theorem Sc.long_ok (S : Sc m R k w) : MakeOk R (R.len * k) (fun r => r.start * k) (fun p => (p.1, p.2 * k)) := by
  have ms := S.msz
  have kz := S.F.kz
  exact ⟨S.nm, S.D.ok, Rat.mul_pos S.D.ok.len S.F.k0, by have := ms.len; have := sz_mul R.len k; omega, fun r hr => by have := ms.st r hr; have := sz_mul r.start k; omega, fun r hr p hp => by have := (ms.pc r hr p hp).1; show sz p.1 ≤ 1900; omega, fun p h => h, fun p q h => h⟩
theorem Sc.long_msz (S : Sc m R k w) : Msz (longR R k) 104 := by
  have ms := S.msz
  have kz := S.F.kz
  refine ⟨by have := ms.len; have := sz_mul R.len k; show sz (R.len * k) ≤ 104; omega, fun r hr => ?_, fun r hr p hp => ?_⟩
  · obtain ⟨x, hx, rfl⟩ := List.mem_map.mp hr
    show sz (rem (x.start * k) (R.len * k)) ≤ 104
    rw [rem_self (S.st hx).1 (S.st hx).2]
    have := ms.st x hx; have := sz_mul x.start k; omega
  · obtain ⟨x, hx, rfl⟩ := List.mem_map.mp hr
    obtain ⟨q, hq, rfl⟩ := List.mem_map.mp hp
    have := ms.pc x hx q hq
    have := sz_mul q.2 k
    exact ⟨by show sz q.1 ≤ 104; omega, by show sz (q.2 * k) ≤ 104; omega⟩
theorem Sc.long_nm (S : Sc m R k w) : Named (longR R k) := S.nm.map fun _ => rfl
theorem Sc.sc_rs : (scR R k w).rs = R.rs.map (scF R k w) := by
  show (R.rs.map _).map _ = _
  rw [List.map_map]; rfl
theorem Sc.slow_ok (S : Sc m R k w) : MakeOk (longR R k) (R.len * k) Rn.start (fun p => (p.1 * w, p.2 / w)) := by
  have ms := S.long_msz
  have wz := S.F.wz
  exact ⟨S.long_nm, S.long_ok.made, Rat.mul_pos S.D.ok.len S.F.k0, by have := ms.len; show sz (longR R k).len ≤ 1900; omega, fun r hr => by have := ms.st r hr; omega, fun r hr p hp => by have := (ms.pc r hr p hp).1; have := sz_mul p.1 w; show sz (p.1 * w) ≤ 1900; omega, fun p h => by show p.1 * w = 0; rw [h, Rat.zero_mul], fun p q h => (scale_lt S.F.w0).mpr h⟩
theorem Sc.like (S : Sc m R k w) : Like w k (scF R k w) R (scR R k w) :=
  like_of (c := 0) (d := 0) S.D.ok S.F.w0 S.F.k0 (Rat.mul_comm _ _) Sc.sc_rs S.slow_ok.made fun r hr => ⟨0, by
    have e : (0 : Rat) - (scR R k w).len * ((0 : Int) : Rat) = 0 := by
      have : ((0 : Int) : Rat) = 0 := rfl
      grind
    rw [e]; exact S.aff hr⟩
theorem Sc.sc_nm (S : Sc m R k w) : Named (scR R k w) := S.long_nm.map fun _ => rfl
theorem Sc.sc_msz (S : Sc m R k w) : Msz (scR R k w) 208 := by
  have ms := S.long_msz
  have wz := S.F.wz
  have ok := S.long_ok.made
  refine ⟨by have := ms.len; show sz (longR R k).len ≤ 208; omega, fun r hr => ?_, fun r hr p hp => ?_⟩
  · obtain ⟨x, hx, rfl⟩ := List.mem_map.mp hr
    show sz (rem x.start (longR R k).len) ≤ 208
    have h := ok.st x hx
    have e : rem x.start (longR R k).len = x.start := rem_self h.1 h.2
    rw [e]
    have := ms.st x hx; omega
  · obtain ⟨x, hx, rfl⟩ := List.mem_map.mp hr
    obtain ⟨q, hq, rfl⟩ := List.mem_map.mp hp
    have h := ms.pc x hx q hq
    have h1 := sz_mul q.1 w
    have h2 := sz_div q.2 (b := w) (by have := S.F.w0; grind)
    exact ⟨by show sz (q.1 * w) ≤ 208; omega, by show sz (q.2 / w) ≤ 208; omega⟩
theorem Sc.pos_small (S : Sc m R k w) {r : Rn} (hr : r ∈ R.rs) {t : Rat} (tz : sz t ≤ 7) : sz (r.pos t) ≤ 103 := by
  obtain ⟨h1, h2⟩ := S.D.sz7 hr
  have h3 := walk_sz r.pieces t r.start h2
  have h4 : r.pieces.length * (3 * 7 + sz t + 4) ≤ 3 * 32 := Nat.mul_le_mul (S.D.l r hr) (by omega)
  show sz (walkP r.pieces t r.start) ≤ 103
  omega
theorem Sc.sc_pos (S : Sc m R k w) {r : Rn} (hr : r ∈ R.rs) {t : Rat} (t0 : 0 ≤ t) : (scF R k w r).pos (t * w) = k * r.pos t := by
  rw [(S.aff hr).pos (S.D.ok.rn r hr) S.F.w0 t0]; grind
theorem Sc.sc_place (S : Sc m R k w) {r : Rn} (hr : r ∈ R.rs) {t : Rat} (t0 : 0 ≤ t) : (scR R k w).place (scF R k w r) (t * w) = k * R.place r t := by
  unfold RaceM.place
  rw [S.sc_pos hr t0, S.like.len, rem_scale S.F.k0 S.D.ok.len]
theorem Sc.sc_at (S : Sc m R k w) {t : Rat} (t0 : 0 ≤ t) (tz : sz t ≤ 7) : (scR R k w).At (t * w) := by
  have pe := P0_eq
  have kz := S.F.kz
  have wz := S.F.wz
  have h := sz_mul t w
  refine ⟨Rat.mul_nonneg t0 (Rat.le_of_lt S.F.w0), by omega, fun r hr => ?_, fun r hr => ?_⟩
  · rw [Sc.sc_rs] at hr
    obtain ⟨x, hx, rfl⟩ := List.mem_map.mp hr
    rw [S.sc_pos hx t0]
    have := S.pos_small hx tz
    have := sz_mul k (x.pos t)
    omega
  · rw [Sc.sc_rs] at hr
    obtain ⟨x, hx, rfl⟩ := List.mem_map.mp hr
    rw [S.sc_place hx t0]
    have h1 := S.pos_small hx tz
    have h2 := rem_sz (x.pos t) S.D.ok.len
    have h3 := S.D.lz
    have h4 := sz_mul k (R.place x t)
    unfold RaceM.place at h4 ⊢
    omega
theorem Sc.ch (S : Sc m R k w) {r : Rn} (hr : r ∈ R.rs) {p : Rat × Rat} (hp : p ∈ r.pieces) : 0 ≤ p.1 ∧ sz p.1 ≤ 7 := ⟨(S.D.ok.rn r hr).nn hp, ((S.D.sz7 hr).2 p hp).1⟩
theorem Sc.sc_g (S : Sc m R k w) : (scR R k w).G := by
  have pe := P0_eq
  have ms := S.sc_msz
  refine ⟨S.slow_ok.made, by have := ms.len; omega, fun r hr => by have := ms.st r hr; omega, fun r hr x hx => by have := (ms.pc r hr x hx).2; omega, fun r hr x hx => ?_, 42, by decide, by decide, fun r hr x hx => ?_⟩
  · rw [Sc.sc_rs] at hr
    obtain ⟨y, hy, rfl⟩ := List.mem_map.mp hr
    rw [(S.aff hy).pieces] at hx
    obtain ⟨p, hp, rfl⟩ := List.mem_map.mp hx
    exact S.sc_at (S.ch hy hp).1 (S.ch hy hp).2
  · rw [Sc.sc_rs] at hr
    obtain ⟨y, hy, rfl⟩ := List.mem_map.mp hr
    rw [(S.aff hy).pieces] at hx
    obtain ⟨p, hp, rfl⟩ := List.mem_map.mp hx
    exact ((S.D.pc y hy p hp).2.1.mul S.F.wd).den (by decide)
/-! turned -/
variable {d : Rat}
theorem Sc.tu_rs : (turnR (scR R k w) d).rs = R.rs.map (tuF R k w d) := by
  show (scR R k w).rs.map _ = _
  rw [Sc.sc_rs, List.map_map]; rfl
theorem Sc.turn_ok (S : Sc m R k w) (dz : sz d ≤ 12) : MakeOk (scR R k w) (R.len * k) (fun r => r.start + d) id := by
  have ms := S.sc_msz
  exact ⟨S.sc_nm, S.slow_ok.made, Rat.mul_pos S.D.ok.len S.F.k0, by have := ms.len; show sz (scR R k w).len ≤ 1900; omega, fun r hr => by have := ms.st r hr; have := sz_add r.start d; omega, fun r hr p hp => by have := (ms.pc r hr p hp).1; show sz p.1 ≤ 1900; omega, fun p h => h, fun p q h => h⟩
theorem Sc.tu_aff (S : Sc m R k w) {r : Rn} (hr : r ∈ R.rs) : ∃ n : Int, RnAff w k 0 (d - (turnR (scR R k w) d).len * (n : Rat)) r (tuF R k w d r) := by
  have a := S.aff hr
  have e := rem_eq ((scF R k w r).start + d) (R.len * k)
  refine ⟨(((scF R k w r).start + d) / (R.len * k)).floor, rfl, ?_, ?_⟩
  · show rem ((scF R k w r).start + d) (R.len * k) = _
    rw [a.start] at e ⊢
    show _ = k * r.start + (d - R.len * k * _)
    grind
  · show (scF R k w r).pieces.map id = _
    rw [List.map_id]; exact a.pieces
theorem Sc.tu_like (S : Sc m R k w) (dz : sz d ≤ 12) : Like w k (tuF R k w d) R (turnR (scR R k w) d) :=
  like_of (c := 0) (d := d) S.D.ok S.F.w0 S.F.k0 (Rat.mul_comm _ _) Sc.tu_rs (S.turn_ok dz).made fun r hr => S.tu_aff hr
theorem Sc.sc_start (S : Sc m R k w) {r : Rn} (hr : r ∈ R.rs) : sz (scF R k w r).start ≤ 104 := by
  have a := S.aff hr
  rw [a.start]
  have e : k * r.start + 0 = k * r.start := by grind
  rw [e]
  have := sz_mul k r.start
  have := (S.D.sz7 hr).1
  have := S.F.kz
  omega
theorem Sc.tu_start (S : Sc m R k w) (dz : sz d ≤ 12) {r : Rn} (hr : r ∈ R.rs) : sz (tuF R k w d r).start ≤ 219 := by
  show sz (rem ((scF R k w r).start + d) (R.len * k)) ≤ 219
  have h1 := S.sc_start hr
  have h2 := sz_add (scF R k w r).start d
  have h3 := rem_sz ((scF R k w r).start + d) (b := R.len * k) (Rat.mul_pos S.D.ok.len S.F.k0)
  have h4 := sz_mul R.len k
  have h5 := S.D.lz
  have h6 := S.F.kz
  omega
theorem Sc.tu_pos (S : Sc m R k w) {r : Rn} (hr : r ∈ R.rs) {t : Rat} (t0 : 0 ≤ t) : (tuF R k w d r).pos (t * w) = k * r.pos t + ((tuF R k w d r).start - (scF R k w r).start) := by
  obtain ⟨n, a⟩ := S.tu_aff (d := d) hr
  rw [a.pos (S.D.ok.rn r hr) S.F.w0 t0, a.start, (S.aff hr).start]
  grind
theorem Sc.tu_at (S : Sc m R k w) (dz : sz d ≤ 12) {t : Rat} (t0 : 0 ≤ t) (tz : sz t ≤ 7) : (turnR (scR R k w) d).At (t * w) := by
  have pe := P0_eq
  have kz := S.F.kz
  have wz := S.F.wz
  have h := sz_mul t w
  have hp : ∀ r ∈ (turnR (scR R k w) d).rs, sz (r.pos (t * w)) ≤ 525 := fun r hr => by
    rw [Sc.tu_rs] at hr
    obtain ⟨x, hx, rfl⟩ := List.mem_map.mp hr
    rw [S.tu_pos hx t0]
    have h1 := S.pos_small hx tz
    have h2 := sz_mul k (x.pos t)
    have h3 := S.tu_start dz hx
    have h4 := S.sc_start hx
    have h5 := sz_sub (tuF R k w d x).start (scF R k w x).start
    have h6 := sz_add (k * x.pos t) ((tuF R k w d x).start - (scF R k w x).start)
    omega
  refine ⟨Rat.mul_nonneg t0 (Rat.le_of_lt S.F.w0), by omega, fun r hr => by have := hp r hr; omega, fun r hr => ?_⟩
  have h1 := hp r hr
  have h2 := rem_sz (r.pos (t * w)) (b := R.len * k) (Rat.mul_pos S.D.ok.len S.F.k0)
  have h3 := sz_mul R.len k
  have h4 := S.D.lz
  show sz (rem (r.pos (t * w)) (R.len * k)) ≤ P0
  omega
theorem Sc.tu_g (S : Sc m R k w) (dz : sz d ≤ 12) : (turnR (scR R k w) d).G := by
  have pe := P0_eq
  have ms := S.sc_msz
  refine ⟨(S.turn_ok dz).made, by have := ms.len; show sz (scR R k w).len ≤ P0; omega, fun r hr => ?_, fun r hr x hx => ?_, fun r hr x hx => ?_, 42, by decide, by decide, fun r hr x hx => ?_⟩ <;> rw [Sc.tu_rs] at hr <;> obtain ⟨y, hy, rfl⟩ := List.mem_map.mp hr
  · have := S.tu_start (d := d) dz hy
    omega
  all_goals
    obtain ⟨n, a⟩ := S.tu_aff (d := d) hy
    have hx' := hx
    rw [a.pieces] at hx
    obtain ⟨p, hp, rfl⟩ := List.mem_map.mp hx
  · have : (p.1 * w, (k * p.2 + 0) / w) ∈ (scF R k w y).pieces := by rw [(S.aff hy).pieces]; exact List.mem_map.mpr ⟨p, hp, rfl⟩
    have := (ms.pc (scF R k w y) (by rw [Sc.sc_rs]; exact List.mem_map.mpr ⟨y, hy, rfl⟩) _ this).2
    omega
  · exact S.tu_at dz (S.ch hy hp).1 (S.ch hy hp).2
  · exact ((S.D.pc y hy p hp).2.1.mul S.F.wd).den (by decide)
end
end G


/-! ## K82c -/
/-! The law k82: moments. -/
namespace G
open PySem PySem.Spec PyProof.Rows L2 L3 MR
section
variable {R : RaceM} {m : Nat} {k w : Rat}
theorem Sc.places (S : Sc m R k w) {t : Rat} (t0 : 0 ≤ t) : (scR R k w).places (t * w) = (R.places t).map fun p => p * k := by
  unfold RaceM.places
  refine (rise_eq ?_ fun x => ?_).symm
  · rw [List.pairwise_map]
    exact (riseL_pw _).imp fun h => (scale_lt S.F.k0).mpr h
  · rw [List.mem_map, List.mem_map, Sc.sc_rs]
    constructor
    · rintro ⟨p, hp, rfl⟩
      obtain ⟨r, hr, rfl⟩ := List.mem_map.mp (riseL_mem.mp hp)
      exact ⟨scF R k w r, List.mem_map.mpr ⟨r, hr, rfl⟩, by rw [S.sc_place hr t0, Rat.mul_comm]⟩
    · rintro ⟨x, hx, rfl⟩
      obtain ⟨r, hr, rfl⟩ := List.mem_map.mp hx
      exact ⟨R.place r t, riseL_mem.mpr (List.mem_map.mpr ⟨r, hr, rfl⟩), by rw [S.sc_place hr t0, Rat.mul_comm]⟩
def rowK (R : RaceM) (k t p : Rat) : PV := .tup [rat (p * k), .lst ((R.rs.filter fun r => decide (R.place r t = p)).map fun r => .str r.name)]
theorem Sc.group (S : Sc m R k w) {t : Rat} (t0 : 0 ≤ t) (p : Rat) : groupP (scR R k w) (t * w) (p * k) = rowK R k t p := by
  unfold groupP rowK
  rw [Sc.sc_rs, List.filter_map, List.map_map]
  have e : (R.rs.filter ((fun r => decide ((scR R k w).place r (t * w) = p * k)) ∘ scF R k w)) = R.rs.filter fun r => decide (R.place r t = p) := by
    refine List.filter_congr fun r hr => ?_
    simp only [Function.comp]
    rw [S.sc_place hr t0]
    have k1 : k ≠ 0 := by have := S.F.k0; grind
    rw [Bool.eq_iff_iff]
    simp only [decide_eq_true_eq]
    constructor
    · intro h
      have : (R.place r t) * k = p * k := by rw [← h, Rat.mul_comm]
      have h2 : (R.place r t) * k / k = p * k / k := by rw [this]
      rw [Rat.mul_div_cancel k1, Rat.mul_div_cancel k1] at h2
      exact h2
    · intro h; rw [h, Rat.mul_comm]
  rw [e]
  rfl
theorem Sc.rows (S : Sc m R k w) {t : Rat} (t0 : 0 ≤ t) : ((scR R k w).places (t * w)).map (groupP (scR R k w) (t * w)) = (R.places t).map (rowK R k t) := by
  rw [S.places t0, List.map_map]
  exact List.map_congr_left fun p _ => S.group t0 p
theorem Sc.laps (S : Sc m R k w) {r : Rn} (hr : r ∈ R.rs) {t : Rat} (t0 : 0 ≤ t) : (scR R k w).laps (scF R k w r) (t * w) = R.laps r t := by
  unfold RaceM.laps
  rw [S.sc_pos hr t0, S.like.len]
  have k1 : k ≠ 0 := by have := S.F.k0; grind
  have l1 : R.len ≠ 0 := by have := S.D.ok.len; grind
  have : k * r.pos t / (k * R.len) = r.pos t / R.len := by
    have h1 : k * k⁻¹ = 1 := Rat.mul_inv_cancel k k1
    rw [Rat.div_def, Rat.mul_comm k R.len, Rat.inv_mul_rev, Rat.div_def]
    have : k * r.pos t * (k⁻¹ * R.len⁻¹) = r.pos t * R.len⁻¹ * (k * k⁻¹) := by grind
    rw [this, h1, Rat.mul_one]
  rw [this]
theorem Sc.gap (S : Sc m R k w) {f s : Rn} (hf : f ∈ R.rs) (hs : s ∈ R.rs) {t : Rat} (t0 : 0 ≤ t) : (scR R k w).gap (scF R k w f) (scF R k w s) (t * w) = R.gap f s t * k := by
  unfold RaceM.gap
  rw [S.sc_pos hf t0, S.sc_pos hs t0, S.like.len]
  have : k * s.pos t - k * f.pos t = k * (s.pos t - f.pos t) := by grind
  rw [this, rem_scale S.F.k0 S.D.ok.len, Rat.mul_comm]
end
def Ph_law_check : Con := fun as Q => ∃ (R : RaceM) (m : Nat) (k w : Rat) (kv wv : PV) (M : List PV), as = [R.pv, (scR R k w).pv, .lst M, kv, wv] ∧ Sc m R k w ∧ 2 ≤ m ∧ NumP kv k ∧ NumP wv w ∧ (∀ p ∈ M, ∃ t, NumP p t ∧ 0 ≤ t ∧ sz t ≤ 7) ∧ Q (.bl true)
def te_law_check_1 : PTE := pTup (pCons (pCall Ph_times (pCons (pVar 8) (pCons (pVar 3) (pNil)))) (pCons (pVar 9) (pNil)))
def tb_law_check_2 : PTS := pIfS (pTst (pBin kNe (pMeth "Race" "laps" Ph_Race_laps (pVar 1) (pCons (pVar 7) (pCons (pCall Ph_times (pCons (pVar 5) (pCons (pVar 4) (pNil)))) (pNil)))) (pMeth "Race" "laps" Ph_Race_laps (pVar 0) (pCons (pVar 7) (pCons (pVar 5) (pNil)))))) (pRet (pC (.bl false))) (pNext)
def tb_law_check_3 : PTS := pSeq (pAsg (pLc (pIL (pCall Ph_standing (pCons (pVar 0) (pCons (pVar 5) (pNil))))) (gTupP 2 (gConsP (gNm 8) (gConsP (gNm 9) (gNilP)))) pTsYes te_law_check_1 [8, 9]) (gNm 6)) (pSeq (pIfS (pTst (pBin kNe (pCall Ph_standing (pCons (pVar 1) (pCons (pCall Ph_times (pCons (pVar 5) (pCons (pVar 4) (pNil)))) (pNil)))) (pVar 6))) (pRet (pC (.bl false))) (pNext)) (pSeq (pIfS (pTst (pBin kNe (pCall Ph_gap (pCons (pVar 1) (pCons (pC (.str "a")) (pCons (pC (.str "b")) (pCons (pCall Ph_times (pCons (pVar 5) (pCons (pVar 4) (pNil)))) (pNil)))))) (pCall Ph_times (pCons (pCall Ph_gap (pCons (pVar 0) (pCons (pC (.str "a")) (pCons (pC (.str "b")) (pCons (pVar 5) (pNil)))))) (pCons (pVar 3) (pNil)))))) (pRet (pC (.bl false))) (pNext)) (pFor (pIL (pMeth "Race" "names" Ph_Race_names (pVar 0) pNil)) (gNm 7) tb_law_check_2)))
def t_law_check : PTS := pSeq (pFor (pIL (pVar 2)) (gNm 5) tb_law_check_3) (pRet (pC (.bl true)))
abbrev N_law_check : List Str := ["race", "other", "moments", "factor", "slow", "time", "rows", "name", "place", "names"]
theorem st_law_check (a0 a1 a2 a3 a4 : PV) : startP N_law_check [a0, a1, a2, a3, a4] = [.val a0, .val a1, .val a2, .val a3, .val a4, .no, .no, .no, .no, .no] := rfl

theorem find_name {R : RaceM} {m : Nat} (D : DrawnR (abcd.take m) R) {n : Str} (h : n ∈ abcd.take m) : ∃ r ∈ R.rs, r.name = n := by
  rw [← D.nm] at h
  obtain ⟨r, hr, e⟩ := List.mem_map.mp h
  exact ⟨r, hr, e⟩
theorem ab_in {m : Nat} (h : 2 ≤ m) : ("a" : Str) ∈ abcd.take m ∧ ("b" : Str) ∈ abcd.take m := by
  obtain ⟨k, rfl⟩ : ∃ k, m = k + 2 := ⟨m - 2, by omega⟩
  simp [abcd]
theorem hp_law_check : ∀ as Q, Ph_law_check as Q → as.length = 5 ∧ t_law_check ⟨fun _ => Q .non, Q, fun _ => False, fun _ => False⟩ (startP N_law_check as) := by
  rintro as Q ⟨R, m, k, w, kv, wv, M, rfl, S, m2, hk, hw, hM, hq⟩
  refine ⟨rfl, ?_⟩
  have pe := P0_eq
  have g := S.D.g
  have g' := S.sc_g
  have hn := S.nm.len
  have hn' := S.sc_nm.len
  have kz := S.F.kz
  have wz := S.F.wz
  obtain ⟨ra, hra, ea⟩ := find_name S.D (ab_in m2).1
  obtain ⟨rb, hrb, eb⟩ := find_name S.D (ab_in m2).2
  simp only [st_law_check, t_law_check, pSeq, pNext, pIfS, pRet, pRetN, pAsg, pDrop, pPar, pAug, gNm, gTupP, gConsP, gNilP, pVar, pC, pBin, pChain, pUn, kNeg, pTst, pTru, pAndT, pOrT, pNotT, pAndV, pOrV, pNotV, pIf, pCons, pNil, pTup, pLst, pStar, pCallB, pCall, pMeth, pProp, pFld, pFrz, pIL, pIT, pZip, pEnum, pR1, pR2, pR3, pSlL, pSlT, pPart, pNoPart, pLc, pLc2, pDc, pSortSc, pFor, pNewL, pNewD, pApp, pExt, pDPut, pSetL, pOwnD, pIsN, pNotN, pListVals, pListValsT, pIVals, pIKeys, pIItems, onDic, pIStr, pDGet1, pTsYes, pParL, pParR, pCel, pCelSet, pNewCel, pNeverS, wipeP, List.set_cons_zero, List.set_cons_succ, List.getElem?_cons_zero, List.getElem?_cons_succ, List.length_cons, List.length_nil]
  have eM : M = M.map id := (List.map_id M).symm
  rw [eM]
  refine forL_of id (fun rest ρ => (∀ p ∈ rest, p ∈ M) ∧ ∃ s5 s6 s7 s8 s9, ρ = [.val R.pv, .val (scR R k w).pv, .val (.lst (M.map id)), .val kv, .val wv, s5, s6, s7, s8, s9]) ?_ ?_ M _ ⟨fun _ h => h, _, _, _, _, _, rfl⟩
  · rintro p rest ρ ⟨hr, s5, s6, s7, s8, s9, rfl⟩ N hN
    obtain ⟨t, ht, t0, tz⟩ := hM p (hr p (List.mem_cons_self ..))
    have a := S.D.at t0 (by omega)
    have a' := S.sc_at t0 tz
    simp only [tb_law_check_3, pSeq, pNext, pIfS, pRet, pRetN, pAsg, pDrop, pPar, pAug, gNm, gTupP, gConsP, gNilP, pVar, pC, pBin, pChain, pUn, kNeg, pTst, pTru, pAndT, pOrT, pNotT, pAndV, pOrV, pNotV, pIf, pCons, pNil, pTup, pLst, pStar, pCallB, pCall, pMeth, pProp, pFld, pFrz, pIL, pIT, pZip, pEnum, pR1, pR2, pR3, pSlL, pSlT, pPart, pNoPart, pLc, pLc2, pDc, pSortSc, pFor, pNewL, pNewD, pApp, pExt, pDPut, pSetL, pOwnD, pIsN, pNotN, pListVals, pListValsT, pIVals, pIKeys, pIItems, onDic, pIStr, pDGet1, pTsYes, pParL, pParR, pCel, pCelSet, pNewCel, pNeverS, wipeP, List.set_cons_zero, List.set_cons_succ, List.getElem?_cons_zero, List.getElem?_cons_succ, List.length_cons, List.length_nil, id]
    refine ⟨R, p, t, rfl, g, by omega, ht, a, ?_⟩
    have pl4 : (R.places t).length ≤ 4 := by
      have := rise_len (R.rs.map fun r => R.place r t)
      rw [List.length_map] at this
      unfold RaceM.places
      omega
    refine lcL_map (groupP R t) (rowK R k t) (R.places t) (fun q hq T h => ?_) (size_le (by omega)) ?_
    · have zq : sz q ≤ P0 := by
        unfold RaceM.places at hq
        obtain ⟨r, hr, rfl⟩ := List.mem_map.mp (riseL_mem.mp hq)
        exact a.q r hr
      simp only [te_law_check_1, groupP, pSeq, pNext, pIfS, pRet, pRetN, pAsg, pDrop, pPar, pAug, gNm, gTupP, gConsP, gNilP, pVar, pC, pBin, pChain, pUn, kNeg, pTst, pTru, pAndT, pOrT, pNotT, pAndV, pOrV, pNotV, pIf, pCons, pNil, pTup, pLst, pStar, pCallB, pCall, pMeth, pProp, pFld, pFrz, pIL, pIT, pZip, pEnum, pR1, pR2, pR3, pSlL, pSlT, pPart, pNoPart, pLc, pLc2, pDc, pSortSc, pFor, pNewL, pNewD, pApp, pExt, pDPut, pSetL, pOwnD, pIsN, pNotN, pListVals, pListValsT, pIVals, pIKeys, pIItems, onDic, pIStr, pDGet1, pTsYes, pParL, pParR, pCel, pCelSet, pNewCel, pNeverS, wipeP, List.set_cons_zero, List.set_cons_succ, List.getElem?_cons_zero, List.getElem?_cons_succ, List.length_cons, List.length_nil]
      exact ⟨by trivial, _, _, q, k, rfl, .rat _, hk, by omega, size_le (by decide), h⟩
    refine ⟨_, _, t, w, rfl, ht, hw, by omega, scR R k w, _, t * w, rfl, g', by omega, .rat _, a', ?_⟩
    rw [S.rows t0]
    obtain ⟨M', eM'⟩ : ∃ M' : List (Rat × List Tx), (R.places t).map (rowK R k t) = M'.map (Told.rat.pair Told.str.list).pv := by
      rw [← S.rows t0]
      exact rows_told S.sc_nm.str _ _
    rw [eM']
    refine kNe_self (Told.rat.pair Told.str.list).list (by decide) M' ?_
    have ga := S.like.nm ra hra
    have gb := S.like.nm rb hrb
    refine ⟨_, _, t, w, rfl, ht, hw, by omega, scR R k w, scF R k w ra, scF R k w rb, _, t * w, by rw [ga, gb, ea, eb], g', S.like.fin hra, S.like.fin hrb, .rat _, a', R, ra, rb, p, t, by rw [ea, eb], g, hra, hrb, ht, a, _, _, _, _, rfl, .rat _, hk, by have := S.D.gap_sz hra hrb (t := t) (by omega); omega, ?_⟩
    rw [S.gap hra hrb t0]
    refine kNe_self Told.rat (by decide) (R.gap ra rb t * k) ?_
    refine ⟨by trivial, by rfl, R, rfl, ?_⟩
    refine forL_of (fun r : Rn => PV.str r.name) (fun rest ρ => (∀ r ∈ rest, r ∈ R.rs) ∧ ∃ s6 s7 s8 s9, ρ = [.val R.pv, .val (scR R k w).pv, .val (.lst (M.map id)), .val kv, .val wv, .val p, s6, s7, s8, s9]) ?_ ?_ R.rs _ ⟨fun _ h => h, _, _, _, _, rfl⟩
    · rintro r rest2 ρ ⟨hr2, s6, s7, s8, s9, rfl⟩ N2 hN2
      have hr := hr2 r (List.mem_cons_self ..)
      have gr := S.like.nm r hr
      simp only [tb_law_check_2, pSeq, pNext, pIfS, pRet, pRetN, pAsg, pDrop, pPar, pAug, gNm, gTupP, gConsP, gNilP, pVar, pC, pBin, pChain, pUn, kNeg, pTst, pTru, pAndT, pOrT, pNotT, pAndV, pOrV, pNotV, pIf, pCons, pNil, pTup, pLst, pStar, pCallB, pCall, pMeth, pProp, pFld, pFrz, pIL, pIT, pZip, pEnum, pR1, pR2, pR3, pSlL, pSlT, pPart, pNoPart, pLc, pLc2, pDc, pSortSc, pFor, pNewL, pNewD, pApp, pExt, pDPut, pSetL, pOwnD, pIsN, pNotN, pListVals, pListValsT, pIVals, pIKeys, pIItems, onDic, pIStr, pDGet1, pTsYes, pParL, pParR, pCel, pCelSet, pNewCel, pNeverS, wipeP, List.set_cons_zero, List.set_cons_succ, List.getElem?_cons_zero, List.getElem?_cons_succ, List.length_cons, List.length_nil]
      refine ⟨by trivial, by rfl, _, _, t, w, rfl, ht, hw, by omega, scR R k w, scF R k w r, _, t * w, by rw [gr]; rfl, g', S.like.fin hr, .rat _, a', by trivial, by rfl, R, r, p, t, rfl, g, hr, ht, a, ?_⟩
      rw [S.laps hr t0]
      refine kNe_self Told.int (by decide) (R.laps r t) ?_
      exact hN2 _ ⟨fun y hy => hr2 y (List.mem_cons_of_mem _ hy), _, _, _, _, rfl⟩
    · rintro ρ ⟨_, s6, s7, s8, s9, rfl⟩
      exact hN _ ⟨fun y hy => hr y (List.mem_cons_of_mem _ hy), _, _, _, _, _, rfl⟩
  · rintro ρ ⟨_, s5, s6, s7, s8, s9, rfl⟩
    exact hq
end G


/-! ## K82d -/
/-! The law k82: the law. -/
namespace G
open PySem PySem.Spec PyProof.Rows L2 L3 MR
def Ph_law : Con := fun as Q => ∃ ns : List Int, as = [.frz (ns.map PV.int)] ∧ ns.length ≤ 63 ∧ Q (.bl true)
def te_law_1 : PTE := pCall Ph_times (pCons (pVar 15) (pCons (pVar 10) (pNil)))
def tb_law_2 : PTS := pSeq (pAsg (pCall Ph_law_pool (pCons (pVar 0) (pCons (pVar 1) (pNil)))) (gNm 2)) (pSeq (pAsg (pCall Ph_law_race (pCons (pVar 2) (pCons (pBin kAddI (pC (.int 2)) (pCall Ph_law_draw (pCons (pVar 2) (pCons (pC (.int 2)) (pNil))))) (pNil)))) (gNm 3)) (pSeq (pAsg (pTup (pCons (pCall Ph_law_choose (pCons (pVar 2) (pCons (pLst (pCons (pC (.int 2)) (pCons (pTup (pCons (pC (.int 1)) (pCons (pC (.int 3)) (pNil)))) (pCons (pBin kAddI (pBin kPowI (pC (.int 10)) (pC (.int 29))) (pC (.int 7))) (pCons (pTup (pCons (pBin kAddI (pBin kPowI (pC (.int 10)) (pC (.int 28))) (pC (.int 1))) (pCons (pC (.int 3)) (pNil)))) (pNil)))))) (pNil)))) (pCons (pCall Ph_law_choose (pCons (pVar 2) (pCons (pLst (pCons (pC (.int 1)) (pCons (pTup (pCons (pC (.int 2)) (pCons (pC (.int 7)) (pNil)))) (pCons (pBin kPowI (pC (.int 10)) (pC (.int 30))) (pCons (pC (.int 5)) (pNil)))))) (pNil)))) (pNil)))) (gTupP 2 (gConsP (gNm 9) (gConsP (gNm 10) (gNilP))))) (pSeq (pAsg (pMeth "Race" "slowed" Ph_Race_slowed (pCall Ph_law_longer (pCons (pVar 3) (pCons (pVar 9) (pNil)))) (pCons (pVar 10) (pNil))) (gNm 4)) (pSeq (pAsg (pBin kCat (pLst (pCons (pC (.int 0)) (pCons (pTup (pCons (pC (.int 5)) (pCons (pC (.int 3)) (pNil)))) (pCons (pCall Ph_law_number (pCons (pVar 2) (pCons (pC (.int 0)) (pCons (pC (.int 20)) (pNil))))) (pNil))))) (pMeth "Race" "change_times" Ph_Race_change_times (pVar 3) pNil)) (gNm 5)) (pSeq (pIfS (pNotT (pTst (pCall Ph_law_check (pCons (pVar 3) (pCons (pVar 4) (pCons (pVar 5) (pCons (pVar 9) (pCons (pVar 10) (pNil))))))))) (pRet (pC (.bl false))) (pNext)) (pSeq (pAsg (pSlL (pCall Ph_in_order (pCons (pLst (pCons (pCall Ph_law_number (pCons (pVar 2) (pCons (pC (.int 0)) (pCons (pC (.int 9)) (pNil))))) (pCons (pBin kAddI (pC (.int 11)) (pCall Ph_law_draw (pCons (pVar 2) (pCons (pC (.int 20)) (pNil))))) (pNil)))) (pNil))) (pNoPart) (pPart (pC (.int 2)))) (gLstP 2 (gConsP (gNm 11) (gConsP (gNm 12) (gNilP))))) (pSeq (pPar 13 14 (pCons (pCall Ph_times (pCons (pVar 11) (pCons (pVar 10) (pNil)))) (pCons (pCall Ph_times (pCons (pVar 12) (pCons (pVar 10) (pNil)))) (pNil)))) (pSeq (pIfS (pTst (pBin (kEqT true) (pCall Ph_pass_table (pCons (pVar 4) (pCons (pVar 13) (pCons (pVar 14) (pNil))))) (pCall Ph_pass_table (pCons (pVar 3) (pCons (pVar 11) (pCons (pVar 12) (pNil))))))) (pRet (pC (.bl false))) (pNext)) (pSeq (pAsg (pCall Ph_remainder (pCons (pCall Ph_law_number (pCons (pVar 2) (pCons (pC (.int 0)) (pCons (pC (.int 9)) (pNil))))) (pCons (pProp "Race" Ph_Race_length (pVar 3)) (pNil)))) (gNm 6)) (pSeq (pAsg (pLc (pIL (pCall Ph_gap_times (pCons (pVar 3) (pCons (pC (.str "a")) (pCons (pC (.str "b")) (pCons (pVar 6) (pCons (pVar 11) (pCons (pVar 12) (pNil))))))))) (gNm 15) pTsYes te_law_1 [15]) (gNm 7)) (pSeq (pIfS (pTst (pBin kNe (pCall Ph_gap_times (pCons (pVar 4) (pCons (pC (.str "a")) (pCons (pC (.str "b")) (pCons (pCall Ph_times (pCons (pVar 6) (pCons (pVar 9) (pNil)))) (pCons (pVar 13) (pCons (pVar 14) (pNil)))))))) (pVar 7))) (pRet (pC (.bl false))) (pNext)) (pSeq (pAsg (pMeth "Race" "turned" Ph_Race_turned (pVar 4) (pCons (pCall Ph_law_number (pCons (pVar 2) (pCons (pUn kNeg (pC (.int 50))) (pCons (pC (.int 50)) (pNil))))) (pNil))) (gNm 8)) (pSeq (pIfS (pTst (pBin (kEqT true) (pCall Ph_pass_table (pCons (pVar 8) (pCons (pVar 13) (pCons (pVar 14) (pNil))))) (pCall Ph_pass_table (pCons (pVar 3) (pCons (pVar 11) (pCons (pVar 12) (pNil))))))) (pRet (pC (.bl false))) (pNext)) (pIfS (pTst (pBin kNe (pCall Ph_gap_times (pCons (pVar 8) (pCons (pC (.str "a")) (pCons (pC (.str "b")) (pCons (pCall Ph_times (pCons (pVar 6) (pCons (pVar 9) (pNil)))) (pCons (pVar 13) (pCons (pVar 14) (pNil)))))))) (pVar 7))) (pRet (pC (.bl false))) (pNext)))))))))))))))
def t_law : PTS := pSeq (pFor (pR1 (pCons (pCallB kMax2 (pCons (pC (.int 1)) (pCons (pCallB kMin2 (pCons (pCallB kLen (pCons (pVar 0) (pNil))) (pCons (pC (.int 4)) (pNil)))) (pNil)))) (pNil))) (gNm 1) tb_law_2) (pRet (pC (.bl true)))
abbrev N_law : List Str := ["script", "k", "pool", "race", "other", "moments", "value", "expected", "turned", "factor", "slow", "start", "end", "begin", "stop", "time"]
theorem st_law (a0 : PV) : startP N_law [a0] = [.val a0, .no, .no, .no, .no, .no, .no, .no, .no, .no, .no, .no, .no, .no, .no, .no] := rfl

theorem how_many (ns : List Int) (c : Nat) (c4 : 1 ≤ c ∧ c ≤ 4 := by decide) : ∃ n : Nat, (if (if (c : Int) < (ns.length : Int) then (c : Int) else (ns.length : Int)) > 1 then (if (c : Int) < (ns.length : Int) then (c : Int) else (ns.length : Int)) else 1) = (n : Int) ∧ n ≤ 4 := by
  by_cases h : (c : Int) < (ns.length : Int)
  · rw [if_pos h]
    by_cases h2 : (c : Int) > 1
    · exact ⟨c, by rw [if_pos h2], by omega⟩
    · exact ⟨1, by rw [if_neg h2]; rfl, by decide⟩
  · rw [if_neg h]
    by_cases h2 : (ns.length : Int) > 1
    · exact ⟨ns.length, by rw [if_pos h2], by omega⟩
    · exact ⟨1, by rw [if_neg h2]; rfl, by decide⟩
/-- a small moment -/
def Mom7 (p : PV) : Prop := ∃ t : Rat, NumP p t ∧ 0 ≤ t ∧ sz t ≤ 7
theorem sz_num {q : Rat} {n : Nat} (hn : 0 < n) (h1 : q.num.natAbs < 2 ^ n) (h2 : q.den < 2 ^ n) : sz q ≤ n := sz_le hn h1 h2
theorem sz_small {q : Rat} (h1 : q.num.natAbs ≤ 127) (h2 : q.den ≤ 3) : sz q ≤ 7 := sz_le (by decide) (Nat.lt_of_le_of_lt h1 (by decide)) (Nat.lt_of_le_of_lt h2 (by decide))
/-- two ends of a window -/
theorem window {v : PV} {q : Rat} {e : Int} (hv : NumP v q) (q1 : q ≤ 10) (e1 : 11 ≤ e) (zq : sz q ≤ 7) (ze : sz (e : Rat) ≤ 7) {Q : PV → Prop} (hq : ∀ b : Rat, b = (e : Rat) → q < b → Q (.lst [rat q, rat b])) : Ph_in_order [.lst [v, .int e]] Q := by
  have be : (11 : Rat) ≤ (e : Rat) := by exact_mod_cast e1
  refine in_order_of (L := [(v, q), (.int e, (e : Rat))]) (fun x hx => ?_) ?_ ?_
  · simp only [List.mem_cons, List.not_mem_nil, or_false] at hx
    rcases hx with rfl | rfl
    · exact hv
    · exact .int e
  · show 2 * (sz q + (sz (e : Rat) + 0)) ≤ 7900
    omega
  · have : riseL ([(v, q), (.int e, (e : Rat))].map (·.2)) = [q, (e : Rat)] := (rise_eq (by simp; grind) fun x => by simp).symm
    rw [this]
    exact hq _ rfl (by grind)
theorem hp_law : ∀ as Q, Ph_law as Q → as.length = 1 ∧ t_law ⟨fun _ => Q .non, Q, fun _ => False, fun _ => False⟩ (startP N_law as) := by
  rintro as Q ⟨ns, rfl, l63, hq⟩
  refine ⟨rfl, ?_⟩
  have pe := P0_eq
  simp only [st_law, t_law, pSeq, pNext, pIfS, pRet, pRetN, pAsg, pDrop, pPar, pAug, gNm, gTupP, gConsP, gNilP, pVar, pC, pBin, pChain, pUn, kNeg, pTst, pTru, pAndT, pOrT, pNotT, pAndV, pOrV, pNotV, pIf, pCons, pNil, pTup, pLst, pStar, pCallB, pCall, pMeth, pProp, pFld, pFrz, pIL, pIT, pZip, pEnum, pR1, pR2, pR3, pSlL, pSlT, pPart, pNoPart, pLc, pLc2, pDc, pSortSc, pFor, pNewL, pNewD, pApp, pExt, pDPut, pSetL, pOwnD, pIsN, pNotN, pListVals, pListValsT, pIVals, pIKeys, pIItems, onDic, pIStr, pDGet1, pTsYes, pParL, pParR, pCel, pCelSet, pNewCel, pNeverS, wipeP, List.set_cons_zero, List.set_cons_succ, List.getElem?_cons_zero, List.getElem?_cons_succ, List.length_cons, List.length_nil, kLen_frz, List.length_map, kMin_int, kMax_int]
  obtain ⟨n, en, n4⟩ := how_many ns 4
  have en' : (if (if (4 : Int) < (ns.length : Int) then (4 : Int) else (ns.length : Int)) > 1 then (if (4 : Int) < (ns.length : Int) then (4 : Int) else (ns.length : Int)) else 1) = (n : Int) := en
  rw [en']
  refine ⟨by omega, by omega, ?_⟩
  rw [rng_map0, Int.toNat_natCast]
  refine forL_range (fun k ρ => ∃ s1 s2 s3 s4 s5 s6 s7 s8 s9 s10 s11 s12 s13 s14 s15, ρ = [.val (.frz (ns.map PV.int)), s1, s2, s3, s4, s5, s6, s7, s8, s9, s10, s11, s12, s13, s14, s15]) ?_ ?_ _ ⟨_, _, _, _, _, _, _, _, _, _, _, _, _, _, _, rfl⟩
  · rintro i hi ρ ⟨s1, s2, s3, s4, s5, s6, s7, s8, s9, s10, s11, s12, s13, s14, s15, rfl⟩ N hN
    have hN' : ∀ t1 t2 t3 t4 t5 t6 t7 t8 t9 t10 t11 t12 t13 t14 t15 : Slt, N [.val (.frz (ns.map PV.int)), t1, t2, t3, t4, t5, t6, t7, t8, t9, t10, t11, t12, t13, t14, t15] := fun t1 t2 t3 t4 t5 t6 t7 t8 t9 t10 t11 t12 t13 t14 t15 => hN _ ⟨_, _, _, _, _, _, _, _, _, _, _, _, _, _, _, rfl⟩
    simp only [tb_law_2, pSeq, pNext, pIfS, pRet, pRetN, pAsg, pDrop, pPar, pAug, gNm, gTupP, gConsP, gNilP, pVar, pC, pBin, pChain, pUn, kNeg, pTst, pTru, pAndT, pOrT, pNotT, pAndV, pOrV, pNotV, pIf, pCons, pNil, pTup, pLst, pStar, pCallB, pCall, pMeth, pProp, pFld, pFrz, pIL, pIT, pZip, pEnum, pR1, pR2, pR3, pSlL, pSlT, pPart, pNoPart, pLc, pLc2, pDc, pSortSc, pFor, pNewL, pNewD, pApp, pExt, pDPut, pSetL, pOwnD, pIsN, pNotN, pListVals, pListValsT, pIVals, pIKeys, pIItems, onDic, pIStr, pDGet1, pTsYes, pParL, pParR, pCel, pCelSet, pNewCel, pNeverS, wipeP, List.set_cons_zero, List.set_cons_succ, List.getElem?_cons_zero, List.getElem?_cons_succ, List.length_cons, List.length_nil, Int.zero_add]
    refine ⟨ns, i, rfl, by omega, ?_⟩
    refine ⟨_, rfl, by decide, lg_small, fun dd d0 d2 => ?_⟩
    simp only [kI0_int, pSeq, pNext, pIfS, pRet, pRetN, pAsg, pDrop, pPar, pAug, gNm, gTupP, gConsP, gNilP, pVar, pC, pBin, pChain, pUn, kNeg, pTst, pTru, pAndT, pOrT, pNotT, pAndV, pOrV, pNotV, pIf, pCons, pNil, pTup, pLst, pStar, pCallB, pCall, pMeth, pProp, pFld, pFrz, pIL, pIT, pZip, pEnum, pR1, pR2, pR3, pSlL, pSlT, pPart, pNoPart, pLc, pLc2, pDc, pSortSc, pFor, pNewL, pNewD, pApp, pExt, pDPut, pSetL, pOwnD, pIsN, pNotN, pListVals, pListValsT, pIVals, pIKeys, pIItems, onDic, pIStr, pDGet1, pTsYes, pParL, pParR, pCel, pCelSet, pNewCel, pNeverS, wipeP, List.set_cons_zero, List.set_cons_succ, List.getElem?_cons_zero, List.getElem?_cons_succ, List.length_cons, List.length_nil]
    refine ⟨(2 + dd).toNat, by rw [Int.toNat_of_nonneg (by omega)], by omega, by omega, fun R D => ?_⟩
    refine ⟨size_le (by decide), ⟨by decide, by decide, by decide⟩, ⟨by decide, by decide, by decide⟩, size_le (by decide), size_le (by decide), ?_⟩
    have p29 : (10 : Int) ^ (29 : Int).toNat + 7 = 100000000000000000000000000007 := by decide
    have p28 : (10 : Int) ^ (28 : Int).toNat + 1 = 10000000000000000000000000001 := by decide
    have p30 : (10 : Int) ^ (30 : Int).toNat = 1000000000000000000000000000000 := by decide
    simp only [kI0_int]
    rw [p29, p28]
    refine ⟨_, rfl, by simp, by simp, fun kv hkv => ?_⟩
    have kk : ∃ k : Rat, NumP kv k ∧ 0 < k ∧ sz k ≤ 97 := by
      simp only [List.mem_cons, List.not_mem_nil, or_false] at hkv
      rcases hkv with rfl | rfl | rfl | rfl
      · exact ⟨_, .int 2, by decide +kernel, by decide +kernel⟩
      · exact ⟨1 / 3, .inr (rat_of (n := 1) (d := 3) (by decide +kernel) (by decide +kernel)).symm, by decide +kernel, by decide +kernel⟩
      · exact ⟨_, .int 100000000000000000000000000007, by decide +kernel, by decide +kernel⟩
      · exact ⟨10000000000000000000000000001 / 3, .inr (rat_of (n := 10000000000000000000000000001) (d := 3) (by decide +kernel) (by decide +kernel)).symm, by decide +kernel, by decide +kernel⟩
    obtain ⟨k, hk, k0, kz⟩ := kk
    dsimp only
    refine ⟨size_le (by decide), ⟨by decide, by decide, by decide⟩, size_le (by decide), ?_⟩
    show Ph_law_choose [.cel, .lst [.int 1, .tup [.int 2, .int 7], .int ((10 : Int) ^ (30 : Int).toNat), .int 5]] _
    rw [p30]
    refine ⟨_, rfl, by simp, by simp, fun wv hwv => ?_⟩
    have ww : ∃ w : Rat, NumP wv w ∧ 0 < w ∧ sz w ≤ 100 ∧ Dv 7 w := by
      simp only [List.mem_cons, List.not_mem_nil, or_false] at hwv
      rcases hwv with rfl | rfl | rfl | rfl
      · exact ⟨_, .int 1, by decide +kernel, by decide +kernel, .int 1⟩
      · exact ⟨2 / 7, .inr (rat_of (n := 2) (d := 7) (by decide +kernel) (by decide +kernel)).symm, by decide +kernel, by decide +kernel, ⟨2, by decide +kernel⟩⟩
      · exact ⟨_, .int 1000000000000000000000000000000, by decide +kernel, by decide +kernel, .int _⟩
      · exact ⟨_, .int 5, by decide +kernel, by decide +kernel, .int 5⟩
    obtain ⟨w, hw, w0, wz, wd⟩ := ww
    refine ⟨size_le (by decide), by trivial, ?_⟩
    have S : Sc (2 + dd).toNat R k w := ⟨by omega, by omega, D, k0, w0, kz, wz, wd⟩
    have g := D.g
    have ok := g.ok
    have l0 := ok.len
    have g' := S.sc_g
    have nm := S.nm
    have ms := S.msz
    have lms := S.long_msz
    refine ⟨R, kv, k, rfl, nm, ok, ⟨by have := ms.len; omega, fun r hr => by have := ms.st r hr; omega, fun r hr p hp => by have := ms.pc r hr p hp; omega⟩, hk, k0, by omega, ?_⟩
    refine ⟨by trivial, by rfl, longR R k, wv, w, rfl, S.long_nm, S.long_ok.made, ⟨by have := lms.len; omega, fun r hr => by have := lms.st r hr; omega, fun r hr p hp => by have := lms.pc r hr p hp; omega⟩, hw, w0, by omega, ?_⟩
    refine ⟨size_le (by decide), 0, 20, rfl, by decide, by decide, by decide, by decide, fun v1 q1 hv1 va1 _ _ _ dn1 nn1 => ?_⟩
    refine ⟨size_le (by decide), by trivial, by rfl, R, rfl, g, ?_⟩
    simp only [kCat, pSeq, pNext, pIfS, pRet, pRetN, pAsg, pDrop, pPar, pAug, gNm, gTupP, gConsP, gNilP, pVar, pC, pBin, pChain, pUn, kNeg, pTst, pTru, pAndT, pOrT, pNotT, pAndV, pOrV, pNotV, pIf, pCons, pNil, pTup, pLst, pStar, pCallB, pCall, pMeth, pProp, pFld, pFrz, pIL, pIT, pZip, pEnum, pR1, pR2, pR3, pSlL, pSlT, pPart, pNoPart, pLc, pLc2, pDc, pSortSc, pFor, pNewL, pNewD, pApp, pExt, pDPut, pSetL, pOwnD, pIsN, pNotN, pListVals, pListValsT, pIVals, pIKeys, pIItems, onDic, pIStr, pDGet1, pTsYes, pParL, pParR, pCel, pCelSet, pNewCel, pNeverS, wipeP, List.set_cons_zero, List.set_cons_succ, List.getElem?_cons_zero, List.getElem?_cons_succ, List.length_cons, List.length_nil]
    have chl := chs_len ok (ns := R.rs) fun r h => h
    have l4 := nm.len
    have cl : (riseL ((chs R.rs).filter fun t => decide (0 < t))).length ≤ 80 := by
      have h1 := rise_len ((chs R.rs).filter fun t => decide (0 < t))
      have h2 := List.length_filter_le (fun t => decide (0 < t)) (chs R.rs)
      omega
    refine ⟨size_le (by simp; omega), ?_⟩
    have m1 : ∀ p ∈ ([.int 0, .tup [.int 5, .int 3], v1] ++ (riseL ((chs R.rs).filter fun t => decide (0 < t))).map rat), ∃ t, NumP p t ∧ 0 ≤ t ∧ sz t ≤ 7 := fun p hp => by
      rcases List.mem_append.mp hp with hp | hp
      · simp only [List.mem_cons, List.not_mem_nil, or_false] at hp
        rcases hp with rfl | rfl | rfl
        · exact ⟨0, num0, Rat.le_refl, by rw [sz0]; decide⟩
        · exact ⟨5 / 3, .inr (rat_of (n := 5) (d := 3) (by decide +kernel) (by decide +kernel)).symm, by decide +kernel, by decide +kernel⟩
        · exact ⟨q1, hv1, by have := va1 (by decide); exact_mod_cast this, sz_small (Nat.le_trans nn1 (by decide)) dn1⟩
      · obtain ⟨t, ht, rfl⟩ := List.mem_map.mp hp
        rw [riseL_mem, List.mem_filter] at ht
        obtain ⟨r, hr, pc, hpc, rfl⟩ := chs_mem.mp ht.1
        exact ⟨_, .rat _, (S.ch hr hpc).1, (S.ch hr hpc).2⟩
    refine ⟨R, _, k, w, kv, wv, _, rfl, S, by omega, hk, hw, m1, ?_⟩
    simp only [Bool.not_true]
    refine ⟨0, 9, rfl, by decide, by decide, by decide, by decide, fun v2 a hv2 va2 _ vb2 _ dn2 nn2 => ?_⟩
    refine ⟨_, rfl, by decide, lg_small, fun e e0 e20 => ?_⟩
    simp only [kI0_int, pSeq, pNext, pIfS, pRet, pRetN, pAsg, pDrop, pPar, pAug, gNm, gTupP, gConsP, gNilP, pVar, pC, pBin, pChain, pUn, kNeg, pTst, pTru, pAndT, pOrT, pNotT, pAndV, pOrV, pNotV, pIf, pCons, pNil, pTup, pLst, pStar, pCallB, pCall, pMeth, pProp, pFld, pFrz, pIL, pIT, pZip, pEnum, pR1, pR2, pR3, pSlL, pSlT, pPart, pNoPart, pLc, pLc2, pDc, pSortSc, pFor, pNewL, pNewD, pApp, pExt, pDPut, pSetL, pOwnD, pIsN, pNotN, pListVals, pListValsT, pIVals, pIKeys, pIItems, onDic, pIStr, pDGet1, pTsYes, pParL, pParR, pCel, pCelSet, pNewCel, pNeverS, wipeP, List.set_cons_zero, List.set_cons_succ, List.getElem?_cons_zero, List.getElem?_cons_succ, List.length_cons, List.length_nil]
    refine ⟨size_le (by decide), ?_⟩
    have a0 : (0 : Rat) ≤ a := by have := va2 (by decide); exact_mod_cast this
    have a10 : a ≤ 10 := by
      have e : ((9 : Int) : Rat) + 1 = 10 := by decide +kernel
      rw [e] at vb2; exact vb2
    have az : sz a ≤ 7 := sz_small (Nat.le_trans nn2 (by decide)) dn2
    have bz : sz ((11 + e : Int) : Rat) ≤ 7 := sz_int_le (by decide) (nat_small (a := 31) (by omega))
    have b31 : ((11 + e : Int) : Rat) ≤ ((31 : Int) : Rat) := by exact_mod_cast (show (11 + e : Int) ≤ 31 by omega)
    refine window hv2 a10 (by omega) az bz fun b hb ab => ?_
    rw [← hb] at bz b31
    have b0 : (0 : Rat) ≤ b := by grind
    have ec : cutP [rat a, rat b] none (some 2) = [rat a, rat b] := rfl
    simp only [ec]
    have kz' := kz
    have aA := D.at a0 (t := a) (by omega)
    have bA := D.at b0 (t := b) (by omega)
    have abw : a * w ≤ b * w := (scale_le w0).mpr (Rat.le_of_lt ab)
    refine ⟨by trivial, _, _, a, w, rfl, .rat a, hw, by omega, _, _, b, w, rfl, .rat b, hw, by omega, ?_⟩
    refine ⟨scR R k w, _, _, a * w, b * w, rfl, g', .rat _, .rat _, abw, S.sc_at a0 az, S.sc_at b0 bz, ?_⟩
    refine ⟨R, _, _, a, b, rfl, g, .rat _, .rat _, Rat.le_of_lt ab, aA, bA, ?_⟩
    rw [S.like.tbl ok a0 (Rat.le_of_lt ab)]
    refine kNeT (List.Perm.refl _) (pair_nd ok.nd a b) ?_
    -- gaps
    refine ⟨0, 9, rfl, by decide, by decide, by decide, by decide, fun v3 q3 hv3 _ _ _ zq3 dn3 nn3 => ?_⟩
    have z3 : sz q3 ≤ 7 := sz_small (Nat.le_trans nn3 (by decide)) dn3
    have lz := D.lz
    refine ⟨by trivial, R, rfl, _, _, q3, R.len, rfl, hv3, .rat _, l0, by omega, ?_⟩
    have v0 := rem_nonneg (a := q3) l0
    have vl := rem_lt (a := q3) l0
    have vz : sz (rem q3 R.len) ≤ 12 := by have := rem_sz q3 l0; omega
    have vd : Dv 6 (rem q3 R.len) := rem_dv (den3 dn3) (D.ld.up (by decide))
    generalize rem q3 R.len = v at v0 vl vz vd
    obtain ⟨ra, hra, ea⟩ := find_name D (ab_in (m := (2 + dd).toNat) (by omega)).1
    obtain ⟨rb, hrb, eb⟩ := find_name D (ab_in (m := (2 + dd).toNat) (by omega)).2
    have ab' := Rat.le_of_lt ab
    have b50 : b ≤ ((2 ^ 50 : Nat) : Rat) := by
      have : ((31 : Int) : Rat) ≤ ((2 ^ 50 : Nat) : Rat) := by decide +kernel
      grind
    have many : (R.gapL ra rb v a b).length ≤ 321 := nat_of_rat (D.gap_many hra hrb (v := v) a0 ab') (by
      have : ((31 : Int) : Rat) = 31 := rfl
      have e2 : ((321 : Nat) : Rat) = 321 := rfl
      grind)
    refine ⟨R, ra, rb, _, _, _, v, a, b, by rw [ea, eb], g, hra, hrb, .rat v, v0, vl, by omega, .rat a, .rat b, ab', aA, bA, by omega, D.rows_ok hra hrb v0 vl a0 ab' b50, ?_⟩
    refine lcL_map rat (fun t => rat (t * w)) (R.gapL ra rb v a b) (fun t ht T h => ?_) (size_le (by omega)) ?_
    · simp only [te_law_1, pSeq, pNext, pIfS, pRet, pRetN, pAsg, pDrop, pPar, pAug, gNm, gTupP, gConsP, gNilP, pVar, pC, pBin, pChain, pUn, kNeg, pTst, pTru, pAndT, pOrT, pNotT, pAndV, pOrV, pNotV, pIf, pCons, pNil, pTup, pLst, pStar, pCallB, pCall, pMeth, pProp, pFld, pFrz, pIL, pIT, pZip, pEnum, pR1, pR2, pR3, pSlL, pSlT, pPart, pNoPart, pLc, pLc2, pDc, pSortSc, pFor, pNewL, pNewD, pApp, pExt, pDPut, pSetL, pOwnD, pIsN, pNotN, pListVals, pListValsT, pIVals, pIKeys, pIItems, onDic, pIStr, pDGet1, pTsYes, pParL, pParR, pCel, pCelSet, pNewCel, pNeverS, wipeP, List.set_cons_zero, List.set_cons_succ, List.getElem?_cons_zero, List.getElem?_cons_succ, List.length_cons, List.length_nil]
      obtain ⟨dt, h1, h2⟩ := D.gapL_dv hra hrb (e := 6 * a.den) (Nat.dvd_mul_right _ _) (den_dv a) a0 ab' (v := v) (vd.up ⟨6 * a.den, rfl⟩) ht
      have n31 : -((31 : Nat) : Rat) ≤ 0 := by decide +kernel
      have e31 : ((31 : Int) : Rat) = ((31 : Nat) : Rat) := rfl
      have ad := a.den_pos
      have dk : 6 * (6 * a.den) * K54 ≤ 6 * (6 * 3) * K54 := Nat.mul_le_mul_right _ (by omega)
      have c1 : 31 * (6 * (6 * 3) * K54) < 2 ^ 100 := by decide
      have tz : sz t ≤ 100 := dt.sz (n := 100) (Nat.mul_pos (by omega) (by decide)) (M := 31) (by grind) (by grind) (by omega) (by omega)
      exact ⟨_, _, t, w, rfl, .rat _, hw, by omega, h⟩
    have hk2 : NumP (rat v) v := .rat v
    have like := S.like
    have offb : ∀ t, a ≤ t → t ≤ b → Ab (R.off rb ra v t) ((36 + 10 * 31 : Nat) : Rat) := fun t h1 h2 => D.off_ab hra hrb ⟨by grind, by have := D.hi; grind⟩ (by grind) (T := 31) (by
      have : ((31 : Int) : Rat) = ((31 : Nat) : Rat) := rfl
      grind)
    have vk0 : 0 ≤ k * v := Rat.mul_nonneg (Rat.le_of_lt k0) v0
    have vkl : k * v < k * R.len := by
      have := scale_lt (x := v) (y := R.len) k0
      rw [Rat.mul_comm v, Rat.mul_comm R.len] at this
      exact this.mpr vl
    have vkz : sz (k * v) ≤ P0 := by have := sz_mul k v; omega
    have em : v * k = k * v := Rat.mul_comm _ _
    have gl := like.gapL ok hra hrb (v := v) a0 ab'
    have eg : (R.gapL ra rb v a b).map (fun t => rat (t * w)) = ((R.gapL ra rb v a b).map fun t => t * w).map Told.rat.pv := by rw [List.map_map]; rfl
    refine ⟨_, _, v, k, rfl, .rat v, hk, by omega, ?_⟩
    rw [em]
    refine ⟨scR R k w, scF R k w ra, scF R k w rb, _, _, _, k * v, a * w, b * w, by rw [like.nm ra hra, like.nm rb hrb, ea, eb]; rfl, g', like.fin hra, like.fin hrb, .rat _, vk0, by rw [like.len]; exact vkl, vkz, .rat _, .rat _, abw, S.sc_at a0 az, S.sc_at b0 bz, by rw [gl, List.length_map]; omega, like.rows ok hra hrb v0 vl a0 ab' (by decide) offb, ?_⟩
    rw [gl, eg]
    simp only [pSeq, pNext, pIfS, pRet, pRetN, pAsg, pDrop, pPar, pAug, gNm, gTupP, gConsP, gNilP, pVar, pC, pBin, pChain, pUn, kNeg, pTst, pTru, pAndT, pOrT, pNotT, pAndV, pOrV, pNotV, pIf, pCons, pNil, pTup, pLst, pStar, pCallB, pCall, pMeth, pProp, pFld, pFrz, pIL, pIT, pZip, pEnum, pR1, pR2, pR3, pSlL, pSlT, pPart, pNoPart, pLc, pLc2, pDc, pSortSc, pFor, pNewL, pNewD, pApp, pExt, pDPut, pSetL, pOwnD, pIsN, pNotN, pListVals, pListValsT, pIVals, pIKeys, pIItems, onDic, pIStr, pDGet1, pTsYes, pParL, pParR, pCel, pCelSet, pNewCel, pNeverS, wipeP, List.set_cons_zero, List.set_cons_succ, List.getElem?_cons_zero, List.getElem?_cons_succ, List.length_cons, List.length_nil]
    refine kNe_self Told.rat.list (by decide) ((R.gapL ra rb v a b).map fun t => t * w) ?_
    -- turned
    refine ⟨by trivial, by rfl, -50, 50, rfl, by decide, by decide, by decide, by decide, fun v4 d hv4 _ _ _ dz _ _ => ?_⟩
    have sms := S.sc_msz
    refine ⟨scR R k w, v4, d, rfl, S.sc_nm, S.slow_ok.made, ⟨by have := sms.len; omega, fun r hr => by have := sms.st r hr; omega, fun r hr p hp => by have := sms.pc r hr p hp; omega⟩, hv4, by omega, ?_⟩
    have tg := S.tu_g dz
    have tl := S.tu_like (d := d) dz
    have gl2 := tl.gapL ok hra hrb (v := v) a0 ab'
    refine ⟨turnR (scR R k w) d, _, _, a * w, b * w, rfl, tg, .rat _, .rat _, abw, S.tu_at dz a0 az, S.tu_at dz b0 bz, ?_⟩
    refine ⟨R, _, _, a, b, rfl, g, .rat _, .rat _, Rat.le_of_lt ab, aA, bA, ?_⟩
    rw [tl.tbl ok a0 (Rat.le_of_lt ab)]
    refine kNeT (List.Perm.refl _) (pair_nd ok.nd a b) ?_
    refine ⟨_, _, v, k, rfl, .rat v, hk, by omega, ?_⟩
    rw [em]
    refine ⟨turnR (scR R k w) d, tuF R k w d ra, tuF R k w d rb, _, _, _, k * v, a * w, b * w, by rw [tl.nm ra hra, tl.nm rb hrb, ea, eb]; rfl, tg, tl.fin hra, tl.fin hrb, .rat _, vk0, by rw [tl.len]; exact vkl, vkz, .rat _, .rat _, abw, S.tu_at dz a0 az, S.tu_at dz b0 bz, by rw [gl2, List.length_map]; omega, tl.rows ok hra hrb v0 vl a0 ab' (by decide) offb, ?_⟩
    rw [gl2]
    simp only [pSeq, pNext, pIfS, pRet, pRetN, pAsg, pDrop, pPar, pAug, gNm, gTupP, gConsP, gNilP, pVar, pC, pBin, pChain, pUn, kNeg, pTst, pTru, pAndT, pOrT, pNotT, pAndV, pOrV, pNotV, pIf, pCons, pNil, pTup, pLst, pStar, pCallB, pCall, pMeth, pProp, pFld, pFrz, pIL, pIT, pZip, pEnum, pR1, pR2, pR3, pSlL, pSlT, pPart, pNoPart, pLc, pLc2, pDc, pSortSc, pFor, pNewL, pNewD, pApp, pExt, pDPut, pSetL, pOwnD, pIsN, pNotN, pListVals, pListValsT, pIVals, pIKeys, pIItems, onDic, pIStr, pDGet1, pTsYes, pParL, pParR, pCel, pCelSet, pNewCel, pNeverS, wipeP, List.set_cons_zero, List.set_cons_succ, List.getElem?_cons_zero, List.getElem?_cons_succ, List.length_cons, List.length_nil]
    refine kNe_self Told.rat.list (by decide) ((R.gapL ra rb v a b).map fun t => t * w) ?_
    exact hN' _ _ _ _ _ _ _ _ _ _ _ _ _ _ _
  · rintro ρ ⟨s1, s2, s3, s4, s5, s6, s7, s8, s9, s10, s11, s12, s13, s14, s15, rfl⟩
    exact hq
end G


/-! ## HD82 -/
namespace G
open PySem PySem.Spec PyProof.Rows L2 L3
def top (i : Nat) : Stmt := PySem.Challenge.pw_laprunners_k82_whole_scaled_races.main.body.getD i (.Pass ⟨0, 0, 0, 0⟩)
def clsBody : Stmt → List Stmt
  | .ClassDef _ _ _ b _ _ _ _ _ _ _ => b
  | _ => []
def mtop (i j : Nat) : Stmt := (clsBody (top i)).getD j (.Pass ⟨0, 0, 0, 0⟩)
def d_law_pool : HX.DefE := ⟨.g "_law_pool", "_law_pool", "_law_pool", defArgs (top 58), defBody (top 58), defScope (top 58), []⟩
def d_law_draw : HX.DefE := ⟨.g "_law_draw", "_law_draw", "_law_draw", defArgs (top 59), defBody (top 59), defScope (top 59), []⟩
def d_is_integer : HX.DefE := ⟨.g "is_integer", "is_integer", "is_integer", defArgs (top 13), defBody (top 13), defScope (top 13), []⟩
def d_common_divisor : HX.DefE := ⟨.g "common_divisor", "common_divisor", "common_divisor", defArgs (top 14), defBody (top 14), defScope (top 14), []⟩
def d_ratio : HX.DefE := ⟨.g "ratio", "ratio", "ratio", defArgs (top 17), defBody (top 17), defScope (top 17), [.int 1]⟩
def d_law_number : HX.DefE := ⟨.g "_law_number", "_law_number", "_law_number", defArgs (top 61), defBody (top 61), defScope (top 61), []⟩
def d_is_ratio : HX.DefE := ⟨.g "is_ratio", "is_ratio", "is_ratio", defArgs (top 15), defBody (top 15), defScope (top 15), []⟩
def d_is_number : HX.DefE := ⟨.g "is_number", "is_number", "is_number", defArgs (top 16), defBody (top 16), defScope (top 16), []⟩
def d_as_ratio : HX.DefE := ⟨.g "as_ratio", "as_ratio", "as_ratio", defArgs (top 18), defBody (top 18), defScope (top 18), []⟩
def d_plus : HX.DefE := ⟨.g "plus", "plus", "plus", defArgs (top 19), defBody (top 19), defScope (top 19), []⟩
def d_law_pieces : HX.DefE := ⟨.g "_law_pieces", "_law_pieces", "_law_pieces", defArgs (top 62), defBody (top 62), defScope (top 62), []⟩
def d_law_choose : HX.DefE := ⟨.g "_law_choose", "_law_choose", "_law_choose", defArgs (top 60), defBody (top 60), defScope (top 60), []⟩
def d_minus : HX.DefE := ⟨.g "minus", "minus", "minus", defArgs (top 20), defBody (top 20), defScope (top 20), []⟩
def d_compare : HX.DefE := ⟨.g "compare", "compare", "compare", defArgs (top 23), defBody (top 23), defScope (top 23), []⟩
def d_is_piece : HX.DefE := ⟨.g "is_piece", "is_piece", "is_piece", defArgs (top 34), defBody (top 34), defScope (top 34), []⟩
def d_are_pieces : HX.DefE := ⟨.g "are_pieces", "are_pieces", "are_pieces", defArgs (top 35), defBody (top 35), defScope (top 35), []⟩
def d_is_runner : HX.DefE := ⟨.g "is_runner", "is_runner", "is_runner", defArgs (top 36), defBody (top 36), defScope (top 36), []⟩
def d_is_name : HX.DefE := ⟨.g "is_name", "is_name", "is_name", defArgs (top 32), defBody (top 32), defScope (top 32), []⟩
def d_divided : HX.DefE := ⟨.g "divided", "divided", "divided", defArgs (top 22), defBody (top 22), defScope (top 22), []⟩
def d_floor_of : HX.DefE := ⟨.g "floor_of", "floor_of", "floor_of", defArgs (top 24), defBody (top 24), defScope (top 24), []⟩
def d_times : HX.DefE := ⟨.g "times", "times", "times", defArgs (top 21), defBody (top 21), defScope (top 21), []⟩
def d_remainder : HX.DefE := ⟨.g "remainder", "remainder", "remainder", defArgs (top 25), defBody (top 25), defScope (top 25), []⟩
def d_Race_init : HX.DefE := ⟨.m "Race" "__init__", "__init__", "Race.__init__", defArgs (mtop 37 0), defBody (mtop 37 0), defScope (mtop 37 0), []⟩
def d_law_race : HX.DefE := ⟨.g "_law_race", "_law_race", "_law_race", defArgs (top 63), defBody (top 63), defScope (top 63), []⟩
def d_Race_names : HX.DefE := ⟨.m "Race" "names", "names", "Race.names", defArgs (mtop 37 2), defBody (mtop 37 2), defScope (mtop 37 2), []⟩
def d_Race_contains : HX.DefE := ⟨.m "Race" "__contains__", "__contains__", "Race.__contains__", defArgs (mtop 37 19), defBody (mtop 37 19), defScope (mtop 37 19), []⟩
def d_Race_runner : HX.DefE := ⟨.m "Race" "runner", "runner", "Race.runner", defArgs (mtop 37 3), defBody (mtop 37 3), defScope (mtop 37 3), []⟩
def d_Race_pieces : HX.DefE := ⟨.m "Race" "pieces", "pieces", "Race.pieces", defArgs (mtop 37 6), defBody (mtop 37 6), defScope (mtop 37 6), []⟩
def d_Race_start : HX.DefE := ⟨.m "Race" "start", "start", "Race.start", defArgs (mtop 37 5), defBody (mtop 37 5), defScope (mtop 37 5), []⟩
def d_Race_length : HX.DefE := ⟨.p "Race" "length", "length", "Race.length", defArgs (mtop 37 1), defBody (mtop 37 1), defScope (mtop 37 1), []⟩
def d_law_longer : HX.DefE := ⟨.g "_law_longer", "_law_longer", "_law_longer", defArgs (top 64), defBody (top 64), defScope (top 64), []⟩
def d_Race_slowed : HX.DefE := ⟨.m "Race" "slowed", "slowed", "Race.slowed", defArgs (mtop 37 18), defBody (mtop 37 18), defScope (mtop 37 18), []⟩
def d_in_order : HX.DefE := ⟨.g "in_order", "in_order", "in_order", defArgs (top 26), defBody (top 26), defScope (top 26), []⟩
def d_Race_change_times : HX.DefE := ⟨.m "Race" "change_times", "change_times", "Race.change_times", defArgs (mtop 37 7), defBody (mtop 37 7), defScope (mtop 37 7), []⟩
def d_as_time : HX.DefE := ⟨.g "as_time", "as_time", "as_time", defArgs (top 33), defBody (top 33), defScope (top 33), []⟩
def d_Race_position : HX.DefE := ⟨.m "Race" "position", "position", "Race.position", defArgs (mtop 37 8), defBody (mtop 37 8), defScope (mtop 37 8), []⟩
def d_Race_place : HX.DefE := ⟨.m "Race" "place", "place", "Race.place", defArgs (mtop 37 9), defBody (mtop 37 9), defScope (mtop 37 9), []⟩
def d_standing : HX.DefE := ⟨.g "standing", "standing", "standing", defArgs (top 55), defBody (top 55), defScope (top 55), []⟩
def d_Race_validate_names : HX.DefE := ⟨.m "Race" "validate_names", "validate_names", "Race.validate_names", defArgs (mtop 37 4), defBody (mtop 37 4), defScope (mtop 37 4), []⟩
def d_gap : HX.DefE := ⟨.g "gap", "gap", "gap", defArgs (top 56), defBody (top 56), defScope (top 56), []⟩
def d_Race_laps : HX.DefE := ⟨.m "Race" "laps", "laps", "Race.laps", defArgs (mtop 37 10), defBody (mtop 37 10), defScope (mtop 37 10), []⟩
def d_law_check : HX.DefE := ⟨.g "_law_check", "_law_check", "_law_check", defArgs (top 65), defBody (top 65), defScope (top 65), []⟩
def d_as_window : HX.DefE := ⟨.g "as_window", "as_window", "as_window", defArgs (top 39), defBody (top 39), defScope (top 39), []⟩
def d_cut_times : HX.DefE := ⟨.g "cut_times", "cut_times", "cut_times", defArgs (top 40), defBody (top 40), defScope (top 40), []⟩
def d_Race_speed : HX.DefE := ⟨.m "Race" "speed", "speed", "Race.speed", defArgs (mtop 37 11), defBody (mtop 37 11), defScope (mtop 37 11), []⟩
def d_laps_apart : HX.DefE := ⟨.g "laps_apart", "laps_apart", "laps_apart", defArgs (top 41), defBody (top 41), defScope (top 41), []⟩
def d_passes : HX.DefE := ⟨.g "passes", "passes", "passes", defArgs (top 42), defBody (top 42), defScope (top 42), []⟩
def d_pass_table : HX.DefE := ⟨.g "pass_table", "pass_table", "pass_table", defArgs (top 43), defBody (top 43), defScope (top 43), []⟩
def d_as_gap : HX.DefE := ⟨.g "as_gap", "as_gap", "as_gap", defArgs (top 46), defBody (top 46), defScope (top 46), []⟩
def d_approach : HX.DefE := ⟨.g "approach", "approach", "approach", defArgs (top 47), defBody (top 47), defScope (top 47), []⟩
def d_offset : HX.DefE := ⟨.g "offset", "offset", "offset", defArgs (top 48), defBody (top 48), defScope (top 48), []⟩
def d_rows_of : HX.DefE := ⟨.g "rows_of", "rows_of", "rows_of", defArgs (top 49), defBody (top 49), defScope (top 49), []⟩
def d_direction : HX.DefE := ⟨.g "direction", "direction", "direction", defArgs (top 50), defBody (top 50), defScope (top 50), []⟩
def d_count_gap : HX.DefE := ⟨.g "count_gap", "count_gap", "count_gap", defArgs (top 51), defBody (top 51), defScope (top 51), []⟩
def d_time_in_row : HX.DefE := ⟨.g "time_in_row", "time_in_row", "time_in_row", defArgs (top 52), defBody (top 52), defScope (top 52), []⟩
def d_gap_times : HX.DefE := ⟨.g "gap_times", "gap_times", "gap_times", defArgs (top 53), defBody (top 53), defScope (top 53), []⟩
def d_Race_turned : HX.DefE := ⟨.m "Race" "turned", "turned", "Race.turned", defArgs (mtop 37 16), defBody (mtop 37 16), defScope (mtop 37 16), []⟩
def d_law : HX.DefE := ⟨.g "law", "law", "law", defArgs (top 66), defBody (top 66), defScope (top 66), []⟩
def fn0 : List HX.DefE := [d_law_pool, d_law_draw, d_is_integer, d_common_divisor, d_ratio, d_law_number, d_is_ratio, d_is_number, d_as_ratio, d_plus, d_law_pieces, d_law_choose, d_minus, d_compare, d_is_piece, d_are_pieces]
def fn1 : List HX.DefE := [d_is_runner, d_is_name, d_divided, d_floor_of, d_times, d_remainder, d_Race_init, d_law_race, d_Race_names, d_Race_contains, d_Race_runner, d_Race_pieces, d_Race_start, d_Race_length, d_law_longer, d_Race_slowed]
def fn2 : List HX.DefE := [d_in_order, d_Race_change_times, d_as_time, d_Race_position, d_Race_place, d_standing, d_Race_validate_names, d_gap, d_Race_laps, d_law_check, d_as_window, d_cut_times, d_Race_speed, d_laps_apart, d_passes, d_pass_table]
def fn3 : List HX.DefE := [d_as_gap, d_approach, d_offset, d_rows_of, d_direction, d_count_gap, d_time_in_row, d_gap_times, d_Race_turned, d_law]
def fnl : List HX.DefE := fn0 ++ fn1 ++ fn2 ++ fn3
def fa0 : List He.Fa := [.free "len", .free "bool", .free "isinstance", .free "int", .free "abs", .glo "is_integer", .glo "common_divisor", .glo "_law_draw", .glo "ratio", .free "tuple", .glo "is_ratio", .glo "is_number", .glo "as_ratio", .glo "_law_number", .free "range", .glo "plus", .glo "minus", .glo "compare", .int "MAX_PIECES" 20, .free "list", .glo "is_piece", .free "all", .glo "are_pieces", .free "str"]
def fa1 : List He.Fa := [.str "SIGNS" "abcdefghijklmnopqrstuvwxyz0123456789", .str "LETTERS" "abcdefghijklmnopqrstuvwxyz", .glo "divided", .glo "floor_of", .glo "times", .int "MAX_RUNNERS" 12, .free "dict", .glo "is_runner", .glo "is_name", .cls "Race", .noat "Race" "own_length", .noat "Race" "own_runners", .free "sorted", .glo "remainder", .noat "Race" "own_parts", .glo "_law_pieces", .glo "_law_choose", .glo "Race", .mkr "Race", .meth "Race" "__contains__", .meth "Race" "runner", .meth "Race" "names", .meth "Race" "pieces", .meth "Race" "start"]
def fa2 : List He.Fa := [.glo "in_order", .glo "as_time", .free "enumerate", .meth "Race" "position", .meth "Race" "place", .meth "Race" "validate_names", .glo "standing", .glo "gap", .meth "Race" "laps", .glo "as_window", .glo "cut_times", .free "zip", .meth "Race" "speed", .glo "laps_apart", .glo "passes", .glo "approach", .glo "offset", .glo "as_gap", .glo "rows_of", .glo "direction", .free "max", .free "sum", .glo "count_gap", .int "MAX_TIMES" 2000]
def fa3 : List He.Fa := [.glo "time_in_row", .free "min", .glo "_law_pool", .glo "_law_race", .glo "_law_longer", .meth "Race" "slowed", .meth "Race" "change_times", .glo "_law_check", .glo "pass_table", .glo "gap_times", .meth "Race" "turned", .glo "law"]
def fal : List He.Fa := fa0 ++ fa1 ++ fa2 ++ fa3
def prl : List (Str × Str) := [("Race", "length")]
def nm0 : List Str := ["_wall", "__name__", "InvalidNumber", "InvalidLength", "InvalidRunner", "InvalidTime", "InvalidWindow", "InvalidFactor", "UnknownName", "DivisionByZero", "InvalidGap", "LimitExceeded", "is_integer", "common_divisor", "is_ratio", "is_number", "ratio", "as_ratio", "plus", "minus", "times", "divided", "compare", "floor_of"]
def nm1 : List Str := ["remainder", "in_order", "MAX_RUNNERS", "MAX_PIECES", "LETTERS", "SIGNS", "is_name", "as_time", "is_piece", "are_pieces", "is_runner", "Race", "as_window", "cut_times", "laps_apart", "passes", "pass_table", "MAX_TIMES", "as_gap", "approach", "offset", "rows_of", "direction", "count_gap"]
def nm2 : List Str := ["time_in_row", "gap_times", "standing", "gap", "_law_pool", "_law_draw", "_law_choose", "_law_number", "_law_pieces", "_law_race", "_law_longer", "_law_check"]
def nml : List Str := nm0 ++ nm1 ++ nm2
abbrev R : PySem.W.OpenRow := PySem.W.OpenLaw.row PySem.Challenge.rw_laprunners_k82_whole_scaled_races
abbrev hk : PySem.W.Hook := HX.hook 5 fal prl fnl
def ob (s : PySem.W.SharedT) : HX.Ob := HX.obsG 5 fal prl fnl (HandSHeadRun.getT s)
theorem ob_eq (s : PySem.W.SharedT) : ob s = hk.obs s.abs := HX.obsG_eq (HandSHeadRun.getT_eq s)
theorem run (w : World) : HandSHeadRun.RunEq R (PySem.W.view R.prog [66]) hk ob 20000 nml w := by
  intro os
  kernel_rfl
end G


/-! ## F82 -/
namespace G
open PySem PySem.Spec PyProof.Rows L2 L3
theorem sc_law_pool : FnScope ["script", "k", "cell", "seed"] ["script", "k"] (defScope (top 58)) := ⟨rfl, rfl, rfl, by decide +kernel, rfl, by decide +kernel, by decide +kernel⟩
theorem ok_law_pool {P : Program} {w : World} {mg : Str → Option Value} {K : PySem.W.Frag} {f : Addr} {fd : FuncData} {dvs : List V} (F : FunD K "_law_pool" "_law_pool" (defArgs (top 58)) (defBody (top 58)) (defScope (top 58)) dvs [] f fd) (m_len : mg "len" = none) : ∀ base : Heap, FnOk P w K mg base CX0 3 f fd ["script", "k"] (spP (Zp K) Ph_law_pool) :=
  fun base => okP (Z := Zp K) (t := t_law_pool) F sc_law_pool (fun cdv A outer s H E hr => qss_cons (qs_set (i := 2) sc_law_pool.nd (q_int)) (qss_cons (qs_if (qt_cmp q_lt (q_var (i := 1)) (q_callB c_len m_len rfl (qa_cons (q_var (i := 0)) (qa_nil)))) (qss_one (qs_set (i := 2) sc_law_pool.nd (q_ix (q_var (i := 0)) (q_var (i := 1))))) (qss_nil)) (qss_cons (qs_set (i := 3) sc_law_pool.nd (q_op q_modI (q_op q_powI (q_op q_addI (q_op q_addI (q_op q_modI (q_var (i := 2)) (q_int)) (q_op q_mulI (q_op q_mulI (q_int) (q_var (i := 1))) (q_var (i := 1)))) (q_int)) (q_int)) (q_int))) (qss_cons (qs_if (qt_cmp q_lt (q_var (i := 2)) (q_op q_powI (q_int) (q_int))) (qss_one (qs_set (i := 2) sc_law_pool.nd (q_int))) (qss_nil)) (qss_one (qs_ret (q_newCel (qa_cons (q_var (i := 2)) (qa_cons (q_var (i := 3)) (qa_nil)))))))))) hp_law_pool
theorem sc_law_draw : FnScope ["pool", "many", "digit"] ["pool", "many"] (defScope (top 59)) := ⟨rfl, rfl, rfl, by decide +kernel, rfl, by decide +kernel, by decide +kernel⟩
theorem ok_law_draw {P : Program} {w : World} {mg : Str → Option Value} {K : PySem.W.Frag} {f : Addr} {fd : FuncData} {dvs : List V} (F : FunD K "_law_draw" "_law_draw" (defArgs (top 59)) (defBody (top 59)) (defScope (top 59)) dvs [] f fd)  : ∀ base : Heap, FnOk P w K mg base CX0 3 f fd ["pool", "many"] (spP (Zp K) Ph_law_draw) :=
  fun base => okP (Z := Zp K) (t := t_law_draw) F sc_law_draw (fun cdv A outer s H E hr => qss_cons (qs_if (qt_cmp q_gt (q_cel (v := 0)) (q_int)) (qss_cons (qs_set (i := 2) sc_law_draw.nd (q_op q_modI (q_cel (v := 0)) (q_var (i := 1)))) (qss_cons (qs_celSet (v := 0) (q_op q_fdivI (q_cel (v := 0)) (q_var (i := 1)))) (qss_one (qs_ret (q_var (i := 2)))))) (qss_nil)) (qss_cons (qs_celSet (v := 0) (q_op q_modI (q_op q_addI (q_op q_mulI (q_cel (v := 0)) (q_int)) (q_int)) (q_int))) (qss_one (qs_ret (q_op q_modI (q_op q_fdivI (q_op q_modI (q_op q_mulI (q_cel (v := 0)) (q_cel (v := 0))) (q_int)) (q_int)) (q_var (i := 1))))))) hp_law_draw
theorem sc_is_integer : FnScope ["value"] ["value"] (defScope (top 13)) := ⟨rfl, rfl, rfl, by decide +kernel, rfl, by decide +kernel, by decide +kernel⟩
theorem ok_is_integer {P : Program} {w : World} {mg : Str → Option Value} {K : PySem.W.Frag} {f : Addr} {fd : FuncData} {dvs : List V} (F : FunD K "is_integer" "is_integer" (defArgs (top 13)) (defBody (top 13)) (defScope (top 13)) dvs [] f fd) (m_bool : mg "bool" = none) (m_isinstance : mg "isinstance" = none) (m_int : mg "int" = none) : ∀ base : Heap, FnOk P w K mg base CX0 3 f fd ["value"] (spP (Zp K) Ph_is_integer) :=
  fun base => okP (Z := Zp K) (t := t_is_integer) F sc_is_integer (fun cdv A outer s H E hr => qss_one (qs_ret (q_and (q_callB c_isi m_isinstance rfl (qa_cons (q_var (i := 0)) (qa_cons (q_ty m_int rfl) (qa_nil)))) (q_one (q_not (q_callB c_isi m_isinstance rfl (qa_cons (q_var (i := 0)) (qa_cons (q_ty m_bool rfl) (qa_nil))))))))) hp_is_integer
theorem sc_common_divisor : FnScope ["first", "second"] ["first", "second"] (defScope (top 14)) := ⟨rfl, rfl, rfl, by decide +kernel, rfl, by decide +kernel, by decide +kernel⟩
theorem ok_common_divisor {P : Program} {w : World} {mg : Str → Option Value} {K : PySem.W.Frag} {f : Addr} {fd : FuncData} {dvs : List V} (F : FunD K "common_divisor" "common_divisor" (defArgs (top 14)) (defBody (top 14)) (defScope (top 14)) dvs [] f fd) (m_abs : mg "abs" = none) : ∀ base : Heap, FnOk P w K mg base CX0 3 f fd ["first", "second"] (spP (Zp K) Ph_common_divisor) :=
  fun base => okP (Z := Zp K) (t := t_common_divisor) F sc_common_divisor (fun cdv A outer s H E hr => qss_cons (qs_while (qt_cmp (q_ne hr) (q_var (i := 1)) (q_int)) (qss_one (qs_par (i := 0) (j := 1) sc_common_divisor.nd (qa_cons (q_var (i := 1)) (qa_cons (q_op q_modI (q_var (i := 0)) (q_var (i := 1))) (qa_nil)))))) (qss_one (qs_ret (q_callB c_abs m_abs rfl (qa_cons (q_var (i := 0)) (qa_nil)))))) hp_common_divisor
theorem sc_ratio : FnScope ["numerator", "denominator", "common"] ["numerator", "denominator"] (defScope (top 17)) := ⟨rfl, rfl, rfl, by decide +kernel, rfl, by decide +kernel, by decide +kernel⟩
theorem ok_ratio {P : Program} {w : World} {mg : Str → Option Value} {K : PySem.W.Frag} {f : Addr} {fd : FuncData} {dvs : List V} (F : FunD K "ratio" "ratio" (defArgs (top 17)) (defBody (top 17)) (defScope (top 17)) dvs [] f fd) (c_is_integer : FnC P w mg (Zp K) "is_integer" 3 1 Ph_is_integer) (c_common_divisor : FnC P w mg (Zp K) "common_divisor" 3 2 Ph_common_divisor) : ∀ base : Heap, FnOk P w K mg base CX0 4 f fd ["numerator", "denominator"] (spP (Zp K) Ph_ratio) :=
  fun base => okP (Z := Zp K) (t := t_ratio) F sc_ratio (fun cdv A outer s H E hr => qss_cons (qs_if ((qw_or (qt_not (qt_val (q_call c_is_integer hr (qa_cons (q_var (i := 0)) (qa_nil))))) (qw_or1 (qt_not (qt_val (q_call c_is_integer hr (qa_cons (q_var (i := 1)) (qa_nil))))))).pt) (qss_never) (qss_nil)) (qss_cons (qs_if (qt_cmp (q_eq hr) (q_var (i := 1)) (q_int)) (qss_never) (qss_nil)) (qss_cons (qs_set (i := 2) sc_ratio.nd (q_op q_mulI (q_call c_common_divisor hr (qa_cons (q_var (i := 0)) (qa_cons (q_var (i := 1)) (qa_nil)))) (q_if (qt_cmp q_gt (q_var (i := 1)) (q_int)) (q_int) (q_neg (q_int))))) (qss_one (qs_ret (q_tup (qa_cons (q_op q_fdivI (q_var (i := 0)) (q_var (i := 2))) (qa_cons (q_op q_fdivI (q_var (i := 1)) (q_var (i := 2))) (qa_nil))))))))) hp_ratio
theorem sc_law_number : FnScope ["pool", "low", "high", "value"] ["pool", "low", "high"] (defScope (top 61)) := ⟨rfl, rfl, rfl, by decide +kernel, rfl, by decide +kernel, by decide +kernel⟩
theorem ok_law_number {P : Program} {w : World} {mg : Str → Option Value} {K : PySem.W.Frag} {f : Addr} {fd : FuncData} {dvs : List V} (F : FunD K "_law_number" "_law_number" (defArgs (top 61)) (defBody (top 61)) (defScope (top 61)) dvs [] f fd) (c_law_draw : FnC P w mg (Zp K) "_law_draw" 3 2 Ph_law_draw) (c_ratio : FnC P w mg (Zp K) "ratio" 4 2 Ph_ratio) : ∀ base : Heap, FnOk P w K mg base CX0 5 f fd ["pool", "low", "high"] (spP (Zp K) Ph_law_number) :=
  fun base => okP (Z := Zp K) (t := t_law_number) F sc_law_number (fun cdv A outer s H E hr => qss_cons (qs_set (i := 3) sc_law_number.nd (q_op q_addI (q_var (i := 1)) (q_call c_law_draw hr (qa_cons (q_var (i := 0)) (qa_cons (q_op q_addI (q_op q_subI (q_var (i := 2)) (q_var (i := 1))) (q_int)) (qa_nil)))))) (qss_cons (qs_if (qt_cmp q_gt (q_call c_law_draw hr (qa_cons (q_var (i := 0)) (qa_cons (q_int) (qa_nil)))) (q_int)) (qss_one (qs_ret (q_var (i := 3)))) (qss_nil)) (qss_one (qs_ret (q_call c_ratio hr (qa_cons (q_op q_addI (q_op q_mulI (q_var (i := 3)) (q_int)) (q_call c_law_draw hr (qa_cons (q_var (i := 0)) (qa_cons (q_int) (qa_nil))))) (qa_cons (q_op q_addI (q_int) (q_call c_law_draw hr (qa_cons (q_var (i := 0)) (qa_cons (q_int) (qa_nil))))) (qa_nil)))))))) hp_law_number
theorem sc_is_ratio : FnScope ["value"] ["value"] (defScope (top 15)) := ⟨rfl, rfl, rfl, by decide +kernel, rfl, by decide +kernel, by decide +kernel⟩
theorem ok_is_ratio {P : Program} {w : World} {mg : Str → Option Value} {K : PySem.W.Frag} {f : Addr} {fd : FuncData} {dvs : List V} (F : FunD K "is_ratio" "is_ratio" (defArgs (top 15)) (defBody (top 15)) (defScope (top 15)) dvs [] f fd) (c_is_integer : FnC P w mg (Zp K) "is_integer" 3 1 Ph_is_integer) (m_len : mg "len" = none) (m_tuple : mg "tuple" = none) (m_isinstance : mg "isinstance" = none) (c_common_divisor : FnC P w mg (Zp K) "common_divisor" 3 2 Ph_common_divisor) : ∀ base : Heap, FnOk P w K mg base CX0 4 f fd ["value"] (spP (Zp K) Ph_is_ratio) :=
  fun base => okP (Z := Zp K) (t := t_is_ratio) F sc_is_ratio (fun cdv A outer s H E hr => qss_cons (qs_if ((qw_or (qt_not (qt_val (q_callB c_isi m_isinstance rfl (qa_cons (q_var (i := 0)) (qa_cons (q_ty m_tuple rfl) (qa_nil)))))) (qw_or (qt_cmp (q_ne hr) (q_callB c_len m_len rfl (qa_cons (q_var (i := 0)) (qa_nil))) (q_int)) (qw_or (qt_not (qt_val (q_call c_is_integer hr (qa_cons (q_ix (q_var (i := 0)) (q_int)) (qa_nil))))) (qw_or1 (qt_not (qt_val (q_call c_is_integer hr (qa_cons (q_ix (q_var (i := 0)) (q_int)) (qa_nil))))))))).pt) (qss_one (qs_ret (q_bl))) (qss_nil)) (qss_one (qs_ret (q_and (q_cmp q_ge (q_ix (q_var (i := 0)) (q_int)) (q_int)) (q_one (q_cmp (q_eq hr) (q_call c_common_divisor hr (qa_cons (q_ix (q_var (i := 0)) (q_int)) (qa_cons (q_ix (q_var (i := 0)) (q_int)) (qa_nil)))) (q_int))))))) hp_is_ratio
theorem sc_is_number : FnScope ["value"] ["value"] (defScope (top 16)) := ⟨rfl, rfl, rfl, by decide +kernel, rfl, by decide +kernel, by decide +kernel⟩
theorem ok_is_number {P : Program} {w : World} {mg : Str → Option Value} {K : PySem.W.Frag} {f : Addr} {fd : FuncData} {dvs : List V} (F : FunD K "is_number" "is_number" (defArgs (top 16)) (defBody (top 16)) (defScope (top 16)) dvs [] f fd) (c_is_ratio : FnC P w mg (Zp K) "is_ratio" 4 1 Ph_is_ratio) (c_is_integer : FnC P w mg (Zp K) "is_integer" 3 1 Ph_is_integer) : ∀ base : Heap, FnOk P w K mg base CX0 5 f fd ["value"] (spP (Zp K) Ph_is_number) :=
  fun base => okP (Z := Zp K) (t := t_is_number) F sc_is_number (fun cdv A outer s H E hr => qss_one (qs_ret (q_or (q_call c_is_integer hr (qa_cons (q_var (i := 0)) (qa_nil))) (q_one (q_call c_is_ratio hr (qa_cons (q_var (i := 0)) (qa_nil))))))) hp_is_number
theorem sc_as_ratio : FnScope ["value"] ["value"] (defScope (top 18)) := ⟨rfl, rfl, rfl, by decide +kernel, rfl, by decide +kernel, by decide +kernel⟩
theorem ok_as_ratio {P : Program} {w : World} {mg : Str → Option Value} {K : PySem.W.Frag} {f : Addr} {fd : FuncData} {dvs : List V} (F : FunD K "as_ratio" "as_ratio" (defArgs (top 18)) (defBody (top 18)) (defScope (top 18)) dvs [] f fd) (c_is_number : FnC P w mg (Zp K) "is_number" 5 1 Ph_is_number) (c_is_integer : FnC P w mg (Zp K) "is_integer" 3 1 Ph_is_integer) : ∀ base : Heap, FnOk P w K mg base CX0 6 f fd ["value"] (spP (Zp K) Ph_as_ratio) :=
  fun base => okP (Z := Zp K) (t := t_as_ratio) F sc_as_ratio (fun cdv A outer s H E hr => qss_cons (qs_if (qt_not (qt_val (q_call c_is_number hr (qa_cons (q_var (i := 0)) (qa_nil))))) (qss_never) (qss_nil)) (qss_one (qs_ret (q_if (qt_val (q_call c_is_integer hr (qa_cons (q_var (i := 0)) (qa_nil)))) (q_tup (qa_cons (q_var (i := 0)) (qa_cons (q_int) (qa_nil)))) (q_var (i := 0)))))) hp_as_ratio
theorem sc_plus : FnScope ["first", "second", "one", "two"] ["first", "second"] (defScope (top 19)) := ⟨rfl, rfl, rfl, by decide +kernel, rfl, by decide +kernel, by decide +kernel⟩
theorem ok_plus {P : Program} {w : World} {mg : Str → Option Value} {K : PySem.W.Frag} {f : Addr} {fd : FuncData} {dvs : List V} (F : FunD K "plus" "plus" (defArgs (top 19)) (defBody (top 19)) (defScope (top 19)) dvs [] f fd) (c_as_ratio : FnC P w mg (Zp K) "as_ratio" 6 1 Ph_as_ratio) (c_ratio : FnC P w mg (Zp K) "ratio" 4 2 Ph_ratio) : ∀ base : Heap, FnOk P w K mg base CX0 7 f fd ["first", "second"] (spP (Zp K) Ph_plus) :=
  fun base => okP (Z := Zp K) (t := t_plus) F sc_plus (fun cdv A outer s H E hr => qss_cons (qs_par (i := 2) (j := 3) sc_plus.nd (qa_cons (q_call c_as_ratio hr (qa_cons (q_var (i := 0)) (qa_nil))) (qa_cons (q_call c_as_ratio hr (qa_cons (q_var (i := 1)) (qa_nil))) (qa_nil)))) (qss_one (qs_ret (q_call c_ratio hr (qa_cons (q_op q_addI (q_op q_mulI (q_ix (q_var (i := 2)) (q_int)) (q_ix (q_var (i := 3)) (q_int))) (q_op q_mulI (q_ix (q_var (i := 3)) (q_int)) (q_ix (q_var (i := 2)) (q_int)))) (qa_cons (q_op q_mulI (q_ix (q_var (i := 2)) (q_int)) (q_ix (q_var (i := 3)) (q_int))) (qa_nil))))))) hp_plus
theorem sc_law_pieces : FnScope ["pool", "pieces", "time", "turn"] ["pool"] (defScope (top 62)) := ⟨rfl, rfl, rfl, by decide +kernel, rfl, by decide +kernel, by decide +kernel⟩
theorem ok_law_pieces {P : Program} {w : World} {mg : Str → Option Value} {K : PySem.W.Frag} {f : Addr} {fd : FuncData} {dvs : List V} (F : FunD K "_law_pieces" "_law_pieces" (defArgs (top 62)) (defBody (top 62)) (defScope (top 62)) dvs [] f fd) (c_law_number : FnC P w mg (Zp K) "_law_number" 5 3 Ph_law_number) (c_law_draw : FnC P w mg (Zp K) "_law_draw" 3 2 Ph_law_draw) (m_range : mg "range" = none) (c_ratio : FnC P w mg (Zp K) "ratio" 4 2 Ph_ratio) (c_plus : FnC P w mg (Zp K) "plus" 7 2 Ph_plus) : ∀ base : Heap, FnOk P w K mg base CX0 8 f fd ["pool"] (spP (Zp K) Ph_law_pieces) :=
  fun base => okP (Z := Zp K) (t := t_law_pieces) F sc_law_pieces (fun cdv A outer s H E hr => qss_cons (qs_parL (i := 1) (j := 2) sc_law_pieces.nd (qa_cons (q_tup (qa_cons (q_int) (qa_cons (q_call c_law_number hr (qa_cons (q_var (i := 0)) (qa_cons (q_neg (q_int)) (qa_cons (q_int) (qa_nil))))) (qa_nil)))) (qa_nil)) (q_int)) (qss_cons (qs_for (qi_range1 m_range (qa_cons (q_call c_law_draw hr (qa_cons (q_var (i := 0)) (qa_cons (q_int) (qa_nil)))) (qa_nil))) (qg_name (i := 3) sc_law_pieces.nd) (qss_cons (qs_set (i := 2) sc_law_pieces.nd (q_call c_plus hr (qa_cons (q_var (i := 2)) (qa_cons (q_call c_ratio hr (qa_cons (q_op q_addI (q_int) (q_call c_law_draw hr (qa_cons (q_var (i := 0)) (qa_cons (q_int) (qa_nil))))) (qa_cons (q_op q_addI (q_int) (q_call c_law_draw hr (qa_cons (q_var (i := 0)) (qa_cons (q_int) (qa_nil))))) (qa_nil)))) (qa_nil))))) (qss_one (qs_append (i := 1) (q_tup (qa_cons (q_var (i := 2)) (qa_cons (q_call c_law_number hr (qa_cons (q_var (i := 0)) (qa_cons (q_neg (q_int)) (qa_cons (q_int) (qa_nil))))) (qa_nil)))))))) (qss_one (qs_frz 1 (qs_ret (q_var (i := 1))))))) hp_law_pieces
theorem sc_law_choose : FnScope ["pool", "items"] ["pool", "items"] (defScope (top 60)) := ⟨rfl, rfl, rfl, by decide +kernel, rfl, by decide +kernel, by decide +kernel⟩
theorem ok_law_choose {P : Program} {w : World} {mg : Str → Option Value} {K : PySem.W.Frag} {f : Addr} {fd : FuncData} {dvs : List V} (F : FunD K "_law_choose" "_law_choose" (defArgs (top 60)) (defBody (top 60)) (defScope (top 60)) dvs [] f fd) (m_len : mg "len" = none) (c_law_draw : FnC P w mg (Zp K) "_law_draw" 3 2 Ph_law_draw) : ∀ base : Heap, FnOk P w K mg base CX0 4 f fd ["pool", "items"] (spP (Zp K) Ph_law_choose) :=
  fun base => okP (Z := Zp K) (t := t_law_choose) F sc_law_choose (fun cdv A outer s H E hr => qss_one (qs_ret (q_ix (q_var (i := 1)) (q_call c_law_draw hr (qa_cons (q_var (i := 0)) (qa_cons (q_callB c_len m_len rfl (qa_cons (q_var (i := 1)) (qa_nil))) (qa_nil))))))) hp_law_choose
theorem sc_minus : FnScope ["first", "second", "one", "two"] ["first", "second"] (defScope (top 20)) := ⟨rfl, rfl, rfl, by decide +kernel, rfl, by decide +kernel, by decide +kernel⟩
theorem ok_minus {P : Program} {w : World} {mg : Str → Option Value} {K : PySem.W.Frag} {f : Addr} {fd : FuncData} {dvs : List V} (F : FunD K "minus" "minus" (defArgs (top 20)) (defBody (top 20)) (defScope (top 20)) dvs [] f fd) (c_as_ratio : FnC P w mg (Zp K) "as_ratio" 6 1 Ph_as_ratio) (c_ratio : FnC P w mg (Zp K) "ratio" 4 2 Ph_ratio) : ∀ base : Heap, FnOk P w K mg base CX0 7 f fd ["first", "second"] (spP (Zp K) Ph_minus) :=
  fun base => okP (Z := Zp K) (t := t_minus) F sc_minus (fun cdv A outer s H E hr => qss_cons (qs_par (i := 2) (j := 3) sc_minus.nd (qa_cons (q_call c_as_ratio hr (qa_cons (q_var (i := 0)) (qa_nil))) (qa_cons (q_call c_as_ratio hr (qa_cons (q_var (i := 1)) (qa_nil))) (qa_nil)))) (qss_one (qs_ret (q_call c_ratio hr (qa_cons (q_op q_subI (q_op q_mulI (q_ix (q_var (i := 2)) (q_int)) (q_ix (q_var (i := 3)) (q_int))) (q_op q_mulI (q_ix (q_var (i := 3)) (q_int)) (q_ix (q_var (i := 2)) (q_int)))) (qa_cons (q_op q_mulI (q_ix (q_var (i := 2)) (q_int)) (q_ix (q_var (i := 3)) (q_int))) (qa_nil))))))) hp_minus
theorem sc_compare : FnScope ["first", "second", "apart"] ["first", "second"] (defScope (top 23)) := ⟨rfl, rfl, rfl, by decide +kernel, rfl, by decide +kernel, by decide +kernel⟩
theorem ok_compare {P : Program} {w : World} {mg : Str → Option Value} {K : PySem.W.Frag} {f : Addr} {fd : FuncData} {dvs : List V} (F : FunD K "compare" "compare" (defArgs (top 23)) (defBody (top 23)) (defScope (top 23)) dvs [] f fd) (c_minus : FnC P w mg (Zp K) "minus" 7 2 Ph_minus) : ∀ base : Heap, FnOk P w K mg base CX0 8 f fd ["first", "second"] (spP (Zp K) Ph_compare) :=
  fun base => okP (Z := Zp K) (t := t_compare) F sc_compare (fun cdv A outer s H E hr => qss_cons (qs_set (i := 2) sc_compare.nd (q_ix (q_call c_minus hr (qa_cons (q_var (i := 0)) (qa_cons (q_var (i := 1)) (qa_nil)))) (q_int))) (qss_one (qs_ret (q_op q_subB (q_cmp q_gt (q_var (i := 2)) (q_int)) (q_cmp q_lt (q_var (i := 2)) (q_int)))))) hp_compare
theorem sc_is_piece : FnScope ["value"] ["value"] (defScope (top 34)) := ⟨rfl, rfl, rfl, by decide +kernel, rfl, by decide +kernel, by decide +kernel⟩
theorem ok_is_piece {P : Program} {w : World} {mg : Str → Option Value} {K : PySem.W.Frag} {f : Addr} {fd : FuncData} {dvs : List V} (F : FunD K "is_piece" "is_piece" (defArgs (top 34)) (defBody (top 34)) (defScope (top 34)) dvs [] f fd) (m_len : mg "len" = none) (m_tuple : mg "tuple" = none) (m_isinstance : mg "isinstance" = none) (c_compare : FnC P w mg (Zp K) "compare" 8 2 Ph_compare) (c_is_number : FnC P w mg (Zp K) "is_number" 5 1 Ph_is_number) : ∀ base : Heap, FnOk P w K mg base CX0 9 f fd ["value"] (spP (Zp K) Ph_is_piece) :=
  fun base => okP (Z := Zp K) (t := t_is_piece) F sc_is_piece (fun cdv A outer s H E hr => qss_cons (qs_if ((qw_or (qt_not (qt_val (q_callB c_isi m_isinstance rfl (qa_cons (q_var (i := 0)) (qa_cons (q_ty m_tuple rfl) (qa_nil)))))) (qw_or1 (qt_cmp (q_ne hr) (q_callB c_len m_len rfl (qa_cons (q_var (i := 0)) (qa_nil))) (q_int)))).pt) (qss_one (qs_ret (q_bl))) (qss_nil)) (qss_one (qs_ret (q_and (q_call c_is_number hr (qa_cons (q_ix (q_var (i := 0)) (q_int)) (qa_nil))) (q_and (q_call c_is_number hr (qa_cons (q_ix (q_var (i := 0)) (q_int)) (qa_nil))) (q_one (q_cmp q_ge (q_call c_compare hr (qa_cons (q_ix (q_var (i := 0)) (q_int)) (qa_cons (q_int) (qa_nil)))) (q_int)))))))) hp_is_piece
theorem sc_are_pieces : FnScope ["value", "piece", "at"] ["value"] (defScope (top 35)) := ⟨rfl, rfl, rfl, by decide +kernel, rfl, by decide +kernel, by decide +kernel⟩
theorem ok_are_pieces {P : Program} {w : World} {mg : Str → Option Value} {K : PySem.W.Frag} {f : Addr} {fd : FuncData} {dvs : List V} (F : FunD K "are_pieces" "are_pieces" (defArgs (top 35)) (defBody (top 35)) (defScope (top 35)) dvs [] f fd) (m_len : mg "len" = none) (g_MAX_PIECES : ∃ t, mg "MAX_PIECES" = some (.int 20 t)) (m_tuple : mg "tuple" = none) (m_list : mg "list" = none) (m_isinstance : mg "isinstance" = none) (c_compare : FnC P w mg (Zp K) "compare" 8 2 Ph_compare) (c_is_piece : FnC P w mg (Zp K) "is_piece" 9 1 Ph_is_piece) (m_all : mg "all" = none) (m_range : mg "range" = none) : ∀ base : Heap, FnOk P w K mg base CX0 10 f fd ["value"] (spP (Zp K) Ph_are_pieces) :=
  fun base => okP (Z := Zp K) (t := t_are_pieces) F sc_are_pieces (fun cdv A outer s H E hr => qss_cons (qs_if ((qw_or (qt_not (qt_val (q_callB c_isi2 m_isinstance rfl (qa_cons (q_var (i := 0)) (qa_cons (q_tup (qa_cons (q_ty m_list rfl) (qa_cons (q_ty m_tuple rfl) (qa_nil)))) (qa_nil)))))) (qw_or1 (qt_not (qt_chain q_le q_le (q_int) (q_callB c_len m_len rfl (qa_cons (q_var (i := 0)) (qa_nil))) (q_gint g_MAX_PIECES))))).pt) (qss_one (qs_ret (q_bl))) (qss_nil)) (qss_cons (qs_if ((qw_or (qt_not (qt_val (q_callB c_all m_all rfl (qa_cons (q_lc (own := [("piece", 1)]) sc_are_pieces.nd (qi_list (q_var (i := 0))) (blkOk_by (own := [("piece", 1)]) (by kernel_rfl)) (fun _ _ _ _ _ => qg_name (i := 1) sc_are_pieces.nd) (fun _ _ _ _ _ => qts_nil) (fun _ _ _ _ _ => q_call c_is_piece hr (qa_cons (q_var (i := 1)) (qa_nil)))) (qa_nil))))) (qw_or1 (qt_cmp (q_ne hr) (q_call c_compare hr (qa_cons (q_ix (q_ix (q_var (i := 0)) (q_int)) (q_int)) (qa_cons (q_int) (qa_nil)))) (q_int)))).pt) (qss_one (qs_ret (q_bl))) (qss_nil)) (qss_one (qs_ret (q_callB c_all m_all rfl (qa_cons (q_lc (own := [("at", 2)]) sc_are_pieces.nd (qi_range1 m_range (qa_cons (q_op q_subI (q_callB c_len m_len rfl (qa_cons (q_var (i := 0)) (qa_nil))) (q_int)) (qa_nil))) (blkOk_by (own := [("at", 2)]) (by kernel_rfl)) (fun _ _ _ _ _ => qg_name (i := 2) sc_are_pieces.nd) (fun _ _ _ _ _ => qts_nil) (fun _ _ _ _ _ => q_cmp q_lt (q_call c_compare hr (qa_cons (q_ix (q_ix (q_var (i := 0)) (q_var (i := 2))) (q_int)) (qa_cons (q_ix (q_ix (q_var (i := 0)) (q_op q_addI (q_var (i := 2)) (q_int))) (q_int)) (qa_nil)))) (q_int))) (qa_nil))))))) hp_are_pieces
theorem sc_is_runner : FnScope ["value"] ["value"] (defScope (top 36)) := ⟨rfl, rfl, rfl, by decide +kernel, rfl, by decide +kernel, by decide +kernel⟩
theorem ok_is_runner {P : Program} {w : World} {mg : Str → Option Value} {K : PySem.W.Frag} {f : Addr} {fd : FuncData} {dvs : List V} (F : FunD K "is_runner" "is_runner" (defArgs (top 36)) (defBody (top 36)) (defScope (top 36)) dvs [] f fd) (c_are_pieces : FnC P w mg (Zp K) "are_pieces" 10 1 Ph_are_pieces) (c_is_number : FnC P w mg (Zp K) "is_number" 5 1 Ph_is_number) (m_len : mg "len" = none) (m_tuple : mg "tuple" = none) (m_isinstance : mg "isinstance" = none) : ∀ base : Heap, FnOk P w K mg base CX0 11 f fd ["value"] (spP (Zp K) Ph_is_runner) :=
  fun base => okP (Z := Zp K) (t := t_is_runner) F sc_is_runner (fun cdv A outer s H E hr => qss_one (qs_ret (q_and (q_callB c_isi m_isinstance rfl (qa_cons (q_var (i := 0)) (qa_cons (q_ty m_tuple rfl) (qa_nil)))) (q_and (q_cmp (q_eq hr) (q_callB c_len m_len rfl (qa_cons (q_var (i := 0)) (qa_nil))) (q_int)) (q_and (q_call c_is_number hr (qa_cons (q_ix (q_var (i := 0)) (q_int)) (qa_nil))) (q_one (q_call c_are_pieces hr (qa_cons (q_ix (q_var (i := 0)) (q_int)) (qa_nil))))))))) hp_is_runner
theorem sc_is_name : FnScope ["value", "sign"] ["value"] (defScope (top 32)) := ⟨rfl, rfl, rfl, by decide +kernel, rfl, by decide +kernel, by decide +kernel⟩
theorem ok_is_name {P : Program} {w : World} {mg : Str → Option Value} {K : PySem.W.Frag} {f : Addr} {fd : FuncData} {dvs : List V} (F : FunD K "is_name" "is_name" (defArgs (top 32)) (defBody (top 32)) (defScope (top 32)) dvs [] f fd) (m_len : mg "len" = none) (m_str : mg "str" = none) (m_isinstance : mg "isinstance" = none) (g_SIGNS : ∃ t, mg "SIGNS" = some (.str "abcdefghijklmnopqrstuvwxyz0123456789" t)) (m_all : mg "all" = none) (g_LETTERS : ∃ t, mg "LETTERS" = some (.str "abcdefghijklmnopqrstuvwxyz" t)) : ∀ base : Heap, FnOk P w K mg base CX0 3 f fd ["value"] (spP (Zp K) Ph_is_name) :=
  fun base => okP (Z := Zp K) (t := t_is_name) F sc_is_name (fun cdv A outer s H E hr => qss_cons (qs_if ((qw_or (qt_not (qt_val (q_callB c_isi m_isinstance rfl (qa_cons (q_var (i := 0)) (qa_cons (q_ty m_str rfl) (qa_nil)))))) (qw_or1 (qt_not (qt_chain q_le q_le (q_int) (q_callB c_len m_len rfl (qa_cons (q_var (i := 0)) (qa_nil))) (q_int))))).pt) (qss_one (qs_ret (q_bl))) (qss_nil)) (qss_one (qs_ret (q_and (q_cmp q_inS (q_ix (q_var (i := 0)) (q_int)) (q_gstr g_LETTERS)) (q_one (q_callB c_all m_all rfl (qa_cons (q_lc (own := [("sign", 1)]) sc_is_name.nd (qi_str (q_var (i := 0))) (blkOk_by (own := [("sign", 1)]) (by kernel_rfl)) (fun _ _ _ _ _ => qg_name (i := 1) sc_is_name.nd) (fun _ _ _ _ _ => qts_nil) (fun _ _ _ _ _ => q_cmp q_inS (q_var (i := 1)) (q_gstr g_SIGNS))) (qa_nil)))))))) hp_is_name
theorem sc_divided : FnScope ["first", "second", "one", "two"] ["first", "second"] (defScope (top 22)) := ⟨rfl, rfl, rfl, by decide +kernel, rfl, by decide +kernel, by decide +kernel⟩
theorem ok_divided {P : Program} {w : World} {mg : Str → Option Value} {K : PySem.W.Frag} {f : Addr} {fd : FuncData} {dvs : List V} (F : FunD K "divided" "divided" (defArgs (top 22)) (defBody (top 22)) (defScope (top 22)) dvs [] f fd) (c_as_ratio : FnC P w mg (Zp K) "as_ratio" 6 1 Ph_as_ratio) (c_ratio : FnC P w mg (Zp K) "ratio" 4 2 Ph_ratio) : ∀ base : Heap, FnOk P w K mg base CX0 7 f fd ["first", "second"] (spP (Zp K) Ph_divided) :=
  fun base => okP (Z := Zp K) (t := t_divided) F sc_divided (fun cdv A outer s H E hr => qss_cons (qs_par (i := 2) (j := 3) sc_divided.nd (qa_cons (q_call c_as_ratio hr (qa_cons (q_var (i := 0)) (qa_nil))) (qa_cons (q_call c_as_ratio hr (qa_cons (q_var (i := 1)) (qa_nil))) (qa_nil)))) (qss_one (qs_ret (q_call c_ratio hr (qa_cons (q_op q_mulI (q_ix (q_var (i := 2)) (q_int)) (q_ix (q_var (i := 3)) (q_int))) (qa_cons (q_op q_mulI (q_ix (q_var (i := 2)) (q_int)) (q_ix (q_var (i := 3)) (q_int))) (qa_nil))))))) hp_divided
theorem sc_floor_of : FnScope ["value", "one"] ["value"] (defScope (top 24)) := ⟨rfl, rfl, rfl, by decide +kernel, rfl, by decide +kernel, by decide +kernel⟩
theorem ok_floor_of {P : Program} {w : World} {mg : Str → Option Value} {K : PySem.W.Frag} {f : Addr} {fd : FuncData} {dvs : List V} (F : FunD K "floor_of" "floor_of" (defArgs (top 24)) (defBody (top 24)) (defScope (top 24)) dvs [] f fd) (c_as_ratio : FnC P w mg (Zp K) "as_ratio" 6 1 Ph_as_ratio) : ∀ base : Heap, FnOk P w K mg base CX0 7 f fd ["value"] (spP (Zp K) Ph_floor_of) :=
  fun base => okP (Z := Zp K) (t := t_floor_of) F sc_floor_of (fun cdv A outer s H E hr => qss_cons (qs_set (i := 1) sc_floor_of.nd (q_call c_as_ratio hr (qa_cons (q_var (i := 0)) (qa_nil)))) (qss_one (qs_ret (q_op q_fdivI (q_ix (q_var (i := 1)) (q_int)) (q_ix (q_var (i := 1)) (q_int)))))) hp_floor_of
theorem sc_times : FnScope ["first", "second", "one", "two"] ["first", "second"] (defScope (top 21)) := ⟨rfl, rfl, rfl, by decide +kernel, rfl, by decide +kernel, by decide +kernel⟩
theorem ok_times {P : Program} {w : World} {mg : Str → Option Value} {K : PySem.W.Frag} {f : Addr} {fd : FuncData} {dvs : List V} (F : FunD K "times" "times" (defArgs (top 21)) (defBody (top 21)) (defScope (top 21)) dvs [] f fd) (c_as_ratio : FnC P w mg (Zp K) "as_ratio" 6 1 Ph_as_ratio) (c_ratio : FnC P w mg (Zp K) "ratio" 4 2 Ph_ratio) : ∀ base : Heap, FnOk P w K mg base CX0 7 f fd ["first", "second"] (spP (Zp K) Ph_times) :=
  fun base => okP (Z := Zp K) (t := t_times) F sc_times (fun cdv A outer s H E hr => qss_cons (qs_par (i := 2) (j := 3) sc_times.nd (qa_cons (q_call c_as_ratio hr (qa_cons (q_var (i := 0)) (qa_nil))) (qa_cons (q_call c_as_ratio hr (qa_cons (q_var (i := 1)) (qa_nil))) (qa_nil)))) (qss_one (qs_ret (q_call c_ratio hr (qa_cons (q_op q_mulI (q_ix (q_var (i := 2)) (q_int)) (q_ix (q_var (i := 3)) (q_int))) (qa_cons (q_op q_mulI (q_ix (q_var (i := 2)) (q_int)) (q_ix (q_var (i := 3)) (q_int))) (qa_nil))))))) hp_times
theorem sc_remainder : FnScope ["value", "modulus", "one", "two"] ["value", "modulus"] (defScope (top 25)) := ⟨rfl, rfl, rfl, by decide +kernel, rfl, by decide +kernel, by decide +kernel⟩
theorem ok_remainder {P : Program} {w : World} {mg : Str → Option Value} {K : PySem.W.Frag} {f : Addr} {fd : FuncData} {dvs : List V} (F : FunD K "remainder" "remainder" (defArgs (top 25)) (defBody (top 25)) (defScope (top 25)) dvs [] f fd) (c_as_ratio : FnC P w mg (Zp K) "as_ratio" 6 1 Ph_as_ratio) (c_divided : FnC P w mg (Zp K) "divided" 7 2 Ph_divided) (c_floor_of : FnC P w mg (Zp K) "floor_of" 7 1 Ph_floor_of) (c_times : FnC P w mg (Zp K) "times" 7 2 Ph_times) (c_minus : FnC P w mg (Zp K) "minus" 7 2 Ph_minus) : ∀ base : Heap, FnOk P w K mg base CX0 8 f fd ["value", "modulus"] (spP (Zp K) Ph_remainder) :=
  fun base => okP (Z := Zp K) (t := t_remainder) F sc_remainder (fun cdv A outer s H E hr => qss_cons (qs_par (i := 2) (j := 3) sc_remainder.nd (qa_cons (q_call c_as_ratio hr (qa_cons (q_var (i := 0)) (qa_nil))) (qa_cons (q_call c_as_ratio hr (qa_cons (q_var (i := 1)) (qa_nil))) (qa_nil)))) (qss_cons (qs_if (qt_cmp q_le (q_ix (q_var (i := 3)) (q_int)) (q_int)) (qss_never) (qss_nil)) (qss_one (qs_ret (q_call c_minus hr (qa_cons (q_var (i := 2)) (qa_cons (q_call c_times hr (qa_cons (q_var (i := 3)) (qa_cons (q_call c_floor_of hr (qa_cons (q_call c_divided hr (qa_cons (q_var (i := 2)) (qa_cons (q_var (i := 3)) (qa_nil)))) (qa_nil))) (qa_nil)))) (qa_nil)))))))) hp_remainder
theorem sc_Race_init : FnScope ["self", "length", "runners", "name", "runner", "rows", "start", "pieces", "time", "speed"] ["self", "length", "runners"] (defScope (mtop 37 0)) := ⟨rfl, rfl, rfl, by decide +kernel, rfl, by decide +kernel, by decide +kernel⟩
theorem ok_Race_init {P : Program} {w : World} {mg : Str → Option Value} {K : PySem.W.Frag} {f : Addr} {fd : FuncData} {dvs : List V} (F : FunD K "__init__" "Race.__init__" (defArgs (mtop 37 0)) (defBody (mtop 37 0)) (defScope (mtop 37 0)) dvs [] f fd) (c_compare : FnC P w mg (Zp K) "compare" 8 2 Ph_compare) (c_is_number : FnC P w mg (Zp K) "is_number" 5 1 Ph_is_number) (m_len : mg "len" = none) (g_MAX_RUNNERS : ∃ t, mg "MAX_RUNNERS" = some (.int 12 t)) (m_dict : mg "dict" = none) (m_isinstance : mg "isinstance" = none) (c_is_runner : FnC P w mg (Zp K) "is_runner" 11 1 Ph_is_runner) (c_is_name : FnC P w mg (Zp K) "is_name" 3 1 Ph_is_name) (k_Race : ClsP (Zp K) "Race") (n_Race_own_length : NoAttr K (He.ga K "Race") "own_length") (c_as_ratio : FnC P w mg (Zp K) "as_ratio" 6 1 Ph_as_ratio) (n_Race_own_runners : NoAttr K (He.ga K "Race") "own_runners") (m_sorted : mg "sorted" = none) (c_remainder : FnC P w mg (Zp K) "remainder" 8 2 Ph_remainder) (n_Race_own_parts : NoAttr K (He.ga K "Race") "own_parts") : ∀ base : Heap, FnOk P w K mg base CX0 12 f fd ["self", "length", "runners"] (spMk (Zp K) "Race" Ph_Race) :=
  fun base => okI (Z := Zp K) (t := t_Race_init) F sc_Race_init (fun x dx cdv A outer s H E hr => n_cons (n_of (qs_if ((qw_or (qt_not (qt_val (q_call c_is_number hr (qa_cons (q_var (i := 1)) (qa_nil))))) (qw_or1 (qt_cmp q_le (q_call c_compare hr (qa_cons (q_var (i := 1)) (qa_cons (q_int) (qa_nil)))) (q_int)))).pt) (qss_never) (qss_nil))) (n_cons (n_of (qs_if ((qw_or (qt_not (qt_val (q_callB c_isi m_isinstance rfl (qa_cons (q_var (i := 2)) (qa_cons (q_ty m_dict rfl) (qa_nil)))))) (qw_or1 (qt_not (qt_chain q_le q_le (q_int) (q_callB c_lenD m_len rfl (qa_cons (q_var (i := 2)) (qa_nil))) (q_gint g_MAX_RUNNERS))))).pt) (qss_never) (qss_nil))) (n_cons (n_of (qs_for (qi_items (q_var (i := 2))) (qg_tup (qgs_cons (qg_name (i := 3) sc_Race_init.nd) (qgs_cons (qg_name (i := 4) sc_Race_init.nd) (qgs_nil)))) (qss_one (qs_if ((qw_or (qt_not (qt_val (q_call c_is_name hr (qa_cons (q_var (i := 3)) (qa_nil))))) (qw_or1 (qt_not (qt_val (q_call c_is_runner hr (qa_cons (q_var (i := 4)) (qa_nil))))))).pt) (qss_never) (qss_nil))))) (n_cons (n_setF k_Race n_Race_own_length (q_call c_as_ratio hr (qa_cons (q_var (i := 1)) (qa_nil)))) (n_cons (n_newD k_Race n_Race_own_runners) (n_cons (n_for (qi_list (q_callB c_sortD m_sorted rfl (qa_cons (q_var (i := 2)) (qa_nil)))) (qg_name (i := 3) sc_Race_init.nd) (n_cons (n_of (qs_asg (q_dget hr (q_var (i := 2)) (q_var (i := 3))) (qg_tup (qgs_cons (qg_name (i := 6) sc_Race_init.nd) (qgs_cons (qg_name (i := 7) sc_Race_init.nd) (qgs_nil)))))) (n_cons (n_of (qs_setLc (i := 5) (own := [("time", 8), ("speed", 9)]) sc_Race_init.nd (sw_true rfl rfl rfl (by decide +kernel)) (qi_list (q_var (i := 7))) (blkOk_by (own := [("time", 8), ("speed", 9)]) (by kernel_rfl)) (fun _ _ _ _ _ => qg_tup (qgs_cons (qg_name (i := 8) sc_Race_init.nd) (qgs_cons (qg_name (i := 9) sc_Race_init.nd) (qgs_nil)))) (fun _ _ _ _ _ => qts_nil) (fun _ _ _ _ _ => q_tup (qa_cons (q_call c_as_ratio hr (qa_cons (q_var (i := 8)) (qa_nil))) (qa_cons (q_call c_as_ratio hr (qa_cons (q_var (i := 9)) (qa_nil))) (qa_nil)))))) (n_one (n_put hr k_Race n_Race_own_runners (q_var (i := 3)) (q_tup (qa_cons (q_call c_remainder hr (qa_cons (q_var (i := 6)) (qa_cons (q_var (i := 1)) (qa_nil)))) (qa_cons (q_var (i := 5)) (qa_nil))))))))) (n_one (n_parts k_Race n_Race_own_length n_Race_own_runners n_Race_own_parts)))))))) hp_Race_init
theorem sc_law_race : FnScope ["pool", "many", "runners", "name"] ["pool", "many"] (defScope (top 63)) := ⟨rfl, rfl, rfl, by decide +kernel, rfl, by decide +kernel, by decide +kernel⟩
theorem ok_law_race {P : Program} {w : World} {mg : Str → Option Value} {K : PySem.W.Frag} {f : Addr} {fd : FuncData} {dvs : List V} (F : FunD K "_law_race" "_law_race" (defArgs (top 63)) (defBody (top 63)) (defScope (top 63)) dvs [] f fd) (c_law_pieces : FnC P w mg (Zp K) "_law_pieces" 8 1 Ph_law_pieces) (c_law_number : FnC P w mg (Zp K) "_law_number" 5 3 Ph_law_number) (c_law_choose : FnC P w mg (Zp K) "_law_choose" 4 2 Ph_law_choose) (c_Race : MkC P w mg (Zp K) "Race" 12 2 Ph_Race) : ∀ base : Heap, FnOk P w K mg base CX0 14 f fd ["pool", "many"] (spP (Zp K) Ph_law_race) :=
  fun base => okP (Z := Zp K) (t := t_law_race) F sc_law_race (fun cdv A outer s H E hr => qss_cons (qs_newD (i := 2) sc_law_race.nd) (qss_cons (qs_for (qi_list (q_sliceL (q_lst (qa_cons (q_str) (qa_cons (q_str) (qa_cons (q_str) (qa_cons (q_str) (qa_nil)))))) (qo_none) (qo_some (q_var (i := 1))))) (qg_name (i := 3) sc_law_race.nd) (qss_one (qs_dput (i := 2) hr (q_var (i := 3)) (q_tup (qa_cons (q_call c_law_number hr (qa_cons (q_var (i := 0)) (qa_cons (q_neg (q_int)) (qa_cons (q_int) (qa_nil))))) (qa_cons (q_call c_law_pieces hr (qa_cons (q_var (i := 0)) (qa_nil))) (qa_nil))))))) (qss_one (qs_frz 2 (qs_ret (q_make c_Race hr (qa_cons (q_call c_law_choose hr (qa_cons (q_var (i := 0)) (qa_cons (q_lst (qa_cons (q_int) (qa_cons (q_int) (qa_cons (q_int) (qa_cons (q_tup (qa_cons (q_int) (qa_cons (q_int) (qa_nil)))) (qa_cons (q_int) (qa_cons (q_int) (qa_nil)))))))) (qa_nil)))) (qa_cons (q_var (i := 2)) (qa_nil))))))))) hp_law_race
theorem sc_Race_names : FnScope ["self"] ["self"] (defScope (mtop 37 2)) := ⟨rfl, rfl, rfl, by decide +kernel, rfl, by decide +kernel, by decide +kernel⟩
theorem ok_Race_names {P : Program} {w : World} {mg : Str → Option Value} {K : PySem.W.Frag} {f : Addr} {fd : FuncData} {dvs : List V} (F : FunD K "names" "Race.names" (defArgs (mtop 37 2)) (defBody (mtop 37 2)) (defScope (mtop 37 2)) dvs [] f fd) (k_Race : ClsP (Zp K) "Race") (n_Race_own_runners : NoAttr K (He.ga K "Race") "own_runners") (m_list : mg "list" = none) : ∀ base : Heap, FnOk P w K mg base CX0 3 f fd ["self"] (spP (Zp K) Ph_Race_names) :=
  fun base => okP (Z := Zp K) (t := t_Race_names) F sc_Race_names (fun cdv A outer s H E hr => qss_one (qs_ret (q_callTy c_listD m_list rfl (qa_cons (q_fld k_Race n_Race_own_runners (q_var (i := 0))) (qa_nil))))) hp_Race_names
theorem sc_Race_contains : FnScope ["self", "name"] ["self", "name"] (defScope (mtop 37 19)) := ⟨rfl, rfl, rfl, by decide +kernel, rfl, by decide +kernel, by decide +kernel⟩
theorem ok_Race_contains {P : Program} {w : World} {mg : Str → Option Value} {K : PySem.W.Frag} {f : Addr} {fd : FuncData} {dvs : List V} (F : FunD K "__contains__" "Race.__contains__" (defArgs (mtop 37 19)) (defBody (mtop 37 19)) (defScope (mtop 37 19)) dvs [] f fd) (k_Race : ClsP (Zp K) "Race") (n_Race_own_runners : NoAttr K (He.ga K "Race") "own_runners") (m_str : mg "str" = none) (m_isinstance : mg "isinstance" = none) : ∀ base : Heap, FnOk P w K mg base CX0 3 f fd ["self", "name"] (spP (Zp K) Ph_Race_contains) :=
  fun base => okP (Z := Zp K) (t := t_Race_contains) F sc_Race_contains (fun cdv A outer s H E hr => qss_one (qs_ret (q_and (q_callB c_isi m_isinstance rfl (qa_cons (q_var (i := 1)) (qa_cons (q_ty m_str rfl) (qa_nil)))) (q_one (q_din hr (q_var (i := 1)) (q_fld k_Race n_Race_own_runners (q_var (i := 0)))))))) hp_Race_contains
theorem sc_Race_runner : FnScope ["self", "name"] ["self", "name"] (defScope (mtop 37 3)) := ⟨rfl, rfl, rfl, by decide +kernel, rfl, by decide +kernel, by decide +kernel⟩
theorem ok_Race_runner {P : Program} {w : World} {mg : Str → Option Value} {K : PySem.W.Frag} {f : Addr} {fd : FuncData} {dvs : List V} (F : FunD K "runner" "Race.runner" (defArgs (mtop 37 3)) (defBody (mtop 37 3)) (defScope (mtop 37 3)) dvs [] f fd) (c_Race_contains : MtC P w mg (Zp K) "Race" "__contains__" 3 2 Ph_Race_contains) (k_Race : ClsP (Zp K) "Race") (n_Race_own_runners : NoAttr K (He.ga K "Race") "own_runners") : ∀ base : Heap, FnOk P w K mg base CX0 4 f fd ["self", "name"] (spP (Zp K) Ph_Race_runner) :=
  fun base => okP (Z := Zp K) (t := t_Race_runner) F sc_Race_runner (fun cdv A outer s H E hr => qss_cons (qs_if (qt_cmp (q_ownNotIn c_Race_contains hr) (q_var (i := 1)) (q_var (i := 0))) (qss_never) (qss_nil)) (qss_one (qs_ret (q_dget hr (q_fld k_Race n_Race_own_runners (q_var (i := 0))) (q_var (i := 1)))))) hp_Race_runner
theorem sc_Race_pieces : FnScope ["self", "name"] ["self", "name"] (defScope (mtop 37 6)) := ⟨rfl, rfl, rfl, by decide +kernel, rfl, by decide +kernel, by decide +kernel⟩
theorem ok_Race_pieces {P : Program} {w : World} {mg : Str → Option Value} {K : PySem.W.Frag} {f : Addr} {fd : FuncData} {dvs : List V} (F : FunD K "pieces" "Race.pieces" (defArgs (mtop 37 6)) (defBody (mtop 37 6)) (defScope (mtop 37 6)) dvs [] f fd) (c_Race_runner : MtC P w mg (Zp K) "Race" "runner" 4 2 Ph_Race_runner) (m_list : mg "list" = none) : ∀ base : Heap, FnOk P w K mg base CX0 5 f fd ["self", "name"] (spP (Zp K) Ph_Race_pieces) :=
  fun base => okP (Z := Zp K) (t := t_Race_pieces) F sc_Race_pieces (fun cdv A outer s H E hr => qss_one (qs_ret (q_callTy c_list m_list rfl (qa_cons (q_ix (q_meth c_Race_runner hr (q_var (i := 0)) (qa_cons (q_var (i := 1)) (qa_nil))) (q_int)) (qa_nil))))) hp_Race_pieces
theorem sc_Race_start : FnScope ["self", "name"] ["self", "name"] (defScope (mtop 37 5)) := ⟨rfl, rfl, rfl, by decide +kernel, rfl, by decide +kernel, by decide +kernel⟩
theorem ok_Race_start {P : Program} {w : World} {mg : Str → Option Value} {K : PySem.W.Frag} {f : Addr} {fd : FuncData} {dvs : List V} (F : FunD K "start" "Race.start" (defArgs (mtop 37 5)) (defBody (mtop 37 5)) (defScope (mtop 37 5)) dvs [] f fd) (c_Race_runner : MtC P w mg (Zp K) "Race" "runner" 4 2 Ph_Race_runner) : ∀ base : Heap, FnOk P w K mg base CX0 5 f fd ["self", "name"] (spP (Zp K) Ph_Race_start) :=
  fun base => okP (Z := Zp K) (t := t_Race_start) F sc_Race_start (fun cdv A outer s H E hr => qss_one (qs_ret (q_ix (q_meth c_Race_runner hr (q_var (i := 0)) (qa_cons (q_var (i := 1)) (qa_nil))) (q_int)))) hp_Race_start
theorem sc_Race_length : FnScope ["self"] ["self"] (defScope (mtop 37 1)) := ⟨rfl, rfl, rfl, by decide +kernel, rfl, by decide +kernel, by decide +kernel⟩
theorem ok_Race_length {P : Program} {w : World} {mg : Str → Option Value} {K : PySem.W.Frag} {f : Addr} {fd : FuncData} {dvs : List V} (F : FunD K "length" "Race.length" (defArgs (mtop 37 1)) (defBody (mtop 37 1)) (defScope (mtop 37 1)) dvs [] f fd) (k_Race : ClsP (Zp K) "Race") (n_Race_own_length : NoAttr K (He.ga K "Race") "own_length") : ∀ base : Heap, FnOk P w K mg base CX0 3 f fd ["self"] (spP (Zp K) Ph_Race_length) :=
  fun base => okP (Z := Zp K) (t := t_Race_length) F sc_Race_length (fun cdv A outer s H E hr => qss_one (qs_ret (q_fld k_Race n_Race_own_length (q_var (i := 0))))) hp_Race_length
theorem sc_law_longer : FnScope ["race", "factor", "runners", "name", "pieces", "time", "speed"] ["race", "factor"] (defScope (top 64)) := ⟨rfl, rfl, rfl, by decide +kernel, rfl, by decide +kernel, by decide +kernel⟩
theorem ok_law_longer {P : Program} {w : World} {mg : Str → Option Value} {K : PySem.W.Frag} {f : Addr} {fd : FuncData} {dvs : List V} (F : FunD K "_law_longer" "_law_longer" (defArgs (top 64)) (defBody (top 64)) (defScope (top 64)) dvs [] f fd) (c_Race_names : MtC P w mg (Zp K) "Race" "names" 3 1 Ph_Race_names) (c_Race_pieces : MtC P w mg (Zp K) "Race" "pieces" 5 2 Ph_Race_pieces) (c_times : FnC P w mg (Zp K) "times" 7 2 Ph_times) (c_Race_start : MtC P w mg (Zp K) "Race" "start" 5 2 Ph_Race_start) (c_Race_length : PrC P w mg (Zp K) "Race" "length" 3 Ph_Race_length) (c_Race : MkC P w mg (Zp K) "Race" 12 2 Ph_Race) : ∀ base : Heap, FnOk P w K mg base CX0 14 f fd ["race", "factor"] (spP (Zp K) Ph_law_longer) :=
  fun base => okP (Z := Zp K) (t := t_law_longer) F sc_law_longer (fun cdv A outer s H E hr => qss_cons (qs_newD (i := 2) sc_law_longer.nd) (qss_cons (qs_for (qi_list (q_meth0 c_Race_names hr (q_var (i := 0)))) (qg_name (i := 3) sc_law_longer.nd) (qss_cons (qs_setLc (i := 4) (own := [("time", 5), ("speed", 6)]) sc_law_longer.nd (sw_true rfl rfl rfl (by decide +kernel)) (qi_list (q_meth c_Race_pieces hr (q_var (i := 0)) (qa_cons (q_var (i := 3)) (qa_nil)))) (blkOk_by (own := [("time", 5), ("speed", 6)]) (by kernel_rfl)) (fun _ _ _ _ _ => qg_tup (qgs_cons (qg_name (i := 5) sc_law_longer.nd) (qgs_cons (qg_name (i := 6) sc_law_longer.nd) (qgs_nil)))) (fun _ _ _ _ _ => qts_nil) (fun _ _ _ _ _ => q_tup (qa_cons (q_var (i := 5)) (qa_cons (q_call c_times hr (qa_cons (q_var (i := 6)) (qa_cons (q_var (i := 1)) (qa_nil)))) (qa_nil))))) (qss_one (qs_dput (i := 2) hr (q_var (i := 3)) (q_tup (qa_cons (q_call c_times hr (qa_cons (q_meth c_Race_start hr (q_var (i := 0)) (qa_cons (q_var (i := 3)) (qa_nil))) (qa_cons (q_var (i := 1)) (qa_nil)))) (qa_cons (q_var (i := 4)) (qa_nil)))))))) (qss_one (qs_frz 2 (qs_ret (q_make c_Race hr (qa_cons (q_call c_times hr (qa_cons (q_prop c_Race_length hr (q_var (i := 0))) (qa_cons (q_var (i := 1)) (qa_nil)))) (qa_cons (q_var (i := 2)) (qa_nil))))))))) hp_law_longer
theorem sc_Race_slowed : FnScope ["self", "factor", "found", "name", "pieces", "time", "speed"] ["self", "factor"] (defScope (mtop 37 18)) := ⟨rfl, rfl, rfl, by decide +kernel, rfl, by decide +kernel, by decide +kernel⟩
theorem ok_Race_slowed {P : Program} {w : World} {mg : Str → Option Value} {K : PySem.W.Frag} {f : Addr} {fd : FuncData} {dvs : List V} (F : FunD K "slowed" "Race.slowed" (defArgs (mtop 37 18)) (defBody (mtop 37 18)) (defScope (mtop 37 18)) dvs [] f fd) (c_compare : FnC P w mg (Zp K) "compare" 8 2 Ph_compare) (c_is_number : FnC P w mg (Zp K) "is_number" 5 1 Ph_is_number) (c_Race_names : MtC P w mg (Zp K) "Race" "names" 3 1 Ph_Race_names) (c_Race_pieces : MtC P w mg (Zp K) "Race" "pieces" 5 2 Ph_Race_pieces) (c_divided : FnC P w mg (Zp K) "divided" 7 2 Ph_divided) (c_times : FnC P w mg (Zp K) "times" 7 2 Ph_times) (c_Race_start : MtC P w mg (Zp K) "Race" "start" 5 2 Ph_Race_start) (c_Race_length : PrC P w mg (Zp K) "Race" "length" 3 Ph_Race_length) (c_Race : MkC P w mg (Zp K) "Race" 12 2 Ph_Race) : ∀ base : Heap, FnOk P w K mg base CX0 14 f fd ["self", "factor"] (spP (Zp K) Ph_Race_slowed) :=
  fun base => okP (Z := Zp K) (t := t_Race_slowed) F sc_Race_slowed (fun cdv A outer s H E hr => qss_cons (qs_if ((qw_or (qt_not (qt_val (q_call c_is_number hr (qa_cons (q_var (i := 1)) (qa_nil))))) (qw_or1 (qt_cmp q_le (q_call c_compare hr (qa_cons (q_var (i := 1)) (qa_cons (q_int) (qa_nil)))) (q_int)))).pt) (qss_never) (qss_nil)) (qss_cons (qs_newD (i := 2) sc_Race_slowed.nd) (qss_cons (qs_for (qi_list (q_meth0 c_Race_names hr (q_var (i := 0)))) (qg_name (i := 3) sc_Race_slowed.nd) (qss_cons (qs_setLc (i := 4) (own := [("time", 5), ("speed", 6)]) sc_Race_slowed.nd (sw_true rfl rfl rfl (by decide +kernel)) (qi_list (q_meth c_Race_pieces hr (q_var (i := 0)) (qa_cons (q_var (i := 3)) (qa_nil)))) (blkOk_by (own := [("time", 5), ("speed", 6)]) (by kernel_rfl)) (fun _ _ _ _ _ => qg_tup (qgs_cons (qg_name (i := 5) sc_Race_slowed.nd) (qgs_cons (qg_name (i := 6) sc_Race_slowed.nd) (qgs_nil)))) (fun _ _ _ _ _ => qts_nil) (fun _ _ _ _ _ => q_tup (qa_cons (q_call c_times hr (qa_cons (q_var (i := 5)) (qa_cons (q_var (i := 1)) (qa_nil)))) (qa_cons (q_call c_divided hr (qa_cons (q_var (i := 6)) (qa_cons (q_var (i := 1)) (qa_nil)))) (qa_nil))))) (qss_one (qs_dput (i := 2) hr (q_var (i := 3)) (q_tup (qa_cons (q_meth c_Race_start hr (q_var (i := 0)) (qa_cons (q_var (i := 3)) (qa_nil))) (qa_cons (q_var (i := 4)) (qa_nil)))))))) (qss_one (qs_frz 2 (qs_ret (q_make c_Race hr (qa_cons (q_prop c_Race_length hr (q_var (i := 0))) (qa_cons (q_var (i := 2)) (qa_nil)))))))))) hp_Race_slowed
theorem sc_in_order : FnScope ["values", "ratios", "value", "common", "one", "whole"] ["values"] (defScope (top 26)) := ⟨rfl, rfl, rfl, by decide +kernel, rfl, by decide +kernel, by decide +kernel⟩
theorem ok_in_order {P : Program} {w : World} {mg : Str → Option Value} {K : PySem.W.Frag} {f : Addr} {fd : FuncData} {dvs : List V} (F : FunD K "in_order" "in_order" (defArgs (top 26)) (defBody (top 26)) (defScope (top 26)) dvs [] f fd) (c_as_ratio : FnC P w mg (Zp K) "as_ratio" 6 1 Ph_as_ratio) (c_common_divisor : FnC P w mg (Zp K) "common_divisor" 3 2 Ph_common_divisor) (m_sorted : mg "sorted" = none) (c_ratio : FnC P w mg (Zp K) "ratio" 4 2 Ph_ratio) : ∀ base : Heap, FnOk P w K mg base CX0 7 f fd ["values"] (spP (Zp K) Ph_in_order) :=
  fun base => okP (Z := Zp K) (t := t_in_order) F sc_in_order (fun cdv A outer s H E hr => qss_cons (qs_setLc (i := 1) (own := [("value", 2)]) sc_in_order.nd (sw_true rfl rfl rfl (by decide +kernel)) (qi_list (q_var (i := 0))) (blkOk_by (own := [("value", 2)]) (by kernel_rfl)) (fun _ _ _ _ _ => qg_name (i := 2) sc_in_order.nd) (fun _ _ _ _ _ => qts_nil) (fun _ _ _ _ _ => q_call c_as_ratio hr (qa_cons (q_var (i := 2)) (qa_nil)))) (qss_cons (qs_set (i := 3) sc_in_order.nd (q_int)) (qss_cons (qs_for (qi_list (q_var (i := 1))) (qg_name (i := 4) sc_in_order.nd) (qss_one (qs_set (i := 3) sc_in_order.nd (q_op q_fdivI (q_op q_mulI (q_var (i := 3)) (q_ix (q_var (i := 4)) (q_int))) (q_call c_common_divisor hr (qa_cons (q_var (i := 3)) (qa_cons (q_ix (q_var (i := 4)) (q_int)) (qa_nil)))))))) (qss_cons (qs_set (i := 5) sc_in_order.nd (q_sortSc (own := [("one", 4)]) m_sorted sc_in_order.nd (qi_list (q_var (i := 1))) (blkOk_by (own := [("one", 4)]) (by kernel_rfl)) (fun _ _ _ _ _ => qg_name (i := 4) sc_in_order.nd) (fun _ _ _ _ _ => qts_nil) (fun _ _ _ _ _ => q_op q_mulI (q_ix (q_var (i := 4)) (q_int)) (q_op q_fdivI (q_var (i := 3)) (q_ix (q_var (i := 4)) (q_int)))))) (qss_one (qs_ret (q_lc (own := [("value", 2)]) sc_in_order.nd (qi_list (q_var (i := 5))) (blkOk_by (own := [("value", 2)]) (by kernel_rfl)) (fun _ _ _ _ _ => qg_name (i := 2) sc_in_order.nd) (fun _ _ _ _ _ => qts_nil) (fun _ _ _ _ _ => q_call c_ratio hr (qa_cons (q_var (i := 2)) (qa_cons (q_var (i := 3)) (qa_nil))))))))))) hp_in_order
theorem sc_Race_change_times : FnScope ["self", "name", "time", "speed"] ["self"] (defScope (mtop 37 7)) := ⟨rfl, rfl, rfl, by decide +kernel, rfl, by decide +kernel, by decide +kernel⟩
theorem ok_Race_change_times {P : Program} {w : World} {mg : Str → Option Value} {K : PySem.W.Frag} {f : Addr} {fd : FuncData} {dvs : List V} (F : FunD K "change_times" "Race.change_times" (defArgs (mtop 37 7)) (defBody (mtop 37 7)) (defScope (mtop 37 7)) dvs [] f fd) (c_Race_names : MtC P w mg (Zp K) "Race" "names" 3 1 Ph_Race_names) (c_Race_pieces : MtC P w mg (Zp K) "Race" "pieces" 5 2 Ph_Race_pieces) (c_in_order : FnC P w mg (Zp K) "in_order" 7 1 Ph_in_order) : ∀ base : Heap, FnOk P w K mg base CX0 8 f fd ["self"] (spP (Zp K) Ph_Race_change_times) :=
  fun base => okP (Z := Zp K) (t := t_Race_change_times) F sc_Race_change_times (fun cdv A outer s H E hr => qss_one (qs_ret (q_call c_in_order hr (qa_cons (q_lc2 (vs1 := [2, 3]) (own := [("name", 1), ("time", 2), ("speed", 3)]) sc_Race_change_times.nd (qi_list (q_meth0 c_Race_names hr (q_var (i := 0)))) (blkOk_by (own := [("name", 1), ("time", 2), ("speed", 3)]) (by kernel_rfl)) (fun _ _ _ _ _ => qg_name (i := 1) sc_Race_change_times.nd) (fun _ _ _ _ _ => qts_nil) (fun _ _ _ _ _ => qi_list (q_sliceL (q_meth c_Race_pieces hr (q_var (i := 0)) (qa_cons (q_var (i := 1)) (qa_nil))) (qo_some (q_int)) (qo_none))) (fun _ _ _ _ _ => qg_tup (qgs_cons (qg_name (i := 2) sc_Race_change_times.nd) (qgs_cons (qg_name (i := 3) sc_Race_change_times.nd) (qgs_nil)))) (fun _ _ _ _ _ => qts_nil) (fun _ _ _ _ _ => q_var (i := 2))) (qa_nil))))) hp_Race_change_times
theorem sc_as_time : FnScope ["value"] ["value"] (defScope (top 33)) := ⟨rfl, rfl, rfl, by decide +kernel, rfl, by decide +kernel, by decide +kernel⟩
theorem ok_as_time {P : Program} {w : World} {mg : Str → Option Value} {K : PySem.W.Frag} {f : Addr} {fd : FuncData} {dvs : List V} (F : FunD K "as_time" "as_time" (defArgs (top 33)) (defBody (top 33)) (defScope (top 33)) dvs [] f fd) (c_compare : FnC P w mg (Zp K) "compare" 8 2 Ph_compare) (c_is_number : FnC P w mg (Zp K) "is_number" 5 1 Ph_is_number) (c_as_ratio : FnC P w mg (Zp K) "as_ratio" 6 1 Ph_as_ratio) : ∀ base : Heap, FnOk P w K mg base CX0 9 f fd ["value"] (spP (Zp K) Ph_as_time) :=
  fun base => okP (Z := Zp K) (t := t_as_time) F sc_as_time (fun cdv A outer s H E hr => qss_cons (qs_if ((qw_or (qt_not (qt_val (q_call c_is_number hr (qa_cons (q_var (i := 0)) (qa_nil))))) (qw_or1 (qt_cmp q_lt (q_call c_compare hr (qa_cons (q_var (i := 0)) (qa_cons (q_int) (qa_nil)))) (q_int)))).pt) (qss_never) (qss_nil)) (qss_one (qs_ret (q_call c_as_ratio hr (qa_cons (q_var (i := 0)) (qa_nil)))))) hp_as_time
theorem sc_Race_position : FnScope ["self", "name", "time", "start", "pieces", "end", "found", "index", "stop", "begin", "speed"] ["self", "name", "time"] (defScope (mtop 37 8)) := ⟨rfl, rfl, rfl, by decide +kernel, rfl, by decide +kernel, by decide +kernel⟩
theorem ok_Race_position {P : Program} {w : World} {mg : Str → Option Value} {K : PySem.W.Frag} {f : Addr} {fd : FuncData} {dvs : List V} (F : FunD K "position" "Race.position" (defArgs (mtop 37 8)) (defBody (mtop 37 8)) (defScope (mtop 37 8)) dvs [] f fd) (c_Race_runner : MtC P w mg (Zp K) "Race" "runner" 4 2 Ph_Race_runner) (c_as_time : FnC P w mg (Zp K) "as_time" 9 1 Ph_as_time) (m_enumerate : mg "enumerate" = none) (c_compare : FnC P w mg (Zp K) "compare" 8 2 Ph_compare) (m_len : mg "len" = none) (c_minus : FnC P w mg (Zp K) "minus" 7 2 Ph_minus) (c_times : FnC P w mg (Zp K) "times" 7 2 Ph_times) (c_plus : FnC P w mg (Zp K) "plus" 7 2 Ph_plus) : ∀ base : Heap, FnOk P w K mg base CX0 10 f fd ["self", "name", "time"] (spP (Zp K) Ph_Race_position) :=
  fun base => okP (Z := Zp K) (t := t_Race_position) F sc_Race_position (fun cdv A outer s H E hr => qss_cons (qs_asg (q_meth c_Race_runner hr (q_var (i := 0)) (qa_cons (q_var (i := 1)) (qa_nil))) (qg_tup (qgs_cons (qg_name (i := 3) sc_Race_position.nd) (qgs_cons (qg_name (i := 4) sc_Race_position.nd) (qgs_nil))))) (qss_cons (qs_set (i := 5) sc_Race_position.nd (q_call c_as_time hr (qa_cons (q_var (i := 2)) (qa_nil)))) (qss_cons (qs_set (i := 6) sc_Race_position.nd (q_var (i := 3))) (qss_cons (qs_for (qi_enum m_enumerate (qa_cons (q_var (i := 4)) (qa_nil))) (qg_tup (qgs_cons (qg_name (i := 7) sc_Race_position.nd) (qgs_cons (qg_tup (qgs_cons (qg_name (i := 9) sc_Race_position.nd) (qgs_cons (qg_name (i := 10) sc_Race_position.nd) (qgs_nil)))) (qgs_nil)))) (qss_cons (qs_set (i := 8) sc_Race_position.nd (q_var (i := 5))) (qss_cons (qs_if ((qw_and (qt_cmp q_lt (q_op q_addI (q_var (i := 7)) (q_int)) (q_callB c_len m_len rfl (qa_cons (q_var (i := 4)) (qa_nil)))) (qw_and1 (qt_cmp q_lt (q_call c_compare hr (qa_cons (q_ix (q_ix (q_var (i := 4)) (q_op q_addI (q_var (i := 7)) (q_int))) (q_int)) (qa_cons (q_var (i := 5)) (qa_nil)))) (q_int)))).pt) (qss_one (qs_set (i := 8) sc_Race_position.nd (q_ix (q_ix (q_var (i := 4)) (q_op q_addI (q_var (i := 7)) (q_int))) (q_int)))) (qss_nil)) (qss_one (qs_if (qt_cmp q_lt (q_call c_compare hr (qa_cons (q_var (i := 9)) (qa_cons (q_var (i := 8)) (qa_nil)))) (q_int)) (qss_one (qs_set (i := 6) sc_Race_position.nd (q_call c_plus hr (qa_cons (q_var (i := 6)) (qa_cons (q_call c_times hr (qa_cons (q_var (i := 10)) (qa_cons (q_call c_minus hr (qa_cons (q_var (i := 8)) (qa_cons (q_var (i := 9)) (qa_nil)))) (qa_nil)))) (qa_nil)))))) (qss_nil)))))) (qss_one (qs_ret (q_var (i := 6)))))))) hp_Race_position
theorem sc_Race_place : FnScope ["self", "name", "time"] ["self", "name", "time"] (defScope (mtop 37 9)) := ⟨rfl, rfl, rfl, by decide +kernel, rfl, by decide +kernel, by decide +kernel⟩
theorem ok_Race_place {P : Program} {w : World} {mg : Str → Option Value} {K : PySem.W.Frag} {f : Addr} {fd : FuncData} {dvs : List V} (F : FunD K "place" "Race.place" (defArgs (mtop 37 9)) (defBody (mtop 37 9)) (defScope (mtop 37 9)) dvs [] f fd) (c_Race_length : PrC P w mg (Zp K) "Race" "length" 3 Ph_Race_length) (c_Race_position : MtC P w mg (Zp K) "Race" "position" 10 3 Ph_Race_position) (c_remainder : FnC P w mg (Zp K) "remainder" 8 2 Ph_remainder) : ∀ base : Heap, FnOk P w K mg base CX0 11 f fd ["self", "name", "time"] (spP (Zp K) Ph_Race_place) :=
  fun base => okP (Z := Zp K) (t := t_Race_place) F sc_Race_place (fun cdv A outer s H E hr => qss_one (qs_ret (q_call c_remainder hr (qa_cons (q_meth c_Race_position hr (q_var (i := 0)) (qa_cons (q_var (i := 1)) (qa_cons (q_var (i := 2)) (qa_nil)))) (qa_cons (q_prop c_Race_length hr (q_var (i := 0))) (qa_nil)))))) hp_Race_place
theorem sc_standing : FnScope ["race", "time", "places", "name", "rows", "place"] ["race", "time"] (defScope (top 55)) := ⟨rfl, rfl, rfl, by decide +kernel, rfl, by decide +kernel, by decide +kernel⟩
theorem ok_standing {P : Program} {w : World} {mg : Str → Option Value} {K : PySem.W.Frag} {f : Addr} {fd : FuncData} {dvs : List V} (F : FunD K "standing" "standing" (defArgs (top 55)) (defBody (top 55)) (defScope (top 55)) dvs [] f fd) (c_as_time : FnC P w mg (Zp K) "as_time" 9 1 Ph_as_time) (c_Race_names : MtC P w mg (Zp K) "Race" "names" 3 1 Ph_Race_names) (c_Race_place : MtC P w mg (Zp K) "Race" "place" 11 3 Ph_Race_place) (m_list : mg "list" = none) (c_in_order : FnC P w mg (Zp K) "in_order" 7 1 Ph_in_order) : ∀ base : Heap, FnOk P w K mg base CX0 12 f fd ["race", "time"] (spP (Zp K) Ph_standing) :=
  fun base => okP (Z := Zp K) (t := t_standing) F sc_standing (fun cdv A outer s H E hr => qss_cons (qs_expr (q_call c_as_time hr (qa_cons (q_var (i := 1)) (qa_nil)))) (qss_cons (qs_set (i := 2) sc_standing.nd (q_dc (own := [("name", 3)]) sc_standing.nd (qi_list (q_meth0 c_Race_names hr (q_var (i := 0)))) (blkOk_by (own := [("name", 3)]) (by kernel_rfl)) (fun _ _ _ _ _ => qg_name (i := 3) sc_standing.nd) (fun _ _ _ _ _ => qts_nil) (fun _ _ _ _ _ => q_var (i := 3)) (fun _ _ _ _ _ => q_meth c_Race_place hr (q_var (i := 0)) (qa_cons (q_var (i := 3)) (qa_cons (q_var (i := 1)) (qa_nil)))))) (qss_cons (qs_set (i := 4) sc_standing.nd (q_call c_in_order hr (qa_cons (q_listVals m_list (q_var (i := 2))) (qa_nil)))) (qss_one (qs_ret (q_lc (own := [("place", 5)]) sc_standing.nd (qi_list (q_var (i := 4))) (blkOk_by (own := [("place", 5)]) (by kernel_rfl)) (fun _ _ _ _ _ => qg_name (i := 5) sc_standing.nd) (fun _ _ _ _ _ => qts_nil) (fun _ _ _ _ _ => q_tup (qa_cons (q_var (i := 5)) (qa_cons (q_lc (own := [("name", 3)]) sc_standing.nd (qi_list (q_meth0 c_Race_names hr (q_var (i := 0)))) (blkOk_by (own := [("name", 3)]) (by kernel_rfl)) (fun _ _ _ _ _ => qg_name (i := 3) sc_standing.nd) (fun _ _ _ _ _ => qts_one (qt_cmp (q_eq hr) (q_dget hr (q_var (i := 2)) (q_var (i := 3))) (q_var (i := 5)))) (fun _ _ _ _ _ => q_var (i := 3))) (qa_nil)))))))))) hp_standing
theorem sc_Race_validate_names : FnScope ["self", "first", "second"] ["self", "first", "second"] (defScope (mtop 37 4)) := ⟨rfl, rfl, rfl, by decide +kernel, rfl, by decide +kernel, by decide +kernel⟩
theorem ok_Race_validate_names {P : Program} {w : World} {mg : Str → Option Value} {K : PySem.W.Frag} {f : Addr} {fd : FuncData} {dvs : List V} (F : FunD K "validate_names" "Race.validate_names" (defArgs (mtop 37 4)) (defBody (mtop 37 4)) (defScope (mtop 37 4)) dvs [] f fd) (c_Race_runner : MtC P w mg (Zp K) "Race" "runner" 4 2 Ph_Race_runner) : ∀ base : Heap, FnOk P w K mg base CX0 5 f fd ["self", "first", "second"] (spP (Zp K) Ph_Race_validate_names) :=
  fun base => okP (Z := Zp K) (t := t_Race_validate_names) F sc_Race_validate_names (fun cdv A outer s H E hr => qss_cons (qs_expr (q_meth c_Race_runner hr (q_var (i := 0)) (qa_cons (q_var (i := 1)) (qa_nil)))) (qss_one (qs_expr (q_meth c_Race_runner hr (q_var (i := 0)) (qa_cons (q_var (i := 2)) (qa_nil)))))) hp_Race_validate_names
theorem sc_gap : FnScope ["race", "first", "second", "time", "apart"] ["race", "first", "second", "time"] (defScope (top 56)) := ⟨rfl, rfl, rfl, by decide +kernel, rfl, by decide +kernel, by decide +kernel⟩
theorem ok_gap {P : Program} {w : World} {mg : Str → Option Value} {K : PySem.W.Frag} {f : Addr} {fd : FuncData} {dvs : List V} (F : FunD K "gap" "gap" (defArgs (top 56)) (defBody (top 56)) (defScope (top 56)) dvs [] f fd) (c_Race_validate_names : MtC P w mg (Zp K) "Race" "validate_names" 5 3 Ph_Race_validate_names) (c_Race_position : MtC P w mg (Zp K) "Race" "position" 10 3 Ph_Race_position) (c_minus : FnC P w mg (Zp K) "minus" 7 2 Ph_minus) (c_Race_length : PrC P w mg (Zp K) "Race" "length" 3 Ph_Race_length) (c_remainder : FnC P w mg (Zp K) "remainder" 8 2 Ph_remainder) : ∀ base : Heap, FnOk P w K mg base CX0 11 f fd ["race", "first", "second", "time"] (spP (Zp K) Ph_gap) :=
  fun base => okP (Z := Zp K) (t := t_gap) F sc_gap (fun cdv A outer s H E hr => qss_cons (qs_expr (q_meth c_Race_validate_names hr (q_var (i := 0)) (qa_cons (q_var (i := 1)) (qa_cons (q_var (i := 2)) (qa_nil))))) (qss_cons (qs_set (i := 4) sc_gap.nd (q_call c_minus hr (qa_cons (q_meth c_Race_position hr (q_var (i := 0)) (qa_cons (q_var (i := 2)) (qa_cons (q_var (i := 3)) (qa_nil)))) (qa_cons (q_meth c_Race_position hr (q_var (i := 0)) (qa_cons (q_var (i := 1)) (qa_cons (q_var (i := 3)) (qa_nil)))) (qa_nil))))) (qss_one (qs_ret (q_call c_remainder hr (qa_cons (q_var (i := 4)) (qa_cons (q_prop c_Race_length hr (q_var (i := 0))) (qa_nil)))))))) hp_gap
theorem sc_Race_laps : FnScope ["self", "name", "time"] ["self", "name", "time"] (defScope (mtop 37 10)) := ⟨rfl, rfl, rfl, by decide +kernel, rfl, by decide +kernel, by decide +kernel⟩
theorem ok_Race_laps {P : Program} {w : World} {mg : Str → Option Value} {K : PySem.W.Frag} {f : Addr} {fd : FuncData} {dvs : List V} (F : FunD K "laps" "Race.laps" (defArgs (mtop 37 10)) (defBody (mtop 37 10)) (defScope (mtop 37 10)) dvs [] f fd) (c_Race_length : PrC P w mg (Zp K) "Race" "length" 3 Ph_Race_length) (c_Race_position : MtC P w mg (Zp K) "Race" "position" 10 3 Ph_Race_position) (c_divided : FnC P w mg (Zp K) "divided" 7 2 Ph_divided) (c_floor_of : FnC P w mg (Zp K) "floor_of" 7 1 Ph_floor_of) : ∀ base : Heap, FnOk P w K mg base CX0 11 f fd ["self", "name", "time"] (spP (Zp K) Ph_Race_laps) :=
  fun base => okP (Z := Zp K) (t := t_Race_laps) F sc_Race_laps (fun cdv A outer s H E hr => qss_one (qs_ret (q_call c_floor_of hr (qa_cons (q_call c_divided hr (qa_cons (q_meth c_Race_position hr (q_var (i := 0)) (qa_cons (q_var (i := 1)) (qa_cons (q_var (i := 2)) (qa_nil)))) (qa_cons (q_prop c_Race_length hr (q_var (i := 0))) (qa_nil)))) (qa_nil))))) hp_Race_laps
theorem sc_law_check : FnScope ["race", "other", "moments", "factor", "slow", "time", "rows", "name", "place", "names"] ["race", "other", "moments", "factor", "slow"] (defScope (top 65)) := ⟨rfl, rfl, rfl, by decide +kernel, rfl, by decide +kernel, by decide +kernel⟩
theorem ok_law_check {P : Program} {w : World} {mg : Str → Option Value} {K : PySem.W.Frag} {f : Addr} {fd : FuncData} {dvs : List V} (F : FunD K "_law_check" "_law_check" (defArgs (top 65)) (defBody (top 65)) (defScope (top 65)) dvs [] f fd) (c_standing : FnC P w mg (Zp K) "standing" 12 2 Ph_standing) (c_times : FnC P w mg (Zp K) "times" 7 2 Ph_times) (c_gap : FnC P w mg (Zp K) "gap" 11 4 Ph_gap) (c_Race_names : MtC P w mg (Zp K) "Race" "names" 3 1 Ph_Race_names) (c_Race_laps : MtC P w mg (Zp K) "Race" "laps" 11 3 Ph_Race_laps) : ∀ base : Heap, FnOk P w K mg base CX0 13 f fd ["race", "other", "moments", "factor", "slow"] (spP (Zp K) Ph_law_check) :=
  fun base => okP (Z := Zp K) (t := t_law_check) F sc_law_check (fun cdv A outer s H E hr => qss_cons (qs_for (qi_list (q_var (i := 2))) (qg_name (i := 5) sc_law_check.nd) (qss_cons (qs_setLc (i := 6) (own := [("place", 8), ("names", 9)]) sc_law_check.nd (sw_true rfl rfl rfl (by decide +kernel)) (qi_list (q_call c_standing hr (qa_cons (q_var (i := 0)) (qa_cons (q_var (i := 5)) (qa_nil))))) (blkOk_by (own := [("place", 8), ("names", 9)]) (by kernel_rfl)) (fun _ _ _ _ _ => qg_tup (qgs_cons (qg_name (i := 8) sc_law_check.nd) (qgs_cons (qg_name (i := 9) sc_law_check.nd) (qgs_nil)))) (fun _ _ _ _ _ => qts_nil) (fun _ _ _ _ _ => q_tup (qa_cons (q_call c_times hr (qa_cons (q_var (i := 8)) (qa_cons (q_var (i := 3)) (qa_nil)))) (qa_cons (q_var (i := 9)) (qa_nil))))) (qss_cons (qs_if (qt_cmp (q_ne hr) (q_call c_standing hr (qa_cons (q_var (i := 1)) (qa_cons (q_call c_times hr (qa_cons (q_var (i := 5)) (qa_cons (q_var (i := 4)) (qa_nil)))) (qa_nil)))) (q_var (i := 6))) (qss_one (qs_ret (q_bl))) (qss_nil)) (qss_cons (qs_if (qt_cmp (q_ne hr) (q_call c_gap hr (qa_cons (q_var (i := 1)) (qa_cons (q_str) (qa_cons (q_str) (qa_cons (q_call c_times hr (qa_cons (q_var (i := 5)) (qa_cons (q_var (i := 4)) (qa_nil)))) (qa_nil)))))) (q_call c_times hr (qa_cons (q_call c_gap hr (qa_cons (q_var (i := 0)) (qa_cons (q_str) (qa_cons (q_str) (qa_cons (q_var (i := 5)) (qa_nil)))))) (qa_cons (q_var (i := 3)) (qa_nil))))) (qss_one (qs_ret (q_bl))) (qss_nil)) (qss_one (qs_for (qi_list (q_meth0 c_Race_names hr (q_var (i := 0)))) (qg_name (i := 7) sc_law_check.nd) (qss_one (qs_if (qt_cmp (q_ne hr) (q_meth c_Race_laps hr (q_var (i := 1)) (qa_cons (q_var (i := 7)) (qa_cons (q_call c_times hr (qa_cons (q_var (i := 5)) (qa_cons (q_var (i := 4)) (qa_nil)))) (qa_nil)))) (q_meth c_Race_laps hr (q_var (i := 0)) (qa_cons (q_var (i := 7)) (qa_cons (q_var (i := 5)) (qa_nil))))) (qss_one (qs_ret (q_bl))) (qss_nil))))))))) (qss_one (qs_ret (q_bl)))) hp_law_check
theorem sc_as_window : FnScope ["start", "end", "begin", "stop"] ["start", "end"] (defScope (top 39)) := ⟨rfl, rfl, rfl, by decide +kernel, rfl, by decide +kernel, by decide +kernel⟩
theorem ok_as_window {P : Program} {w : World} {mg : Str → Option Value} {K : PySem.W.Frag} {f : Addr} {fd : FuncData} {dvs : List V} (F : FunD K "as_window" "as_window" (defArgs (top 39)) (defBody (top 39)) (defScope (top 39)) dvs [] f fd) (c_as_time : FnC P w mg (Zp K) "as_time" 9 1 Ph_as_time) (c_compare : FnC P w mg (Zp K) "compare" 8 2 Ph_compare) : ∀ base : Heap, FnOk P w K mg base CX0 10 f fd ["start", "end"] (spP (Zp K) Ph_as_window) :=
  fun base => okP (Z := Zp K) (t := t_as_window) F sc_as_window (fun cdv A outer s H E hr => qss_cons (qs_par (i := 2) (j := 3) sc_as_window.nd (qa_cons (q_call c_as_time hr (qa_cons (q_var (i := 0)) (qa_nil))) (qa_cons (q_call c_as_time hr (qa_cons (q_var (i := 1)) (qa_nil))) (qa_nil)))) (qss_cons (qs_if (qt_cmp q_gt (q_call c_compare hr (qa_cons (q_var (i := 2)) (qa_cons (q_var (i := 3)) (qa_nil)))) (q_int)) (qss_never) (qss_nil)) (qss_one (qs_ret (q_tup (qa_cons (q_var (i := 2)) (qa_cons (q_var (i := 3)) (qa_nil)))))))) hp_as_window
theorem sc_cut_times : FnScope ["race", "names", "begin", "stop", "changes", "name", "time", "speed", "inner"] ["race", "names", "begin", "stop"] (defScope (top 40)) := ⟨rfl, rfl, rfl, by decide +kernel, rfl, by decide +kernel, by decide +kernel⟩
theorem ok_cut_times {P : Program} {w : World} {mg : Str → Option Value} {K : PySem.W.Frag} {f : Addr} {fd : FuncData} {dvs : List V} (F : FunD K "cut_times" "cut_times" (defArgs (top 40)) (defBody (top 40)) (defScope (top 40)) dvs [] f fd) (c_Race_pieces : MtC P w mg (Zp K) "Race" "pieces" 5 2 Ph_Race_pieces) (c_compare : FnC P w mg (Zp K) "compare" 8 2 Ph_compare) (c_in_order : FnC P w mg (Zp K) "in_order" 7 1 Ph_in_order) : ∀ base : Heap, FnOk P w K mg base CX0 9 f fd ["race", "names", "begin", "stop"] (spP (Zp K) Ph_cut_times) :=
  fun base => okP (Z := Zp K) (t := t_cut_times) F sc_cut_times (fun cdv A outer s H E hr => qss_cons (qs_setLc2 (i := 4) (vs1 := [6, 7]) (own := [("name", 5), ("time", 6), ("speed", 7)]) sc_cut_times.nd (sw_true rfl rfl rfl (by decide +kernel)) (qi_list (q_var (i := 1))) (blkOk_by (own := [("name", 5), ("time", 6), ("speed", 7)]) (by kernel_rfl)) (fun _ _ _ _ _ => qg_name (i := 5) sc_cut_times.nd) (fun _ _ _ _ _ => qts_nil) (fun _ _ _ _ _ => qi_list (q_meth c_Race_pieces hr (q_var (i := 0)) (qa_cons (q_var (i := 5)) (qa_nil)))) (fun _ _ _ _ _ => qg_tup (qgs_cons (qg_name (i := 6) sc_cut_times.nd) (qgs_cons (qg_name (i := 7) sc_cut_times.nd) (qgs_nil)))) (fun _ _ _ _ _ => qts_nil) (fun _ _ _ _ _ => q_var (i := 6))) (qss_cons (qs_setLc (i := 8) (own := [("time", 6)]) sc_cut_times.nd (sw_true rfl rfl rfl (by decide +kernel)) (qi_list (q_var (i := 4))) (blkOk_by (own := [("time", 6)]) (by kernel_rfl)) (fun _ _ _ _ _ => qg_name (i := 6) sc_cut_times.nd) (fun _ _ _ _ _ => qts_one ((qw_and (qt_cmp q_lt (q_call c_compare hr (qa_cons (q_var (i := 2)) (qa_cons (q_var (i := 6)) (qa_nil)))) (q_int)) (qw_and1 (qt_cmp q_lt (q_call c_compare hr (qa_cons (q_var (i := 6)) (qa_cons (q_var (i := 3)) (qa_nil)))) (q_int)))).pt)) (fun _ _ _ _ _ => q_var (i := 6))) (qss_one (qs_ret (q_call c_in_order hr (qa_cons (q_lst (qa_cons (q_var (i := 2)) (qa_star (q_var (i := 8)) (qa_cons (q_var (i := 3)) (qa_nil))))) (qa_nil))))))) hp_cut_times
theorem sc_Race_speed : FnScope ["self", "name", "time", "pieces", "moment", "begin", "speed"] ["self", "name", "time"] (defScope (mtop 37 11)) := ⟨rfl, rfl, rfl, by decide +kernel, rfl, by decide +kernel, by decide +kernel⟩
theorem ok_Race_speed {P : Program} {w : World} {mg : Str → Option Value} {K : PySem.W.Frag} {f : Addr} {fd : FuncData} {dvs : List V} (F : FunD K "speed" "Race.speed" (defArgs (mtop 37 11)) (defBody (mtop 37 11)) (defScope (mtop 37 11)) dvs [] f fd) (c_Race_pieces : MtC P w mg (Zp K) "Race" "pieces" 5 2 Ph_Race_pieces) (c_as_time : FnC P w mg (Zp K) "as_time" 9 1 Ph_as_time) (c_compare : FnC P w mg (Zp K) "compare" 8 2 Ph_compare) : ∀ base : Heap, FnOk P w K mg base CX0 10 f fd ["self", "name", "time"] (spP (Zp K) Ph_Race_speed) :=
  fun base => okP (Z := Zp K) (t := t_Race_speed) F sc_Race_speed (fun cdv A outer s H E hr => qss_cons (qs_set (i := 3) sc_Race_speed.nd (q_meth c_Race_pieces hr (q_var (i := 0)) (qa_cons (q_var (i := 1)) (qa_nil)))) (qss_cons (qs_set (i := 4) sc_Race_speed.nd (q_call c_as_time hr (qa_cons (q_var (i := 2)) (qa_nil)))) (qss_one (qs_ret (q_ix (q_lc (own := [("begin", 5), ("speed", 6)]) sc_Race_speed.nd (qi_list (q_var (i := 3))) (blkOk_by (own := [("begin", 5), ("speed", 6)]) (by kernel_rfl)) (fun _ _ _ _ _ => qg_tup (qgs_cons (qg_name (i := 5) sc_Race_speed.nd) (qgs_cons (qg_name (i := 6) sc_Race_speed.nd) (qgs_nil)))) (fun _ _ _ _ _ => qts_one (qt_cmp q_le (q_call c_compare hr (qa_cons (q_var (i := 5)) (qa_cons (q_var (i := 4)) (qa_nil)))) (q_int))) (fun _ _ _ _ _ => q_var (i := 6))) (q_neg (q_int))))))) hp_Race_speed
theorem sc_laps_apart : FnScope ["race", "first", "second", "time", "apart"] ["race", "first", "second", "time"] (defScope (top 41)) := ⟨rfl, rfl, rfl, by decide +kernel, rfl, by decide +kernel, by decide +kernel⟩
theorem ok_laps_apart {P : Program} {w : World} {mg : Str → Option Value} {K : PySem.W.Frag} {f : Addr} {fd : FuncData} {dvs : List V} (F : FunD K "laps_apart" "laps_apart" (defArgs (top 41)) (defBody (top 41)) (defScope (top 41)) dvs [] f fd) (c_Race_position : MtC P w mg (Zp K) "Race" "position" 10 3 Ph_Race_position) (c_minus : FnC P w mg (Zp K) "minus" 7 2 Ph_minus) (c_Race_length : PrC P w mg (Zp K) "Race" "length" 3 Ph_Race_length) (c_divided : FnC P w mg (Zp K) "divided" 7 2 Ph_divided) (c_floor_of : FnC P w mg (Zp K) "floor_of" 7 1 Ph_floor_of) : ∀ base : Heap, FnOk P w K mg base CX0 11 f fd ["race", "first", "second", "time"] (spP (Zp K) Ph_laps_apart) :=
  fun base => okP (Z := Zp K) (t := t_laps_apart) F sc_laps_apart (fun cdv A outer s H E hr => qss_cons (qs_set (i := 4) sc_laps_apart.nd (q_call c_minus hr (qa_cons (q_meth c_Race_position hr (q_var (i := 0)) (qa_cons (q_var (i := 1)) (qa_cons (q_var (i := 3)) (qa_nil)))) (qa_cons (q_meth c_Race_position hr (q_var (i := 0)) (qa_cons (q_var (i := 2)) (qa_cons (q_var (i := 3)) (qa_nil)))) (qa_nil))))) (qss_one (qs_ret (q_call c_floor_of hr (qa_cons (q_call c_divided hr (qa_cons (q_var (i := 4)) (qa_cons (q_prop c_Race_length hr (q_var (i := 0))) (qa_nil)))) (qa_nil)))))) hp_laps_apart
theorem sc_passes : FnScope ["race", "over", "under", "start", "end", "begin", "stop", "cuts", "count", "one", "other"] ["race", "over", "under", "start", "end"] (defScope (top 42)) := ⟨rfl, rfl, rfl, by decide +kernel, rfl, by decide +kernel, by decide +kernel⟩
theorem ok_passes {P : Program} {w : World} {mg : Str → Option Value} {K : PySem.W.Frag} {f : Addr} {fd : FuncData} {dvs : List V} (F : FunD K "passes" "passes" (defArgs (top 42)) (defBody (top 42)) (defScope (top 42)) dvs [] f fd) (c_Race_validate_names : MtC P w mg (Zp K) "Race" "validate_names" 5 3 Ph_Race_validate_names) (c_as_window : FnC P w mg (Zp K) "as_window" 10 2 Ph_as_window) (c_cut_times : FnC P w mg (Zp K) "cut_times" 9 4 Ph_cut_times) (m_zip : mg "zip" = none) (c_Race_speed : MtC P w mg (Zp K) "Race" "speed" 10 3 Ph_Race_speed) (c_compare : FnC P w mg (Zp K) "compare" 8 2 Ph_compare) (c_laps_apart : FnC P w mg (Zp K) "laps_apart" 11 4 Ph_laps_apart) : ∀ base : Heap, FnOk P w K mg base CX0 12 f fd ["race", "over", "under", "start", "end"] (spP (Zp K) Ph_passes) :=
  fun base => okP (Z := Zp K) (t := t_passes) F sc_passes (fun cdv A outer s H E hr => qss_cons (qs_expr (q_meth c_Race_validate_names hr (q_var (i := 0)) (qa_cons (q_var (i := 1)) (qa_cons (q_var (i := 2)) (qa_nil))))) (qss_cons (qs_asg (q_call c_as_window hr (qa_cons (q_var (i := 3)) (qa_cons (q_var (i := 4)) (qa_nil)))) (qg_tup (qgs_cons (qg_name (i := 5) sc_passes.nd) (qgs_cons (qg_name (i := 6) sc_passes.nd) (qgs_nil))))) (qss_cons (qs_set (i := 7) sc_passes.nd (q_call c_cut_times hr (qa_cons (q_var (i := 0)) (qa_cons (q_lst (qa_cons (q_var (i := 1)) (qa_cons (q_var (i := 2)) (qa_nil)))) (qa_cons (q_var (i := 5)) (qa_cons (q_var (i := 6)) (qa_nil))))))) (qss_cons (qs_set (i := 8) sc_passes.nd (q_int)) (qss_cons (qs_for (qi_zipk m_zip (qa_cons (q_var (i := 7)) (qa_cons (q_sliceL (q_var (i := 7)) (qo_some (q_int)) (qo_none)) (qa_nil)))) (qg_tup (qgs_cons (qg_name (i := 9) sc_passes.nd) (qgs_cons (qg_name (i := 10) sc_passes.nd) (qgs_nil)))) (qss_one (qs_if (qt_cmp q_gt (q_call c_compare hr (qa_cons (q_meth c_Race_speed hr (q_var (i := 0)) (qa_cons (q_var (i := 1)) (qa_cons (q_var (i := 9)) (qa_nil)))) (qa_cons (q_meth c_Race_speed hr (q_var (i := 0)) (qa_cons (q_var (i := 2)) (qa_cons (q_var (i := 9)) (qa_nil)))) (qa_nil)))) (q_int)) (qss_one (qs_augAdd (i := 8) sc_passes.nd (q_op q_subI (q_call c_laps_apart hr (qa_cons (q_var (i := 0)) (qa_cons (q_var (i := 1)) (qa_cons (q_var (i := 2)) (qa_cons (q_var (i := 10)) (qa_nil)))))) (q_call c_laps_apart hr (qa_cons (q_var (i := 0)) (qa_cons (q_var (i := 1)) (qa_cons (q_var (i := 2)) (qa_cons (q_var (i := 9)) (qa_nil))))))))) (qss_nil)))) (qss_one (qs_ret (q_var (i := 8))))))))) hp_passes
theorem sc_pass_table : FnScope ["race", "start", "end", "found", "over", "under", "count"] ["race", "start", "end"] (defScope (top 43)) := ⟨rfl, rfl, rfl, by decide +kernel, rfl, by decide +kernel, by decide +kernel⟩
theorem ok_pass_table {P : Program} {w : World} {mg : Str → Option Value} {K : PySem.W.Frag} {f : Addr} {fd : FuncData} {dvs : List V} (F : FunD K "pass_table" "pass_table" (defArgs (top 43)) (defBody (top 43)) (defScope (top 43)) dvs [] f fd) (c_as_window : FnC P w mg (Zp K) "as_window" 10 2 Ph_as_window) (c_Race_names : MtC P w mg (Zp K) "Race" "names" 3 1 Ph_Race_names) (c_passes : FnC P w mg (Zp K) "passes" 12 5 Ph_passes) : ∀ base : Heap, FnOk P w K mg base CX0 13 f fd ["race", "start", "end"] (spP (Zp K) Ph_pass_table) :=
  fun base => okP (Z := Zp K) (t := t_pass_table) F sc_pass_table (fun cdv A outer s H E hr => qss_cons (qs_expr (q_call c_as_window hr (qa_cons (q_var (i := 1)) (qa_cons (q_var (i := 2)) (qa_nil))))) (qss_cons (qs_newT (i := 3) sc_pass_table.nd) (qss_cons (qs_for (qi_list (q_meth0 c_Race_names hr (q_var (i := 0)))) (qg_name (i := 4) sc_pass_table.nd) (qss_one (qs_for (qi_list (q_meth0 c_Race_names hr (q_var (i := 0)))) (qg_name (i := 5) sc_pass_table.nd) (qss_cons (qs_set (i := 6) sc_pass_table.nd (q_call c_passes hr (qa_cons (q_var (i := 0)) (qa_cons (q_var (i := 4)) (qa_cons (q_var (i := 5)) (qa_cons (q_var (i := 1)) (qa_cons (q_var (i := 2)) (qa_nil)))))))) (qss_one (qs_if (qt_cmp q_gt (q_var (i := 6)) (q_int)) (qss_one (qs_dput (i := 3) hr (q_tup (qa_cons (q_var (i := 4)) (qa_cons (q_var (i := 5)) (qa_nil)))) (q_var (i := 6)))) (qss_nil))))))) (qss_one (qs_frz 3 (qs_ret (q_var (i := 3)))))))) hp_pass_table
theorem sc_as_gap : FnScope ["race", "value"] ["race", "value"] (defScope (top 46)) := ⟨rfl, rfl, rfl, by decide +kernel, rfl, by decide +kernel, by decide +kernel⟩
theorem ok_as_gap {P : Program} {w : World} {mg : Str → Option Value} {K : PySem.W.Frag} {f : Addr} {fd : FuncData} {dvs : List V} (F : FunD K "as_gap" "as_gap" (defArgs (top 46)) (defBody (top 46)) (defScope (top 46)) dvs [] f fd) (c_Race_length : PrC P w mg (Zp K) "Race" "length" 3 Ph_Race_length) (c_compare : FnC P w mg (Zp K) "compare" 8 2 Ph_compare) (c_is_number : FnC P w mg (Zp K) "is_number" 5 1 Ph_is_number) (c_as_ratio : FnC P w mg (Zp K) "as_ratio" 6 1 Ph_as_ratio) : ∀ base : Heap, FnOk P w K mg base CX0 9 f fd ["race", "value"] (spP (Zp K) Ph_as_gap) :=
  fun base => okP (Z := Zp K) (t := t_as_gap) F sc_as_gap (fun cdv A outer s H E hr => qss_cons (qs_if ((qw_or (qt_not (qt_val (q_call c_is_number hr (qa_cons (q_var (i := 1)) (qa_nil))))) (qw_or (qt_cmp q_lt (q_call c_compare hr (qa_cons (q_var (i := 1)) (qa_cons (q_int) (qa_nil)))) (q_int)) (qw_or1 (qt_cmp q_ge (q_call c_compare hr (qa_cons (q_var (i := 1)) (qa_cons (q_prop c_Race_length hr (q_var (i := 0))) (qa_nil)))) (q_int))))).pt) (qss_never) (qss_nil)) (qss_one (qs_ret (q_call c_as_ratio hr (qa_cons (q_var (i := 1)) (qa_nil)))))) hp_as_gap
theorem sc_approach : FnScope ["race", "first", "second", "time"] ["race", "first", "second", "time"] (defScope (top 47)) := ⟨rfl, rfl, rfl, by decide +kernel, rfl, by decide +kernel, by decide +kernel⟩
theorem ok_approach {P : Program} {w : World} {mg : Str → Option Value} {K : PySem.W.Frag} {f : Addr} {fd : FuncData} {dvs : List V} (F : FunD K "approach" "approach" (defArgs (top 47)) (defBody (top 47)) (defScope (top 47)) dvs [] f fd) (c_Race_speed : MtC P w mg (Zp K) "Race" "speed" 10 3 Ph_Race_speed) (c_minus : FnC P w mg (Zp K) "minus" 7 2 Ph_minus) : ∀ base : Heap, FnOk P w K mg base CX0 11 f fd ["race", "first", "second", "time"] (spP (Zp K) Ph_approach) :=
  fun base => okP (Z := Zp K) (t := t_approach) F sc_approach (fun cdv A outer s H E hr => qss_one (qs_ret (q_call c_minus hr (qa_cons (q_meth c_Race_speed hr (q_var (i := 0)) (qa_cons (q_var (i := 2)) (qa_cons (q_var (i := 3)) (qa_nil)))) (qa_cons (q_meth c_Race_speed hr (q_var (i := 0)) (qa_cons (q_var (i := 1)) (qa_cons (q_var (i := 3)) (qa_nil)))) (qa_nil)))))) hp_approach
theorem sc_offset : FnScope ["race", "first", "second", "value", "time", "apart"] ["race", "first", "second", "value", "time"] (defScope (top 48)) := ⟨rfl, rfl, rfl, by decide +kernel, rfl, by decide +kernel, by decide +kernel⟩
theorem ok_offset {P : Program} {w : World} {mg : Str → Option Value} {K : PySem.W.Frag} {f : Addr} {fd : FuncData} {dvs : List V} (F : FunD K "offset" "offset" (defArgs (top 48)) (defBody (top 48)) (defScope (top 48)) dvs [] f fd) (c_Race_position : MtC P w mg (Zp K) "Race" "position" 10 3 Ph_Race_position) (c_minus : FnC P w mg (Zp K) "minus" 7 2 Ph_minus) (c_Race_length : PrC P w mg (Zp K) "Race" "length" 3 Ph_Race_length) (c_divided : FnC P w mg (Zp K) "divided" 7 2 Ph_divided) : ∀ base : Heap, FnOk P w K mg base CX0 11 f fd ["race", "first", "second", "value", "time"] (spP (Zp K) Ph_offset) :=
  fun base => okP (Z := Zp K) (t := t_offset) F sc_offset (fun cdv A outer s H E hr => qss_cons (qs_set (i := 5) sc_offset.nd (q_call c_minus hr (qa_cons (q_meth c_Race_position hr (q_var (i := 0)) (qa_cons (q_var (i := 2)) (qa_cons (q_var (i := 4)) (qa_nil)))) (qa_cons (q_meth c_Race_position hr (q_var (i := 0)) (qa_cons (q_var (i := 1)) (qa_cons (q_var (i := 4)) (qa_nil)))) (qa_nil))))) (qss_one (qs_ret (q_call c_divided hr (qa_cons (q_call c_minus hr (qa_cons (q_var (i := 5)) (qa_cons (q_var (i := 3)) (qa_nil)))) (qa_cons (q_prop c_Race_length hr (q_var (i := 0))) (qa_nil))))))) hp_offset
theorem sc_rows_of : FnScope ["race", "first", "second", "value", "begin", "stop", "found", "cuts", "one", "other", "growth", "low", "high"] ["race", "first", "second", "value", "begin", "stop"] (defScope (top 49)) := ⟨rfl, rfl, rfl, by decide +kernel, rfl, by decide +kernel, by decide +kernel⟩
theorem ok_rows_of {P : Program} {w : World} {mg : Str → Option Value} {K : PySem.W.Frag} {f : Addr} {fd : FuncData} {dvs : List V} (F : FunD K "rows_of" "rows_of" (defArgs (top 49)) (defBody (top 49)) (defScope (top 49)) dvs [] f fd) (c_cut_times : FnC P w mg (Zp K) "cut_times" 9 4 Ph_cut_times) (m_zip : mg "zip" = none) (c_approach : FnC P w mg (Zp K) "approach" 11 4 Ph_approach) (c_offset : FnC P w mg (Zp K) "offset" 11 5 Ph_offset) (c_floor_of : FnC P w mg (Zp K) "floor_of" 7 1 Ph_floor_of) (c_minus : FnC P w mg (Zp K) "minus" 7 2 Ph_minus) : ∀ base : Heap, FnOk P w K mg base CX0 12 f fd ["race", "first", "second", "value", "begin", "stop"] (spP (Zp K) Ph_rows_of) :=
  fun base => okP (Z := Zp K) (t := t_rows_of) F sc_rows_of (fun cdv A outer s H E hr => qss_cons (qs_newL (i := 6) sc_rows_of.nd) (qss_cons (qs_set (i := 7) sc_rows_of.nd (q_call c_cut_times hr (qa_cons (q_var (i := 0)) (qa_cons (q_lst (qa_cons (q_var (i := 1)) (qa_cons (q_var (i := 2)) (qa_nil)))) (qa_cons (q_var (i := 4)) (qa_cons (q_var (i := 5)) (qa_nil))))))) (qss_cons (qs_for (qi_zipk m_zip (qa_cons (q_var (i := 7)) (qa_cons (q_sliceL (q_var (i := 7)) (qo_some (q_int)) (qo_none)) (qa_nil)))) (qg_tup (qgs_cons (qg_name (i := 8) sc_rows_of.nd) (qgs_cons (qg_name (i := 9) sc_rows_of.nd) (qgs_nil)))) (qss_cons (qs_set (i := 10) sc_rows_of.nd (q_call c_approach hr (qa_cons (q_var (i := 0)) (qa_cons (q_var (i := 1)) (qa_cons (q_var (i := 2)) (qa_cons (q_var (i := 8)) (qa_nil))))))) (qss_cons (qs_par (i := 11) (j := 12) sc_rows_of.nd (qa_cons (q_call c_offset hr (qa_cons (q_var (i := 0)) (qa_cons (q_var (i := 1)) (qa_cons (q_var (i := 2)) (qa_cons (q_var (i := 3)) (qa_cons (q_var (i := 8)) (qa_nil))))))) (qa_cons (q_call c_offset hr (qa_cons (q_var (i := 0)) (qa_cons (q_var (i := 1)) (qa_cons (q_var (i := 2)) (qa_cons (q_var (i := 3)) (qa_cons (q_var (i := 9)) (qa_nil))))))) (qa_nil)))) (qss_cons (qs_if (qt_cmp q_gt (q_ix (q_var (i := 10)) (q_int)) (q_int)) (qss_one (qs_append (i := 6) (q_tup (qa_cons (q_var (i := 8)) (qa_cons (q_var (i := 10)) (qa_cons (q_var (i := 11)) (qa_cons (q_op q_addI (q_call c_floor_of hr (qa_cons (q_var (i := 11)) (qa_nil))) (q_int)) (qa_cons (q_call c_floor_of hr (qa_cons (q_var (i := 12)) (qa_nil))) (qa_nil))))))))) (qss_nil)) (qss_one (qs_if (qt_cmp q_lt (q_ix (q_var (i := 10)) (q_int)) (q_int)) (qss_one (qs_append (i := 6) (q_tup (qa_cons (q_var (i := 8)) (qa_cons (q_var (i := 10)) (qa_cons (q_var (i := 11)) (qa_cons (q_op q_subI (q_neg (q_call c_floor_of hr (qa_cons (q_call c_minus hr (qa_cons (q_int) (qa_cons (q_var (i := 11)) (qa_nil)))) (qa_nil)))) (q_int)) (qa_cons (q_neg (q_call c_floor_of hr (qa_cons (q_call c_minus hr (qa_cons (q_int) (qa_cons (q_var (i := 12)) (qa_nil)))) (qa_nil)))) (qa_nil))))))))) (qss_nil))))))) (qss_one (qs_frz 6 (qs_ret (q_var (i := 6)))))))) hp_rows_of
theorem sc_direction : FnScope ["row"] ["row"] (defScope (top 50)) := ⟨rfl, rfl, rfl, by decide +kernel, rfl, by decide +kernel, by decide +kernel⟩
theorem ok_direction {P : Program} {w : World} {mg : Str → Option Value} {K : PySem.W.Frag} {f : Addr} {fd : FuncData} {dvs : List V} (F : FunD K "direction" "direction" (defArgs (top 50)) (defBody (top 50)) (defScope (top 50)) dvs [] f fd)  : ∀ base : Heap, FnOk P w K mg base CX0 3 f fd ["row"] (spP (Zp K) Ph_direction) :=
  fun base => okP (Z := Zp K) (t := t_direction) F sc_direction (fun cdv A outer s H E hr => qss_one (qs_ret (q_if (qt_cmp q_gt (q_ix (q_ix (q_var (i := 0)) (q_int)) (q_int)) (q_int)) (q_int) (q_neg (q_int))))) hp_direction
theorem sc_count_gap : FnScope ["race", "first", "second", "value", "start", "end", "wanted", "begin", "stop", "rows", "row"] ["race", "first", "second", "value", "start", "end"] (defScope (top 51)) := ⟨rfl, rfl, rfl, by decide +kernel, rfl, by decide +kernel, by decide +kernel⟩
theorem ok_count_gap {P : Program} {w : World} {mg : Str → Option Value} {K : PySem.W.Frag} {f : Addr} {fd : FuncData} {dvs : List V} (F : FunD K "count_gap" "count_gap" (defArgs (top 51)) (defBody (top 51)) (defScope (top 51)) dvs [] f fd) (c_Race_validate_names : MtC P w mg (Zp K) "Race" "validate_names" 5 3 Ph_Race_validate_names) (c_as_gap : FnC P w mg (Zp K) "as_gap" 9 2 Ph_as_gap) (c_as_window : FnC P w mg (Zp K) "as_window" 10 2 Ph_as_window) (c_rows_of : FnC P w mg (Zp K) "rows_of" 12 6 Ph_rows_of) (c_direction : FnC P w mg (Zp K) "direction" 3 1 Ph_direction) (m_max : mg "max" = none) (m_sum : mg "sum" = none) : ∀ base : Heap, FnOk P w K mg base CX0 13 f fd ["race", "first", "second", "value", "start", "end"] (spP (Zp K) Ph_count_gap) :=
  fun base => okP (Z := Zp K) (t := t_count_gap) F sc_count_gap (fun cdv A outer s H E hr => qss_cons (qs_expr (q_meth c_Race_validate_names hr (q_var (i := 0)) (qa_cons (q_var (i := 1)) (qa_cons (q_var (i := 2)) (qa_nil))))) (qss_cons (qs_set (i := 6) sc_count_gap.nd (q_call c_as_gap hr (qa_cons (q_var (i := 0)) (qa_cons (q_var (i := 3)) (qa_nil))))) (qss_cons (qs_asg (q_call c_as_window hr (qa_cons (q_var (i := 4)) (qa_cons (q_var (i := 5)) (qa_nil)))) (qg_tup (qgs_cons (qg_name (i := 7) sc_count_gap.nd) (qgs_cons (qg_name (i := 8) sc_count_gap.nd) (qgs_nil))))) (qss_cons (qs_set (i := 9) sc_count_gap.nd (q_call c_rows_of hr (qa_cons (q_var (i := 0)) (qa_cons (q_var (i := 1)) (qa_cons (q_var (i := 2)) (qa_cons (q_var (i := 6)) (qa_cons (q_var (i := 7)) (qa_cons (q_var (i := 8)) (qa_nil))))))))) (qss_one (qs_ret (q_callB c_sum m_sum rfl (qa_cons (q_lc (own := [("row", 10)]) sc_count_gap.nd (qi_list (q_var (i := 9))) (blkOk_by (own := [("row", 10)]) (by kernel_rfl)) (fun _ _ _ _ _ => qg_name (i := 10) sc_count_gap.nd) (fun _ _ _ _ _ => qts_nil) (fun _ _ _ _ _ => q_callB c_max2 m_max rfl (qa_cons (q_int) (qa_cons (q_op q_addI (q_op q_mulI (q_op q_subI (q_ix (q_var (i := 10)) (q_int)) (q_ix (q_var (i := 10)) (q_int))) (q_call c_direction hr (qa_cons (q_var (i := 10)) (qa_nil)))) (q_int)) (qa_nil))))) (qa_nil))))))))) hp_count_gap
theorem sc_time_in_row : FnScope ["race", "row", "number", "one", "growth", "low"] ["race", "row", "number"] (defScope (top 52)) := ⟨rfl, rfl, rfl, by decide +kernel, rfl, by decide +kernel, by decide +kernel⟩
theorem ok_time_in_row {P : Program} {w : World} {mg : Str → Option Value} {K : PySem.W.Frag} {f : Addr} {fd : FuncData} {dvs : List V} (F : FunD K "time_in_row" "time_in_row" (defArgs (top 52)) (defBody (top 52)) (defScope (top 52)) dvs [] f fd) (c_Race_length : PrC P w mg (Zp K) "Race" "length" 3 Ph_Race_length) (c_minus : FnC P w mg (Zp K) "minus" 7 2 Ph_minus) (c_times : FnC P w mg (Zp K) "times" 7 2 Ph_times) (c_divided : FnC P w mg (Zp K) "divided" 7 2 Ph_divided) (c_plus : FnC P w mg (Zp K) "plus" 7 2 Ph_plus) : ∀ base : Heap, FnOk P w K mg base CX0 8 f fd ["race", "row", "number"] (spP (Zp K) Ph_time_in_row) :=
  fun base => okP (Z := Zp K) (t := t_time_in_row) F sc_time_in_row (fun cdv A outer s H E hr => qss_cons (qs_asg (q_sliceT (q_var (i := 1)) (qo_none) (qo_some (q_int))) (qg_tup (qgs_cons (qg_name (i := 3) sc_time_in_row.nd) (qgs_cons (qg_name (i := 4) sc_time_in_row.nd) (qgs_cons (qg_name (i := 5) sc_time_in_row.nd) (qgs_nil)))))) (qss_one (qs_ret (q_call c_plus hr (qa_cons (q_var (i := 3)) (qa_cons (q_call c_divided hr (qa_cons (q_call c_times hr (qa_cons (q_call c_minus hr (qa_cons (q_var (i := 2)) (qa_cons (q_var (i := 5)) (qa_nil)))) (qa_cons (q_prop c_Race_length hr (q_var (i := 0))) (qa_nil)))) (qa_cons (q_var (i := 4)) (qa_nil)))) (qa_nil))))))) hp_time_in_row
theorem sc_gap_times : FnScope ["race", "first", "second", "value", "start", "end", "begin", "stop", "found", "row", "step", "number"] ["race", "first", "second", "value", "start", "end"] (defScope (top 53)) := ⟨rfl, rfl, rfl, by decide +kernel, rfl, by decide +kernel, by decide +kernel⟩
theorem ok_gap_times {P : Program} {w : World} {mg : Str → Option Value} {K : PySem.W.Frag} {f : Addr} {fd : FuncData} {dvs : List V} (F : FunD K "gap_times" "gap_times" (defArgs (top 53)) (defBody (top 53)) (defScope (top 53)) dvs [] f fd) (c_count_gap : FnC P w mg (Zp K) "count_gap" 13 6 Ph_count_gap) (g_MAX_TIMES : ∃ t, mg "MAX_TIMES" = some (.int 2000 t)) (c_as_window : FnC P w mg (Zp K) "as_window" 10 2 Ph_as_window) (c_as_ratio : FnC P w mg (Zp K) "as_ratio" 6 1 Ph_as_ratio) (c_rows_of : FnC P w mg (Zp K) "rows_of" 12 6 Ph_rows_of) (c_direction : FnC P w mg (Zp K) "direction" 3 1 Ph_direction) (m_range : mg "range" = none) (c_time_in_row : FnC P w mg (Zp K) "time_in_row" 8 3 Ph_time_in_row) : ∀ base : Heap, FnOk P w K mg base CX0 14 f fd ["race", "first", "second", "value", "start", "end"] (spP (Zp K) Ph_gap_times) :=
  fun base => okP (Z := Zp K) (t := t_gap_times) F sc_gap_times (fun cdv A outer s H E hr => qss_cons (qs_if (qt_cmp q_gt (q_call c_count_gap hr (qa_cons (q_var (i := 0)) (qa_cons (q_var (i := 1)) (qa_cons (q_var (i := 2)) (qa_cons (q_var (i := 3)) (qa_cons (q_var (i := 4)) (qa_cons (q_var (i := 5)) (qa_nil)))))))) (q_gint g_MAX_TIMES)) (qss_never) (qss_nil)) (qss_cons (qs_asg (q_call c_as_window hr (qa_cons (q_var (i := 4)) (qa_cons (q_var (i := 5)) (qa_nil)))) (qg_tup (qgs_cons (qg_name (i := 6) sc_gap_times.nd) (qgs_cons (qg_name (i := 7) sc_gap_times.nd) (qgs_nil))))) (qss_cons (qs_newL (i := 8) sc_gap_times.nd) (qss_cons (qs_for (qi_list (q_call c_rows_of hr (qa_cons (q_var (i := 0)) (qa_cons (q_var (i := 1)) (qa_cons (q_var (i := 2)) (qa_cons (q_call c_as_ratio hr (qa_cons (q_var (i := 3)) (qa_nil))) (qa_cons (q_var (i := 6)) (qa_cons (q_var (i := 7)) (qa_nil))))))))) (qg_name (i := 9) sc_gap_times.nd) (qss_cons (qs_set (i := 10) sc_gap_times.nd (q_call c_direction hr (qa_cons (q_var (i := 9)) (qa_nil)))) (qss_one (qs_extend (i := 8) (q_lc (own := [("number", 11)]) sc_gap_times.nd (qi_range3 m_range (qa_cons (q_ix (q_var (i := 9)) (q_int)) (qa_cons (q_op q_addI (q_ix (q_var (i := 9)) (q_int)) (q_var (i := 10))) (qa_cons (q_var (i := 10)) (qa_nil))))) (blkOk_by (own := [("number", 11)]) (by kernel_rfl)) (fun _ _ _ _ _ => qg_name (i := 11) sc_gap_times.nd) (fun _ _ _ _ _ => qts_nil) (fun _ _ _ _ _ => q_call c_time_in_row hr (qa_cons (q_var (i := 0)) (qa_cons (q_var (i := 9)) (qa_cons (q_var (i := 11)) (qa_nil)))))))))) (qss_one (qs_frz 8 (qs_ret (q_var (i := 8))))))))) hp_gap_times
theorem sc_Race_turned : FnScope ["self", "shift", "name"] ["self", "shift"] (defScope (mtop 37 16)) := ⟨rfl, rfl, rfl, by decide +kernel, rfl, by decide +kernel, by decide +kernel⟩
theorem ok_Race_turned {P : Program} {w : World} {mg : Str → Option Value} {K : PySem.W.Frag} {f : Addr} {fd : FuncData} {dvs : List V} (F : FunD K "turned" "Race.turned" (defArgs (mtop 37 16)) (defBody (mtop 37 16)) (defScope (mtop 37 16)) dvs [] f fd) (c_Race_names : MtC P w mg (Zp K) "Race" "names" 3 1 Ph_Race_names) (c_Race_pieces : MtC P w mg (Zp K) "Race" "pieces" 5 2 Ph_Race_pieces) (c_Race_start : MtC P w mg (Zp K) "Race" "start" 5 2 Ph_Race_start) (c_plus : FnC P w mg (Zp K) "plus" 7 2 Ph_plus) (c_Race_length : PrC P w mg (Zp K) "Race" "length" 3 Ph_Race_length) (c_Race : MkC P w mg (Zp K) "Race" 12 2 Ph_Race) : ∀ base : Heap, FnOk P w K mg base CX0 14 f fd ["self", "shift"] (spP (Zp K) Ph_Race_turned) :=
  fun base => okP (Z := Zp K) (t := t_Race_turned) F sc_Race_turned (fun cdv A outer s H E hr => qss_one (qs_ret (q_make c_Race hr (qa_cons (q_prop c_Race_length hr (q_var (i := 0))) (qa_cons (q_dc (own := [("name", 2)]) sc_Race_turned.nd (qi_list (q_meth0 c_Race_names hr (q_var (i := 0)))) (blkOk_by (own := [("name", 2)]) (by kernel_rfl)) (fun _ _ _ _ _ => qg_name (i := 2) sc_Race_turned.nd) (fun _ _ _ _ _ => qts_nil) (fun _ _ _ _ _ => q_var (i := 2)) (fun _ _ _ _ _ => q_tup (qa_cons (q_call c_plus hr (qa_cons (q_meth c_Race_start hr (q_var (i := 0)) (qa_cons (q_var (i := 2)) (qa_nil))) (qa_cons (q_var (i := 1)) (qa_nil)))) (qa_cons (q_meth c_Race_pieces hr (q_var (i := 0)) (qa_cons (q_var (i := 2)) (qa_nil))) (qa_nil))))) (qa_nil)))))) hp_Race_turned
theorem sc_law : FnScope ["script", "k", "pool", "race", "other", "moments", "value", "expected", "turned", "factor", "slow", "start", "end", "begin", "stop", "time"] ["script"] (defScope (top 66)) := ⟨rfl, rfl, rfl, by decide +kernel, rfl, by decide +kernel, by decide +kernel⟩
theorem ok_law {P : Program} {w : World} {mg : Str → Option Value} {K : PySem.W.Frag} {f : Addr} {fd : FuncData} {dvs : List V} (F : FunD K "law" "law" (defArgs (top 66)) (defBody (top 66)) (defScope (top 66)) dvs [] f fd) (m_len : mg "len" = none) (m_min : mg "min" = none) (m_max : mg "max" = none) (m_range : mg "range" = none) (c_law_pool : FnC P w mg (Zp K) "_law_pool" 3 2 Ph_law_pool) (c_law_draw : FnC P w mg (Zp K) "_law_draw" 3 2 Ph_law_draw) (c_law_race : FnC P w mg (Zp K) "_law_race" 14 2 Ph_law_race) (c_law_choose : FnC P w mg (Zp K) "_law_choose" 4 2 Ph_law_choose) (c_law_longer : FnC P w mg (Zp K) "_law_longer" 14 2 Ph_law_longer) (c_Race_slowed : MtC P w mg (Zp K) "Race" "slowed" 14 2 Ph_Race_slowed) (c_law_number : FnC P w mg (Zp K) "_law_number" 5 3 Ph_law_number) (c_Race_change_times : MtC P w mg (Zp K) "Race" "change_times" 8 1 Ph_Race_change_times) (c_law_check : FnC P w mg (Zp K) "_law_check" 13 5 Ph_law_check) (c_in_order : FnC P w mg (Zp K) "in_order" 7 1 Ph_in_order) (c_times : FnC P w mg (Zp K) "times" 7 2 Ph_times) (c_pass_table : FnC P w mg (Zp K) "pass_table" 13 3 Ph_pass_table) (c_Race_length : PrC P w mg (Zp K) "Race" "length" 3 Ph_Race_length) (c_remainder : FnC P w mg (Zp K) "remainder" 8 2 Ph_remainder) (c_gap_times : FnC P w mg (Zp K) "gap_times" 14 6 Ph_gap_times) (c_Race_turned : MtC P w mg (Zp K) "Race" "turned" 14 2 Ph_Race_turned) : ∀ base : Heap, FnOk P w K mg base CX0 15 f fd ["script"] (spP (Zp K) Ph_law) :=
  fun base => okP (Z := Zp K) (t := t_law) F sc_law (fun cdv A outer s H E hr => qss_cons (qs_for (qi_range1 m_range (qa_cons (q_callB c_max2 m_max rfl (qa_cons (q_int) (qa_cons (q_callB c_min2 m_min rfl (qa_cons (q_callB c_len m_len rfl (qa_cons (q_var (i := 0)) (qa_nil))) (qa_cons (q_int) (qa_nil)))) (qa_nil)))) (qa_nil))) (qg_name (i := 1) sc_law.nd) (qss_cons (qs_set (i := 2) sc_law.nd (q_call c_law_pool hr (qa_cons (q_var (i := 0)) (qa_cons (q_var (i := 1)) (qa_nil))))) (qss_cons (qs_set (i := 3) sc_law.nd (q_call c_law_race hr (qa_cons (q_var (i := 2)) (qa_cons (q_op q_addI (q_int) (q_call c_law_draw hr (qa_cons (q_var (i := 2)) (qa_cons (q_int) (qa_nil))))) (qa_nil))))) (qss_cons (qs_asg (q_tup (qa_cons (q_call c_law_choose hr (qa_cons (q_var (i := 2)) (qa_cons (q_lst (qa_cons (q_int) (qa_cons (q_tup (qa_cons (q_int) (qa_cons (q_int) (qa_nil)))) (qa_cons (q_op q_addI (q_op q_powI (q_int) (q_int)) (q_int)) (qa_cons (q_tup (qa_cons (q_op q_addI (q_op q_powI (q_int) (q_int)) (q_int)) (qa_cons (q_int) (qa_nil)))) (qa_nil)))))) (qa_nil)))) (qa_cons (q_call c_law_choose hr (qa_cons (q_var (i := 2)) (qa_cons (q_lst (qa_cons (q_int) (qa_cons (q_tup (qa_cons (q_int) (qa_cons (q_int) (qa_nil)))) (qa_cons (q_op q_powI (q_int) (q_int)) (qa_cons (q_int) (qa_nil)))))) (qa_nil)))) (qa_nil)))) (qg_tup (qgs_cons (qg_name (i := 9) sc_law.nd) (qgs_cons (qg_name (i := 10) sc_law.nd) (qgs_nil))))) (qss_cons (qs_set (i := 4) sc_law.nd (q_meth c_Race_slowed hr (q_call c_law_longer hr (qa_cons (q_var (i := 3)) (qa_cons (q_var (i := 9)) (qa_nil)))) (qa_cons (q_var (i := 10)) (qa_nil)))) (qss_cons (qs_set (i := 5) sc_law.nd (q_op q_cat (q_lst (qa_cons (q_int) (qa_cons (q_tup (qa_cons (q_int) (qa_cons (q_int) (qa_nil)))) (qa_cons (q_call c_law_number hr (qa_cons (q_var (i := 2)) (qa_cons (q_int) (qa_cons (q_int) (qa_nil))))) (qa_nil))))) (q_meth0 c_Race_change_times hr (q_var (i := 3))))) (qss_cons (qs_if (qt_not (qt_val (q_call c_law_check hr (qa_cons (q_var (i := 3)) (qa_cons (q_var (i := 4)) (qa_cons (q_var (i := 5)) (qa_cons (q_var (i := 9)) (qa_cons (q_var (i := 10)) (qa_nil))))))))) (qss_one (qs_ret (q_bl))) (qss_nil)) (qss_cons (qs_asg (q_sliceL (q_call c_in_order hr (qa_cons (q_lst (qa_cons (q_call c_law_number hr (qa_cons (q_var (i := 2)) (qa_cons (q_int) (qa_cons (q_int) (qa_nil))))) (qa_cons (q_op q_addI (q_int) (q_call c_law_draw hr (qa_cons (q_var (i := 2)) (qa_cons (q_int) (qa_nil))))) (qa_nil)))) (qa_nil))) (qo_none) (qo_some (q_int))) (qg_lst (qgs_cons (qg_name (i := 11) sc_law.nd) (qgs_cons (qg_name (i := 12) sc_law.nd) (qgs_nil))))) (qss_cons (qs_par (i := 13) (j := 14) sc_law.nd (qa_cons (q_call c_times hr (qa_cons (q_var (i := 11)) (qa_cons (q_var (i := 10)) (qa_nil)))) (qa_cons (q_call c_times hr (qa_cons (q_var (i := 12)) (qa_cons (q_var (i := 10)) (qa_nil)))) (qa_nil)))) (qss_cons (qs_if (qt_cmp (q_neT hr) (q_call c_pass_table hr (qa_cons (q_var (i := 4)) (qa_cons (q_var (i := 13)) (qa_cons (q_var (i := 14)) (qa_nil))))) (q_call c_pass_table hr (qa_cons (q_var (i := 3)) (qa_cons (q_var (i := 11)) (qa_cons (q_var (i := 12)) (qa_nil)))))) (qss_one (qs_ret (q_bl))) (qss_nil)) (qss_cons (qs_set (i := 6) sc_law.nd (q_call c_remainder hr (qa_cons (q_call c_law_number hr (qa_cons (q_var (i := 2)) (qa_cons (q_int) (qa_cons (q_int) (qa_nil))))) (qa_cons (q_prop c_Race_length hr (q_var (i := 3))) (qa_nil))))) (qss_cons (qs_setLc (i := 7) (own := [("time", 15)]) sc_law.nd (sw_true rfl rfl rfl (by decide +kernel)) (qi_list (q_call c_gap_times hr (qa_cons (q_var (i := 3)) (qa_cons (q_str) (qa_cons (q_str) (qa_cons (q_var (i := 6)) (qa_cons (q_var (i := 11)) (qa_cons (q_var (i := 12)) (qa_nil))))))))) (blkOk_by (own := [("time", 15)]) (by kernel_rfl)) (fun _ _ _ _ _ => qg_name (i := 15) sc_law.nd) (fun _ _ _ _ _ => qts_nil) (fun _ _ _ _ _ => q_call c_times hr (qa_cons (q_var (i := 15)) (qa_cons (q_var (i := 10)) (qa_nil))))) (qss_cons (qs_if (qt_cmp (q_ne hr) (q_call c_gap_times hr (qa_cons (q_var (i := 4)) (qa_cons (q_str) (qa_cons (q_str) (qa_cons (q_call c_times hr (qa_cons (q_var (i := 6)) (qa_cons (q_var (i := 9)) (qa_nil)))) (qa_cons (q_var (i := 13)) (qa_cons (q_var (i := 14)) (qa_nil)))))))) (q_var (i := 7))) (qss_one (qs_ret (q_bl))) (qss_nil)) (qss_cons (qs_set (i := 8) sc_law.nd (q_meth c_Race_turned hr (q_var (i := 4)) (qa_cons (q_call c_law_number hr (qa_cons (q_var (i := 2)) (qa_cons (q_neg (q_int)) (qa_cons (q_int) (qa_nil))))) (qa_nil)))) (qss_cons (qs_if (qt_cmp (q_neT hr) (q_call c_pass_table hr (qa_cons (q_var (i := 8)) (qa_cons (q_var (i := 13)) (qa_cons (q_var (i := 14)) (qa_nil))))) (q_call c_pass_table hr (qa_cons (q_var (i := 3)) (qa_cons (q_var (i := 11)) (qa_cons (q_var (i := 12)) (qa_nil)))))) (qss_one (qs_ret (q_bl))) (qss_nil)) (qss_one (qs_if (qt_cmp (q_ne hr) (q_call c_gap_times hr (qa_cons (q_var (i := 8)) (qa_cons (q_str) (qa_cons (q_str) (qa_cons (q_call c_times hr (qa_cons (q_var (i := 6)) (qa_cons (q_var (i := 9)) (qa_nil)))) (qa_cons (q_var (i := 13)) (qa_cons (q_var (i := 14)) (qa_nil)))))))) (q_var (i := 7))) (qss_one (qs_ret (q_bl))) (qss_nil)))))))))))))))))) (qss_one (qs_ret (q_bl)))) hp_law
theorem k_law_pool {P : Program} {w : World} {mg : Str → Option Value} {K : PySem.W.Frag} {f : Addr} {fd : FuncData} (F : FunD K "_law_pool" "_law_pool" (defArgs (top 58)) (defBody (top 58)) (defScope (top 58)) [] [] f fd) (hm : mg "_law_pool" = some (.ref f)) (m_len : mg "len" = none) : FnC P w mg (Zp K) "_law_pool" 3 2 Ph_law_pool :=
  ⟨f, fd, ["script", "k"], hm, F.kp, (F.bindsN fun _ _ _ _ _ _ us hl => match us, hl with | [_, _], _ => rfl), rfl, ok_law_pool F m_len⟩
theorem k_law_draw {P : Program} {w : World} {mg : Str → Option Value} {K : PySem.W.Frag} {f : Addr} {fd : FuncData} (F : FunD K "_law_draw" "_law_draw" (defArgs (top 59)) (defBody (top 59)) (defScope (top 59)) [] [] f fd) (hm : mg "_law_draw" = some (.ref f))  : FnC P w mg (Zp K) "_law_draw" 3 2 Ph_law_draw :=
  ⟨f, fd, ["pool", "many"], hm, F.kp, (F.bindsN fun _ _ _ _ _ _ us hl => match us, hl with | [_, _], _ => rfl), rfl, ok_law_draw F ⟩
theorem k_is_integer {P : Program} {w : World} {mg : Str → Option Value} {K : PySem.W.Frag} {f : Addr} {fd : FuncData} (F : FunD K "is_integer" "is_integer" (defArgs (top 13)) (defBody (top 13)) (defScope (top 13)) [] [] f fd) (hm : mg "is_integer" = some (.ref f)) (m_bool : mg "bool" = none) (m_isinstance : mg "isinstance" = none) (m_int : mg "int" = none) : FnC P w mg (Zp K) "is_integer" 3 1 Ph_is_integer :=
  ⟨f, fd, ["value"], hm, F.kp, (F.bindsN fun _ _ _ _ _ _ us hl => match us, hl with | [_], _ => rfl), rfl, ok_is_integer F m_bool m_isinstance m_int⟩
theorem k_common_divisor {P : Program} {w : World} {mg : Str → Option Value} {K : PySem.W.Frag} {f : Addr} {fd : FuncData} (F : FunD K "common_divisor" "common_divisor" (defArgs (top 14)) (defBody (top 14)) (defScope (top 14)) [] [] f fd) (hm : mg "common_divisor" = some (.ref f)) (m_abs : mg "abs" = none) : FnC P w mg (Zp K) "common_divisor" 3 2 Ph_common_divisor :=
  ⟨f, fd, ["first", "second"], hm, F.kp, (F.bindsN fun _ _ _ _ _ _ us hl => match us, hl with | [_, _], _ => rfl), rfl, ok_common_divisor F m_abs⟩
theorem k_ratio {P : Program} {w : World} {mg : Str → Option Value} {K : PySem.W.Frag} {f : Addr} {fd : FuncData} (F : FunD K "ratio" "ratio" (defArgs (top 17)) (defBody (top 17)) (defScope (top 17)) [.int 1] [] f fd) (hm : mg "ratio" = some (.ref f)) (c_is_integer : FnC P w mg (Zp K) "is_integer" 3 1 Ph_is_integer) (c_common_divisor : FnC P w mg (Zp K) "common_divisor" 3 2 Ph_common_divisor) : FnC P w mg (Zp K) "ratio" 4 2 Ph_ratio :=
  ⟨f, fd, ["numerator", "denominator"], hm, F.kp, (by
    obtain ⟨ds, hv, hb⟩ := F.binds1 (ps := ["numerator", "denominator"]) 2 1 (by simp) rfl (fun T kV doc pm an cdv ct us its hu hi => match us, hu, its, hi with | [_, _], _, [_], _ => ⟨_, rfl, by kernel_rfl⟩)
    cases hv
    exact hb), rfl, ok_ratio F c_is_integer c_common_divisor⟩
theorem k_law_number {P : Program} {w : World} {mg : Str → Option Value} {K : PySem.W.Frag} {f : Addr} {fd : FuncData} (F : FunD K "_law_number" "_law_number" (defArgs (top 61)) (defBody (top 61)) (defScope (top 61)) [] [] f fd) (hm : mg "_law_number" = some (.ref f)) (c_law_draw : FnC P w mg (Zp K) "_law_draw" 3 2 Ph_law_draw) (c_ratio : FnC P w mg (Zp K) "ratio" 4 2 Ph_ratio) : FnC P w mg (Zp K) "_law_number" 5 3 Ph_law_number :=
  ⟨f, fd, ["pool", "low", "high"], hm, F.kp, (F.bindsN fun _ _ _ _ _ _ us hl => match us, hl with | [_, _, _], _ => rfl), rfl, ok_law_number F c_law_draw c_ratio⟩
theorem k_is_ratio {P : Program} {w : World} {mg : Str → Option Value} {K : PySem.W.Frag} {f : Addr} {fd : FuncData} (F : FunD K "is_ratio" "is_ratio" (defArgs (top 15)) (defBody (top 15)) (defScope (top 15)) [] [] f fd) (hm : mg "is_ratio" = some (.ref f)) (c_is_integer : FnC P w mg (Zp K) "is_integer" 3 1 Ph_is_integer) (m_len : mg "len" = none) (m_tuple : mg "tuple" = none) (m_isinstance : mg "isinstance" = none) (c_common_divisor : FnC P w mg (Zp K) "common_divisor" 3 2 Ph_common_divisor) : FnC P w mg (Zp K) "is_ratio" 4 1 Ph_is_ratio :=
  ⟨f, fd, ["value"], hm, F.kp, (F.bindsN fun _ _ _ _ _ _ us hl => match us, hl with | [_], _ => rfl), rfl, ok_is_ratio F c_is_integer m_len m_tuple m_isinstance c_common_divisor⟩
theorem k_is_number {P : Program} {w : World} {mg : Str → Option Value} {K : PySem.W.Frag} {f : Addr} {fd : FuncData} (F : FunD K "is_number" "is_number" (defArgs (top 16)) (defBody (top 16)) (defScope (top 16)) [] [] f fd) (hm : mg "is_number" = some (.ref f)) (c_is_ratio : FnC P w mg (Zp K) "is_ratio" 4 1 Ph_is_ratio) (c_is_integer : FnC P w mg (Zp K) "is_integer" 3 1 Ph_is_integer) : FnC P w mg (Zp K) "is_number" 5 1 Ph_is_number :=
  ⟨f, fd, ["value"], hm, F.kp, (F.bindsN fun _ _ _ _ _ _ us hl => match us, hl with | [_], _ => rfl), rfl, ok_is_number F c_is_ratio c_is_integer⟩
theorem k_as_ratio {P : Program} {w : World} {mg : Str → Option Value} {K : PySem.W.Frag} {f : Addr} {fd : FuncData} (F : FunD K "as_ratio" "as_ratio" (defArgs (top 18)) (defBody (top 18)) (defScope (top 18)) [] [] f fd) (hm : mg "as_ratio" = some (.ref f)) (c_is_number : FnC P w mg (Zp K) "is_number" 5 1 Ph_is_number) (c_is_integer : FnC P w mg (Zp K) "is_integer" 3 1 Ph_is_integer) : FnC P w mg (Zp K) "as_ratio" 6 1 Ph_as_ratio :=
  ⟨f, fd, ["value"], hm, F.kp, (F.bindsN fun _ _ _ _ _ _ us hl => match us, hl with | [_], _ => rfl), rfl, ok_as_ratio F c_is_number c_is_integer⟩
theorem k_plus {P : Program} {w : World} {mg : Str → Option Value} {K : PySem.W.Frag} {f : Addr} {fd : FuncData} (F : FunD K "plus" "plus" (defArgs (top 19)) (defBody (top 19)) (defScope (top 19)) [] [] f fd) (hm : mg "plus" = some (.ref f)) (c_as_ratio : FnC P w mg (Zp K) "as_ratio" 6 1 Ph_as_ratio) (c_ratio : FnC P w mg (Zp K) "ratio" 4 2 Ph_ratio) : FnC P w mg (Zp K) "plus" 7 2 Ph_plus :=
  ⟨f, fd, ["first", "second"], hm, F.kp, (F.bindsN fun _ _ _ _ _ _ us hl => match us, hl with | [_, _], _ => rfl), rfl, ok_plus F c_as_ratio c_ratio⟩
theorem k_law_pieces {P : Program} {w : World} {mg : Str → Option Value} {K : PySem.W.Frag} {f : Addr} {fd : FuncData} (F : FunD K "_law_pieces" "_law_pieces" (defArgs (top 62)) (defBody (top 62)) (defScope (top 62)) [] [] f fd) (hm : mg "_law_pieces" = some (.ref f)) (c_law_number : FnC P w mg (Zp K) "_law_number" 5 3 Ph_law_number) (c_law_draw : FnC P w mg (Zp K) "_law_draw" 3 2 Ph_law_draw) (m_range : mg "range" = none) (c_ratio : FnC P w mg (Zp K) "ratio" 4 2 Ph_ratio) (c_plus : FnC P w mg (Zp K) "plus" 7 2 Ph_plus) : FnC P w mg (Zp K) "_law_pieces" 8 1 Ph_law_pieces :=
  ⟨f, fd, ["pool"], hm, F.kp, (F.bindsN fun _ _ _ _ _ _ us hl => match us, hl with | [_], _ => rfl), rfl, ok_law_pieces F c_law_number c_law_draw m_range c_ratio c_plus⟩
theorem k_law_choose {P : Program} {w : World} {mg : Str → Option Value} {K : PySem.W.Frag} {f : Addr} {fd : FuncData} (F : FunD K "_law_choose" "_law_choose" (defArgs (top 60)) (defBody (top 60)) (defScope (top 60)) [] [] f fd) (hm : mg "_law_choose" = some (.ref f)) (m_len : mg "len" = none) (c_law_draw : FnC P w mg (Zp K) "_law_draw" 3 2 Ph_law_draw) : FnC P w mg (Zp K) "_law_choose" 4 2 Ph_law_choose :=
  ⟨f, fd, ["pool", "items"], hm, F.kp, (F.bindsN fun _ _ _ _ _ _ us hl => match us, hl with | [_, _], _ => rfl), rfl, ok_law_choose F m_len c_law_draw⟩
theorem k_minus {P : Program} {w : World} {mg : Str → Option Value} {K : PySem.W.Frag} {f : Addr} {fd : FuncData} (F : FunD K "minus" "minus" (defArgs (top 20)) (defBody (top 20)) (defScope (top 20)) [] [] f fd) (hm : mg "minus" = some (.ref f)) (c_as_ratio : FnC P w mg (Zp K) "as_ratio" 6 1 Ph_as_ratio) (c_ratio : FnC P w mg (Zp K) "ratio" 4 2 Ph_ratio) : FnC P w mg (Zp K) "minus" 7 2 Ph_minus :=
  ⟨f, fd, ["first", "second"], hm, F.kp, (F.bindsN fun _ _ _ _ _ _ us hl => match us, hl with | [_, _], _ => rfl), rfl, ok_minus F c_as_ratio c_ratio⟩
theorem k_compare {P : Program} {w : World} {mg : Str → Option Value} {K : PySem.W.Frag} {f : Addr} {fd : FuncData} (F : FunD K "compare" "compare" (defArgs (top 23)) (defBody (top 23)) (defScope (top 23)) [] [] f fd) (hm : mg "compare" = some (.ref f)) (c_minus : FnC P w mg (Zp K) "minus" 7 2 Ph_minus) : FnC P w mg (Zp K) "compare" 8 2 Ph_compare :=
  ⟨f, fd, ["first", "second"], hm, F.kp, (F.bindsN fun _ _ _ _ _ _ us hl => match us, hl with | [_, _], _ => rfl), rfl, ok_compare F c_minus⟩
theorem k_is_piece {P : Program} {w : World} {mg : Str → Option Value} {K : PySem.W.Frag} {f : Addr} {fd : FuncData} (F : FunD K "is_piece" "is_piece" (defArgs (top 34)) (defBody (top 34)) (defScope (top 34)) [] [] f fd) (hm : mg "is_piece" = some (.ref f)) (m_len : mg "len" = none) (m_tuple : mg "tuple" = none) (m_isinstance : mg "isinstance" = none) (c_compare : FnC P w mg (Zp K) "compare" 8 2 Ph_compare) (c_is_number : FnC P w mg (Zp K) "is_number" 5 1 Ph_is_number) : FnC P w mg (Zp K) "is_piece" 9 1 Ph_is_piece :=
  ⟨f, fd, ["value"], hm, F.kp, (F.bindsN fun _ _ _ _ _ _ us hl => match us, hl with | [_], _ => rfl), rfl, ok_is_piece F m_len m_tuple m_isinstance c_compare c_is_number⟩
theorem k_are_pieces {P : Program} {w : World} {mg : Str → Option Value} {K : PySem.W.Frag} {f : Addr} {fd : FuncData} (F : FunD K "are_pieces" "are_pieces" (defArgs (top 35)) (defBody (top 35)) (defScope (top 35)) [] [] f fd) (hm : mg "are_pieces" = some (.ref f)) (m_len : mg "len" = none) (g_MAX_PIECES : ∃ t, mg "MAX_PIECES" = some (.int 20 t)) (m_tuple : mg "tuple" = none) (m_list : mg "list" = none) (m_isinstance : mg "isinstance" = none) (c_compare : FnC P w mg (Zp K) "compare" 8 2 Ph_compare) (c_is_piece : FnC P w mg (Zp K) "is_piece" 9 1 Ph_is_piece) (m_all : mg "all" = none) (m_range : mg "range" = none) : FnC P w mg (Zp K) "are_pieces" 10 1 Ph_are_pieces :=
  ⟨f, fd, ["value"], hm, F.kp, (F.bindsN fun _ _ _ _ _ _ us hl => match us, hl with | [_], _ => rfl), rfl, ok_are_pieces F m_len g_MAX_PIECES m_tuple m_list m_isinstance c_compare c_is_piece m_all m_range⟩
theorem k_is_runner {P : Program} {w : World} {mg : Str → Option Value} {K : PySem.W.Frag} {f : Addr} {fd : FuncData} (F : FunD K "is_runner" "is_runner" (defArgs (top 36)) (defBody (top 36)) (defScope (top 36)) [] [] f fd) (hm : mg "is_runner" = some (.ref f)) (c_are_pieces : FnC P w mg (Zp K) "are_pieces" 10 1 Ph_are_pieces) (c_is_number : FnC P w mg (Zp K) "is_number" 5 1 Ph_is_number) (m_len : mg "len" = none) (m_tuple : mg "tuple" = none) (m_isinstance : mg "isinstance" = none) : FnC P w mg (Zp K) "is_runner" 11 1 Ph_is_runner :=
  ⟨f, fd, ["value"], hm, F.kp, (F.bindsN fun _ _ _ _ _ _ us hl => match us, hl with | [_], _ => rfl), rfl, ok_is_runner F c_are_pieces c_is_number m_len m_tuple m_isinstance⟩
theorem k_is_name {P : Program} {w : World} {mg : Str → Option Value} {K : PySem.W.Frag} {f : Addr} {fd : FuncData} (F : FunD K "is_name" "is_name" (defArgs (top 32)) (defBody (top 32)) (defScope (top 32)) [] [] f fd) (hm : mg "is_name" = some (.ref f)) (m_len : mg "len" = none) (m_str : mg "str" = none) (m_isinstance : mg "isinstance" = none) (g_SIGNS : ∃ t, mg "SIGNS" = some (.str "abcdefghijklmnopqrstuvwxyz0123456789" t)) (m_all : mg "all" = none) (g_LETTERS : ∃ t, mg "LETTERS" = some (.str "abcdefghijklmnopqrstuvwxyz" t)) : FnC P w mg (Zp K) "is_name" 3 1 Ph_is_name :=
  ⟨f, fd, ["value"], hm, F.kp, (F.bindsN fun _ _ _ _ _ _ us hl => match us, hl with | [_], _ => rfl), rfl, ok_is_name F m_len m_str m_isinstance g_SIGNS m_all g_LETTERS⟩
theorem k_divided {P : Program} {w : World} {mg : Str → Option Value} {K : PySem.W.Frag} {f : Addr} {fd : FuncData} (F : FunD K "divided" "divided" (defArgs (top 22)) (defBody (top 22)) (defScope (top 22)) [] [] f fd) (hm : mg "divided" = some (.ref f)) (c_as_ratio : FnC P w mg (Zp K) "as_ratio" 6 1 Ph_as_ratio) (c_ratio : FnC P w mg (Zp K) "ratio" 4 2 Ph_ratio) : FnC P w mg (Zp K) "divided" 7 2 Ph_divided :=
  ⟨f, fd, ["first", "second"], hm, F.kp, (F.bindsN fun _ _ _ _ _ _ us hl => match us, hl with | [_, _], _ => rfl), rfl, ok_divided F c_as_ratio c_ratio⟩
theorem k_floor_of {P : Program} {w : World} {mg : Str → Option Value} {K : PySem.W.Frag} {f : Addr} {fd : FuncData} (F : FunD K "floor_of" "floor_of" (defArgs (top 24)) (defBody (top 24)) (defScope (top 24)) [] [] f fd) (hm : mg "floor_of" = some (.ref f)) (c_as_ratio : FnC P w mg (Zp K) "as_ratio" 6 1 Ph_as_ratio) : FnC P w mg (Zp K) "floor_of" 7 1 Ph_floor_of :=
  ⟨f, fd, ["value"], hm, F.kp, (F.bindsN fun _ _ _ _ _ _ us hl => match us, hl with | [_], _ => rfl), rfl, ok_floor_of F c_as_ratio⟩
theorem k_times {P : Program} {w : World} {mg : Str → Option Value} {K : PySem.W.Frag} {f : Addr} {fd : FuncData} (F : FunD K "times" "times" (defArgs (top 21)) (defBody (top 21)) (defScope (top 21)) [] [] f fd) (hm : mg "times" = some (.ref f)) (c_as_ratio : FnC P w mg (Zp K) "as_ratio" 6 1 Ph_as_ratio) (c_ratio : FnC P w mg (Zp K) "ratio" 4 2 Ph_ratio) : FnC P w mg (Zp K) "times" 7 2 Ph_times :=
  ⟨f, fd, ["first", "second"], hm, F.kp, (F.bindsN fun _ _ _ _ _ _ us hl => match us, hl with | [_, _], _ => rfl), rfl, ok_times F c_as_ratio c_ratio⟩
theorem k_remainder {P : Program} {w : World} {mg : Str → Option Value} {K : PySem.W.Frag} {f : Addr} {fd : FuncData} (F : FunD K "remainder" "remainder" (defArgs (top 25)) (defBody (top 25)) (defScope (top 25)) [] [] f fd) (hm : mg "remainder" = some (.ref f)) (c_as_ratio : FnC P w mg (Zp K) "as_ratio" 6 1 Ph_as_ratio) (c_divided : FnC P w mg (Zp K) "divided" 7 2 Ph_divided) (c_floor_of : FnC P w mg (Zp K) "floor_of" 7 1 Ph_floor_of) (c_times : FnC P w mg (Zp K) "times" 7 2 Ph_times) (c_minus : FnC P w mg (Zp K) "minus" 7 2 Ph_minus) : FnC P w mg (Zp K) "remainder" 8 2 Ph_remainder :=
  ⟨f, fd, ["value", "modulus"], hm, F.kp, (F.bindsN fun _ _ _ _ _ _ us hl => match us, hl with | [_, _], _ => rfl), rfl, ok_remainder F c_as_ratio c_divided c_floor_of c_times c_minus⟩
theorem k_Race_init {P : Program} {w : World} {mg : Str → Option Value} {K : PySem.W.Frag} {f : Addr} {fd : FuncData} (F : FunD K "__init__" "Race.__init__" (defArgs (mtop 37 0)) (defBody (mtop 37 0)) (defScope (mtop 37 0)) [] [] f fd) (hm : mg "Race" = some (.ref (He.ga K "Race"))) (hc : Mk K (He.ga K "Race") f) (c_compare : FnC P w mg (Zp K) "compare" 8 2 Ph_compare) (c_is_number : FnC P w mg (Zp K) "is_number" 5 1 Ph_is_number) (m_len : mg "len" = none) (g_MAX_RUNNERS : ∃ t, mg "MAX_RUNNERS" = some (.int 12 t)) (m_dict : mg "dict" = none) (m_isinstance : mg "isinstance" = none) (c_is_runner : FnC P w mg (Zp K) "is_runner" 11 1 Ph_is_runner) (c_is_name : FnC P w mg (Zp K) "is_name" 3 1 Ph_is_name) (k_Race : ClsP (Zp K) "Race") (n_Race_own_length : NoAttr K (He.ga K "Race") "own_length") (c_as_ratio : FnC P w mg (Zp K) "as_ratio" 6 1 Ph_as_ratio) (n_Race_own_runners : NoAttr K (He.ga K "Race") "own_runners") (m_sorted : mg "sorted" = none) (c_remainder : FnC P w mg (Zp K) "remainder" 8 2 Ph_remainder) (n_Race_own_parts : NoAttr K (He.ga K "Race") "own_parts") : MkC P w mg (Zp K) "Race" 12 2 Ph_Race :=
  ⟨f, fd, ["self", "length", "runners"], hm, hc, (F.bindsN fun _ _ _ _ _ _ us hl => match us, hl with | [_, _, _], _ => rfl), rfl, ok_Race_init F c_compare c_is_number m_len g_MAX_RUNNERS m_dict m_isinstance c_is_runner c_is_name k_Race n_Race_own_length c_as_ratio n_Race_own_runners m_sorted c_remainder n_Race_own_parts⟩
theorem k_law_race {P : Program} {w : World} {mg : Str → Option Value} {K : PySem.W.Frag} {f : Addr} {fd : FuncData} (F : FunD K "_law_race" "_law_race" (defArgs (top 63)) (defBody (top 63)) (defScope (top 63)) [] [] f fd) (hm : mg "_law_race" = some (.ref f)) (c_law_pieces : FnC P w mg (Zp K) "_law_pieces" 8 1 Ph_law_pieces) (c_law_number : FnC P w mg (Zp K) "_law_number" 5 3 Ph_law_number) (c_law_choose : FnC P w mg (Zp K) "_law_choose" 4 2 Ph_law_choose) (c_Race : MkC P w mg (Zp K) "Race" 12 2 Ph_Race) : FnC P w mg (Zp K) "_law_race" 14 2 Ph_law_race :=
  ⟨f, fd, ["pool", "many"], hm, F.kp, (F.bindsN fun _ _ _ _ _ _ us hl => match us, hl with | [_, _], _ => rfl), rfl, ok_law_race F c_law_pieces c_law_number c_law_choose c_Race⟩
theorem k_Race_names {P : Program} {w : World} {mg : Str → Option Value} {K : PySem.W.Frag} {f : Addr} {fd : FuncData} (F : FunD K "names" "Race.names" (defArgs (mtop 37 2)) (defBody (mtop 37 2)) (defScope (mtop 37 2)) [] [] f fd) (hm : Meth K (He.ga K "Race") "names" f) (hc : Cls K (He.ga K "Race")) (k_Race : ClsP (Zp K) "Race") (n_Race_own_runners : NoAttr K (He.ga K "Race") "own_runners") (m_list : mg "list" = none) : MtC P w mg (Zp K) "Race" "names" 3 1 Ph_Race_names :=
  ⟨⟨f, fd, ["self"], hm, (F.bindsN fun _ _ _ _ _ _ us hl => match us, hl with | [_], _ => rfl), rfl, ok_Race_names F k_Race n_Race_own_runners m_list⟩, hc⟩
theorem k_Race_contains {P : Program} {w : World} {mg : Str → Option Value} {K : PySem.W.Frag} {f : Addr} {fd : FuncData} (F : FunD K "__contains__" "Race.__contains__" (defArgs (mtop 37 19)) (defBody (mtop 37 19)) (defScope (mtop 37 19)) [] [] f fd) (hm : Meth K (He.ga K "Race") "__contains__" f) (hc : Cls K (He.ga K "Race")) (k_Race : ClsP (Zp K) "Race") (n_Race_own_runners : NoAttr K (He.ga K "Race") "own_runners") (m_str : mg "str" = none) (m_isinstance : mg "isinstance" = none) : MtC P w mg (Zp K) "Race" "__contains__" 3 2 Ph_Race_contains :=
  ⟨⟨f, fd, ["self", "name"], hm, (F.bindsN fun _ _ _ _ _ _ us hl => match us, hl with | [_, _], _ => rfl), rfl, ok_Race_contains F k_Race n_Race_own_runners m_str m_isinstance⟩, hc⟩
theorem k_Race_runner {P : Program} {w : World} {mg : Str → Option Value} {K : PySem.W.Frag} {f : Addr} {fd : FuncData} (F : FunD K "runner" "Race.runner" (defArgs (mtop 37 3)) (defBody (mtop 37 3)) (defScope (mtop 37 3)) [] [] f fd) (hm : Meth K (He.ga K "Race") "runner" f) (hc : Cls K (He.ga K "Race")) (c_Race_contains : MtC P w mg (Zp K) "Race" "__contains__" 3 2 Ph_Race_contains) (k_Race : ClsP (Zp K) "Race") (n_Race_own_runners : NoAttr K (He.ga K "Race") "own_runners") : MtC P w mg (Zp K) "Race" "runner" 4 2 Ph_Race_runner :=
  ⟨⟨f, fd, ["self", "name"], hm, (F.bindsN fun _ _ _ _ _ _ us hl => match us, hl with | [_, _], _ => rfl), rfl, ok_Race_runner F c_Race_contains k_Race n_Race_own_runners⟩, hc⟩
theorem k_Race_pieces {P : Program} {w : World} {mg : Str → Option Value} {K : PySem.W.Frag} {f : Addr} {fd : FuncData} (F : FunD K "pieces" "Race.pieces" (defArgs (mtop 37 6)) (defBody (mtop 37 6)) (defScope (mtop 37 6)) [] [] f fd) (hm : Meth K (He.ga K "Race") "pieces" f) (hc : Cls K (He.ga K "Race")) (c_Race_runner : MtC P w mg (Zp K) "Race" "runner" 4 2 Ph_Race_runner) (m_list : mg "list" = none) : MtC P w mg (Zp K) "Race" "pieces" 5 2 Ph_Race_pieces :=
  ⟨⟨f, fd, ["self", "name"], hm, (F.bindsN fun _ _ _ _ _ _ us hl => match us, hl with | [_, _], _ => rfl), rfl, ok_Race_pieces F c_Race_runner m_list⟩, hc⟩
theorem k_Race_start {P : Program} {w : World} {mg : Str → Option Value} {K : PySem.W.Frag} {f : Addr} {fd : FuncData} (F : FunD K "start" "Race.start" (defArgs (mtop 37 5)) (defBody (mtop 37 5)) (defScope (mtop 37 5)) [] [] f fd) (hm : Meth K (He.ga K "Race") "start" f) (hc : Cls K (He.ga K "Race")) (c_Race_runner : MtC P w mg (Zp K) "Race" "runner" 4 2 Ph_Race_runner) : MtC P w mg (Zp K) "Race" "start" 5 2 Ph_Race_start :=
  ⟨⟨f, fd, ["self", "name"], hm, (F.bindsN fun _ _ _ _ _ _ us hl => match us, hl with | [_, _], _ => rfl), rfl, ok_Race_start F c_Race_runner⟩, hc⟩
theorem k_Race_length {P : Program} {w : World} {mg : Str → Option Value} {K : PySem.W.Frag} {f : Addr} {fd : FuncData} {p : Addr} (F : FunD K "length" "Race.length" (defArgs (mtop 37 1)) (defBody (mtop 37 1)) (defScope (mtop 37 1)) [] [] f fd) (hm : PropOf K (He.ga K "Race") "length" p f) (hc : Cls K (He.ga K "Race")) (k_Race : ClsP (Zp K) "Race") (n_Race_own_length : NoAttr K (He.ga K "Race") "own_length") : PrC P w mg (Zp K) "Race" "length" 3 Ph_Race_length :=
  ⟨⟨p, f, fd, ["self"], hm, (F.bindsN fun _ _ _ _ _ _ us hl => match us, hl with | [_], _ => rfl), ok_Race_length F k_Race n_Race_own_length⟩, hc⟩
theorem k_law_longer {P : Program} {w : World} {mg : Str → Option Value} {K : PySem.W.Frag} {f : Addr} {fd : FuncData} (F : FunD K "_law_longer" "_law_longer" (defArgs (top 64)) (defBody (top 64)) (defScope (top 64)) [] [] f fd) (hm : mg "_law_longer" = some (.ref f)) (c_Race_names : MtC P w mg (Zp K) "Race" "names" 3 1 Ph_Race_names) (c_Race_pieces : MtC P w mg (Zp K) "Race" "pieces" 5 2 Ph_Race_pieces) (c_times : FnC P w mg (Zp K) "times" 7 2 Ph_times) (c_Race_start : MtC P w mg (Zp K) "Race" "start" 5 2 Ph_Race_start) (c_Race_length : PrC P w mg (Zp K) "Race" "length" 3 Ph_Race_length) (c_Race : MkC P w mg (Zp K) "Race" 12 2 Ph_Race) : FnC P w mg (Zp K) "_law_longer" 14 2 Ph_law_longer :=
  ⟨f, fd, ["race", "factor"], hm, F.kp, (F.bindsN fun _ _ _ _ _ _ us hl => match us, hl with | [_, _], _ => rfl), rfl, ok_law_longer F c_Race_names c_Race_pieces c_times c_Race_start c_Race_length c_Race⟩
theorem k_Race_slowed {P : Program} {w : World} {mg : Str → Option Value} {K : PySem.W.Frag} {f : Addr} {fd : FuncData} (F : FunD K "slowed" "Race.slowed" (defArgs (mtop 37 18)) (defBody (mtop 37 18)) (defScope (mtop 37 18)) [] [] f fd) (hm : Meth K (He.ga K "Race") "slowed" f) (hc : Cls K (He.ga K "Race")) (c_compare : FnC P w mg (Zp K) "compare" 8 2 Ph_compare) (c_is_number : FnC P w mg (Zp K) "is_number" 5 1 Ph_is_number) (c_Race_names : MtC P w mg (Zp K) "Race" "names" 3 1 Ph_Race_names) (c_Race_pieces : MtC P w mg (Zp K) "Race" "pieces" 5 2 Ph_Race_pieces) (c_divided : FnC P w mg (Zp K) "divided" 7 2 Ph_divided) (c_times : FnC P w mg (Zp K) "times" 7 2 Ph_times) (c_Race_start : MtC P w mg (Zp K) "Race" "start" 5 2 Ph_Race_start) (c_Race_length : PrC P w mg (Zp K) "Race" "length" 3 Ph_Race_length) (c_Race : MkC P w mg (Zp K) "Race" 12 2 Ph_Race) : MtC P w mg (Zp K) "Race" "slowed" 14 2 Ph_Race_slowed :=
  ⟨⟨f, fd, ["self", "factor"], hm, (F.bindsN fun _ _ _ _ _ _ us hl => match us, hl with | [_, _], _ => rfl), rfl, ok_Race_slowed F c_compare c_is_number c_Race_names c_Race_pieces c_divided c_times c_Race_start c_Race_length c_Race⟩, hc⟩
theorem k_in_order {P : Program} {w : World} {mg : Str → Option Value} {K : PySem.W.Frag} {f : Addr} {fd : FuncData} (F : FunD K "in_order" "in_order" (defArgs (top 26)) (defBody (top 26)) (defScope (top 26)) [] [] f fd) (hm : mg "in_order" = some (.ref f)) (c_as_ratio : FnC P w mg (Zp K) "as_ratio" 6 1 Ph_as_ratio) (c_common_divisor : FnC P w mg (Zp K) "common_divisor" 3 2 Ph_common_divisor) (m_sorted : mg "sorted" = none) (c_ratio : FnC P w mg (Zp K) "ratio" 4 2 Ph_ratio) : FnC P w mg (Zp K) "in_order" 7 1 Ph_in_order :=
  ⟨f, fd, ["values"], hm, F.kp, (F.bindsN fun _ _ _ _ _ _ us hl => match us, hl with | [_], _ => rfl), rfl, ok_in_order F c_as_ratio c_common_divisor m_sorted c_ratio⟩
theorem k_Race_change_times {P : Program} {w : World} {mg : Str → Option Value} {K : PySem.W.Frag} {f : Addr} {fd : FuncData} (F : FunD K "change_times" "Race.change_times" (defArgs (mtop 37 7)) (defBody (mtop 37 7)) (defScope (mtop 37 7)) [] [] f fd) (hm : Meth K (He.ga K "Race") "change_times" f) (hc : Cls K (He.ga K "Race")) (c_Race_names : MtC P w mg (Zp K) "Race" "names" 3 1 Ph_Race_names) (c_Race_pieces : MtC P w mg (Zp K) "Race" "pieces" 5 2 Ph_Race_pieces) (c_in_order : FnC P w mg (Zp K) "in_order" 7 1 Ph_in_order) : MtC P w mg (Zp K) "Race" "change_times" 8 1 Ph_Race_change_times :=
  ⟨⟨f, fd, ["self"], hm, (F.bindsN fun _ _ _ _ _ _ us hl => match us, hl with | [_], _ => rfl), rfl, ok_Race_change_times F c_Race_names c_Race_pieces c_in_order⟩, hc⟩
theorem k_as_time {P : Program} {w : World} {mg : Str → Option Value} {K : PySem.W.Frag} {f : Addr} {fd : FuncData} (F : FunD K "as_time" "as_time" (defArgs (top 33)) (defBody (top 33)) (defScope (top 33)) [] [] f fd) (hm : mg "as_time" = some (.ref f)) (c_compare : FnC P w mg (Zp K) "compare" 8 2 Ph_compare) (c_is_number : FnC P w mg (Zp K) "is_number" 5 1 Ph_is_number) (c_as_ratio : FnC P w mg (Zp K) "as_ratio" 6 1 Ph_as_ratio) : FnC P w mg (Zp K) "as_time" 9 1 Ph_as_time :=
  ⟨f, fd, ["value"], hm, F.kp, (F.bindsN fun _ _ _ _ _ _ us hl => match us, hl with | [_], _ => rfl), rfl, ok_as_time F c_compare c_is_number c_as_ratio⟩
theorem k_Race_position {P : Program} {w : World} {mg : Str → Option Value} {K : PySem.W.Frag} {f : Addr} {fd : FuncData} (F : FunD K "position" "Race.position" (defArgs (mtop 37 8)) (defBody (mtop 37 8)) (defScope (mtop 37 8)) [] [] f fd) (hm : Meth K (He.ga K "Race") "position" f) (hc : Cls K (He.ga K "Race")) (c_Race_runner : MtC P w mg (Zp K) "Race" "runner" 4 2 Ph_Race_runner) (c_as_time : FnC P w mg (Zp K) "as_time" 9 1 Ph_as_time) (m_enumerate : mg "enumerate" = none) (c_compare : FnC P w mg (Zp K) "compare" 8 2 Ph_compare) (m_len : mg "len" = none) (c_minus : FnC P w mg (Zp K) "minus" 7 2 Ph_minus) (c_times : FnC P w mg (Zp K) "times" 7 2 Ph_times) (c_plus : FnC P w mg (Zp K) "plus" 7 2 Ph_plus) : MtC P w mg (Zp K) "Race" "position" 10 3 Ph_Race_position :=
  ⟨⟨f, fd, ["self", "name", "time"], hm, (F.bindsN fun _ _ _ _ _ _ us hl => match us, hl with | [_, _, _], _ => rfl), rfl, ok_Race_position F c_Race_runner c_as_time m_enumerate c_compare m_len c_minus c_times c_plus⟩, hc⟩
theorem k_Race_place {P : Program} {w : World} {mg : Str → Option Value} {K : PySem.W.Frag} {f : Addr} {fd : FuncData} (F : FunD K "place" "Race.place" (defArgs (mtop 37 9)) (defBody (mtop 37 9)) (defScope (mtop 37 9)) [] [] f fd) (hm : Meth K (He.ga K "Race") "place" f) (hc : Cls K (He.ga K "Race")) (c_Race_length : PrC P w mg (Zp K) "Race" "length" 3 Ph_Race_length) (c_Race_position : MtC P w mg (Zp K) "Race" "position" 10 3 Ph_Race_position) (c_remainder : FnC P w mg (Zp K) "remainder" 8 2 Ph_remainder) : MtC P w mg (Zp K) "Race" "place" 11 3 Ph_Race_place :=
  ⟨⟨f, fd, ["self", "name", "time"], hm, (F.bindsN fun _ _ _ _ _ _ us hl => match us, hl with | [_, _, _], _ => rfl), rfl, ok_Race_place F c_Race_length c_Race_position c_remainder⟩, hc⟩
theorem k_standing {P : Program} {w : World} {mg : Str → Option Value} {K : PySem.W.Frag} {f : Addr} {fd : FuncData} (F : FunD K "standing" "standing" (defArgs (top 55)) (defBody (top 55)) (defScope (top 55)) [] [] f fd) (hm : mg "standing" = some (.ref f)) (c_as_time : FnC P w mg (Zp K) "as_time" 9 1 Ph_as_time) (c_Race_names : MtC P w mg (Zp K) "Race" "names" 3 1 Ph_Race_names) (c_Race_place : MtC P w mg (Zp K) "Race" "place" 11 3 Ph_Race_place) (m_list : mg "list" = none) (c_in_order : FnC P w mg (Zp K) "in_order" 7 1 Ph_in_order) : FnC P w mg (Zp K) "standing" 12 2 Ph_standing :=
  ⟨f, fd, ["race", "time"], hm, F.kp, (F.bindsN fun _ _ _ _ _ _ us hl => match us, hl with | [_, _], _ => rfl), rfl, ok_standing F c_as_time c_Race_names c_Race_place m_list c_in_order⟩
theorem k_Race_validate_names {P : Program} {w : World} {mg : Str → Option Value} {K : PySem.W.Frag} {f : Addr} {fd : FuncData} (F : FunD K "validate_names" "Race.validate_names" (defArgs (mtop 37 4)) (defBody (mtop 37 4)) (defScope (mtop 37 4)) [] [] f fd) (hm : Meth K (He.ga K "Race") "validate_names" f) (hc : Cls K (He.ga K "Race")) (c_Race_runner : MtC P w mg (Zp K) "Race" "runner" 4 2 Ph_Race_runner) : MtC P w mg (Zp K) "Race" "validate_names" 5 3 Ph_Race_validate_names :=
  ⟨⟨f, fd, ["self", "first", "second"], hm, (F.bindsN fun _ _ _ _ _ _ us hl => match us, hl with | [_, _, _], _ => rfl), rfl, ok_Race_validate_names F c_Race_runner⟩, hc⟩
theorem k_gap {P : Program} {w : World} {mg : Str → Option Value} {K : PySem.W.Frag} {f : Addr} {fd : FuncData} (F : FunD K "gap" "gap" (defArgs (top 56)) (defBody (top 56)) (defScope (top 56)) [] [] f fd) (hm : mg "gap" = some (.ref f)) (c_Race_validate_names : MtC P w mg (Zp K) "Race" "validate_names" 5 3 Ph_Race_validate_names) (c_Race_position : MtC P w mg (Zp K) "Race" "position" 10 3 Ph_Race_position) (c_minus : FnC P w mg (Zp K) "minus" 7 2 Ph_minus) (c_Race_length : PrC P w mg (Zp K) "Race" "length" 3 Ph_Race_length) (c_remainder : FnC P w mg (Zp K) "remainder" 8 2 Ph_remainder) : FnC P w mg (Zp K) "gap" 11 4 Ph_gap :=
  ⟨f, fd, ["race", "first", "second", "time"], hm, F.kp, (F.bindsN fun _ _ _ _ _ _ us hl => match us, hl with | [_, _, _, _], _ => rfl), rfl, ok_gap F c_Race_validate_names c_Race_position c_minus c_Race_length c_remainder⟩
theorem k_Race_laps {P : Program} {w : World} {mg : Str → Option Value} {K : PySem.W.Frag} {f : Addr} {fd : FuncData} (F : FunD K "laps" "Race.laps" (defArgs (mtop 37 10)) (defBody (mtop 37 10)) (defScope (mtop 37 10)) [] [] f fd) (hm : Meth K (He.ga K "Race") "laps" f) (hc : Cls K (He.ga K "Race")) (c_Race_length : PrC P w mg (Zp K) "Race" "length" 3 Ph_Race_length) (c_Race_position : MtC P w mg (Zp K) "Race" "position" 10 3 Ph_Race_position) (c_divided : FnC P w mg (Zp K) "divided" 7 2 Ph_divided) (c_floor_of : FnC P w mg (Zp K) "floor_of" 7 1 Ph_floor_of) : MtC P w mg (Zp K) "Race" "laps" 11 3 Ph_Race_laps :=
  ⟨⟨f, fd, ["self", "name", "time"], hm, (F.bindsN fun _ _ _ _ _ _ us hl => match us, hl with | [_, _, _], _ => rfl), rfl, ok_Race_laps F c_Race_length c_Race_position c_divided c_floor_of⟩, hc⟩
theorem k_law_check {P : Program} {w : World} {mg : Str → Option Value} {K : PySem.W.Frag} {f : Addr} {fd : FuncData} (F : FunD K "_law_check" "_law_check" (defArgs (top 65)) (defBody (top 65)) (defScope (top 65)) [] [] f fd) (hm : mg "_law_check" = some (.ref f)) (c_standing : FnC P w mg (Zp K) "standing" 12 2 Ph_standing) (c_times : FnC P w mg (Zp K) "times" 7 2 Ph_times) (c_gap : FnC P w mg (Zp K) "gap" 11 4 Ph_gap) (c_Race_names : MtC P w mg (Zp K) "Race" "names" 3 1 Ph_Race_names) (c_Race_laps : MtC P w mg (Zp K) "Race" "laps" 11 3 Ph_Race_laps) : FnC P w mg (Zp K) "_law_check" 13 5 Ph_law_check :=
  ⟨f, fd, ["race", "other", "moments", "factor", "slow"], hm, F.kp, (F.bindsN fun _ _ _ _ _ _ us hl => match us, hl with | [_, _, _, _, _], _ => rfl), rfl, ok_law_check F c_standing c_times c_gap c_Race_names c_Race_laps⟩
theorem k_as_window {P : Program} {w : World} {mg : Str → Option Value} {K : PySem.W.Frag} {f : Addr} {fd : FuncData} (F : FunD K "as_window" "as_window" (defArgs (top 39)) (defBody (top 39)) (defScope (top 39)) [] [] f fd) (hm : mg "as_window" = some (.ref f)) (c_as_time : FnC P w mg (Zp K) "as_time" 9 1 Ph_as_time) (c_compare : FnC P w mg (Zp K) "compare" 8 2 Ph_compare) : FnC P w mg (Zp K) "as_window" 10 2 Ph_as_window :=
  ⟨f, fd, ["start", "end"], hm, F.kp, (F.bindsN fun _ _ _ _ _ _ us hl => match us, hl with | [_, _], _ => rfl), rfl, ok_as_window F c_as_time c_compare⟩
theorem k_cut_times {P : Program} {w : World} {mg : Str → Option Value} {K : PySem.W.Frag} {f : Addr} {fd : FuncData} (F : FunD K "cut_times" "cut_times" (defArgs (top 40)) (defBody (top 40)) (defScope (top 40)) [] [] f fd) (hm : mg "cut_times" = some (.ref f)) (c_Race_pieces : MtC P w mg (Zp K) "Race" "pieces" 5 2 Ph_Race_pieces) (c_compare : FnC P w mg (Zp K) "compare" 8 2 Ph_compare) (c_in_order : FnC P w mg (Zp K) "in_order" 7 1 Ph_in_order) : FnC P w mg (Zp K) "cut_times" 9 4 Ph_cut_times :=
  ⟨f, fd, ["race", "names", "begin", "stop"], hm, F.kp, (F.bindsN fun _ _ _ _ _ _ us hl => match us, hl with | [_, _, _, _], _ => rfl), rfl, ok_cut_times F c_Race_pieces c_compare c_in_order⟩
theorem k_Race_speed {P : Program} {w : World} {mg : Str → Option Value} {K : PySem.W.Frag} {f : Addr} {fd : FuncData} (F : FunD K "speed" "Race.speed" (defArgs (mtop 37 11)) (defBody (mtop 37 11)) (defScope (mtop 37 11)) [] [] f fd) (hm : Meth K (He.ga K "Race") "speed" f) (hc : Cls K (He.ga K "Race")) (c_Race_pieces : MtC P w mg (Zp K) "Race" "pieces" 5 2 Ph_Race_pieces) (c_as_time : FnC P w mg (Zp K) "as_time" 9 1 Ph_as_time) (c_compare : FnC P w mg (Zp K) "compare" 8 2 Ph_compare) : MtC P w mg (Zp K) "Race" "speed" 10 3 Ph_Race_speed :=
  ⟨⟨f, fd, ["self", "name", "time"], hm, (F.bindsN fun _ _ _ _ _ _ us hl => match us, hl with | [_, _, _], _ => rfl), rfl, ok_Race_speed F c_Race_pieces c_as_time c_compare⟩, hc⟩
theorem k_laps_apart {P : Program} {w : World} {mg : Str → Option Value} {K : PySem.W.Frag} {f : Addr} {fd : FuncData} (F : FunD K "laps_apart" "laps_apart" (defArgs (top 41)) (defBody (top 41)) (defScope (top 41)) [] [] f fd) (hm : mg "laps_apart" = some (.ref f)) (c_Race_position : MtC P w mg (Zp K) "Race" "position" 10 3 Ph_Race_position) (c_minus : FnC P w mg (Zp K) "minus" 7 2 Ph_minus) (c_Race_length : PrC P w mg (Zp K) "Race" "length" 3 Ph_Race_length) (c_divided : FnC P w mg (Zp K) "divided" 7 2 Ph_divided) (c_floor_of : FnC P w mg (Zp K) "floor_of" 7 1 Ph_floor_of) : FnC P w mg (Zp K) "laps_apart" 11 4 Ph_laps_apart :=
  ⟨f, fd, ["race", "first", "second", "time"], hm, F.kp, (F.bindsN fun _ _ _ _ _ _ us hl => match us, hl with | [_, _, _, _], _ => rfl), rfl, ok_laps_apart F c_Race_position c_minus c_Race_length c_divided c_floor_of⟩
theorem k_passes {P : Program} {w : World} {mg : Str → Option Value} {K : PySem.W.Frag} {f : Addr} {fd : FuncData} (F : FunD K "passes" "passes" (defArgs (top 42)) (defBody (top 42)) (defScope (top 42)) [] [] f fd) (hm : mg "passes" = some (.ref f)) (c_Race_validate_names : MtC P w mg (Zp K) "Race" "validate_names" 5 3 Ph_Race_validate_names) (c_as_window : FnC P w mg (Zp K) "as_window" 10 2 Ph_as_window) (c_cut_times : FnC P w mg (Zp K) "cut_times" 9 4 Ph_cut_times) (m_zip : mg "zip" = none) (c_Race_speed : MtC P w mg (Zp K) "Race" "speed" 10 3 Ph_Race_speed) (c_compare : FnC P w mg (Zp K) "compare" 8 2 Ph_compare) (c_laps_apart : FnC P w mg (Zp K) "laps_apart" 11 4 Ph_laps_apart) : FnC P w mg (Zp K) "passes" 12 5 Ph_passes :=
  ⟨f, fd, ["race", "over", "under", "start", "end"], hm, F.kp, (F.bindsN fun _ _ _ _ _ _ us hl => match us, hl with | [_, _, _, _, _], _ => rfl), rfl, ok_passes F c_Race_validate_names c_as_window c_cut_times m_zip c_Race_speed c_compare c_laps_apart⟩
theorem k_pass_table {P : Program} {w : World} {mg : Str → Option Value} {K : PySem.W.Frag} {f : Addr} {fd : FuncData} (F : FunD K "pass_table" "pass_table" (defArgs (top 43)) (defBody (top 43)) (defScope (top 43)) [] [] f fd) (hm : mg "pass_table" = some (.ref f)) (c_as_window : FnC P w mg (Zp K) "as_window" 10 2 Ph_as_window) (c_Race_names : MtC P w mg (Zp K) "Race" "names" 3 1 Ph_Race_names) (c_passes : FnC P w mg (Zp K) "passes" 12 5 Ph_passes) : FnC P w mg (Zp K) "pass_table" 13 3 Ph_pass_table :=
  ⟨f, fd, ["race", "start", "end"], hm, F.kp, (F.bindsN fun _ _ _ _ _ _ us hl => match us, hl with | [_, _, _], _ => rfl), rfl, ok_pass_table F c_as_window c_Race_names c_passes⟩
theorem k_as_gap {P : Program} {w : World} {mg : Str → Option Value} {K : PySem.W.Frag} {f : Addr} {fd : FuncData} (F : FunD K "as_gap" "as_gap" (defArgs (top 46)) (defBody (top 46)) (defScope (top 46)) [] [] f fd) (hm : mg "as_gap" = some (.ref f)) (c_Race_length : PrC P w mg (Zp K) "Race" "length" 3 Ph_Race_length) (c_compare : FnC P w mg (Zp K) "compare" 8 2 Ph_compare) (c_is_number : FnC P w mg (Zp K) "is_number" 5 1 Ph_is_number) (c_as_ratio : FnC P w mg (Zp K) "as_ratio" 6 1 Ph_as_ratio) : FnC P w mg (Zp K) "as_gap" 9 2 Ph_as_gap :=
  ⟨f, fd, ["race", "value"], hm, F.kp, (F.bindsN fun _ _ _ _ _ _ us hl => match us, hl with | [_, _], _ => rfl), rfl, ok_as_gap F c_Race_length c_compare c_is_number c_as_ratio⟩
theorem k_approach {P : Program} {w : World} {mg : Str → Option Value} {K : PySem.W.Frag} {f : Addr} {fd : FuncData} (F : FunD K "approach" "approach" (defArgs (top 47)) (defBody (top 47)) (defScope (top 47)) [] [] f fd) (hm : mg "approach" = some (.ref f)) (c_Race_speed : MtC P w mg (Zp K) "Race" "speed" 10 3 Ph_Race_speed) (c_minus : FnC P w mg (Zp K) "minus" 7 2 Ph_minus) : FnC P w mg (Zp K) "approach" 11 4 Ph_approach :=
  ⟨f, fd, ["race", "first", "second", "time"], hm, F.kp, (F.bindsN fun _ _ _ _ _ _ us hl => match us, hl with | [_, _, _, _], _ => rfl), rfl, ok_approach F c_Race_speed c_minus⟩
theorem k_offset {P : Program} {w : World} {mg : Str → Option Value} {K : PySem.W.Frag} {f : Addr} {fd : FuncData} (F : FunD K "offset" "offset" (defArgs (top 48)) (defBody (top 48)) (defScope (top 48)) [] [] f fd) (hm : mg "offset" = some (.ref f)) (c_Race_position : MtC P w mg (Zp K) "Race" "position" 10 3 Ph_Race_position) (c_minus : FnC P w mg (Zp K) "minus" 7 2 Ph_minus) (c_Race_length : PrC P w mg (Zp K) "Race" "length" 3 Ph_Race_length) (c_divided : FnC P w mg (Zp K) "divided" 7 2 Ph_divided) : FnC P w mg (Zp K) "offset" 11 5 Ph_offset :=
  ⟨f, fd, ["race", "first", "second", "value", "time"], hm, F.kp, (F.bindsN fun _ _ _ _ _ _ us hl => match us, hl with | [_, _, _, _, _], _ => rfl), rfl, ok_offset F c_Race_position c_minus c_Race_length c_divided⟩
theorem k_rows_of {P : Program} {w : World} {mg : Str → Option Value} {K : PySem.W.Frag} {f : Addr} {fd : FuncData} (F : FunD K "rows_of" "rows_of" (defArgs (top 49)) (defBody (top 49)) (defScope (top 49)) [] [] f fd) (hm : mg "rows_of" = some (.ref f)) (c_cut_times : FnC P w mg (Zp K) "cut_times" 9 4 Ph_cut_times) (m_zip : mg "zip" = none) (c_approach : FnC P w mg (Zp K) "approach" 11 4 Ph_approach) (c_offset : FnC P w mg (Zp K) "offset" 11 5 Ph_offset) (c_floor_of : FnC P w mg (Zp K) "floor_of" 7 1 Ph_floor_of) (c_minus : FnC P w mg (Zp K) "minus" 7 2 Ph_minus) : FnC P w mg (Zp K) "rows_of" 12 6 Ph_rows_of :=
  ⟨f, fd, ["race", "first", "second", "value", "begin", "stop"], hm, F.kp, (F.bindsN fun _ _ _ _ _ _ us hl => match us, hl with | [_, _, _, _, _, _], _ => rfl), rfl, ok_rows_of F c_cut_times m_zip c_approach c_offset c_floor_of c_minus⟩
theorem k_direction {P : Program} {w : World} {mg : Str → Option Value} {K : PySem.W.Frag} {f : Addr} {fd : FuncData} (F : FunD K "direction" "direction" (defArgs (top 50)) (defBody (top 50)) (defScope (top 50)) [] [] f fd) (hm : mg "direction" = some (.ref f))  : FnC P w mg (Zp K) "direction" 3 1 Ph_direction :=
  ⟨f, fd, ["row"], hm, F.kp, (F.bindsN fun _ _ _ _ _ _ us hl => match us, hl with | [_], _ => rfl), rfl, ok_direction F ⟩
theorem k_count_gap {P : Program} {w : World} {mg : Str → Option Value} {K : PySem.W.Frag} {f : Addr} {fd : FuncData} (F : FunD K "count_gap" "count_gap" (defArgs (top 51)) (defBody (top 51)) (defScope (top 51)) [] [] f fd) (hm : mg "count_gap" = some (.ref f)) (c_Race_validate_names : MtC P w mg (Zp K) "Race" "validate_names" 5 3 Ph_Race_validate_names) (c_as_gap : FnC P w mg (Zp K) "as_gap" 9 2 Ph_as_gap) (c_as_window : FnC P w mg (Zp K) "as_window" 10 2 Ph_as_window) (c_rows_of : FnC P w mg (Zp K) "rows_of" 12 6 Ph_rows_of) (c_direction : FnC P w mg (Zp K) "direction" 3 1 Ph_direction) (m_max : mg "max" = none) (m_sum : mg "sum" = none) : FnC P w mg (Zp K) "count_gap" 13 6 Ph_count_gap :=
  ⟨f, fd, ["race", "first", "second", "value", "start", "end"], hm, F.kp, (F.bindsN fun _ _ _ _ _ _ us hl => match us, hl with | [_, _, _, _, _, _], _ => rfl), rfl, ok_count_gap F c_Race_validate_names c_as_gap c_as_window c_rows_of c_direction m_max m_sum⟩
theorem k_time_in_row {P : Program} {w : World} {mg : Str → Option Value} {K : PySem.W.Frag} {f : Addr} {fd : FuncData} (F : FunD K "time_in_row" "time_in_row" (defArgs (top 52)) (defBody (top 52)) (defScope (top 52)) [] [] f fd) (hm : mg "time_in_row" = some (.ref f)) (c_Race_length : PrC P w mg (Zp K) "Race" "length" 3 Ph_Race_length) (c_minus : FnC P w mg (Zp K) "minus" 7 2 Ph_minus) (c_times : FnC P w mg (Zp K) "times" 7 2 Ph_times) (c_divided : FnC P w mg (Zp K) "divided" 7 2 Ph_divided) (c_plus : FnC P w mg (Zp K) "plus" 7 2 Ph_plus) : FnC P w mg (Zp K) "time_in_row" 8 3 Ph_time_in_row :=
  ⟨f, fd, ["race", "row", "number"], hm, F.kp, (F.bindsN fun _ _ _ _ _ _ us hl => match us, hl with | [_, _, _], _ => rfl), rfl, ok_time_in_row F c_Race_length c_minus c_times c_divided c_plus⟩
theorem k_gap_times {P : Program} {w : World} {mg : Str → Option Value} {K : PySem.W.Frag} {f : Addr} {fd : FuncData} (F : FunD K "gap_times" "gap_times" (defArgs (top 53)) (defBody (top 53)) (defScope (top 53)) [] [] f fd) (hm : mg "gap_times" = some (.ref f)) (c_count_gap : FnC P w mg (Zp K) "count_gap" 13 6 Ph_count_gap) (g_MAX_TIMES : ∃ t, mg "MAX_TIMES" = some (.int 2000 t)) (c_as_window : FnC P w mg (Zp K) "as_window" 10 2 Ph_as_window) (c_as_ratio : FnC P w mg (Zp K) "as_ratio" 6 1 Ph_as_ratio) (c_rows_of : FnC P w mg (Zp K) "rows_of" 12 6 Ph_rows_of) (c_direction : FnC P w mg (Zp K) "direction" 3 1 Ph_direction) (m_range : mg "range" = none) (c_time_in_row : FnC P w mg (Zp K) "time_in_row" 8 3 Ph_time_in_row) : FnC P w mg (Zp K) "gap_times" 14 6 Ph_gap_times :=
  ⟨f, fd, ["race", "first", "second", "value", "start", "end"], hm, F.kp, (F.bindsN fun _ _ _ _ _ _ us hl => match us, hl with | [_, _, _, _, _, _], _ => rfl), rfl, ok_gap_times F c_count_gap g_MAX_TIMES c_as_window c_as_ratio c_rows_of c_direction m_range c_time_in_row⟩
theorem k_Race_turned {P : Program} {w : World} {mg : Str → Option Value} {K : PySem.W.Frag} {f : Addr} {fd : FuncData} (F : FunD K "turned" "Race.turned" (defArgs (mtop 37 16)) (defBody (mtop 37 16)) (defScope (mtop 37 16)) [] [] f fd) (hm : Meth K (He.ga K "Race") "turned" f) (hc : Cls K (He.ga K "Race")) (c_Race_names : MtC P w mg (Zp K) "Race" "names" 3 1 Ph_Race_names) (c_Race_pieces : MtC P w mg (Zp K) "Race" "pieces" 5 2 Ph_Race_pieces) (c_Race_start : MtC P w mg (Zp K) "Race" "start" 5 2 Ph_Race_start) (c_plus : FnC P w mg (Zp K) "plus" 7 2 Ph_plus) (c_Race_length : PrC P w mg (Zp K) "Race" "length" 3 Ph_Race_length) (c_Race : MkC P w mg (Zp K) "Race" 12 2 Ph_Race) : MtC P w mg (Zp K) "Race" "turned" 14 2 Ph_Race_turned :=
  ⟨⟨f, fd, ["self", "shift"], hm, (F.bindsN fun _ _ _ _ _ _ us hl => match us, hl with | [_, _], _ => rfl), rfl, ok_Race_turned F c_Race_names c_Race_pieces c_Race_start c_plus c_Race_length c_Race⟩, hc⟩
theorem k_law {P : Program} {w : World} {mg : Str → Option Value} {K : PySem.W.Frag} {f : Addr} {fd : FuncData} (F : FunD K "law" "law" (defArgs (top 66)) (defBody (top 66)) (defScope (top 66)) [] [] f fd) (hm : mg "law" = some (.ref f)) (m_len : mg "len" = none) (m_min : mg "min" = none) (m_max : mg "max" = none) (m_range : mg "range" = none) (c_law_pool : FnC P w mg (Zp K) "_law_pool" 3 2 Ph_law_pool) (c_law_draw : FnC P w mg (Zp K) "_law_draw" 3 2 Ph_law_draw) (c_law_race : FnC P w mg (Zp K) "_law_race" 14 2 Ph_law_race) (c_law_choose : FnC P w mg (Zp K) "_law_choose" 4 2 Ph_law_choose) (c_law_longer : FnC P w mg (Zp K) "_law_longer" 14 2 Ph_law_longer) (c_Race_slowed : MtC P w mg (Zp K) "Race" "slowed" 14 2 Ph_Race_slowed) (c_law_number : FnC P w mg (Zp K) "_law_number" 5 3 Ph_law_number) (c_Race_change_times : MtC P w mg (Zp K) "Race" "change_times" 8 1 Ph_Race_change_times) (c_law_check : FnC P w mg (Zp K) "_law_check" 13 5 Ph_law_check) (c_in_order : FnC P w mg (Zp K) "in_order" 7 1 Ph_in_order) (c_times : FnC P w mg (Zp K) "times" 7 2 Ph_times) (c_pass_table : FnC P w mg (Zp K) "pass_table" 13 3 Ph_pass_table) (c_Race_length : PrC P w mg (Zp K) "Race" "length" 3 Ph_Race_length) (c_remainder : FnC P w mg (Zp K) "remainder" 8 2 Ph_remainder) (c_gap_times : FnC P w mg (Zp K) "gap_times" 14 6 Ph_gap_times) (c_Race_turned : MtC P w mg (Zp K) "Race" "turned" 14 2 Ph_Race_turned) : FnC P w mg (Zp K) "law" 15 1 Ph_law :=
  ⟨f, fd, ["script"], hm, F.kp, (F.bindsN fun _ _ _ _ _ _ us hl => match us, hl with | [_], _ => rfl), rfl, ok_law F m_len m_min m_max m_range c_law_pool c_law_draw c_law_race c_law_choose c_law_longer c_Race_slowed c_law_number c_Race_change_times c_law_check c_in_order c_times c_pass_table c_Race_length c_remainder c_gap_times c_Race_turned⟩
theorem facts {P : Program} {w : World} {K : PySem.W.Frag} {h : Heap} {mg : Str → Option Value} (X : K.In h) (G : h.Ns mainGlobals mg) (c : HX.Says fal prl fnl K) : ∃ fd : FuncData, FunD K "law" "law" (defArgs (top 66)) (defBody (top 66)) (defScope (top 66)) [] [] (He.ga K "law") fd ∧ mg "law" = some (.ref (He.ga K "law")) ∧ ∀ base : Heap, FnOk P w K mg base CX0 15 (He.ga K "law") fd ["script"] (spP (Zp K) Ph_law) := by
  have m_len : mg "len" = none := He.free_ok X G (c.fact 0 (f := .free "len") rfl)
  have m_bool : mg "bool" = none := He.free_ok X G (c.fact 1 (f := .free "bool") rfl)
  have m_isinstance : mg "isinstance" = none := He.free_ok X G (c.fact 2 (f := .free "isinstance") rfl)
  have m_int : mg "int" = none := He.free_ok X G (c.fact 3 (f := .free "int") rfl)
  have m_abs : mg "abs" = none := He.free_ok X G (c.fact 4 (f := .free "abs") rfl)
  have m_tuple : mg "tuple" = none := He.free_ok X G (c.fact 9 (f := .free "tuple") rfl)
  have m_range : mg "range" = none := He.free_ok X G (c.fact 14 (f := .free "range") rfl)
  have g_MAX_PIECES : ∃ t, mg "MAX_PIECES" = some (.int 20 t) := He.int_ok X G (c.fact 18 (f := .int "MAX_PIECES" 20) rfl)
  have m_list : mg "list" = none := He.free_ok X G (c.fact 19 (f := .free "list") rfl)
  have m_all : mg "all" = none := He.free_ok X G (c.fact 21 (f := .free "all") rfl)
  have m_str : mg "str" = none := He.free_ok X G (c.fact 23 (f := .free "str") rfl)
  have g_SIGNS : ∃ t, mg "SIGNS" = some (.str "abcdefghijklmnopqrstuvwxyz0123456789" t) := He.str_ok X G (c.fact 24 (f := .str "SIGNS" "abcdefghijklmnopqrstuvwxyz0123456789") rfl)
  have g_LETTERS : ∃ t, mg "LETTERS" = some (.str "abcdefghijklmnopqrstuvwxyz" t) := He.str_ok X G (c.fact 25 (f := .str "LETTERS" "abcdefghijklmnopqrstuvwxyz") rfl)
  have g_MAX_RUNNERS : ∃ t, mg "MAX_RUNNERS" = some (.int 12 t) := He.int_ok X G (c.fact 29 (f := .int "MAX_RUNNERS" 12) rfl)
  have m_dict : mg "dict" = none := He.free_ok X G (c.fact 30 (f := .free "dict") rfl)
  have k_Race : ClsP (Zp K) "Race" := He.cls_ok (c.fact 33 (f := .cls "Race") rfl)
  have n_Race_own_length : NoAttr K (He.ga K "Race") "own_length" := He.noat_ok (c.fact 34 (f := .noat "Race" "own_length") rfl)
  have n_Race_own_runners : NoAttr K (He.ga K "Race") "own_runners" := He.noat_ok (c.fact 35 (f := .noat "Race" "own_runners") rfl)
  have m_sorted : mg "sorted" = none := He.free_ok X G (c.fact 36 (f := .free "sorted") rfl)
  have n_Race_own_parts : NoAttr K (He.ga K "Race") "own_parts" := He.noat_ok (c.fact 38 (f := .noat "Race" "own_parts") rfl)
  have m_enumerate : mg "enumerate" = none := He.free_ok X G (c.fact 50 (f := .free "enumerate") rfl)
  have m_zip : mg "zip" = none := He.free_ok X G (c.fact 59 (f := .free "zip") rfl)
  have m_max : mg "max" = none := He.free_ok X G (c.fact 68 (f := .free "max") rfl)
  have m_sum : mg "sum" = none := He.free_ok X G (c.fact 69 (f := .free "sum") rfl)
  have g_MAX_TIMES : ∃ t, mg "MAX_TIMES" = some (.int 2000 t) := He.int_ok X G (c.fact 71 (f := .int "MAX_TIMES" 2000) rfl)
  have m_min : mg "min" = none := He.free_ok X G (c.fact 73 (f := .free "min") rfl)
  obtain ⟨fd_law_pool, F_law_pool⟩ := c.def_ 0 (d := d_law_pool) rfl
  have c_law_pool := k_law_pool (P := P) (w := w) F_law_pool (He.glo_ok X G (c.fact 74 (f := .glo "_law_pool") rfl)) m_len
  obtain ⟨fd_law_draw, F_law_draw⟩ := c.def_ 1 (d := d_law_draw) rfl
  have c_law_draw := k_law_draw (P := P) (w := w) F_law_draw (He.glo_ok X G (c.fact 7 (f := .glo "_law_draw") rfl)) 
  obtain ⟨fd_is_integer, F_is_integer⟩ := c.def_ 2 (d := d_is_integer) rfl
  have c_is_integer := k_is_integer (P := P) (w := w) F_is_integer (He.glo_ok X G (c.fact 5 (f := .glo "is_integer") rfl)) m_bool m_isinstance m_int
  obtain ⟨fd_common_divisor, F_common_divisor⟩ := c.def_ 3 (d := d_common_divisor) rfl
  have c_common_divisor := k_common_divisor (P := P) (w := w) F_common_divisor (He.glo_ok X G (c.fact 6 (f := .glo "common_divisor") rfl)) m_abs
  obtain ⟨fd_ratio, F_ratio⟩ := c.def_ 4 (d := d_ratio) rfl
  have c_ratio := k_ratio (P := P) (w := w) F_ratio (He.glo_ok X G (c.fact 8 (f := .glo "ratio") rfl)) c_is_integer c_common_divisor
  obtain ⟨fd_law_number, F_law_number⟩ := c.def_ 5 (d := d_law_number) rfl
  have c_law_number := k_law_number (P := P) (w := w) F_law_number (He.glo_ok X G (c.fact 13 (f := .glo "_law_number") rfl)) c_law_draw c_ratio
  obtain ⟨fd_is_ratio, F_is_ratio⟩ := c.def_ 6 (d := d_is_ratio) rfl
  have c_is_ratio := k_is_ratio (P := P) (w := w) F_is_ratio (He.glo_ok X G (c.fact 10 (f := .glo "is_ratio") rfl)) c_is_integer m_len m_tuple m_isinstance c_common_divisor
  obtain ⟨fd_is_number, F_is_number⟩ := c.def_ 7 (d := d_is_number) rfl
  have c_is_number := k_is_number (P := P) (w := w) F_is_number (He.glo_ok X G (c.fact 11 (f := .glo "is_number") rfl)) c_is_ratio c_is_integer
  obtain ⟨fd_as_ratio, F_as_ratio⟩ := c.def_ 8 (d := d_as_ratio) rfl
  have c_as_ratio := k_as_ratio (P := P) (w := w) F_as_ratio (He.glo_ok X G (c.fact 12 (f := .glo "as_ratio") rfl)) c_is_number c_is_integer
  obtain ⟨fd_plus, F_plus⟩ := c.def_ 9 (d := d_plus) rfl
  have c_plus := k_plus (P := P) (w := w) F_plus (He.glo_ok X G (c.fact 15 (f := .glo "plus") rfl)) c_as_ratio c_ratio
  obtain ⟨fd_law_pieces, F_law_pieces⟩ := c.def_ 10 (d := d_law_pieces) rfl
  have c_law_pieces := k_law_pieces (P := P) (w := w) F_law_pieces (He.glo_ok X G (c.fact 39 (f := .glo "_law_pieces") rfl)) c_law_number c_law_draw m_range c_ratio c_plus
  obtain ⟨fd_law_choose, F_law_choose⟩ := c.def_ 11 (d := d_law_choose) rfl
  have c_law_choose := k_law_choose (P := P) (w := w) F_law_choose (He.glo_ok X G (c.fact 40 (f := .glo "_law_choose") rfl)) m_len c_law_draw
  obtain ⟨fd_minus, F_minus⟩ := c.def_ 12 (d := d_minus) rfl
  have c_minus := k_minus (P := P) (w := w) F_minus (He.glo_ok X G (c.fact 16 (f := .glo "minus") rfl)) c_as_ratio c_ratio
  obtain ⟨fd_compare, F_compare⟩ := c.def_ 13 (d := d_compare) rfl
  have c_compare := k_compare (P := P) (w := w) F_compare (He.glo_ok X G (c.fact 17 (f := .glo "compare") rfl)) c_minus
  obtain ⟨fd_is_piece, F_is_piece⟩ := c.def_ 14 (d := d_is_piece) rfl
  have c_is_piece := k_is_piece (P := P) (w := w) F_is_piece (He.glo_ok X G (c.fact 20 (f := .glo "is_piece") rfl)) m_len m_tuple m_isinstance c_compare c_is_number
  obtain ⟨fd_are_pieces, F_are_pieces⟩ := c.def_ 15 (d := d_are_pieces) rfl
  have c_are_pieces := k_are_pieces (P := P) (w := w) F_are_pieces (He.glo_ok X G (c.fact 22 (f := .glo "are_pieces") rfl)) m_len g_MAX_PIECES m_tuple m_list m_isinstance c_compare c_is_piece m_all m_range
  obtain ⟨fd_is_runner, F_is_runner⟩ := c.def_ 16 (d := d_is_runner) rfl
  have c_is_runner := k_is_runner (P := P) (w := w) F_is_runner (He.glo_ok X G (c.fact 31 (f := .glo "is_runner") rfl)) c_are_pieces c_is_number m_len m_tuple m_isinstance
  obtain ⟨fd_is_name, F_is_name⟩ := c.def_ 17 (d := d_is_name) rfl
  have c_is_name := k_is_name (P := P) (w := w) F_is_name (He.glo_ok X G (c.fact 32 (f := .glo "is_name") rfl)) m_len m_str m_isinstance g_SIGNS m_all g_LETTERS
  obtain ⟨fd_divided, F_divided⟩ := c.def_ 18 (d := d_divided) rfl
  have c_divided := k_divided (P := P) (w := w) F_divided (He.glo_ok X G (c.fact 26 (f := .glo "divided") rfl)) c_as_ratio c_ratio
  obtain ⟨fd_floor_of, F_floor_of⟩ := c.def_ 19 (d := d_floor_of) rfl
  have c_floor_of := k_floor_of (P := P) (w := w) F_floor_of (He.glo_ok X G (c.fact 27 (f := .glo "floor_of") rfl)) c_as_ratio
  obtain ⟨fd_times, F_times⟩ := c.def_ 20 (d := d_times) rfl
  have c_times := k_times (P := P) (w := w) F_times (He.glo_ok X G (c.fact 28 (f := .glo "times") rfl)) c_as_ratio c_ratio
  obtain ⟨fd_remainder, F_remainder⟩ := c.def_ 21 (d := d_remainder) rfl
  have c_remainder := k_remainder (P := P) (w := w) F_remainder (He.glo_ok X G (c.fact 37 (f := .glo "remainder") rfl)) c_as_ratio c_divided c_floor_of c_times c_minus
  obtain ⟨fd_Race_init, F_Race_init⟩ := c.def_ 22 (d := d_Race_init) rfl
  have c_Race := k_Race_init (P := P) (w := w) F_Race_init (He.glo_ok X G (c.fact 41 (f := .glo "Race") rfl)) (He.mkr_ok (c.fact 42 (f := .mkr "Race") rfl)) c_compare c_is_number m_len g_MAX_RUNNERS m_dict m_isinstance c_is_runner c_is_name k_Race n_Race_own_length c_as_ratio n_Race_own_runners m_sorted c_remainder n_Race_own_parts
  obtain ⟨fd_law_race, F_law_race⟩ := c.def_ 23 (d := d_law_race) rfl
  have c_law_race := k_law_race (P := P) (w := w) F_law_race (He.glo_ok X G (c.fact 75 (f := .glo "_law_race") rfl)) c_law_pieces c_law_number c_law_choose c_Race
  obtain ⟨fd_Race_names, F_Race_names⟩ := c.def_ 24 (d := d_Race_names) rfl
  have c_Race_names := k_Race_names (P := P) (w := w) (mg := mg) F_Race_names (He.meth_ok (c.fact 45 (f := .meth "Race" "names") rfl)) k_Race k_Race n_Race_own_runners m_list
  obtain ⟨fd_Race_contains, F_Race_contains⟩ := c.def_ 25 (d := d_Race_contains) rfl
  have c_Race_contains := k_Race_contains (P := P) (w := w) (mg := mg) F_Race_contains (He.meth_ok (c.fact 43 (f := .meth "Race" "__contains__") rfl)) k_Race k_Race n_Race_own_runners m_str m_isinstance
  obtain ⟨fd_Race_runner, F_Race_runner⟩ := c.def_ 26 (d := d_Race_runner) rfl
  have c_Race_runner := k_Race_runner (P := P) (w := w) (mg := mg) F_Race_runner (He.meth_ok (c.fact 44 (f := .meth "Race" "runner") rfl)) k_Race c_Race_contains k_Race n_Race_own_runners
  obtain ⟨fd_Race_pieces, F_Race_pieces⟩ := c.def_ 27 (d := d_Race_pieces) rfl
  have c_Race_pieces := k_Race_pieces (P := P) (w := w) (mg := mg) F_Race_pieces (He.meth_ok (c.fact 46 (f := .meth "Race" "pieces") rfl)) k_Race c_Race_runner m_list
  obtain ⟨fd_Race_start, F_Race_start⟩ := c.def_ 28 (d := d_Race_start) rfl
  have c_Race_start := k_Race_start (P := P) (w := w) (mg := mg) F_Race_start (He.meth_ok (c.fact 47 (f := .meth "Race" "start") rfl)) k_Race c_Race_runner
  obtain ⟨fd_Race_length, F_Race_length⟩ := c.def_ 29 (d := d_Race_length) rfl
  have c_Race_length := k_Race_length (P := P) (w := w) (mg := mg) F_Race_length (HX.propOk (c.prop 0 (q := ("Race", "length")) rfl)) k_Race k_Race n_Race_own_length
  obtain ⟨fd_law_longer, F_law_longer⟩ := c.def_ 30 (d := d_law_longer) rfl
  have c_law_longer := k_law_longer (P := P) (w := w) F_law_longer (He.glo_ok X G (c.fact 76 (f := .glo "_law_longer") rfl)) c_Race_names c_Race_pieces c_times c_Race_start c_Race_length c_Race
  obtain ⟨fd_Race_slowed, F_Race_slowed⟩ := c.def_ 31 (d := d_Race_slowed) rfl
  have c_Race_slowed := k_Race_slowed (P := P) (w := w) (mg := mg) F_Race_slowed (He.meth_ok (c.fact 77 (f := .meth "Race" "slowed") rfl)) k_Race c_compare c_is_number c_Race_names c_Race_pieces c_divided c_times c_Race_start c_Race_length c_Race
  obtain ⟨fd_in_order, F_in_order⟩ := c.def_ 32 (d := d_in_order) rfl
  have c_in_order := k_in_order (P := P) (w := w) F_in_order (He.glo_ok X G (c.fact 48 (f := .glo "in_order") rfl)) c_as_ratio c_common_divisor m_sorted c_ratio
  obtain ⟨fd_Race_change_times, F_Race_change_times⟩ := c.def_ 33 (d := d_Race_change_times) rfl
  have c_Race_change_times := k_Race_change_times (P := P) (w := w) (mg := mg) F_Race_change_times (He.meth_ok (c.fact 78 (f := .meth "Race" "change_times") rfl)) k_Race c_Race_names c_Race_pieces c_in_order
  obtain ⟨fd_as_time, F_as_time⟩ := c.def_ 34 (d := d_as_time) rfl
  have c_as_time := k_as_time (P := P) (w := w) F_as_time (He.glo_ok X G (c.fact 49 (f := .glo "as_time") rfl)) c_compare c_is_number c_as_ratio
  obtain ⟨fd_Race_position, F_Race_position⟩ := c.def_ 35 (d := d_Race_position) rfl
  have c_Race_position := k_Race_position (P := P) (w := w) (mg := mg) F_Race_position (He.meth_ok (c.fact 51 (f := .meth "Race" "position") rfl)) k_Race c_Race_runner c_as_time m_enumerate c_compare m_len c_minus c_times c_plus
  obtain ⟨fd_Race_place, F_Race_place⟩ := c.def_ 36 (d := d_Race_place) rfl
  have c_Race_place := k_Race_place (P := P) (w := w) (mg := mg) F_Race_place (He.meth_ok (c.fact 52 (f := .meth "Race" "place") rfl)) k_Race c_Race_length c_Race_position c_remainder
  obtain ⟨fd_standing, F_standing⟩ := c.def_ 37 (d := d_standing) rfl
  have c_standing := k_standing (P := P) (w := w) F_standing (He.glo_ok X G (c.fact 54 (f := .glo "standing") rfl)) c_as_time c_Race_names c_Race_place m_list c_in_order
  obtain ⟨fd_Race_validate_names, F_Race_validate_names⟩ := c.def_ 38 (d := d_Race_validate_names) rfl
  have c_Race_validate_names := k_Race_validate_names (P := P) (w := w) (mg := mg) F_Race_validate_names (He.meth_ok (c.fact 53 (f := .meth "Race" "validate_names") rfl)) k_Race c_Race_runner
  obtain ⟨fd_gap, F_gap⟩ := c.def_ 39 (d := d_gap) rfl
  have c_gap := k_gap (P := P) (w := w) F_gap (He.glo_ok X G (c.fact 55 (f := .glo "gap") rfl)) c_Race_validate_names c_Race_position c_minus c_Race_length c_remainder
  obtain ⟨fd_Race_laps, F_Race_laps⟩ := c.def_ 40 (d := d_Race_laps) rfl
  have c_Race_laps := k_Race_laps (P := P) (w := w) (mg := mg) F_Race_laps (He.meth_ok (c.fact 56 (f := .meth "Race" "laps") rfl)) k_Race c_Race_length c_Race_position c_divided c_floor_of
  obtain ⟨fd_law_check, F_law_check⟩ := c.def_ 41 (d := d_law_check) rfl
  have c_law_check := k_law_check (P := P) (w := w) F_law_check (He.glo_ok X G (c.fact 79 (f := .glo "_law_check") rfl)) c_standing c_times c_gap c_Race_names c_Race_laps
  obtain ⟨fd_as_window, F_as_window⟩ := c.def_ 42 (d := d_as_window) rfl
  have c_as_window := k_as_window (P := P) (w := w) F_as_window (He.glo_ok X G (c.fact 57 (f := .glo "as_window") rfl)) c_as_time c_compare
  obtain ⟨fd_cut_times, F_cut_times⟩ := c.def_ 43 (d := d_cut_times) rfl
  have c_cut_times := k_cut_times (P := P) (w := w) F_cut_times (He.glo_ok X G (c.fact 58 (f := .glo "cut_times") rfl)) c_Race_pieces c_compare c_in_order
  obtain ⟨fd_Race_speed, F_Race_speed⟩ := c.def_ 44 (d := d_Race_speed) rfl
  have c_Race_speed := k_Race_speed (P := P) (w := w) (mg := mg) F_Race_speed (He.meth_ok (c.fact 60 (f := .meth "Race" "speed") rfl)) k_Race c_Race_pieces c_as_time c_compare
  obtain ⟨fd_laps_apart, F_laps_apart⟩ := c.def_ 45 (d := d_laps_apart) rfl
  have c_laps_apart := k_laps_apart (P := P) (w := w) F_laps_apart (He.glo_ok X G (c.fact 61 (f := .glo "laps_apart") rfl)) c_Race_position c_minus c_Race_length c_divided c_floor_of
  obtain ⟨fd_passes, F_passes⟩ := c.def_ 46 (d := d_passes) rfl
  have c_passes := k_passes (P := P) (w := w) F_passes (He.glo_ok X G (c.fact 62 (f := .glo "passes") rfl)) c_Race_validate_names c_as_window c_cut_times m_zip c_Race_speed c_compare c_laps_apart
  obtain ⟨fd_pass_table, F_pass_table⟩ := c.def_ 47 (d := d_pass_table) rfl
  have c_pass_table := k_pass_table (P := P) (w := w) F_pass_table (He.glo_ok X G (c.fact 80 (f := .glo "pass_table") rfl)) c_as_window c_Race_names c_passes
  obtain ⟨fd_as_gap, F_as_gap⟩ := c.def_ 48 (d := d_as_gap) rfl
  have c_as_gap := k_as_gap (P := P) (w := w) F_as_gap (He.glo_ok X G (c.fact 65 (f := .glo "as_gap") rfl)) c_Race_length c_compare c_is_number c_as_ratio
  obtain ⟨fd_approach, F_approach⟩ := c.def_ 49 (d := d_approach) rfl
  have c_approach := k_approach (P := P) (w := w) F_approach (He.glo_ok X G (c.fact 63 (f := .glo "approach") rfl)) c_Race_speed c_minus
  obtain ⟨fd_offset, F_offset⟩ := c.def_ 50 (d := d_offset) rfl
  have c_offset := k_offset (P := P) (w := w) F_offset (He.glo_ok X G (c.fact 64 (f := .glo "offset") rfl)) c_Race_position c_minus c_Race_length c_divided
  obtain ⟨fd_rows_of, F_rows_of⟩ := c.def_ 51 (d := d_rows_of) rfl
  have c_rows_of := k_rows_of (P := P) (w := w) F_rows_of (He.glo_ok X G (c.fact 66 (f := .glo "rows_of") rfl)) c_cut_times m_zip c_approach c_offset c_floor_of c_minus
  obtain ⟨fd_direction, F_direction⟩ := c.def_ 52 (d := d_direction) rfl
  have c_direction := k_direction (P := P) (w := w) F_direction (He.glo_ok X G (c.fact 67 (f := .glo "direction") rfl)) 
  obtain ⟨fd_count_gap, F_count_gap⟩ := c.def_ 53 (d := d_count_gap) rfl
  have c_count_gap := k_count_gap (P := P) (w := w) F_count_gap (He.glo_ok X G (c.fact 70 (f := .glo "count_gap") rfl)) c_Race_validate_names c_as_gap c_as_window c_rows_of c_direction m_max m_sum
  obtain ⟨fd_time_in_row, F_time_in_row⟩ := c.def_ 54 (d := d_time_in_row) rfl
  have c_time_in_row := k_time_in_row (P := P) (w := w) F_time_in_row (He.glo_ok X G (c.fact 72 (f := .glo "time_in_row") rfl)) c_Race_length c_minus c_times c_divided c_plus
  obtain ⟨fd_gap_times, F_gap_times⟩ := c.def_ 55 (d := d_gap_times) rfl
  have c_gap_times := k_gap_times (P := P) (w := w) F_gap_times (He.glo_ok X G (c.fact 81 (f := .glo "gap_times") rfl)) c_count_gap g_MAX_TIMES c_as_window c_as_ratio c_rows_of c_direction m_range c_time_in_row
  obtain ⟨fd_Race_turned, F_Race_turned⟩ := c.def_ 56 (d := d_Race_turned) rfl
  have c_Race_turned := k_Race_turned (P := P) (w := w) (mg := mg) F_Race_turned (He.meth_ok (c.fact 82 (f := .meth "Race" "turned") rfl)) k_Race c_Race_names c_Race_pieces c_Race_start c_plus c_Race_length c_Race
  obtain ⟨fd_law, F_law⟩ := c.def_ 57 (d := d_law) rfl
  exact ⟨fd_law, F_law, He.glo_ok X G (c.fact 83 (f := .glo "law") rfl), ok_law F_law m_len m_min m_max m_range c_law_pool c_law_draw c_law_race c_law_choose c_law_longer c_Race_slowed c_law_number c_Race_change_times c_law_check c_in_order c_times c_pass_table c_Race_length c_remainder c_gap_times c_Race_turned⟩
theorem law_sp {K : PySem.W.Frag} (H : Hp) (a : Addr) (ns : List Int) (hl : ns.length ≤ 63) (hs : SqL K H a (ns.map V.int)) : spP (Zp K) Ph_law [V.ref a] H (fun v _ => v = V.bl true) (fun _ _ _ => False) := by
  have hD : SqL K (fun b => if b = a then H a else none) a (ns.map V.int) := by
    rcases hs with (s | ⟨o, s⟩) | s
    · exact .inl (.inl (by show (if a = a then H a else none) = _; rw [if_pos rfl]; exact s))
    · exact .inl (.inr ⟨o, by show (if a = a then H a else none) = _; rw [if_pos rfl]; exact s⟩)
    · exact .inr s
  refine ⟨⟨fun b => if b = a then H a else none, fun _ => False⟩, [.frz (ns.map PV.int)], fun p => p = .bl true, ⟨fun b o e => ?_, fun _ m => m.elim, fun _ m => m.elim⟩, .cons (.frz (o := default) hD (DatL.ofInts ns)) .nil, ⟨ns, rfl, hl, rfl⟩, fun W' H' v p e d hp => ?_⟩
  · by_cases h : b = a
    · subst h
      have e : (if b = b then H b else none) = some o := e
      rw [if_pos rfl] at e
      exact .inl e
    · have e : (if b = a then H a else none) = some o := e
      rw [if_neg h] at e
      cases e
  · subst hp
    cases d
    rfl
end G
open PySem PySem.W PySem.Calls PyProof.Rows
theorem PySem.Challenge.cw_laprunners_k82_whole_scaled_races_holds : PySem.Challenge.rw_laprunners_k82_whole_scaled_races.Holds := by
  w_on; o_law
  refine HandSHeadRun.head_any (r := OpenLaw.row PySem.Challenge.rw_laprunners_k82_whole_scaled_races) (q := view (OpenLaw.row PySem.Challenge.rw_laprunners_k82_whole_scaled_races).prog [66]) (H := G.hk) (ob := G.ob) (M := 20000) (loose := G.nml) (d := HandSHeadRun.topDef (OpenLaw.row PySem.Challenge.rw_laprunners_k82_whole_scaled_races).prog 66) (kwd := []) G.ob_eq
    (by kernel_rfl) (fun s => by kernel_rfl) G.run (by kernel_rfl) (by kernel_rfl) (by kernel_rfl) (by rfl) (by first | assumption | decide +kernel) (by decide +kernel) ⟨rfl, rfl, rfl, rfl, rfl, by decide +kernel⟩ ?hw ?hc
  case hw => w_witness2
  case hc =>
    refine L2.walk_ofE (l := PySem.Challenge.rw_laprunners_k82_whole_scaled_races) (n := 63) (k := 15) (x := "script") (CX := L2.CX0) rfl (by decide) (by kernel_rfl) ⟨rfl, by decide, by decide⟩ ?F (fun _ _ _ _ z => z)
    intro w mg fa h Y G0 hmg0
    obtain ⟨K, KX, c⟩ := Y
    have hmg : mg ("law" : PySem.Str) = some (.ref fa) := by
      have e : (HandSHeadRun.topDef (OpenLaw.row PySem.Challenge.rw_laprunners_k82_whole_scaled_races).prog 66).name = ("law" : PySem.Str) := by kernel_rfl
      rw [← e]
      exact hmg0
    obtain ⟨fd, F, hm, hF⟩ := G.facts (P := (PySem.Challenge.rw_laprunners_k82_whole_scaled_races).prog) (w := w) KX G0 c
    have e := hmg.symm.trans hm
    cases e
    have b := L2.FunD.bindsA (ps := ["script"]) F fun _ _ _ _ _ _ us hl => match us, hl with | [_], _ => rfl
    exact ⟨K, fd, L3.spP (L3.Zp K) G.Ph_law, KX, fun s v => b s [v] rfl, fun H a ns hl _ hS => G.law_sp H a ns hl hS, fun base _ _ => hF base⟩


