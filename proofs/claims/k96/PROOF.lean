import PyProof.Rows.All
import Wide.All
import OpenK.AllK
import Wide.FinOn
import HandS.ForMost
import HandS.Wide
import HandS.Defaults
import HandS.Property
import HandS.IsInst
import HandS.DictComp
import HandS.SortInts
import HandS.More
import HandS.HeadHook1
import HandS.Strs
import HandS.SetBool
import HandS.SetKeys
import PyProof.Rows.RuleB_bool
import HandS.Deep
import HandS.List
import KE.GoesEnumKw
import KE.KDictList
import PyProof.DictValues
import HandS.Star
import HandS.ListItems
import HandS.Dict
import HandS.DictEq
import HandS.TryOnly
import KE.KDictWalk
import HandS.DeepEq
import HandS.ExcInit
import HandS.ExcField
import KE.KExcInit
import PyProof.ExcBaseAll.LookupError
import PyProof.ExcBaseAll.RuntimeError
import HandS.ExcOwn
import HandS.TupMul
import KE.GoesZip
import KE.KFromBytes
import KE.GoesMore
import HandS.TupLe
import HandS.HeadHook2
import HandS.HeadEnd
import HandS.Head2
import PySem.Challenge.RW_laprunners_k96_whole_seen_speeds
set_option Elab.async false
set_option linter.all false
set_option maxRecDepth 100000
set_option maxHeartbeats 0
/-! ## L3A -/
/-! A layer of pure values over the hand layer: PV a value without addresses; a world W = what is frozen (D) and which cells are shared (M). -/
namespace L3
open PySem PySem.Spec PyProof.Rows L2

/-- pure values -/
inductive PV where
  | non | bl (b : Bool) | int (i : Int) | str (x : Str) | ty (n : String)
  | tup (l : List PV) | lst (l : List PV) | frz (l : List PV)
  | dic (l : List (Key × PV)) | dct (l : List (List Key × PV))
  | obj (c : Str) (fs : List (Str × PV))
  | cel
  | raw (a : Addr)
  | exc (a d : Addr) (c : Str) (fs : List (Str × PV))

structure Wd where
  D : Hp
  M : Addr → Prop
structure Wd.le (W W' : Wd) : Prop where
  d : ∀ a o, W.D a = some o → W'.D a = some o
  m : ∀ a, W.M a → W'.M a
theorem Wd.le.refl (W : Wd) : W.le W := ⟨fun _ _ h => h, fun _ h => h⟩
theorem Wd.le.trans {A B C : Wd} (h : A.le B) (g : B.le C) : A.le C := ⟨fun a o e => g.d a o (h.d a o e), fun a e => g.m a (h.m a e)⟩

mutual
inductive Dat (K : PySem.W.Frag) (W : Wd) : V → PV → Prop
  | non : Dat K W .non .non
  | bl (b : Bool) : Dat K W (.bl b) (.bl b)
  | int (i : Int) : Dat K W (.int i) (.int i)
  | str (x : Str) : Dat K W (.str x) (.str x)
  | ty (n : String) : Dat K W (.ty n) (.ty n)
  | tup {a : Addr} {xs : List V} {l : List PV} (h : W.D a = some (.tup xs)) (r : DatL K W xs l) : Dat K W (.ref a) (.tup l)
  | lst {a : Addr} {xs : List V} {l : List PV} (h : W.D a = some (.lst xs)) (r : DatL K W xs l) : Dat K W (.ref a) (.lst l)
  | frz {a : Addr} {o : Obj} {xs : List V} {l : List PV} (h : SqL K W.D a xs) (r : DatL K W xs l) : Dat K W (.ref a) (.frz l)
  | dic {a : Addr} {xs : List (Key × V)} {l : List (Key × PV)} (h : W.D a = some (.dK xs)) (r : DatK K W xs l) : Dat K W (.ref a) (.dic l)
  | dct {a : Addr} {xs : List (List Key × V)} {l : List (List Key × PV)} (h : W.D a = some (.dT xs)) (r : DatT K W xs l) : Dat K W (.ref a) (.dct l)
  | obj {a dx : Addr} {c : Str} {xs : List (Str × V)} {l : List (Str × PV)} (h : W.D a = some (.ins (He.ga K c) dx xs)) (r : DatF K W xs l) : Dat K W (.ref a) (.obj c l)
  | cel {a : Addr} (h : W.M a) : Dat K W (.ref a) .cel
  | raw (a : Addr) : Dat K W (.ref a) (.raw a)
  | exc {a d : Addr} {c : Str} {xs : List (Str × V)} {l : List (Str × PV)} (h : W.D d = some (.xd xs)) (r : DatF K W xs l) : Dat K W (.ref a) (.exc a d c l)
inductive DatL (K : PySem.W.Frag) (W : Wd) : List V → List PV → Prop
  | nil : DatL K W [] []
  | cons {v : V} {p : PV} {vs : List V} {ps : List PV} (h : Dat K W v p) (t : DatL K W vs ps) : DatL K W (v :: vs) (p :: ps)
inductive DatK (K : PySem.W.Frag) (W : Wd) : List (Key × V) → List (Key × PV) → Prop
  | nil : DatK K W [] []
  | cons {k : Key} {v : V} {p : PV} {vs : List (Key × V)} {ps : List (Key × PV)} (h : Dat K W v p) (t : DatK K W vs ps) : DatK K W ((k, v) :: vs) ((k, p) :: ps)
inductive DatT (K : PySem.W.Frag) (W : Wd) : List (List Key × V) → List (List Key × PV) → Prop
  | nil : DatT K W [] []
  | cons {k : List Key} {v : V} {p : PV} {vs : List (List Key × V)} {ps : List (List Key × PV)} (h : Dat K W v p) (t : DatT K W vs ps) : DatT K W ((k, v) :: vs) ((k, p) :: ps)
inductive DatF (K : PySem.W.Frag) (W : Wd) : List (Str × V) → List (Str × PV) → Prop
  | nil : DatF K W [] []
  | cons {k : Str} {v : V} {p : PV} {vs : List (Str × V)} {ps : List (Str × PV)} (h : Dat K W v p) (t : DatF K W vs ps) : DatF K W ((k, v) :: vs) ((k, p) :: ps)
end

section
variable {K : PySem.W.Frag} {W W' : Wd}
theorem SqL.monoD {D D' : Hp} (h : ∀ a o, D a = some o → D' a = some o) {a : Addr} {xs : List V} (s : SqL K D a xs) : SqL K D' a xs := by
  rcases s with (s | ⟨o, s⟩) | s
  · exact .inl (.inl (h _ _ s))
  · exact .inl (.inr ⟨o, h _ _ s⟩)
  · exact .inr s
mutual
theorem Dat.mono (le : W.le W') : ∀ {v : V} {p : PV}, Dat K W v p → Dat K W' v p
  | _, _, .non => .non
  | _, _, .bl b => .bl b
  | _, _, .int i => .int i
  | _, _, .str x => .str x
  | _, _, .ty n => .ty n
  | _, _, .tup h r => .tup (le.d _ _ h) (DatL.mono le r)
  | _, _, .lst h r => .lst (le.d _ _ h) (DatL.mono le r)
  | _, _, .frz (o := o) h r => .frz (o := o) (SqL.monoD le.d h) (DatL.mono le r)
  | _, _, .dic h r => .dic (le.d _ _ h) (DatK.mono le r)
  | _, _, .dct h r => .dct (le.d _ _ h) (DatT.mono le r)
  | _, _, .obj h r => .obj (le.d _ _ h) (DatF.mono le r)
  | _, _, .cel h => .cel (le.m _ h)
  | _, _, .raw a => .raw a
  | _, _, .exc h r => .exc (le.d _ _ h) (DatF.mono le r)
theorem DatL.mono (le : W.le W') : ∀ {v : List V} {p : List PV}, DatL K W v p → DatL K W' v p
  | _, _, .nil => .nil
  | _, _, .cons h t => .cons (Dat.mono le h) (DatL.mono le t)
theorem DatK.mono (le : W.le W') : ∀ {v : List (Key × V)} {p : List (Key × PV)}, DatK K W v p → DatK K W' v p
  | _, _, .nil => .nil
  | _, _, .cons h t => .cons (Dat.mono le h) (DatK.mono le t)
theorem DatT.mono (le : W.le W') : ∀ {v : List (List Key × V)} {p : List (List Key × PV)}, DatT K W v p → DatT K W' v p
  | _, _, .nil => .nil
  | _, _, .cons h t => .cons (Dat.mono le h) (DatT.mono le t)
theorem DatF.mono (le : W.le W') : ∀ {v : List (Str × V)} {p : List (Str × PV)}, DatF K W v p → DatF K W' v p
  | _, _, .nil => .nil
  | _, _, .cons h t => .cons (Dat.mono le h) (DatF.mono le t)
end
theorem DatL.length : ∀ {vs : List V} {ps : List PV}, DatL K W vs ps → vs.length = ps.length
  | _, _, .nil => rfl
  | _, _, .cons _ t => congrArg (· + 1) (DatL.length t)
theorem DatL.get : ∀ {vs : List V} {ps : List PV} {i : Nat} {v : V}, DatL K W vs ps → vs[i]? = some v → ∃ p, ps[i]? = some p ∧ Dat K W v p
  | _, _, _, _, .nil, e => by simp at e
  | _, _, 0, _, .cons h _, e => by simp at e; subst e; exact ⟨_, rfl, h⟩
  | _, _, i + 1, _, .cons _ t, e => by
    obtain ⟨p, h1, h2⟩ := DatL.get (i := i) t (by simpa using e)
    exact ⟨p, by simpa using h1, h2⟩
theorem DatL.getP : ∀ {vs : List V} {ps : List PV} {i : Nat} {p : PV}, DatL K W vs ps → ps[i]? = some p → ∃ v, vs[i]? = some v ∧ Dat K W v p
  | _, _, _, _, .nil, e => by simp at e
  | _, _, 0, _, .cons h _, e => by simp at e; subst e; exact ⟨_, rfl, h⟩
  | _, _, i + 1, _, .cons _ t, e => by
    obtain ⟨p, h1, h2⟩ := DatL.getP (i := i) t (by simpa using e)
    exact ⟨p, by simpa using h1, h2⟩
theorem DatL.append : ∀ {vs vs' : List V} {ps ps' : List PV}, DatL K W vs ps → DatL K W vs' ps' → DatL K W (vs ++ vs') (ps ++ ps')
  | _, _, _, _, .nil, s => s
  | _, _, _, _, .cons h t, s => .cons h (DatL.append t s)
theorem DatL.take : ∀ {vs : List V} {ps : List PV} (n : Nat), DatL K W vs ps → DatL K W (vs.take n) (ps.take n)
  | _, _, 0, _ => .nil
  | _, _, _ + 1, .nil => .nil
  | _, _, n + 1, .cons h t => .cons h (DatL.take n t)
theorem DatL.drop : ∀ {vs : List V} {ps : List PV} (n : Nat), DatL K W vs ps → DatL K W (vs.drop n) (ps.drop n)
  | _, _, 0, r => r
  | _, _, _ + 1, .nil => .nil
  | _, _, n + 1, .cons _ t => DatL.drop n t
theorem DatL.one {v : V} {p : PV} (h : Dat K W v p) : DatL K W [v] [p] := .cons h .nil
theorem DatK.length : ∀ {vs : List (Key × V)} {ps : List (Key × PV)}, DatK K W vs ps → vs.length = ps.length
  | _, _, .nil => rfl
  | _, _, .cons _ t => congrArg (· + 1) (DatK.length t)
theorem DatK.keys : ∀ {vs : List (Key × V)} {ps : List (Key × PV)}, DatK K W vs ps → vs.map (·.1) = ps.map (·.1)
  | _, _, .nil => rfl
  | _, _, .cons (k := k) _ t => congrArg (k :: ·) (DatK.keys t)
theorem DatF.look : ∀ {vs : List (Str × V)} {ps : List (Str × PV)} {f : Str} {p : PV}, DatF K W vs ps → ps.lookup f = some p → ∃ v, vs.lookup f = some v ∧ Dat K W v p
  | _, _, _, _, .nil, e => by simp at e
  | _, _, f, p, .cons (k := k) h t, e => by
    rw [List.lookup_cons] at e ⊢
    cases q : f == k with
    | true => rw [q] at e; cases e; exact ⟨_, rfl, h⟩
    | false => rw [q] at e; exact DatF.look t e
theorem DatF.lookN : ∀ {vs : List (Str × V)} {ps : List (Str × PV)} {f : Str}, DatF K W vs ps → ps.lookup f = none → vs.lookup f = none
  | _, _, _, .nil, _ => rfl
  | _, _, f, .cons (k := k) h t, e => by
    rw [List.lookup_cons] at e ⊢
    cases q : f == k with
    | true => rw [q] at e; cases e
    | false => rw [q] at e; exact DatF.lookN t e
end

/-- what is fixed through a law: the written part, what every shared cell keeps -/
structure Par where
  K : PySem.W.Frag
  PI : Hp → HO → Prop
  mono : ∀ D D' o, (∀ a u, D a = some u → D' a = some u) → PI D o → PI D' o

/-- a dict -/
def isD : HO → Prop
  | .dK _ => True
  | .dT _ => True
  | _ => False
structure Holds (Z : Par) (W : Wd) (H : Hp) : Prop where
  sub : ∀ a o, W.D a = some o → H a = some o ∨ (isD o ∧ ∃ ob, H a = some (.frz ob o))
  cel : ∀ a, W.M a → ∃ o, H a = some o ∧ Z.PI W.D o
  dis : ∀ a, W.M a → W.D a = none
section
variable {Z : Par} {W W' : Wd} {H H' : Hp}
theorem Holds.there (h : Holds Z W H) {a : Addr} {o : HO} (e : W.D a = some o) : ∃ u, H a = some u := by
  rcases h.sub a o e with q | ⟨_, ob, q⟩
  · exact ⟨_, q⟩
  · exact ⟨_, q⟩
theorem Holds.ex (h : Holds Z W H) {a : Addr} {o : HO} (e : W.D a = some o) (n : ¬ isD o) : H a = some o := by
  rcases h.sub a o e with q | ⟨d, _⟩
  · exact q
  · exact absurd d n
theorem Holds.rd (h : Holds Z W H) {a : Addr} {o : HO} (e : W.D a = some o) : Rd H a o := by
  rcases h.sub a o e with q | ⟨_, ob, q⟩
  · exact .inl q
  · exact .inr ⟨ob, q⟩
theorem Holds.new (h : Holds Z W H) {p : Addr} (n : H p = none) : W.D p = none := by
  cases e : W.D p with
  | none => rfl
  | some o =>
    obtain ⟨u, q⟩ := h.there e
    rw [n] at q; cases q
theorem Holds.newM (h : Holds Z W H) {p : Addr} (n : H p = none) : ¬ W.M p := fun m => by
  obtain ⟨o, q, _⟩ := h.cel p m
  rw [n] at q; cases q
end

structure Ext (Z : Par) (W : Wd) (H : Hp) (W' : Wd) (H' : Hp) : Prop where
  holds : Holds Z W' H'
  le : W.le W'
  base : ∀ a o, H a = some o → W.D a = none → ¬ W.M a → H' a = some o
  fr : ∀ a o, W'.D a = some o → W.D a = some o ∨ H a = none
  frM : ∀ a, W'.M a → W.M a ∨ H a = none
  fz : ∀ a od u, H a = some (.frz od u) → H' a = some (.frz od u)
/-- what only grows -/
structure Lt (W : Wd) (H : Hp) (W' : Wd) (H' : Hp) : Prop where
  le : W.le W'
  fz : ∀ a od u, H a = some (.frz od u) → H' a = some (.frz od u)
theorem Lt.refl (W : Wd) (H : Hp) : Lt W H W H := ⟨.refl W, fun _ _ _ h => h⟩
theorem Lt.trans {A B C : Wd} {H I J : Hp} (h : Lt A H B I) (g : Lt B I C J) : Lt A H C J := ⟨h.le.trans g.le, fun a o u e => g.fz a o u (h.fz a o u e)⟩
theorem Ext.lt {Z : Par} {W W' : Wd} {H H' : Hp} (e : Ext Z W H W' H') : Lt W H W' H' := ⟨e.le, e.fz⟩
section
variable {Z : Par} {W W1 W2 : Wd} {H H1 H2 : Hp}
theorem Ext.refl (h : Holds Z W H) : Ext Z W H W H := ⟨h, .refl W, fun _ _ e _ _ => e, fun _ _ e => .inl e, fun _ e => .inl e, fun _ _ _ e => e⟩
theorem Ext.nonE (e : Ext Z W H W1 H1) (h : Holds Z W H) {a : Addr} (n : H1 a = none) : H a = none := by
  cases q : H a with
  | none => rfl
  | some o =>
    by_cases m : W.M a
    · obtain ⟨u, z, _⟩ := e.holds.cel a (e.le.m a m)
      rw [n] at z; cases z
    · cases d : W.D a with
      | none => rw [e.base a o q d m] at n; cases n
      | some u =>
        obtain ⟨v, z⟩ := e.holds.there (e.le.d a u d)
        rw [n] at z; cases z
theorem Ext.trans (h : Holds Z W H) (e : Ext Z W H W1 H1) (f : Ext Z W1 H1 W2 H2) : Ext Z W H W2 H2 where
  holds := f.holds
  le := e.le.trans f.le
  base := fun a o q d n => by
    refine f.base a o (e.base a o q d n) ?_ fun m => ?_
    · cases r : W1.D a with
      | none => rfl
      | some u =>
        rcases e.fr a u r with z | z
        · rw [d] at z; cases z
        · rw [q] at z; cases z
    · rcases e.frM a m with z | z
      · exact n z
      · rw [q] at z; cases z
  fr := fun a o q => by
    rcases f.fr a o q with z | z
    · exact e.fr a o z
    · exact .inr (e.nonE h z)
  frM := fun a q => by
    rcases f.frM a q with z | z
    · exact e.frM a z
    · exact .inr (e.nonE h z)
  fz := fun a o u q => f.fz a o u (e.fz a o u q)
/-- a new tracked object, not frozen -/
theorem Holds.put (h : Holds Z W H) {p : Addr} {o : HO} (n : H p = none) : Holds Z W (upd H p o) where
  sub := fun a u e => by
    obtain ⟨v, q⟩ := h.there e
    rw [upd_ne (ne_of_none q n)]
    exact h.sub a u e
  cel := fun a m => by
    obtain ⟨u, q, r⟩ := h.cel a m
    exact ⟨u, by rw [upd_ne (ne_of_none q n)]; exact q, r⟩
  dis := h.dis
theorem Ext.put (h : Holds Z W H) {p : Addr} {o : HO} (n : H p = none) : Ext Z W H W (upd H p o) :=
  ⟨h.put n, .refl W, fun a u q _ _ => by rw [upd_ne (ne_of_none q n)]; exact q, fun _ _ e => .inl e, fun _ e => .inl e, fun a o u q => by rw [upd_ne (ne_of_none q n)]; exact q⟩
/-- freeze what stands at p -/
def Wd.add (W : Wd) (p : Addr) (o : HO) : Wd := ⟨upd W.D p o, W.M⟩
theorem Wd.le_add {p : Addr} {o : HO} (n : W.D p = none) : W.le (W.add p o) :=
  ⟨fun a u e => by show upd W.D p o a = _; rw [upd_ne (ne_of_none e n)]; exact e, fun _ m => m⟩
theorem Holds.freeze (h : Holds Z W H) {p : Addr} {o : HO} (n : W.D p = none) (m : ¬ W.M p) (e : H p = some o) : Holds Z (W.add p o) H where
  sub := fun a u q => by
    by_cases c : a = p
    · subst c
      have q' : upd W.D a o a = some u := q
      rw [upd_same] at q'
      cases q'
      exact .inl e
    · have q' : upd W.D p o a = some u := q
      rw [upd_ne c] at q'
      exact h.sub a u q'
  cel := fun a q => by
    obtain ⟨u, r, s⟩ := h.cel a q
    exact ⟨u, r, Z.mono _ _ _ (Wd.le_add n).d s⟩
  dis := fun a q => by
    show upd W.D p o a = none
    rw [upd_ne (fun c => m (by rw [← c]; exact q))]
    exact h.dis a q
/-- a new frozen object -/
theorem Ext.new (h : Holds Z W H) {p : Addr} {o : HO} (n : H p = none) : Ext Z W H (W.add p o) (upd H p o) where
  holds := (h.put n).freeze (h.new n) (h.newM n) upd_same
  le := Wd.le_add (h.new n)
  base := fun a u q _ _ => by rw [upd_ne (ne_of_none q n)]; exact q
  fr := fun a u q => by
    by_cases c : a = p
    · subst c; exact .inr n
    · have q' : upd W.D p o a = some u := q
      rw [upd_ne c] at q'
      exact .inl q'
  frM := fun a q => .inl q
  fz := fun a o u q => by rw [upd_ne (ne_of_none q n)]; exact q
/-- a frozen dict is locked -/
theorem Ext.lock (h : Holds Z W H) {d : Addr} {u : HO} (e : W.D d = some u) (i : isD u) (hd : H d = some u) (od : Obj) : Ext Z W H W (upd H d (.frz od u)) where
  holds :=
    { sub := fun a o q => by
        by_cases c : a = d
        · subst c
          rw [e] at q
          cases q
          exact .inr ⟨i, od, upd_same⟩
        · rw [upd_ne c]; exact h.sub a o q
      cel := fun a m => by
        obtain ⟨o, q, r⟩ := h.cel a m
        exact ⟨o, by rw [upd_ne (fun c => by rw [c] at m; rw [h.dis d m] at e; cases e)]; exact q, r⟩
      dis := h.dis }
  le := .refl W
  base := fun a o q n _ => by rw [upd_ne (fun c => by rw [c, e] at n; cases n)]; exact q
  fr := fun _ _ q => .inl q
  frM := fun _ q => .inl q
  fz := fun a o v q => by rw [upd_ne (fun c => by rw [c, hd] at q; cases q; exact i)]; exact q
theorem Wd.add_at {p : Addr} {o : HO} : (W.add p o).D p = some o := upd_same
end

/-! ### slots -/
inductive Slt where
  | no | val (p : PV) | own (p : PV)
/-- a list, dict, instance that the def alone holds -/
def OwnAt (K : PySem.W.Frag) (W : Wd) (H : Hp) (a : Addr) : PV → Prop
  | .lst l => ∃ xs, H a = some (.lst xs) ∧ DatL K W xs l
  | .dic l => ∃ xs, H a = some (.dK xs) ∧ DatK K W xs l
  | .dct l => ∃ xs, H a = some (.dT xs) ∧ DatT K W xs l
  | .obj c l => ∃ dx xs, H a = some (.ins (He.ga K c) dx xs) ∧ DatF K W xs l
  | _ => False
structure Slots (Z : Par) (W : Wd) (H0 H : Hp) (σ : L2.St) (ρ : List Slt) : Prop where
  len : σ.length = ρ.length
  val : ∀ (i : Nat) (p : PV), ρ[i]? = some (Slt.val p) → ∃ v, σ[i]? = some (some v) ∧ Dat Z.K W v p
  own : ∀ (i : Nat) (p : PV), ρ[i]? = some (Slt.own p) → ∃ a, σ[i]? = some (some (.ref a)) ∧ OwnAt Z.K W H a p ∧ H0 a = none ∧ W.D a = none ∧ ¬ W.M a
  dst : ∀ (i j : Nat) (a : Addr) (p q : PV), i ≠ j → ρ[i]? = some (Slt.own p) → ρ[j]? = some (Slt.own q) → σ[i]? = some (some (.ref a)) → σ[j]? = some (some (.ref a)) → False
section
variable {Z : Par} {W W' : Wd} {H0 H H' : Hp} {σ : L2.St} {ρ : List Slt}
theorem OwnAt.ob {K : PySem.W.Frag} {a : Addr} {p : PV} (h : OwnAt K W H a p) : ∃ o, H a = some o := by
  cases p <;> first | exact h.elim | (obtain ⟨xs, e, _⟩ := h; exact ⟨_, e⟩) | (obtain ⟨dx, xs, e, _⟩ := h; exact ⟨_, e⟩)
theorem OwnAt.mono {K : PySem.W.Frag} {a : Addr} {p : PV} (le : W.le W') (k : ∀ o, H a = some o → H' a = some o) (h : OwnAt K W H a p) : OwnAt K W' H' a p := by
  cases p with
  | lst l => obtain ⟨xs, e, r⟩ := h; exact ⟨xs, k _ e, r.mono le⟩
  | dic l => obtain ⟨xs, e, r⟩ := h; exact ⟨xs, k _ e, r.mono le⟩
  | dct l => obtain ⟨xs, e, r⟩ := h; exact ⟨xs, k _ e, r.mono le⟩
  | obj c l => obtain ⟨dx, xs, e, r⟩ := h; exact ⟨dx, xs, k _ e, r.mono le⟩
  | _ => exact h.elim
theorem Slots.ext (S : Slots Z W H0 H σ ρ) (e : Ext Z W H W' H') : Slots Z W' H0 H' σ ρ where
  len := S.len
  val := fun i p q => let ⟨v, h1, h2⟩ := S.val i p q; ⟨v, h1, h2.mono e.le⟩
  own := fun i p q => by
    obtain ⟨a, h1, h2, h3, h4, h5⟩ := S.own i p q
    obtain ⟨o, ho⟩ := h2.ob
    refine ⟨a, h1, h2.mono e.le (fun u hu => e.base a u hu h4 h5), h3, ?_, fun m => ?_⟩
    · cases r : W'.D a with
      | none => rfl
      | some u =>
        rcases e.fr a u r with z | z
        · rw [h4] at z; cases z
        · rw [ho] at z; cases z
    · rcases e.frM a m with z | z
      · exact h5 z
      · rw [ho] at z; cases z
  dst := S.dst
theorem Slots.setVal (S : Slots Z W H0 H σ ρ) (i : Nat) {v : V} {p : PV} (d : Dat Z.K W v p) : Slots Z W H0 H (σ.set i (some v)) (ρ.set i (Slt.val p)) where
  len := by rw [List.length_set, List.length_set]; exact S.len
  val := fun j q e => by
    by_cases c : i = j
    · subst c
      by_cases l : i < ρ.length
      · rw [List.getElem?_set_self l] at e
        cases e
        exact ⟨v, List.getElem?_set_self (by rw [S.len]; exact l), d⟩
      · rw [List.getElem?_eq_none (by simpa using l)] at e; cases e
    · rw [List.getElem?_set_ne c] at e ⊢
      exact S.val j q e
  own := fun j q e => by
    by_cases c : i = j
    · subst c
      by_cases l : i < ρ.length
      · rw [List.getElem?_set_self l] at e; cases e
      · rw [List.getElem?_eq_none (by simpa using l)] at e; cases e
    · rw [List.getElem?_set_ne c] at e ⊢
      exact S.own j q e
  dst := fun j k a q r n e f g h => by
    by_cases c : i = j
    · subst c
      by_cases l : i < ρ.length
      · rw [List.getElem?_set_self l] at e; cases e
      · rw [List.getElem?_eq_none (by simpa using l)] at e; cases e
    · by_cases c2 : i = k
      · subst c2
        by_cases l : i < ρ.length
        · rw [List.getElem?_set_self l] at f; cases f
        · rw [List.getElem?_eq_none (by simpa using l)] at f; cases f
      · rw [List.getElem?_set_ne c] at e g
        rw [List.getElem?_set_ne c2] at f h
        exact S.dst j k a q r n e f g h
/-- an own thing is stored -/
theorem Slots.setOwn (S : Slots Z W H0 H σ ρ) (i : Nat) {a : Addr} {p : PV} (d : OwnAt Z.K W H a p) (h0 : H0 a = none) (hD : W.D a = none) (hM : ¬ W.M a)
    (nw : ∀ (j : Nat) (q : PV), ρ[j]? = some (Slt.own q) → σ[j]? ≠ some (some (.ref a))) : Slots Z W H0 H (σ.set i (some (.ref a))) (ρ.set i (Slt.own p)) where
  len := by rw [List.length_set, List.length_set]; exact S.len
  val := fun j q e => by
    by_cases c : i = j
    · subst c
      by_cases l : i < ρ.length
      · rw [List.getElem?_set_self l] at e; cases e
      · rw [List.getElem?_eq_none (by simpa using l)] at e; cases e
    · rw [List.getElem?_set_ne c] at e ⊢
      exact S.val j q e
  own := fun j q e => by
    by_cases c : i = j
    · subst c
      by_cases l : i < ρ.length
      · rw [List.getElem?_set_self l] at e
        cases e
        exact ⟨a, List.getElem?_set_self (by rw [S.len]; exact l), d, h0, hD, hM⟩
      · rw [List.getElem?_eq_none (by simpa using l)] at e; cases e
    · rw [List.getElem?_set_ne c] at e ⊢
      exact S.own j q e
  dst := fun j k b q r n e f g h => by
    by_cases c : i = j
    · subst c
      rw [List.getElem?_set_ne n] at f h
      by_cases l : i < σ.length
      · rw [List.getElem?_set_self l] at g
        cases g
        exact nw k r f h
      · rw [List.getElem?_eq_none (by simpa using l)] at g; cases g
    · by_cases c2 : i = k
      · subst c2
        rw [List.getElem?_set_ne c] at e g
        by_cases l : i < σ.length
        · rw [List.getElem?_set_self l] at h
          cases h
          exact nw j q e g
        · rw [List.getElem?_eq_none (by simpa using l)] at h; cases h
      · rw [List.getElem?_set_ne c] at e g
        rw [List.getElem?_set_ne c2] at f h
        exact S.dst j k b q r n e f g h
theorem Slots.setNo (S : Slots Z W H0 H σ ρ) (i : Nat) : Slots Z W H0 H (σ.set i none) (ρ.set i Slt.no) where
  len := by rw [List.length_set, List.length_set]; exact S.len
  val := fun j q e => by
    by_cases c : i = j
    · subst c
      by_cases l : i < ρ.length
      · rw [List.getElem?_set_self l] at e; cases e
      · rw [List.getElem?_eq_none (by simpa using l)] at e; cases e
    · rw [List.getElem?_set_ne c] at e ⊢
      exact S.val j q e
  own := fun j q e => by
    by_cases c : i = j
    · subst c
      by_cases l : i < ρ.length
      · rw [List.getElem?_set_self l] at e; cases e
      · rw [List.getElem?_eq_none (by simpa using l)] at e; cases e
    · rw [List.getElem?_set_ne c] at e ⊢
      exact S.own j q e
  dst := fun j k a q r n e f g h => by
    by_cases c : i = j
    · subst c
      by_cases l : i < ρ.length
      · rw [List.getElem?_set_self l] at e; cases e
      · rw [List.getElem?_eq_none (by simpa using l)] at e; cases e
    · by_cases c2 : i = k
      · subst c2
        by_cases l : i < ρ.length
        · rw [List.getElem?_set_self l] at f; cases f
        · rw [List.getElem?_eq_none (by simpa using l)] at f; cases f
      · rw [List.getElem?_set_ne c] at e g
        rw [List.getElem?_set_ne c2] at f h
        exact S.dst j k a q r n e f g h
end
end L3

/-! ## L3B -/
/-! Judgements over pure values: expressions, tests, operators, calls. -/
namespace L3
open PySem PySem.Spec PyProof.Rows L2

abbrev PTE := List Slt → (PV → Prop) → Prop
abbrev PTT := List Slt → (Bool → Prop) → Prop
abbrev PTA := List Slt → (List PV → Prop) → Prop
def lift (Z : Par) (t : PTE) : TE := fun σ H Q => ∃ W H0 ρ Qp, Holds Z W H ∧ Slots Z W H0 H σ ρ ∧ t ρ Qp ∧ ∀ W' H' v p, Ext Z W H W' H' → Dat Z.K W' v p → Qp p → Q v H'
def liftT (Z : Par) (t : PTT) : TT := fun σ H Q => ∃ W H0 ρ Qp, Holds Z W H ∧ Slots Z W H0 H σ ρ ∧ t ρ Qp ∧ ∀ W' H' b, Ext Z W H W' H' → Qp b → Q b H'
def liftA (Z : Par) (t : PTA) : TA := fun σ H Q => ∃ W H0 ρ Qp, Holds Z W H ∧ Slots Z W H0 H σ ρ ∧ t ρ Qp ∧ ∀ W' H' vs ps, Ext Z W H W' H' → DatL Z.K W' vs ps → Qp ps → Q vs H'

section
variable {X : Cx}
theorem PEw {e : Expr} {t t' : TE} (h : PE X e t) (w : ∀ σ H Q, t' σ H Q → t σ H Q) : PE X e t' := ⟨fun pins s σ H Q I q => h.run pins s σ H Q I (w _ _ _ q)⟩
theorem PTw {e : Expr} {t t' : TT} (h : PT X e t) (w : ∀ σ H Q, t' σ H Q → t σ H Q) : PT X e t' := ⟨fun pins s σ H Q I q => h.run pins s σ H Q I (w _ _ _ q)⟩
theorem PWw {e : Expr} {t t' : TT} (h : PW X e t) (w : ∀ σ H Q, t' σ H Q → t σ H Q) : PW X e t' := ⟨fun whole pins s σ H Q I q => h.run whole pins s σ H Q I (w _ _ _ q)⟩
theorem PAw {e : List Expr} {t t' : TA} (h : PA X e t) (w : ∀ σ H Q, t' σ H Q → t σ H Q) : PA X e t' := ⟨fun pos pins s σ H Q I q => h.run pos pins s σ H Q I (w _ _ _ q)⟩
theorem PSw {e : Stmt} {t t' : TS} (h : PS X e t) (w : ∀ D σ H, t' D σ H → t D σ H) : PS X e t' := ⟨fun pins s σ H D I q => h.run pins s σ H D I (w _ _ _ q)⟩
theorem PSsw {e : List Stmt} {t t' : TS} (h : PSs X e t) (w : ∀ D σ H, t' D σ H → t D σ H) : PSs X e t' := ⟨fun pins s σ H D I q => h.run pins s σ H D I (w _ _ _ q)⟩
theorem PIw {tg e : Expr} {t t' : TI} (h : PI X tg e t) (w : ∀ σ H R, t' σ H R → t σ H R) : PI X tg e t' := ⟨fun pins s σ H R I q => h.run pins s σ H R I (w _ _ _ q)⟩
end

/-! ### atoms -/
def pVar (i : Nat) : PTE := fun ρ Q => match ρ[i]? with
  | some (.val p) => Q p
  | _ => False
def pC (p : PV) : PTE := fun _ Q => Q p
section
variable {X : Cx} {Z : Par}
theorem q_var {i : Nat} {x : Str} {pos : Pos} (hN : X.N[i]? = some x := by rfl) (hv : Vis X.env.scope x := by first | exact .inl rfl | exact .inr (.inl rfl) | exact .inr (.inr rfl)) (hd : (x == ("__debug__" : Str)) = false := by decide) (hcd : (x == ("__classdict__" : Str)) = false := by decide) :
    PE X (.Name x pos) (lift Z (pVar i)) := by
  refine PEw (pe_var hN hv hd hcd) fun σ H Q ⟨W, H0, ρ, Qp, h, S, t, q⟩ => ?_
  unfold pVar at t
  split at t
  · rename_i p e
    obtain ⟨v, h1, h2⟩ := S.val i p e
    exact ⟨v, h1, q W H v p (.refl h) h2 t⟩
  · exact t.elim
theorem q_const {e : Expr} {v : V} {p : PV} (h : PE X e (tC v)) (d : ∀ W, Dat Z.K W v p) : PE X e (lift Z (pC p)) :=
  PEw h fun σ H Q ⟨W, H0, ρ, Qp, h, S, t, q⟩ => q W H v p (.refl h) (d W) t
theorem q_int {i j pos} : PE X (.Constant (.int i) j pos) (lift Z (pC (.int i))) := q_const pe_int fun _ => .int _
theorem q_bl {b j pos} : PE X (.Constant (.bool b) j pos) (lift Z (pC (.bl b))) := q_const pe_bl fun _ => .bl _
theorem q_non {j pos} : PE X (.Constant .none j pos) (lift Z (pC .non)) := q_const pe_non fun _ => .non
theorem q_str {x j pos} : PE X (.Constant (.str x) j pos) (lift Z (pC (.str x))) := q_const pe_str fun _ => .str _
/-- a built-in class as a value -/
theorem q_ty {x : Str} {n : String} {pos : Pos} (hm : X.mg x = none) (hv : bootBuiltins x = some (.type n)) (hg : Gl X x := by rfl) (hn : x ≠ "__name__" := by decide) (hd : (x == ("__debug__" : Str)) = false := by decide) :
    PE X (.Name x pos) (lift Z (pC (.ty n))) := q_const (pe_bltn (v := .ty n) hg hm hv rfl hn hd) fun _ => .ty _
/-- a module's constant -/
theorem q_gint {x : Str} {i : Int} {pos : Pos} (hm : ∃ t, X.mg x = some (.int i t)) (hg : Gl X x := by rfl) (hd : (x == ("__debug__" : Str)) = false := by decide) : PE X (.Name x pos) (lift Z (pC (.int i))) :=
  let ⟨t, e⟩ := hm
  q_const (pe_glob (v := .int i) hg e ⟨t, rfl⟩ hd) fun _ => .int _
theorem q_gstr {x z : Str} {pos : Pos} (hm : ∃ t, X.mg x = some (.str z t)) (hg : Gl X x := by rfl) (hd : (x == ("__debug__" : Str)) = false := by decide) : PE X (.Name x pos) (lift Z (pC (.str z))) :=
  let ⟨t, e⟩ := hm
  q_const (pe_glob (v := .str z) hg e ⟨t, rfl⟩ hd) fun _ => .str _

/-! ### operators -/
abbrev PK2 := PV → PV → (PV → Prop) → Prop
structure OpP (Z : Par) (X : Cx) (f : Value → Value → Sem Value) (k : PK2) : Prop where
  ex : ∃ r : R2, OpR X f r ∧ ∀ W H x y p q Q Qp, Holds Z W H → Dat Z.K W x p → Dat Z.K W y q → k p q Qp → (∀ W' H' v r, Ext Z W H W' H' → Dat Z.K W' v r → Qp r → Q v H') → r x y H Q
def pBin (k : PK2) (ta tb : PTE) : PTE := fun ρ Q => ta ρ fun p => tb ρ fun q => k p q Q
theorem lift_bin {k : PK2} {r : R2} {ta tb : PTE} (w : ∀ W H x y p q Q Qp, Holds Z W H → Dat Z.K W x p → Dat Z.K W y q → k p q Qp → (∀ W' H' v r, Ext Z W H W' H' → Dat Z.K W' v r → Qp r → Q v H') → r x y H Q)
    (σ : L2.St) (H : Hp) (Q : VK) (h : lift Z (pBin k ta tb) σ H Q) : tOp r (lift Z ta) (lift Z tb) σ H Q := by
  obtain ⟨W, H0, ρ, Qp, hh, S, t, q⟩ := h
  refine ⟨W, H0, ρ, _, hh, S, t, fun W1 H1 v p e1 d1 t1 => ?_⟩
  refine ⟨W1, H0, ρ, _, e1.holds, S.ext e1, t1, fun W2 H2 u p2 e2 d2 t2 => ?_⟩
  exact w W2 H2 v u p p2 Q Qp e2.holds (d1.mono e2.le) d2 t2 fun W3 H3 z pz e3 d3 t3 => q W3 H3 z pz ((e1.trans hh e2).trans hh e3) d3 t3
theorem q_op {op : Operator} {k : PK2} {a b : Expr} {ta tb : PTE} {pos : Pos} (o : OpP Z X (binaryOp op) k) (ha : PE X a (lift Z ta)) (hb : PE X b (lift Z tb)) : PE X (.BinOp a op b pos) (lift Z (pBin k ta tb)) := by
  obtain ⟨r, ho, w⟩ := o.ex
  exact PEw (pe_op ho ha hb) fun σ H Q => lift_bin w σ H Q
theorem q_cmp {op : CmpOp} {k : PK2} {a b : Expr} {ta tb : PTE} {pos : Pos} (o : OpP Z X (compareOp op) k) (ha : PE X a (lift Z ta)) (hb : PE X b (lift Z tb))
    (hm : behindInMarks op b = false := by first | exact nobehind _ (by decide) (by decide) | rfl) : PE X (.Compare a [op] [b] pos) (lift Z (pBin k ta tb)) := by
  obtain ⟨r, ho, w⟩ := o.ex
  exact PEw (pe_cmpR ho ha hb hm) fun σ H Q => lift_bin w σ H Q
/-- a bool as a test -/
def pTst (t : PTE) : PTT := fun ρ Q => t ρ fun p => match p with
  | .bl b => Q b
  | _ => False
theorem tst_of {t : PTE} (σ : L2.St) (H : Hp) (Q : Bool → Hp → Prop) (h : liftT Z (pTst t) σ H Q) : lift Z t σ H fun x H' => ∃ k, x = .bl k ∧ Q k H' := by
  obtain ⟨W, H0, ρ, Qp, hh, S, t, q⟩ := h
  refine ⟨W, H0, ρ, _, hh, S, t, fun W1 H1 v p e1 d1 t1 => ?_⟩
  cases d1 with
  | bl b => exact ⟨b, rfl, q W1 H1 b e1 t1⟩
  | _ => exact t1.elim
theorem qt_cmp {op : CmpOp} {k : PK2} {a b : Expr} {ta tb : PTE} {pos : Pos} (o : OpP Z X (compareOp op) k) (ha : PE X a (lift Z ta)) (hb : PE X b (lift Z tb))
    (hm : behindInMarks op b = false := by first | exact nobehind _ (by decide) (by decide) | rfl) : PT X (.Compare a [op] [b] pos) (liftT Z (pTst (pBin k ta tb))) := by
  obtain ⟨r, ho, w⟩ := o.ex
  refine PTw (pt_cmpR ho ha hb hm) fun σ H Q h => ?_
  exact lift_bin w σ H _ (tst_of σ H Q h)
theorem qt_val {e : Expr} {t : PTE} (h : PE X e (lift Z t)) (he : ∀ whole, isTrue e X.env whole = (do let v ← whole; standAt e.pos; holding [v] (truthy v)) := by intro _; rfl) : PT X e (liftT Z (pTst t)) :=
  PTw (pt_val h he) fun σ H Q h => tst_of σ H Q h
/-- a chain -/
def pChain (k k' : PK2) (ta tb tc : PTE) : PTE := fun ρ Q => ta ρ fun p => tb ρ fun q => k p q fun r => match r with
  | .bl true => tc ρ fun z => k' q z Q
  | .bl false => Q (.bl false)
  | _ => False
theorem lift_chain {k k' : PK2} {r r' : R2} {ta tb tc : PTE} (w : ∀ W H x y p q Q Qp, Holds Z W H → Dat Z.K W x p → Dat Z.K W y q → k p q Qp → (∀ W' H' v r, Ext Z W H W' H' → Dat Z.K W' v r → Qp r → Q v H') → r x y H Q)
    (w' : ∀ W H x y p q Q Qp, Holds Z W H → Dat Z.K W x p → Dat Z.K W y q → k' p q Qp → (∀ W' H' v r, Ext Z W H W' H' → Dat Z.K W' v r → Qp r → Q v H') → r' x y H Q)
    (σ : L2.St) (H : Hp) (Q : VK) (h : lift Z (pChain k k' ta tb tc) σ H Q) : tChain r r' (lift Z ta) (lift Z tb) (lift Z tc) σ H Q := by
  obtain ⟨W, H0, ρ, Qp, hh, S, t, q⟩ := h
  refine ⟨W, H0, ρ, _, hh, S, t, fun W1 H1 v p e1 d1 t1 => ?_⟩
  refine ⟨W1, H0, ρ, _, e1.holds, S.ext e1, t1, fun W2 H2 u p2 e2 d2 t2 => ?_⟩
  refine w W2 H2 v u p p2 _ _ e2.holds (d1.mono e2.le) d2 t2 fun W3 H3 z pz e3 d3 t3 => ?_
  have E3 := (e1.trans hh e2).trans hh e3
  cases d3 with
  | bl b =>
    refine ⟨b, rfl, ?_⟩
    cases b with
    | true =>
      refine (if_pos rfl).mpr ⟨W3, H0, ρ, _, e3.holds, S.ext E3, t3, fun W4 H4 z4 p4 e4 d4 t4 => ?_⟩
      exact w' W4 H4 u z4 p2 p4 Q Qp e4.holds ((d2.mono e3.le).mono e4.le) d4 t4 fun W5 H5 z5 p5 e5 d5 t5 => q W5 H5 z5 p5 ((E3.trans hh e4).trans hh e5) d5 t5
    | false => exact (if_neg (by decide)).mpr (q W3 H3 _ _ E3 (.bl false) t3)
  | _ => exact t3.elim
theorem q_chain {op op' : CmpOp} {k k' : PK2} {a b c : Expr} {ta tb tc : PTE} {pos : Pos} (o : OpP Z X (compareOp op) k) (o' : OpP Z X (compareOp op') k') (ha : PE X a (lift Z ta)) (hb : PE X b (lift Z tb)) (hc : PE X c (lift Z tc))
    (hm : lastMarks [op, op'] [b, c] = false := by with_unfolding_all rfl) : PE X (.Compare a [op, op'] [b, c] pos) (lift Z (pChain k k' ta tb tc)) := by
  obtain ⟨r, ho, w⟩ := o.ex
  obtain ⟨r', ho', w'⟩ := o'.ex
  exact PEw (pe_chain ho ho' ha hb hc hm) fun σ H Q => lift_chain w w' σ H Q
theorem qt_chain {op op' : CmpOp} {k k' : PK2} {a b c : Expr} {ta tb tc : PTE} {pos : Pos} (o : OpP Z X (compareOp op) k) (o' : OpP Z X (compareOp op') k') (ha : PE X a (lift Z ta)) (hb : PE X b (lift Z tb)) (hc : PE X c (lift Z tc))
    (hm : lastMarks [op, op'] [b, c] = false := by with_unfolding_all rfl) : PT X (.Compare a [op, op'] [b, c] pos) (liftT Z (pTst (pChain k k' ta tb tc))) := by
  obtain ⟨r, ho, w⟩ := o.ex
  obtain ⟨r', ho', w'⟩ := o'.ex
  exact PTw (pt_chain ho ho' ha hb hc hm) fun σ H Q h => lift_chain w w' σ H _ (tst_of σ H Q h)

/-! ### and, or, not, if -/
def pAndT (a b : PTT) : PTT := fun ρ Q => a ρ fun c => match c with
  | true => b ρ Q
  | false => Q false
def pOrT (a b : PTT) : PTT := fun ρ Q => a ρ fun c => match c with
  | true => Q true
  | false => b ρ Q
def pNotT (a : PTT) : PTT := fun ρ Q => a ρ fun c => Q (!c)
theorem qw_and1 {a : Expr} {pos : Pos} {t : PTT} (ha : PT X a (liftT Z t)) : PW X (.BoolOp .And [a] pos) (liftT Z t) := pw_and1 ha
theorem qw_or1 {a : Expr} {pos : Pos} {t : PTT} (ha : PT X a (liftT Z t)) : PW X (.BoolOp .Or [a] pos) (liftT Z t) := pw_or1 ha
theorem qw_and {a b : Expr} {rest : List Expr} {pos : Pos} {t u : PTT} (ha : PT X a (liftT Z t)) (hb : PW X (.BoolOp .And (b :: rest) pos) (liftT Z u)) : PW X (.BoolOp .And (a :: b :: rest) pos) (liftT Z (pAndT t u)) :=
  PWw (pw_and ha hb) fun σ H Q ⟨W, H0, ρ, Qp, hh, S, t, q⟩ => by
    refine ⟨W, H0, ρ, _, hh, S, t, fun W1 H1 c e1 t1 => ?_⟩
    cases c with
    | true => exact (if_pos rfl).mpr ⟨W1, H0, ρ, _, e1.holds, S.ext e1, t1, fun W2 H2 b e2 t2 => q W2 H2 b (e1.trans hh e2) t2⟩
    | false => exact (if_neg (by decide)).mpr (q W1 H1 false e1 t1)
theorem qw_or {a b : Expr} {rest : List Expr} {pos : Pos} {t u : PTT} (ha : PT X a (liftT Z t)) (hb : PW X (.BoolOp .Or (b :: rest) pos) (liftT Z u)) : PW X (.BoolOp .Or (a :: b :: rest) pos) (liftT Z (pOrT t u)) :=
  PWw (pw_or ha hb) fun σ H Q ⟨W, H0, ρ, Qp, hh, S, t, q⟩ => by
    refine ⟨W, H0, ρ, _, hh, S, t, fun W1 H1 c e1 t1 => ?_⟩
    cases c with
    | true => exact (if_pos rfl).mpr (q W1 H1 true e1 t1)
    | false => exact (if_neg (by decide)).mpr ⟨W1, H0, ρ, _, e1.holds, S.ext e1, t1, fun W2 H2 b e2 t2 => q W2 H2 b (e1.trans hh e2) t2⟩
theorem qt_not {a : Expr} {pos : Pos} {t : PTT} (ha : PT X a (liftT Z t)) : PT X (.UnaryOp .Not a pos) (liftT Z (pNotT t)) :=
  PTw (pt_not ha) fun σ H Q ⟨W, H0, ρ, Qp, hh, S, t, q⟩ => ⟨W, H0, ρ, _, hh, S, t, fun W1 H1 c e1 t1 => q W1 H1 _ e1 t1⟩
/-- as values: all but the last bools -/
def pAndV (a b : PTE) : PTE := fun ρ Q => a ρ fun c => match c with
  | .bl true => b ρ Q
  | .bl false => Q (.bl false)
  | _ => False
def pOrV (a b : PTE) : PTE := fun ρ Q => a ρ fun c => match c with
  | .bl true => Q (.bl true)
  | .bl false => b ρ Q
  | _ => False
def pNotV (a : PTE) : PTE := fun ρ Q => a ρ fun c => match c with
  | .bl b => Q (.bl (!b))
  | _ => False
theorem q_one {op} {a : Expr} {pos : Pos} {t : PTE} (h : PE X a (lift Z t)) : PE X (.BoolOp op [a] pos) (lift Z t) := pe_one h
theorem q_and {a b : Expr} {rest : List Expr} {pos : Pos} {t u : PTE} (ha : PE X a (lift Z t)) (hb : PE X (.BoolOp .And (b :: rest) pos) (lift Z u)) : PE X (.BoolOp .And (a :: b :: rest) pos) (lift Z (pAndV t u)) :=
  PEw (pe_and ha hb) fun σ H Q ⟨W, H0, ρ, Qp, hh, S, t, q⟩ => by
    refine ⟨W, H0, ρ, _, hh, S, t, fun W1 H1 v p e1 d1 t1 => ?_⟩
    cases d1 with
    | bl c =>
      refine ⟨c, rfl, ?_⟩
      cases c with
      | true => exact (if_pos rfl).mpr ⟨W1, H0, ρ, _, e1.holds, S.ext e1, t1, fun W2 H2 v p e2 d2 t2 => q W2 H2 v p (e1.trans hh e2) d2 t2⟩
      | false => exact (if_neg (by decide)).mpr (q W1 H1 _ _ e1 (.bl false) t1)
    | _ => exact t1.elim
theorem q_or {a b : Expr} {rest : List Expr} {pos : Pos} {t u : PTE} (ha : PE X a (lift Z t)) (hb : PE X (.BoolOp .Or (b :: rest) pos) (lift Z u)) : PE X (.BoolOp .Or (a :: b :: rest) pos) (lift Z (pOrV t u)) :=
  PEw (pe_or ha hb) fun σ H Q ⟨W, H0, ρ, Qp, hh, S, t, q⟩ => by
    refine ⟨W, H0, ρ, _, hh, S, t, fun W1 H1 v p e1 d1 t1 => ?_⟩
    cases d1 with
    | bl c =>
      refine ⟨c, rfl, ?_⟩
      cases c with
      | true => exact (if_pos rfl).mpr (q W1 H1 _ _ e1 (.bl true) t1)
      | false => exact (if_neg (by decide)).mpr ⟨W1, H0, ρ, _, e1.holds, S.ext e1, t1, fun W2 H2 v p e2 d2 t2 => q W2 H2 v p (e1.trans hh e2) d2 t2⟩
    | _ => exact t1.elim
theorem q_not {a : Expr} {pos : Pos} {t : PTE} (ha : PE X a (lift Z t)) : PE X (.UnaryOp .Not a pos) (lift Z (pNotV t)) :=
  PEw (pe_not ha) fun σ H Q ⟨W, H0, ρ, Qp, hh, S, t, q⟩ => by
    refine ⟨W, H0, ρ, _, hh, S, t, fun W1 H1 v p e1 d1 t1 => ?_⟩
    cases d1 with
    | bl c => exact ⟨c, rfl, q W1 H1 _ _ e1 (.bl _) t1⟩
    | _ => exact t1.elim
def pIf (c : PTT) (a b : PTE) : PTE := fun ρ Q => c ρ fun k => match k with
  | true => a ρ Q
  | false => b ρ Q
theorem q_if {c a b : Expr} {pos : Pos} {tc : PTT} {t u : PTE} (hc : PT X c (liftT Z tc)) (ha : PE X a (lift Z t)) (hb : PE X b (lift Z u)) : PE X (.IfExp c a b pos) (lift Z (pIf tc t u)) :=
  PEw (pe_ifExp hc ha hb) fun σ H Q ⟨W, H0, ρ, Qp, hh, S, t, q⟩ => by
    refine ⟨W, H0, ρ, _, hh, S, t, fun W1 H1 c e1 t1 => ?_⟩
    cases c with
    | true => exact (if_pos rfl).mpr ⟨W1, H0, ρ, _, e1.holds, S.ext e1, t1, fun W2 H2 v p e2 d2 t2 => q W2 H2 v p (e1.trans hh e2) d2 t2⟩
    | false => exact (if_neg (by decide)).mpr ⟨W1, H0, ρ, _, e1.holds, S.ext e1, t1, fun W2 H2 v p e2 d2 t2 => q W2 H2 v p (e1.trans hh e2) d2 t2⟩
/-- an expression that is not reached -/
def pNever : PTE := fun _ _ => False
theorem q_never {e : Expr} : PE X e (lift Z pNever) := ⟨fun _ _ _ _ _ _ h => by obtain ⟨_, _, _, _, _, _, z, _⟩ := h; exact z.elim⟩

/-! ### argument lists, displays -/
def pNil : PTA := fun _ Q => Q []
def pCons (t : PTE) (u : PTA) : PTA := fun ρ Q => t ρ fun p => u ρ fun ps => Q (p :: ps)
theorem qa_nil : PA X [] (liftA Z pNil) := PAw pa_nil fun σ H Q ⟨W, H0, ρ, Qp, hh, S, t, q⟩ => q W H [] [] (.refl hh) .nil t
theorem qa_cons {e : Expr} {es : List Expr} {t : PTE} {u : PTA} (ha : PE X e (lift Z t)) (hr : PA X es (liftA Z u)) (hs : starEach (e :: es) X.env = (false, eval e X.env) :: starEach es X.env := by rfl) : PA X (e :: es) (liftA Z (pCons t u)) :=
  PAw (pa_cons ha hr hs) fun σ H Q ⟨W, H0, ρ, Qp, hh, S, t, q⟩ =>
    ⟨W, H0, ρ, _, hh, S, t, fun W1 H1 v p e1 d1 t1 => ⟨W1, H0, ρ, _, e1.holds, S.ext e1, t1, fun W2 H2 vs ps e2 d2 t2 => q W2 H2 _ _ (e1.trans hh e2) (.cons (d1.mono e2.le) d2) t2⟩⟩
def pTup (t : PTA) : PTE := fun ρ Q => t ρ fun ps => ps.length ≤ sizeLine ∧ Q (.tup ps)
def pLst (t : PTA) : PTE := fun ρ Q => t ρ fun ps => ps.length ≤ sizeLine ∧ Q (.lst ps)
theorem q_tup {es : List Expr} {x1} {pos : Pos} {t : PTA} (h : PA X es (liftA Z t)) : PE X (.Tuple es x1 pos) (lift Z (pTup t)) :=
  PEw (pe_tup h) fun σ H Q ⟨W, H0, ρ, Qp, hh, S, t, q⟩ =>
    ⟨W, H0, ρ, _, hh, S, t, fun W1 H1 vs ps e1 d1 t1 => ⟨by rw [d1.length]; exact t1.1, fun p n => by
      have e2 := Ext.new (o := .tup vs) e1.holds n
      exact q _ _ _ _ (e1.trans hh e2) (.tup Wd.add_at (d1.mono e2.le)) t1.2⟩⟩
theorem q_lst {es : List Expr} {pos : Pos} {t : PTA} (h : PA X es (liftA Z t)) : PE X (.List es pos) (lift Z (pLst t)) :=
  PEw (pe_lst h) fun σ H Q ⟨W, H0, ρ, Qp, hh, S, t, q⟩ =>
    ⟨W, H0, ρ, _, hh, S, t, fun W1 H1 vs ps e1 d1 t1 => ⟨by rw [d1.length]; exact t1.1, fun p n => by
      have e2 := Ext.new (o := .lst vs) e1.holds n
      exact q _ _ _ _ (e1.trans hh e2) (.lst Wd.add_at (d1.mono e2.le)) t1.2⟩⟩

/-! ### calls of built-ins -/
abbrev PKA := List PV → (PV → Prop) → Prop
structure CallP (Z : Par) (X : Cx) (f : Value) (k : PKA) : Prop where
  ex : ∃ r : List V → Hp → VK → Prop, CallR X f r ∧ ∀ W H xs ps Q Qp, Holds Z W H → DatL Z.K W xs ps → k ps Qp → (∀ W' H' v r, Ext Z W H W' H' → Dat Z.K W' v r → Qp r → Q v H') → r xs H Q
def pCallB (k : PKA) (t : PTA) : PTE := fun ρ Q => t ρ fun ps => k ps Q
theorem lift_callB {k : PKA} {r : List V → Hp → VK → Prop} {t : PTA} (w : ∀ W H xs ps Q Qp, Holds Z W H → DatL Z.K W xs ps → k ps Qp → (∀ W' H' v r, Ext Z W H W' H' → Dat Z.K W' v r → Qp r → Q v H') → r xs H Q)
    (σ : L2.St) (H : Hp) (Q : VK) (h : lift Z (pCallB k t) σ H Q) : tCB r (liftA Z t) σ H Q := by
  obtain ⟨W, H0, ρ, Qp, hh, S, t, q⟩ := h
  refine ⟨W, H0, ρ, _, hh, S, t, fun W1 H1 vs ps e1 d1 t1 => ?_⟩
  exact w W1 H1 vs ps Q Qp e1.holds d1 t1 fun W2 H2 v p e2 d2 t2 => q W2 H2 v p (e1.trans hh e2) d2 t2
theorem q_callB {id : String} {k : PKA} {x : Str} {p pos : Pos} {e : Expr} {es : List Expr} {t : PTA} (c : CallP Z X (.builtin id) k) (hm : X.mg x = none) (hv : bootBuiltins x = some (.builtin id)) (ha : PA X (e :: es) (liftA Z t)) (hg : Gl X x := by rfl)
    (hn : x ≠ "__name__" := by decide) (hdb : (x == ("__debug__" : Str)) = false := by decide) (he : starEach (e :: es) X.env = (false, eval e X.env) :: starEach es X.env := by rfl) (hpl : (backTo pos (starEach es X.env)).any (·.1) = false := by rfl) :
    PE X (.Call (.Name x p) (e :: es) [] pos) (lift Z (pCallB k t)) := by
  obtain ⟨r, hc, w⟩ := c.ex
  exact PEw (pe_callB hc hg hm hv ha hn hdb he hpl) fun σ H Q => lift_callB w σ H Q
theorem q_callTy {T : String} {k : PKA} {x : Str} {p pos : Pos} {e : Expr} {es : List Expr} {t : PTA} (c : CallP Z X (.type T) k) (hm : X.mg x = none) (hv : bootBuiltins x = some (.type T)) (ha : PA X (e :: es) (liftA Z t)) (hg : Gl X x := by rfl)
    (hn : x ≠ "__name__" := by decide) (hdb : (x == ("__debug__" : Str)) = false := by decide) (he : starEach (e :: es) X.env = (false, eval e X.env) :: starEach es X.env := by rfl) (hpl : (backTo pos (starEach es X.env)).any (·.1) = false := by rfl) :
    PE X (.Call (.Name x p) (e :: es) [] pos) (lift Z (pCallB k t)) := by
  obtain ⟨r, hc, w⟩ := c.ex
  exact PEw (pe_callTy hc hg hm hv ha hn hdb he hpl) fun σ H Q => lift_callB w σ H Q

/-! ### promises of defs -/
abbrev Con := List PV → (PV → Prop) → Prop
def spP (Z : Par) (Φ : Con) : Sp := fun vs H Q _ => ∃ W ps Qp, Holds Z W H ∧ DatL Z.K W vs ps ∧ Φ ps Qp ∧ ∀ W' H' v p, Ext Z W H W' H' → Dat Z.K W' v p → Qp p → Q v H'
/-- the def x of the module keeps Φ, at level k, with n arguments -/
structure FnC (P : Program) (w : World) (mg : Str → Option Value) (Z : Par) (x : Str) (k n : Nat) (Φ : Con) : Prop where
  ex : ∃ (f : Addr) (fd : FuncData) (ps : List Str), mg x = some (.ref f) ∧ PySem.W.keepIn Z.K (.ref f) = true ∧ Binds Z.K fd ps [] ∧ ps.length = n ∧ ∀ base : Heap, FnOk P w Z.K mg base CX0 k f fd ps (spP Z Φ)
def pCall (Φ : Con) (t : PTA) : PTE := fun ρ Q => t ρ fun ps => Φ ps Q
theorem lift_call {Φ : Con} {t : PTA} (σ : L2.St) (H : Hp) (Q : VK) (h : lift Z (pCall Φ t) σ H Q) : tCall (spP Z Φ) [] E0 (liftA Z t) σ H Q := by
  obtain ⟨W, H0, ρ, Qp, hh, S, t, q⟩ := h
  refine ⟨W, H0, ρ, _, hh, S, t, fun W1 H1 vs ps e1 d1 t1 => ?_⟩
  show spP Z Φ (vs ++ []) H1 Q E0
  rw [List.append_nil]
  exact ⟨W1, ps, Qp, e1.holds, d1, t1, fun W2 H2 v p e2 d2 t2 => q W2 H2 v p (e1.trans hh e2) d2 t2⟩
theorem q_call {x : Str} {k j n : Nat} {Φ : Con} {p pos : Pos} {e : Expr} {es : List Expr} {t : PTA} (c : FnC X.prog X.w X.mg Z x k n Φ) (hr : Room j X.A) (ha : PA X (e :: es) (liftA Z t)) (hK : X.K = Z.K := by rfl) (hj : k ≤ j := by decide) (hg : Gl X x := by rfl)
    (hdb : (x == ("__debug__" : Str)) = false := by decide) (he : starEach (e :: es) X.env = (false, eval e X.env) :: starEach es X.env := by rfl) (hpl : (backTo pos (starEach es X.env)).any (·.1) = false := by rfl) :
    PE X (.Call (.Name x p) (e :: es) [] pos) (lift Z (pCall Φ t)) := by
  obtain ⟨f, fd, ps, hm, kp, b, hn, F⟩ := c.ex
  rw [← hK] at kp b
  exact PEw (pe_call (hK ▸ F X.base) (hr.mono hj) hg hm kp b .nil pass0 ha hdb he hpl) fun σ H Q => lift_call σ H Q
end
end L3

/-! ## L3C -/
/-! Judgements over pure values: targets, statements, loops, comprehensions, defs. -/
namespace L3
open PySem PySem.Spec PyProof.Rows L2

abbrev PTG := PV → List Slt → (List Slt → Prop) → Prop
abbrev PTGs := List PV → List Slt → (List Slt → Prop) → Prop
/-- slots outside ws are as they were -/
def Only1 (ws : List Nat) (σ σ' : L2.St) : Prop := σ'.length = σ.length ∧ ∀ i, i ∉ ws → σ'[i]? = σ[i]?
def liftG (Z : Par) (ws : List Nat) (t : PTG) : TG := fun v σ H Q => ∃ W H0 ρ p Qp, Holds Z W H ∧ Slots Z W H0 H σ ρ ∧ Dat Z.K W v p ∧ t p ρ Qp ∧ ∀ σ' ρ', Only1 ws σ σ' → Slots Z W H0 H σ' ρ' → Qp ρ' → Q σ' H
def liftGs (Z : Par) (ws : List Nat) (t : PTGs) : TGs := fun vs σ H Q => ∃ W H0 ρ ps Qp, Holds Z W H ∧ Slots Z W H0 H σ ρ ∧ DatL Z.K W vs ps ∧ t ps ρ Qp ∧ ∀ σ' ρ', Only1 ws σ σ' → Slots Z W H0 H σ' ρ' → Qp ρ' → Q σ' H
def gNm (i : Nat) : PTG := fun p ρ Q => Q (ρ.set i (.val p))
def gNilP : PTGs := fun ps ρ Q => match ps with
  | [] => Q ρ
  | _ => False
def gConsP (t : PTG) (u : PTGs) : PTGs := fun ps ρ Q => match ps with
  | p :: r => t p ρ fun ρ1 => u r ρ1 Q
  | [] => False
def gTupP (n : Nat) (t : PTGs) : PTG := fun p ρ Q => match p with
  | .tup l => l.length = n ∧ t l ρ Q
  | _ => False
section
variable {X : Cx} {Z : Par}
theorem PGw {e : Expr} {t t' : TG} (h : PG X e t) (w : ∀ v σ H Q, t' v σ H Q → t v σ H Q) : PG X e t' := ⟨fun pins s σ H v u Q I r q => h.run pins s σ H v u Q I r (w _ _ _ _ q)⟩
theorem PGsw {e : List Expr} {t t' : TGs} (h : PGs X e t) (w : ∀ v σ H Q, t' v σ H Q → t v σ H Q) : PGs X e t' := ⟨fun pins s σ H v u Q I r q => h.run pins s σ H v u Q I r (w _ _ _ _ q)⟩
theorem Only1.refl {ws : List Nat} {σ : L2.St} : Only1 ws σ σ := ⟨rfl, fun _ _ => rfl⟩
theorem Only1.trans {ws ws' : List Nat} {a b c : L2.St} (h : Only1 ws a b) (g : Only1 ws' b c) : Only1 (ws ++ ws') a c :=
  ⟨g.1.trans h.1, fun i n => by
    rw [List.mem_append, not_or] at n
    exact (g.2 i n.2).trans (h.2 i n.1)⟩
theorem qg_name {i : Nat} {x : Str} {pos : Pos} (hN : X.N.Nodup) (hi : X.N[i]? = some x := by rfl) (hx : Loc X.env.scope x := by first | exact .inl rfl | exact .inr rfl) (hf : X.fn x = true ∨ X.env.scope.names.lookup x = some .local := by first | exact .inl rfl | exact .inr rfl) :
    PG X (.Name x pos) (liftG Z [i] (gNm i)) :=
  PGw (pg_name hN hi hx hf) fun v σ H Q ⟨W, H0, ρ, p, Qp, hh, S, d, t, q⟩ => q _ _ ⟨List.length_set, fun j n => List.getElem?_set_ne fun e => n (by simp [e])⟩ (S.setVal i d) t
theorem qgs_nil : PGs X [] (liftGs Z [] gNilP) :=
  PGsw pgs_nil fun v σ H Q ⟨W, H0, ρ, ps, Qp, hh, S, d, t, q⟩ => by
    cases d with
    | nil => exact ⟨rfl, q σ ρ .refl S t⟩
    | cons => exact t.elim
theorem qgs_cons {e : Expr} {es : List Expr} {t : PTG} {u : PTGs} {ws ws' : List Nat} (h1 : PG X e (liftG Z ws t)) (h2 : PGs X es (liftGs Z ws' u))
    (hs : (assignEach (e :: es) X.env).map (·.2) = assign e X.env :: (assignEach es X.env).map (·.2) := by rfl) : PGs X (e :: es) (liftGs Z (ws ++ ws') (gConsP t u)) :=
  PGsw (pgs_cons h1 h2 hs) fun v σ H Q ⟨W, H0, ρ, ps, Qp, hh, S, d, t, q⟩ => by
    cases d with
    | nil => exact t.elim
    | cons d1 d2 =>
      refine ⟨_, _, rfl, W, H0, ρ, _, _, hh, S, d1, t, fun σ1 ρ1 o1 S1 t1 => ?_⟩
      exact ⟨W, H0, ρ1, _, _, hh, S1, d2, t1, fun σ2 ρ2 o2 S2 t2 => q σ2 ρ2 (o1.trans o2) S2 t2⟩
theorem qg_tup {es : List Expr} {k : Nat} {t : PTGs} {ws : List Nat} {n : Nat} {pos : Pos} (h : PGs X es (liftGs Z ws t)) (hK : X.K = Z.K := by rfl) (hc : X.calm = true := by rfl)
    (hn : (assignEach es X.env).length = n := by rfl) (hst : (assignEach es X.env).findIdx? (·.1) = none := by rfl) : PG X (.Tuple es k pos) (liftG Z ws (gTupP n t)) :=
  PGw (pg_tup hc h hn hst) fun v σ H Q ⟨W, H0, ρ, p, Qp, hh, S, d, t, q⟩ => by
    cases d with
    | tup ha r => exact ⟨_, _, rfl, .of (hh.ex ha (fun z => z)), by rw [r.length]; exact t.1, W, H0, ρ, _, Qp, hh, S, r, t.2, q⟩
    | _ => exact t.elim

/-! ### ends -/
structure PEnds where
  nx : List Slt → Prop
  rt : PV → Prop
  bk : List Slt → Prop := fun _ => False
  ct : List Slt → Prop := fun _ => False
abbrev PTS := PEnds → List Slt → Prop
structure EndsOk (Z : Par) (W0 : Wd) (H0 : Hp) (Wb : Wd) (Hb : Hp) (E : PEnds) (D : Ends) : Prop where
  nx : ∀ W H σ ρ, Ext Z W0 H0 W H → Lt Wb Hb W H → Slots Z W H0 H σ ρ → E.nx ρ → D.nx σ H
  rt : ∀ W H v p, Ext Z W0 H0 W H → Dat Z.K W v p → E.rt p → D.rt v H
  bk : ∀ W H σ ρ, Ext Z W0 H0 W H → Lt Wb Hb W H → Slots Z W H0 H σ ρ → E.bk ρ → D.bk σ H
  ct : ∀ W H σ ρ, Ext Z W0 H0 W H → Lt Wb Hb W H → Slots Z W H0 H σ ρ → E.ct ρ → D.ct σ H
theorem EndsOk.up {W0 Wb Wb' : Wd} {H0 Hb Hb' : Hp} {E : PEnds} {D : Ends} (h : EndsOk Z W0 H0 Wb Hb E D) (le : Lt Wb Hb Wb' Hb') : EndsOk Z W0 H0 Wb' Hb' E D :=
  ⟨fun W H σ ρ e l => h.nx W H σ ρ e (le.trans l), h.rt, fun W H σ ρ e l => h.bk W H σ ρ e (le.trans l), fun W H σ ρ e l => h.ct W H σ ρ e (le.trans l)⟩
def liftS (Z : Par) (t : PTS) : TS := fun D σ H => ∃ W0 H0 W ρ E, Holds Z W0 H0 ∧ Ext Z W0 H0 W H ∧ Slots Z W H0 H σ ρ ∧ t E ρ ∧ EndsOk Z W0 H0 W H E D

def pNext : PTS := fun E ρ => E.nx ρ
def pSeq (t u : PTS) : PTS := fun E ρ => t { E with nx := u E } ρ
theorem qss_nil : PSs X [] (liftS Z pNext) := PSsw pss_nil fun D σ H ⟨W0, H0, W, ρ, E, h0, e, S, t, D1⟩ => D1.nx W H σ ρ e (.refl W H) S t
theorem qss_cons {st : Stmt} {rest : List Stmt} {t u : PTS} (h1 : PS X st (liftS Z t)) (h2 : PSs X rest (liftS Z u)) : PSs X (st :: rest) (liftS Z (pSeq t u)) :=
  PSsw (pss_cons h1 h2) fun D σ H ⟨W0, H0, W, ρ, E, h0, e, S, t, D1⟩ =>
    ⟨W0, H0, W, ρ, _, h0, e, S, t, ⟨fun W' H' σ' ρ' e' le S' t' => ⟨W0, H0, W', ρ', E, h0, e', S', t', D1.up le⟩, D1.rt, D1.bk, D1.ct⟩⟩
theorem qss_one {st : Stmt} {t : PTS} (h1 : PS X st (liftS Z t)) : PSs X [st] (liftS Z t) := pss_one h1
def pBreak : PTS := fun E ρ => E.bk ρ
def pCont : PTS := fun E ρ => E.ct ρ
theorem qs_pass {pos : Pos} : PS X (.Pass pos) (liftS Z pNext) := PSw ps_pass fun D σ H ⟨W0, H0, W, ρ, E, h0, e, S, t, D1⟩ => D1.nx W H σ ρ e (.refl W H) S t
theorem qs_break {pos : Pos} : PS X (.Break pos) (liftS Z pBreak) := PSw ps_break fun D σ H ⟨W0, H0, W, ρ, E, h0, e, S, t, D1⟩ => D1.bk W H σ ρ e (.refl W H) S t
theorem qs_continue {pos : Pos} : PS X (.Continue pos) (liftS Z pCont) := PSw ps_continue fun D σ H ⟨W0, H0, W, ρ, E, h0, e, S, t, D1⟩ => D1.ct W H σ ρ e (.refl W H) S t
def pDrop (te : PTE) : PTS := fun E ρ => te ρ fun _ => E.nx ρ
theorem qs_expr {e : Expr} {te : PTE} {pos : Pos} (he : PE X e (lift Z te)) (hs : swapsWith e none pos.line X.env = pure false := by rfl) : PS X (.Expr e pos) (liftS Z (pDrop te)) :=
  PSw (ps_expr he hs) fun D σ H ⟨W0, H0, W, ρ, E, h0, e, S, t, D1⟩ =>
    ⟨W, H0, ρ, _, e.holds, S, t, fun W1 H1 v p e1 d1 t1 => D1.nx W1 H1 σ ρ (e.trans h0 e1) e1.lt (S.ext e1) t1⟩
def pRet (te : PTE) : PTS := fun E ρ => te ρ E.rt
theorem qs_ret {e : Expr} {te : PTE} {pos : Pos} (he : PE X e (lift Z te)) : PS X (.Return (some e) pos) (liftS Z (pRet te)) :=
  PSw (ps_ret he) fun D σ H ⟨W0, H0, W, ρ, E, h0, e, S, t, D1⟩ =>
    ⟨W, H0, ρ, _, e.holds, S, t, fun W1 H1 v p e1 d1 t1 => D1.rt W1 H1 v p (e.trans h0 e1) d1 t1⟩
def pRetN : PTS := fun E _ => E.rt .non
theorem qs_retN {pos : Pos} : PS X (.Return none pos) (liftS Z pRetN) :=
  PSw ps_retN fun D σ H ⟨W0, H0, W, ρ, E, h0, e, S, t, D1⟩ => D1.rt W H _ _ e .non t
def pIfS (c : PTT) (t u : PTS) : PTS := fun E ρ => c ρ fun b => match b with
  | true => t E ρ
  | false => u E ρ
theorem qs_if {c : Expr} {a b : List Stmt} {tc : PTT} {t u : PTS} {pos : Pos} (hc : PT X c (liftT Z tc)) (ha : PSs X a (liftS Z t)) (hb : PSs X b (liftS Z u)) : PS X (.If c a b pos) (liftS Z (pIfS tc t u)) :=
  PSw (ps_if hc ha hb) fun D σ H ⟨W0, H0, W, ρ, E, h0, e, S, t, D1⟩ =>
    ⟨W, H0, ρ, _, e.holds, S, t, fun W1 H1 b e1 t1 => by
      cases b with
      | true => exact (if_pos rfl).mpr ⟨W0, H0, W1, ρ, E, h0, e.trans h0 e1, S.ext e1, t1, D1.up e1.lt⟩
      | false => exact (if_neg (by decide)).mpr ⟨W0, H0, W1, ρ, E, h0, e.trans h0 e1, S.ext e1, t1, D1.up e1.lt⟩⟩
def pNeverS : PTS := fun _ _ => False
theorem qs_never {st : Stmt} : PS X st (liftS Z pNeverS) := ⟨fun _ _ _ _ _ _ h => by obtain ⟨_, _, _, _, _, _, _, _, z, _⟩ := h; exact z.elim⟩
theorem qss_never {sts : List Stmt} : PSs X sts (liftS Z pNeverS) := ⟨fun _ _ _ _ _ _ h => by obtain ⟨_, _, _, _, _, _, _, _, z, _⟩ := h; exact z.elim⟩

/-! ### assignments -/
def pAsg (te : PTE) (g : PTG) : PTS := fun E ρ => te ρ fun p => g p ρ E.nx
theorem asg_of {te : PTE} {ws : List Nat} {g : PTG} (D : Ends) (σ : L2.St) (H : Hp) (h : liftS Z (pAsg te g) D σ H) : tAsg (lift Z te) (liftG Z ws g) D σ H := by
  obtain ⟨W0, H0, W, ρ, E, h0, e, S, t, D1⟩ := h
  exact ⟨W, H0, ρ, _, e.holds, S, t, fun W1 H1 v p e1 d1 t1 => ⟨W1, H0, ρ, p, _, e1.holds, S.ext e1, d1, t1, fun σ' ρ' o S' t' => D1.nx W1 H1 σ' ρ' (e.trans h0 e1) e1.lt S' t'⟩⟩
theorem qs_asg {tg e : Expr} {te : PTE} {ws : List Nat} {g : PTG} {pos : Pos} (he : PE X e (lift Z te)) (hg : PG X tg (liftG Z ws g)) (hs : swapsWithSole [tg] e pos.line X.env = pure false := by rfl) (hw : swappedStores [tg] e X.env = pure none := by rfl) (h1 : List.map (fun x => x.snd) (assignEach [tg] X.env) = [assign tg X.env] := by rfl) :
    PS X (.Assign [tg] e pos) (liftS Z (pAsg te g)) := PSw (ps_asg he hg hs hw h1) asg_of
theorem gname_of {i : Nat} (v : V) (σ : L2.St) (H : Hp) (Q : L2.St → Hp → Prop) (h : liftG Z [i] (gNm i) v σ H Q) : gName i v σ H Q := by
  obtain ⟨W, H0, ρ, p, Qp, hh, S, d, t, q⟩ := h
  exact q _ _ ⟨List.length_set, fun j n => List.getElem?_set_ne fun e => n (by simp [e])⟩ (S.setVal i d) t
theorem setw {i : Nat} {te : PTE} (D : Ends) (σ : L2.St) (H : Hp) (h : liftS Z (pAsg te (gNm i)) D σ H) : tAsg (lift Z te) (gName i) D σ H := by
  obtain ⟨W0, H0, W, ρ, E, h0, e, S, t, D1⟩ := h
  exact ⟨W, H0, ρ, _, e.holds, S, t, fun W1 H1 v p e1 d1 t1 => D1.nx W1 H1 _ _ (e.trans h0 e1) e1.lt ((S.ext e1).setVal i d1) t1⟩
theorem qs_set {i : Nat} {x : Str} {e : Expr} {te : PTE} {pos' pos : Pos} (hN : X.N.Nodup) (he : PE X e (lift Z te)) (hi : X.N[i]? = some x := by rfl) (hx : Loc X.env.scope x := by first | exact .inl rfl | exact .inr rfl) (hs : swapsWith e (some (.Name x pos')) pos.line X.env = pure false := by rfl)
    (hf : X.fn x = true ∨ X.env.scope.names.lookup x = some .local := by first | exact .inl rfl | exact .inr rfl) :
    PS X (.Assign [.Name x pos'] e pos) (liftS Z (pAsg te (gNm i))) := PSw (ps_set hN hi hx he hs hf) setw
def pPar (i j : Nat) (ta : PTA) : PTS := fun E ρ => ta ρ fun ps => match ps with
  | [p, q] => E.nx ((ρ.set i (.val p)).set j (.val q))
  | _ => False
theorem qs_par {i j : Nat} {x y : Str} {a b : Expr} {ta : PTA} {px py pt pos : Pos} {kt k2 pt2} (hN : X.N.Nodup) (ha : PA X [a, b] (liftA Z ta)) (hi : X.N[i]? = some x := by rfl) (hj : X.N[j]? = some y := by rfl) (hij : i ≠ j := by decide)
    (hx : X.env.scope.names.lookup x = some .local := by rfl) (hy : X.env.scope.names.lookup y = some .local := by rfl) (hc : X.calm = true := by rfl)
    (hw : swappedStores [.Tuple [.Name x px, .Name y py] kt pt] (.Tuple [a, b] k2 pt2) X.env = pure (some [x, y]) := by rfl)
    (hs : swapsWithSole [.Tuple [.Name x px, .Name y py] kt pt] (.Tuple [a, b] k2 pt2) pos.line X.env = pure false := by rfl) :
    PS X (.Assign [.Tuple [.Name x px, .Name y py] kt pt] (.Tuple [a, b] k2 pt2) pos) (liftS Z (pPar i j ta)) :=
  PSw (ps_par hc hN hi hj hij hx hy ha hw hs) fun D σ H ⟨W0, H0, W, ρ, E, h0, e, S, t, D1⟩ =>
    ⟨W, H0, ρ, _, e.holds, S, t, fun W1 H1 vs ps e1 d1 t1 => by
      cases d1 with
      | nil => exact t1.elim
      | cons d1 d2 => cases d2 with
        | nil => exact t1.elim
        | cons d2 d3 => cases d3 with
          | cons => exact t1.elim
          | nil => exact ⟨_, _, rfl, D1.nx W1 H1 _ _ (e.trans h0 e1) e1.lt (((S.ext e1).setVal i d1).setVal j d2) t1⟩⟩

/-! ### loops -/
def Serves (Z : Par) (W : Wd) (H : Hp) (J : It) (l : List PV) : Prop := ∀ W1 H1, Lt W H W1 H1 → Holds Z W1 H1 → (∀ i, l.length ≤ i → J.stop i H1) ∧ ∀ (i : Nat) (p : PV), l[i]? = some p → J.go i H1 ∧ ∀ x H2, J.yld i H1 x H2 → ∃ W2, Ext Z W1 H1 W2 H2 ∧ Dat Z.K W2 x p
abbrev PTI := List Slt → (List PV → Prop) → Prop
def liftI (Z : Par) (t : PTI) : TI := fun σ H R => ∃ W H0 ρ Qp, Holds Z W H ∧ Slots Z W H0 H σ ρ ∧ t ρ Qp ∧ ∀ W' H' J l, Ext Z W H W' H' → Serves Z W' H' J l → Qp l → R J H'
def pForL (g : PTG) (tb : PTS) (E : PEnds) : List PV → List Slt → Prop
  | [], ρ => E.nx ρ
  | p :: ps, ρ => g p ρ fun ρ1 => tb ⟨fun ρ2 => pForL g tb E ps ρ2, E.rt, E.nx, fun ρ2 => pForL g tb E ps ρ2⟩ ρ1
def pFor (ti : PTI) (g : PTG) (tb : PTS) : PTS := fun E ρ => ti ρ fun l => pForL g tb E l ρ
theorem drop_cons {α : Type} {l : List α} {i : Nat} (h : i < l.length) : l.drop i = l[i] :: l.drop (i + 1) := List.drop_eq_getElem_cons h
theorem for_of {ti : PTI} {ws : List Nat} {g : PTG} {tb : PTS} (D : Ends) (σ : L2.St) (H : Hp) (h : liftS Z (pFor ti g tb) D σ H) : tFor (liftI Z ti) (liftG Z ws g) (liftS Z tb) D σ H := by
  obtain ⟨W0, H0, W, ρ, E, h0, e, S, t, D1⟩ := h
  refine ⟨W, H0, ρ, _, e.holds, S, t, fun W1 H1 J l e1 sv t1 => ?_⟩
  have D2 := D1.up e1.lt
  refine ⟨fun i m σ' H' => m = l.length - i ∧ i ≤ l.length ∧ ∃ W' ρ', Ext Z W0 H0 W' H' ∧ Lt W1 H1 W' H' ∧ Slots Z W' H0 H' σ' ρ' ∧ pForL g tb E (l.drop i) ρ', ⟨l.length, rfl, Nat.zero_le _, W1, ρ, e.trans h0 e1, .refl W1 H1, S.ext e1, t1⟩, ?_⟩
  rintro i m σ' H' ⟨rfl, hi, W', ρ', e', le', S', t'⟩
  have sv' := sv W' H' le' e'.holds
  by_cases hlt : i < l.length
  · have g1 := sv'.2 i l[i] (by simp [hlt])
    rw [drop_cons hlt] at t'
    refine .inr ⟨g1.1, fun σ2 H2 => i < l.length ∧ ∃ W2 ρ2, Ext Z W0 H0 W2 H2 ∧ Lt W1 H1 W2 H2 ∧ Slots Z W2 H0 H2 σ2 ρ2 ∧ pForL g tb E (l.drop (i + 1)) ρ2, ?_, fun x H2 y => ?_⟩
    · rintro σ2 H2 ⟨_, W2, ρ2, a, b, c, d⟩
      exact ⟨l.length - (i + 1), by omega, rfl, hlt, W2, ρ2, a, b, c, d⟩
    · obtain ⟨W2, e2, d2⟩ := g1.2 x H2 y
      have E2 := e'.trans h0 e2
      refine ⟨W2, H0, ρ', l[i], _, e2.holds, S'.ext e2, d2, t', fun σ3 ρ3 o3 S3 t3 => ?_⟩
      refine ⟨W0, H0, W2, ρ3, _, h0, E2, S3, t3, ⟨fun W4 H4 σ4 ρ4 e4 le4 S4 t4 => ⟨hlt, W4, ρ4, e4, (le'.trans e2.lt).trans le4, S4, t4⟩, D1.rt, fun W4 H4 σ4 ρ4 e4 le4 S4 t4 => D2.nx W4 H4 σ4 ρ4 e4 ((le'.trans e2.lt).trans le4) S4 t4, fun W4 H4 σ4 ρ4 e4 le4 S4 t4 => ⟨hlt, W4, ρ4, e4, (le'.trans e2.lt).trans le4, S4, t4⟩⟩⟩
  · have ei : i = l.length := by omega
    subst ei
    rw [List.drop_length] at t'
    exact .inl ⟨sv'.1 _ (Nat.le_refl _), D2.nx W' H' σ' ρ' e' le' S' t'⟩
theorem qs_for {tg iter : Expr} {body : List Stmt} {ti : PTI} {ws : List Nat} {g : PTG} {tb : PTS} {pos : Pos} (hi : PI X tg iter (liftI Z ti)) (hg : PG X tg (liftG Z ws g)) (hb : PSs X body (liftS Z tb)) (hp : PassesOwn (model X.prog X.w) X.A X.env X.xe := by exact PassesOwn.never)
    (hc : X.calm = true := by rfl) (hs : ∀ x, foldedSetIterable iter X.env x = pure x := by intro _; rfl) : PS X (.For tg iter body [] pos) (liftS Z (pFor ti g tb)) :=
  PSw (ps_for hp hc hi hg hb hs) for_of
def pWhile (c : PTT) (tb : PTS) : PTS := fun E ρ => ∃ I : Nat → List Slt → Prop, (∃ m, I m ρ) ∧ ∀ m ρ, I m ρ → c ρ fun b => match b with
  | true => tb ⟨fun ρ2 => ∃ m', m' < m ∧ I m' ρ2, E.rt, E.nx, fun ρ2 => ∃ m', m' < m ∧ I m' ρ2⟩ ρ
  | false => E.nx ρ
theorem while_of {c : PTT} {tb : PTS} (D : Ends) (σ : L2.St) (H : Hp) (h : liftS Z (pWhile c tb) D σ H) : tWhile (liftT Z c) (liftS Z tb) D σ H := by
  obtain ⟨W0, H0, W, ρ, E, h0, e, S, ⟨I, ⟨m0, i0⟩, tt⟩, D1⟩ := h
  refine ⟨fun m σ' H' => ∃ W' ρ', Ext Z W0 H0 W' H' ∧ Lt W H W' H' ∧ Slots Z W' H0 H' σ' ρ' ∧ I m ρ', ⟨m0, W, ρ, e, .refl W H, S, i0⟩, ?_⟩
  rintro m σ' H' ⟨W', ρ', e', le', S', i'⟩
  refine ⟨W', H0, ρ', _, e'.holds, S', tt m ρ' i', fun W1 H1 b e1 t1 => ?_⟩
  have E1 := e'.trans h0 e1
  have L1 := le'.trans e1.lt
  cases b with
  | false => exact (if_neg (by decide)).mpr (D1.nx W1 H1 σ' ρ' E1 L1 (S'.ext e1) t1)
  | true =>
    refine (if_pos rfl).mpr ⟨fun σ2 H2 => ∃ m', m' < m ∧ ∃ W2 ρ2, Ext Z W0 H0 W2 H2 ∧ Lt W H W2 H2 ∧ Slots Z W2 H0 H2 σ2 ρ2 ∧ I m' ρ2, fun σ2 H2 ⟨m', a, b⟩ => ⟨m', a, b⟩, ?_⟩
    exact ⟨W0, H0, W1, ρ', _, h0, E1, S'.ext e1, t1, ⟨fun W2 H2 σ2 ρ2 e2 l2 S2 ⟨m', a, b⟩ => ⟨m', a, W2, ρ2, e2, L1.trans l2, S2, b⟩, D1.rt, fun W2 H2 σ2 ρ2 e2 l2 S2 t2 => D1.nx W2 H2 σ2 ρ2 e2 (L1.trans l2) S2 t2, fun W2 H2 σ2 ρ2 e2 l2 S2 ⟨m', a, b⟩ => ⟨m', a, W2, ρ2, e2, L1.trans l2, S2, b⟩⟩⟩
theorem qs_while {c : Expr} {body : List Stmt} {tc : PTT} {tb : PTS} {pos : Pos} (hc : PT X c (liftT Z tc)) (hb : PSs X body (liftS Z tb)) (hp : PassesOwn (model X.prog X.w) X.A X.env X.xe := by exact PassesOwn.never) : PS X (.While c body [] pos) (liftS Z (pWhile tc tb)) :=
  PSw (ps_while hp hc hb) while_of

/-! ### what is walked -/
def pIL (te : PTE) : PTI := fun ρ Q => te ρ fun p => match p with
  | .lst l => Q l
  | .frz l => Q l
  | _ => False
theorem serves_sq {K : PySem.W.Frag} {W : Wd} {H : Hp} {a : Addr} {xs : List V} {l : List PV} (hK : K = Z.K) (sq : ∀ W1 H1, W.le W1 → Holds Z W1 H1 → SqL K H1 a xs) (d : DatL Z.K W xs l) : Serves Z W H (Itl K a) l := fun W1 H1 le h1 =>
  ⟨fun i hi => ⟨xs, sq W1 H1 le.le h1, by rw [d.length]; exact hi⟩, fun i p hp => by
    obtain ⟨v, hv, dv⟩ := d.getP hp
    exact ⟨⟨xs, v, sq W1 H1 le.le h1, hv⟩, fun x H2 ⟨e, y⟩ => by
      subst e
      have z := y xs (sq W1 _ le.le h1)
      rw [hv] at z
      cases z
      exact ⟨W1, .refl h1, dv.mono le.le⟩⟩⟩
theorem SqL.holds {W : Wd} {H : Hp} {a : Addr} {xs : List V} (h : Holds Z W H) (s : SqL Z.K W.D a xs) : SqL Z.K H a xs := by
  rcases s with (s | ⟨o, s⟩) | s
  · exact .inl (.inl (h.ex s fun z => z))
  · exact .inl (.inr ⟨o, h.ex s fun z => z⟩)
  · exact .inr s
theorem qi_list {tg e : Expr} {te : PTE} (he : PE X e (lift Z te)) (hK : X.K = Z.K := by rfl) : PI X tg e (liftI Z (pIL te)) :=
  PIw (pi_list he) fun σ H R ⟨W, H0, ρ, Qp, hh, S, t, q⟩ => by
    refine ⟨W, H0, ρ, _, hh, S, t, fun W1 H1 v p e1 d1 t1 => ?_⟩
    cases d1 with
    | lst ha r => exact ⟨_, rfl, ⟨_, .of (e1.holds.ex ha fun z => z)⟩, q W1 H1 _ _ e1 (serves_sq hK (fun W2 H2 le h2 => .of (h2.ex (le.d _ _ ha) fun z => z)) r) t1⟩
    | frz ha r => exact ⟨_, rfl, ⟨_, by rw [hK]; exact SqL.holds e1.holds ha⟩, q W1 H1 _ _ e1 (serves_sq hK (fun W2 H2 le h2 => by rw [hK]; exact SqL.holds h2 (SqL.monoD le.d ha)) r) t1⟩
    | _ => exact t1.elim
def pIT (te : PTE) : PTI := fun ρ Q => te ρ fun p => match p with
  | .tup l => Q l
  | _ => False
theorem qi_tup {tg e : Expr} {te : PTE} (he : PE X e (lift Z te)) (hK : X.K = Z.K := by rfl) : PI X tg e (liftI Z (pIT te)) :=
  PIw (pi_tup he) fun σ H R ⟨W, H0, ρ, Qp, hh, S, t, q⟩ => by
    refine ⟨W, H0, ρ, _, hh, S, t, fun W1 H1 v p e1 d1 t1 => ?_⟩
    cases d1 with
    | tup ha r =>
      refine ⟨_, rfl, ⟨_, .of (e1.holds.ex ha fun z => z)⟩, q W1 H1 _ _ e1 (fun W2 H2 le h2 => ⟨fun i hi => ⟨_, .of (h2.ex (le.le.d _ _ ha) fun z => z), by rw [r.length]; exact hi⟩, fun i p hp => ?_⟩) t1⟩
      obtain ⟨v, hv, dv⟩ := r.getP hp
      exact ⟨⟨_, v, .of (h2.ex (le.le.d _ _ ha) fun z => z), hv⟩, fun x H3 ⟨e, y⟩ => by
        subst e
        have z := y _ (.of (h2.ex (le.le.d _ _ ha) fun z => z))
        rw [hv] at z
        cases z
        exact ⟨W2, .refl h2, dv.mono le.le⟩⟩
    | _ => exact t1.elim
def rngP (lo : Int) (n : Nat) : List PV := (List.range n).map fun i : Nat => PV.int (lo + (i : Int))
theorem serves_rng {W : Wd} {H : Hp} (lo : Int) (n : Nat) : Serves Z W H (Itr lo n) (rngP lo n) := fun W1 H1 le h1 =>
  ⟨fun i hi => by show n ≤ i; simpa [rngP] using hi, fun i p hp => by
    have hi : i < n := by
      have := (List.getElem?_eq_some_iff.mp hp).1
      simpa [rngP] using this
    refine ⟨hi, fun x H2 ⟨e, y⟩ => ?_⟩
    subst e y
    have e : p = .int (lo + i) := by
      have z : (rngP lo n)[i]? = some (.int (lo + i)) := by simp [rngP, List.getElem?_map, List.getElem?_range hi]
      rw [z] at hp
      exact (Option.some.inj hp).symm
    subst e
    exact ⟨W1, .refl h1, .int _⟩⟩
def pR1 (ta : PTA) : PTI := fun ρ Q => ta ρ fun ps => match ps with
  | [.int j] => -(2 ^ 62) ≤ j ∧ j < 2 ^ 62 ∧ Q (rngP 0 j.toNat)
  | _ => False
def pR2 (ta : PTA) : PTI := fun ρ Q => ta ρ fun ps => match ps with
  | [.int i, .int j] => (-(2 ^ 62) ≤ i ∧ i < 2 ^ 62 ∧ -(2 ^ 62) ≤ j ∧ j < 2 ^ 62) ∧ Q (rngP i (j - i).toNat)
  | _ => False
theorem qi_range1 {tg a : Expr} {ta : PTA} {p pos : Pos} (hm : X.mg "range" = none) (ha : PA X [a] (liftA Z ta)) (hg : Gl X "range" := by rfl) (hs : starEach [a] X.env = [(false, eval a X.env)] := by rfl) : PI X tg (.Call (.Name "range" p) [a] [] pos) (liftI Z (pR1 ta)) :=
  PIw (pi_range1 hg hm ha hs) fun σ H R ⟨W, H0, ρ, Qp, hh, S, t, q⟩ => by
    refine ⟨W, H0, ρ, _, hh, S, t, fun W1 H1 vs ps e1 d1 t1 => ?_⟩
    match ps, d1, t1 with
    | [.int j], .cons (.int _) .nil, t1 => exact ⟨j, rfl, t1.1, t1.2.1, q W1 H1 _ _ e1 (serves_rng 0 j.toNat) t1.2.2⟩
theorem qi_range2 {tg a b : Expr} {ta : PTA} {p pos : Pos} (hm : X.mg "range" = none) (ha : PA X [a, b] (liftA Z ta)) (hg : Gl X "range" := by rfl) (hs : starEach [a, b] X.env = [(false, eval a X.env), (false, eval b X.env)] := by rfl) (hs2 : starEach [b] X.env = [(false, eval b X.env)] := by rfl) : PI X tg (.Call (.Name "range" p) [a, b] [] pos) (liftI Z (pR2 ta)) :=
  PIw (pi_range2 hg hm ha hs hs2) fun σ H R ⟨W, H0, ρ, Qp, hh, S, t, q⟩ => by
    refine ⟨W, H0, ρ, _, hh, S, t, fun W1 H1 vs ps e1 d1 t1 => ?_⟩
    match ps, d1, t1 with
    | [.int i, .int j], .cons (.int _) (.cons (.int _) .nil), t1 => exact ⟨i, j, rfl, t1.1, q W1 H1 _ _ e1 (serves_rng i (j - i).toNat) t1.2⟩
end
end L3

/-! ## L3D -/
/-! Comprehensions, own lists and dicts, defs. -/
namespace L3
open PySem PySem.Spec PyProof.Rows L2

/-! ### a def -/
def startP (N : List Str) (as : List PV) : List Slt := as.map Slt.val ++ List.replicate (N.length - as.length) Slt.no
section
variable {Z : Par} {W : Wd} {H0 H : Hp}
theorem slots_start {N : List Str} {vs : List V} {as : List PV} (d : DatL Z.K W vs as) : Slots Z W H0 H (L2.start N vs) (startP N as) where
  len := by simp [L2.start, startP, d.length]
  val := fun i p e => by
    unfold startP at e
    unfold L2.start
    by_cases hi : i < as.length
    · rw [List.getElem?_append_left (by simpa using hi)] at e
      rw [List.getElem?_append_left (by rw [List.length_map, d.length]; exact hi)]
      rw [List.getElem?_map] at e
      cases q : as[i]? with
      | none => rw [q] at e; cases e
      | some p' =>
        rw [q] at e
        cases e
        obtain ⟨v, hv, dv⟩ := d.getP q
        exact ⟨v, by rw [List.getElem?_map, hv]; rfl, dv⟩
    · rw [List.getElem?_append_right (by simpa using hi)] at e
      rw [List.getElem?_replicate] at e
      split at e <;> cases e
  own := fun i p e => by
    unfold startP at e
    by_cases hi : i < as.length
    · rw [List.getElem?_append_left (by simpa using hi), List.getElem?_map] at e
      cases q : as[i]? with
      | none => rw [q] at e; cases e
      | some p' => rw [q] at e; cases e
    · rw [List.getElem?_append_right (by simpa using hi), List.getElem?_replicate] at e
      split at e <;> cases e
  dst := fun i j a p q n e _ _ _ => by
    unfold startP at e
    by_cases hi : i < as.length
    · rw [List.getElem?_append_left (by simpa using hi), List.getElem?_map] at e
      cases q : as[i]? with
      | none => rw [q] at e; cases e
      | some p' => rw [q] at e; cases e
    · rw [List.getElem?_append_right (by simpa using hi), List.getElem?_replicate] at e
      split at e <;> cases e
end
theorem okP {P : Program} {w : World} {mg : Str → Option Value} {base : Heap} {Z : Par} {x qual : Str} {params : Arguments} {body : List Stmt} {scope : Scope} {dvs : List V} {kws : List (Str × V)} {f : Addr} {fd : FuncData} {N ps : List Str} {k : Nat} {t : PTS} {Φ : Con}
    (F : FunD Z.K x qual params body scope dvs kws f fd) (S : FnScope N ps scope)
    (hb : ∀ (cdv : Value) (A : Around) (outer : List Env) (s : Shared) (H : Hp) (E : XK), Room k (A.deeper (envOfC qual scope s.heap.objs.size f cdv)) → PSs (cxOf CX0 P w Z.K mg base N qual scope f cdv A outer s H E).nox body (liftS Z t))
    (hp : ∀ as Q, Φ as Q → as.length = ps.length ∧ t ⟨fun _ => Q .non, Q, fun _ => False, fun _ => False⟩ (startP N as)) : FnOk P w Z.K mg base CX0 (k + 1) f fd ps (spP Z Φ) := by
  refine F.ok S (fun vs H Q E ⟨W, as, Qp, hh, d, φ, q⟩ => ?_) (fun cdv A outer s H vs Q E hr ⟨W, as, Qp, hh, d, φ, q⟩ => ⟨_, (hb cdv A outer s H E hr).nox, ?_⟩)
  · rw [d.length]; exact (hp as Qp φ).1
  · exact ⟨W, H, W, _, _, hh, .refl hh, slots_start d, (hp as Qp φ).2, ⟨fun W' H' σ' ρ' e le S' t' => q W' H' _ _ e .non t', fun W' H' v p e d' t' => q W' H' v p e d' t', fun _ _ _ _ _ _ _ z => z.elim, fun _ _ _ _ _ _ _ z => z.elim⟩⟩

/-! ### own things -/
section
variable {X : Cx} {Z : Par} {W W' W0 : Wd} {H0 H H' : Hp} {σ : L2.St} {ρ : List Slt} {a : Addr} {o : HO} {p : PV} {i : Nat}
theorem Holds.wr (h : Holds Z W H) (n : W.D a = none) (m : ¬ W.M a) : Holds Z W (upd H a o) where
  sub := fun b u e => by
    rw [upd_ne (ne_of_none e n)]
    exact h.sub b u e
  cel := fun b q => by
    obtain ⟨u, r, s⟩ := h.cel b q
    exact ⟨u, by rw [upd_ne (fun c => m (by rw [← c]; exact q))]; exact r, s⟩
  dis := h.dis
theorem Ext.wr (h : Ext Z W0 H0 W H) (n : W.D a = none) (m : ¬ W.M a) (h0 : H0 a = none) : Ext Z W0 H0 W (upd H a o) :=
  ⟨h.holds.wr n m, h.le, fun b u e d k => by rw [upd_ne (ne_of_none e h0)]; exact h.base b u e d k, h.fr, h.frM, fun b p u e => by rw [upd_ne (ne_of_none e h0)]; exact h.fz b p u e⟩
theorem Lt.wr {H1 : Hp} {W1 : Wd} (h : Lt W1 H1 W H) (nf : ∀ p u, H a ≠ some (.frz p u)) : Lt W1 H1 W (upd H a o) := ⟨h.le, fun b p u e => by
  have q := h.fz b p u e
  rw [upd_ne (fun c => by rw [c] at q; exact nf _ _ q)]
  exact q⟩
theorem OwnAt.ne {K : PySem.W.Frag} {b : Addr} {q : PV} (n : b ≠ a) (h : OwnAt K W H b q) : OwnAt K W (upd H a o) b q := h.mono (.refl W) fun u e => by rw [upd_ne n]; exact e
theorem Slots.wr (S : Slots Z W H0 H σ ρ) {q : PV} (e : ρ[i]? = some (.own q)) (ea : σ[i]? = some (some (.ref a))) (d : OwnAt Z.K W (upd H a o) a p) : Slots Z W H0 (upd H a o) σ (ρ.set i (.own p)) := by
  have hi : i < ρ.length := (List.getElem?_eq_some_iff.mp e).1
  refine ⟨by rw [List.length_set]; exact S.len, fun j r z => ?_, fun j r z => ?_, fun j k b r s n z1 z2 z3 z4 => ?_⟩
  · by_cases c : i = j
    · subst c; rw [List.getElem?_set_self hi] at z; cases z
    · rw [List.getElem?_set_ne c] at z; exact S.val j r z
  · by_cases c : i = j
    · subst c
      rw [List.getElem?_set_self hi] at z
      cases z
      obtain ⟨b, h1, h2, h3, h4, h5⟩ := S.own i q e
      rw [ea] at h1
      cases h1
      exact ⟨a, ea, d, h3, h4, h5⟩
    · rw [List.getElem?_set_ne c] at z
      obtain ⟨b, h1, h2, h3, h4, h5⟩ := S.own j r z
      exact ⟨b, h1, h2.ne fun c2 => S.dst i j a q r c e z ea (by rw [← c2]; exact h1), h3, h4, h5⟩
  · have at_ : ∀ (j : Nat) (r : PV), (ρ.set i (.own p))[j]? = some (.own r) → ∃ r', ρ[j]? = some (.own r') := fun j r z => by
      by_cases c : i = j
      · subst c; exact ⟨q, e⟩
      · rw [List.getElem?_set_ne c] at z; exact ⟨r, z⟩
    obtain ⟨r', y1⟩ := at_ j r z1
    obtain ⟨s', y2⟩ := at_ k s z2
    exact S.dst j k b r' s' n y1 y2 z3 z4
/-- an own thing is frozen -/
theorem Slots.frz (S : Slots Z W H0 H σ ρ) {q : PV} (e : ρ[i]? = some (.own q)) (ea : σ[i]? = some (some (.ref a))) (n : W.D a = none) (d : Dat Z.K (W.add a o) (.ref a) p) : Slots Z (W.add a o) H0 H σ (ρ.set i (.val p)) := by
  have hi : i < ρ.length := (List.getElem?_eq_some_iff.mp e).1
  have le := Wd.le_add (o := o) n
  refine ⟨by rw [List.length_set]; exact S.len, fun j r z => ?_, fun j r z => ?_, fun j k b r s n z1 z2 z3 z4 => ?_⟩
  · by_cases c : i = j
    · subst c
      rw [List.getElem?_set_self hi] at z
      cases z
      exact ⟨_, ea, d⟩
    · rw [List.getElem?_set_ne c] at z
      obtain ⟨v, h1, h2⟩ := S.val j r z
      exact ⟨v, h1, h2.mono le⟩
  · by_cases c : i = j
    · subst c; rw [List.getElem?_set_self hi] at z; cases z
    · rw [List.getElem?_set_ne c] at z
      obtain ⟨b, h1, h2, h3, h4, h5⟩ := S.own j r z
      have ne : b ≠ a := fun c2 => S.dst i j a q r c e z ea (by rw [← c2]; exact h1)
      exact ⟨b, h1, h2.mono le fun _ h => h, h3, by show upd W.D a o b = none; rw [upd_ne ne]; exact h4, h5⟩
  · by_cases c : i = j
    · subst c; rw [List.getElem?_set_self hi] at z1; cases z1
    · by_cases c2 : i = k
      · subst c2; rw [List.getElem?_set_self hi] at z2; cases z2
      · rw [List.getElem?_set_ne c] at z1
        rw [List.getElem?_set_ne c2] at z2
        exact S.dst j k b r s n z1 z2 z3 z4
theorem Ext.frz (h : Ext Z W0 H0 W H) (n : W.D a = none) (m : ¬ W.M a) (h0 : H0 a = none) (e : H a = some o) : Ext Z W0 H0 (W.add a o) H :=
  ⟨h.holds.freeze n m e, h.le.trans (Wd.le_add n), h.base, fun b u q => by
    by_cases c : b = a
    · subst c; exact .inr h0
    · have q' : upd W.D a o b = some u := q
      rw [upd_ne c] at q'
      exact h.fr b u q', h.frM, h.fz⟩
/-- what is frozen by the statement's reading, ahead of it -/
def pFrz (i : Nat) (t : PTS) : PTS := fun E ρ => match ρ[i]? with
  | some (.own p) => t E (ρ.set i (.val p))
  | _ => t E ρ
theorem own_frz (h0 : Holds Z W0 H0) (e : Ext Z W0 H0 W H) (S : Slots Z W H0 H σ ρ) {q : PV} (z : ρ[i]? = some (.own q)) : ∃ W1, W.le W1 ∧ Ext Z W0 H0 W1 H ∧ Slots Z W1 H0 H σ (ρ.set i (.val q)) := by
  obtain ⟨a, h1, h2, h3, h4, h5⟩ := S.own i q z
  cases q with
  | lst l =>
    obtain ⟨xs, ha, r⟩ := h2
    exact ⟨W.add a (.lst xs), Wd.le_add h4, e.frz h4 h5 h3 ha, S.frz z h1 h4 (.lst Wd.add_at (r.mono (Wd.le_add h4)))⟩
  | dic l =>
    obtain ⟨xs, ha, r⟩ := h2
    exact ⟨W.add a (.dK xs), Wd.le_add h4, e.frz h4 h5 h3 ha, S.frz z h1 h4 (.dic Wd.add_at (r.mono (Wd.le_add h4)))⟩
  | dct l =>
    obtain ⟨xs, ha, r⟩ := h2
    exact ⟨W.add a (.dT xs), Wd.le_add h4, e.frz h4 h5 h3 ha, S.frz z h1 h4 (.dct Wd.add_at (r.mono (Wd.le_add h4)))⟩
  | obj c l =>
    obtain ⟨dx, xs, ha, r⟩ := h2
    exact ⟨W.add a (.ins (He.ga Z.K c) dx xs), Wd.le_add h4, e.frz h4 h5 h3 ha, S.frz z h1 h4 (.obj Wd.add_at (r.mono (Wd.le_add h4)))⟩
  | _ => exact h2.elim
theorem qs_frz {st : Stmt} {t : PTS} (i : Nat) (h : PS X st (liftS Z t)) : PS X st (liftS Z (pFrz i t)) :=
  PSw h fun D σ H ⟨W0, H0, W, ρ, E, h0, e, S, t, D1⟩ => by
    unfold pFrz at t
    split at t
    · rename_i q z
      obtain ⟨W1, le, e1, S1⟩ := own_frz h0 e S z
      exact ⟨W0, H0, W1, _, E, h0, e1, S1, t, D1.up ⟨le, fun _ _ _ h => h⟩⟩
    · exact ⟨W0, H0, W, ρ, E, h0, e, S, t, D1⟩
/-- x = [] -/
def pNewL (i : Nat) : PTS := fun E ρ => E.nx (ρ.set i (.own (.lst [])))
theorem Slots.fresh_own (S : Slots Z W H0 H σ ρ) (n : H a = none) : ∀ (j : Nat) (q : PV), ρ[j]? = some (.own q) → σ[j]? ≠ some (some (.ref a)) := fun j q e z => by
  obtain ⟨b, h1, h2, _⟩ := S.own j q e
  rw [z] at h1
  cases h1
  obtain ⟨u, hu⟩ := h2.ob
  rw [n] at hu; cases hu
theorem new_own (h0 : Holds Z W0 H0) (e : Ext Z W0 H0 W H) (S : Slots Z W H0 H σ ρ) (i : Nat) (n : H a = none) (d : OwnAt Z.K W (upd H a o) a p) :
    Ext Z W0 H0 W (upd H a o) ∧ Slots Z W H0 (upd H a o) (σ.set i (some (.ref a))) (ρ.set i (.own p)) := by
  have x := Ext.put (o := o) e.holds n
  have ha := e.nonE h0 n
  refine ⟨e.trans h0 x, (S.ext x).setOwn i d ha (e.holds.new n) (e.holds.newM n) (S.fresh_own n)⟩
theorem qs_newL {i : Nat} {x : Str} {pos' pos pos2 : Pos} (hN : X.N.Nodup) (hi : X.N[i]? = some x := by rfl) (hx : Loc X.env.scope x := by first | exact .inl rfl | exact .inr rfl) (hs : swapsWith (.List [] pos2) (some (.Name x pos')) pos.line X.env = pure false := by rfl)
    (hf : X.fn x = true ∨ X.env.scope.names.lookup x = some .local := by first | exact .inl rfl | exact .inr rfl) :
    PS X (.Assign [.Name x pos'] (.List [] pos2) pos) (liftS Z (pNewL i)) :=
  PSw (ps_set hN hi hx (pe_lst pa_nil) hs hf) fun D σ H ⟨W0, H0, W, ρ, E, h0, e, S, t, D1⟩ =>
    ⟨Nat.zero_le _, fun p n => by
      obtain ⟨e1, S1⟩ := new_own (o := .lst []) (p := .lst []) h0 e S i n ⟨[], upd_same, .nil⟩
      exact D1.nx W _ _ _ e1 ⟨.refl W, fun b q v e => by rw [upd_ne (ne_of_none e n)]; exact e⟩ S1 t⟩
/-- x = [..] that will be changed -/
def pSetL (i : Nat) (ta : PTA) : PTS := fun E ρ => ta ρ fun ps => ps.length ≤ sizeLine ∧ E.nx (ρ.set i (.own (.lst ps)))
theorem qs_setL {i : Nat} {x : Str} {es : List Expr} {ta : PTA} {pos' pos pos2 : Pos} (hN : X.N.Nodup) (ha : PA X es (liftA Z ta)) (hi : X.N[i]? = some x := by rfl) (hx : Loc X.env.scope x := by first | exact .inl rfl | exact .inr rfl) (hs : swapsWith (.List es pos2) (some (.Name x pos')) pos.line X.env = pure false := by rfl)
    (hf : X.fn x = true ∨ X.env.scope.names.lookup x = some .local := by first | exact .inl rfl | exact .inr rfl) :
    PS X (.Assign [.Name x pos'] (.List es pos2) pos) (liftS Z (pSetL i ta)) :=
  PSw (ps_set hN hi hx (pe_lst ha) hs hf) fun D σ H ⟨W0, H0, W, ρ, E, h0, e, S, t, D1⟩ =>
    ⟨W, H0, ρ, _, e.holds, S, t, fun W1 H1 vs ps e1 d1 t1 => ⟨by rw [d1.length]; exact t1.1, fun p n => by
      obtain ⟨e2, S2⟩ := new_own (o := .lst vs) (p := .lst ps) h0 (e.trans h0 e1) (S.ext e1) i n ⟨vs, upd_same, d1⟩
      exact D1.nx W1 _ _ _ e2 ⟨e1.le, fun b q v e => by
        have z := e1.fz b q v e
        rw [upd_ne (ne_of_none z n)]
        exact z⟩ S2 t1.2⟩⟩
/-- x = {} -/
def pNewD (i : Nat) : PTS := fun E ρ => E.nx (ρ.set i (.own (.dic [])))
theorem qs_newD {i : Nat} {x : Str} {pos' pos pos2 : Pos} (hN : X.N.Nodup) (hi : X.N[i]? = some x := by rfl) (hx : Loc X.env.scope x := by first | exact .inl rfl | exact .inr rfl) (hs : swapsWith (.Dict [] [] pos2) (some (.Name x pos')) pos.line X.env = pure false := by rfl)
    (hf : X.fn x = true ∨ X.env.scope.names.lookup x = some .local := by first | exact .inl rfl | exact .inr rfl) :
    PS X (.Assign [.Name x pos'] (.Dict [] [] pos2) pos) (liftS Z (pNewD i)) :=
  PSw (ps_set hN hi hx pe_dnewK hs hf) fun D σ H ⟨W0, H0, W, ρ, E, h0, e, S, t, D1⟩ =>
    fun p n => by
      obtain ⟨e1, S1⟩ := new_own (o := .dK []) (p := .dic []) h0 e S i n ⟨[], upd_same, .nil⟩
      exact D1.nx W _ _ _ e1 ⟨.refl W, fun b q v e => by rw [upd_ne (ne_of_none e n)]; exact e⟩ S1 t
def pNewT (i : Nat) : PTS := fun E ρ => E.nx (ρ.set i (.own (.dct [])))
theorem qs_newT {i : Nat} {x : Str} {pos' pos pos2 : Pos} (hN : X.N.Nodup) (hi : X.N[i]? = some x := by rfl) (hx : Loc X.env.scope x := by first | exact .inl rfl | exact .inr rfl) (hs : swapsWith (.Dict [] [] pos2) (some (.Name x pos')) pos.line X.env = pure false := by rfl)
    (hf : X.fn x = true ∨ X.env.scope.names.lookup x = some .local := by first | exact .inl rfl | exact .inr rfl) :
    PS X (.Assign [.Name x pos'] (.Dict [] [] pos2) pos) (liftS Z (pNewT i)) :=
  PSw (ps_set hN hi hx pe_dnewT hs hf) fun D σ H ⟨W0, H0, W, ρ, E, h0, e, S, t, D1⟩ =>
    fun p n => by
      obtain ⟨e1, S1⟩ := new_own (o := .dT []) (p := .dct []) h0 e S i n ⟨[], upd_same, .nil⟩
      exact D1.nx W _ _ _ e1 ⟨.refl W, fun b q v e => by rw [upd_ne (ne_of_none e n)]; exact e⟩ S1 t
/-- x.append(e) -/
def pApp (i : Nat) (te : PTE) : PTS := fun E ρ => match ρ[i]? with
  | some (.own (.lst l)) => te ρ fun p => l.length < sizeLine ∧ E.nx (ρ.set i (.own (.lst (l ++ [p]))))
  | _ => False
theorem qs_append {i : Nat} {x : Str} {e : Expr} {te : PTE} {px apos pos pos2 : Pos} (he : PE X e (lift Z te)) (hi : X.N[i]? = some x := by rfl) (hv : Vis X.env.scope x := by first | exact .inl rfl | exact .inr (.inl rfl) | exact .inr (.inr rfl))
    (hd : (x == ("__debug__" : Str)) = false := by decide) (hcd : (x == ("__classdict__" : Str)) = false := by decide)
    (hbase : attributeBase (.Name x px) "append" X.env (eval (.Name x px) X.env) = eval (.Name x px) X.env := by rfl)
    (hfew : ((backTo pos (starEach [e] X.env)).all (fun x => !x.1) && (backToKw pos (keywordEach [] X.env)).all (fun x => x.1.isSome)
      && decide (([e] : List Expr).length + ([] : List Keyword).length + (if ([] : List Keyword).isEmpty then 0 else 1) < 30)) = true := by rfl)
    (hline : (apos.endLine == pos.line) = true := by rfl) (hs1 : starEach [e] X.env = (false, eval e X.env) :: starEach [] X.env := by rfl) (hplain : (backTo pos (starEach [] X.env)).any (·.1) = false := by rfl)
    (hs : swapsWith (.Call (.Attribute (.Name x px) "append" apos) [e] [] pos) none pos2.line X.env = pure false := by rfl) :
    PS X (.Expr (.Call (.Attribute (.Name x px) "append" apos) [e] [] pos) pos2) (liftS Z (pApp i te)) :=
  PSw (ps_expr (pe_bm PySem.F.plainAttrs_list PySem.F.slot_list_append PySem.F.type_list_append mt_append (pe_var hi hv hd hcd) (pa_cons he pa_nil hs1) hbase hfew hline hs1 hplain) hs) fun D σ H ⟨W0, H0, W, ρ, E, h0, e, S, t, D1⟩ => by
    unfold pApp at t
    split at t
    · rename_i l z
      obtain ⟨a, h1, ⟨xs, ha, r⟩, h3, h4, h5⟩ := S.own i _ z
      refine ⟨_, h1, .inl ⟨rfl, xs, .of ha⟩, W, H0, ρ, _, e.holds, S, t, fun W1 H1 v p e1 d1 t1 => ?_⟩
      obtain ⟨b, g1, ⟨ys, hb, r1⟩, g3, g4, g5⟩ := (S.ext e1).own i _ z
      rw [h1] at g1
      cases g1
      refine ⟨a, ys, v, rfl, rfl, hb, by rw [r1.length]; exact t1.1, ?_⟩
      have E1 := e.trans h0 e1
      exact D1.nx W1 _ _ _ (E1.wr g4 g5 g3) (e1.lt.wr fun p u z => by rw [hb] at z; cases z) ((S.ext e1).wr (p := .lst (l ++ [p])) z h1 ⟨_, upd_same, r1.append (.one d1)⟩) t1.2
    · exact t.elim
/-- x.extend(e) -/
def pExt (i : Nat) (te : PTE) : PTS := fun E ρ => match ρ[i]? with
  | some (.own (.lst l)) => te ρ fun p => match p with
    | .lst m => l.length + m.length ≤ sizeLine ∧ E.nx (ρ.set i (.own (.lst (l ++ m))))
    | _ => False
  | _ => False
theorem qs_extend {i : Nat} {x : Str} {e : Expr} {te : PTE} {px apos pos pos2 : Pos} (he : PE X e (lift Z te)) (hi : X.N[i]? = some x := by rfl) (hv : Vis X.env.scope x := by first | exact .inl rfl | exact .inr (.inl rfl) | exact .inr (.inr rfl))
    (hd : (x == ("__debug__" : Str)) = false := by decide) (hcd : (x == ("__classdict__" : Str)) = false := by decide)
    (hbase : attributeBase (.Name x px) "extend" X.env (eval (.Name x px) X.env) = eval (.Name x px) X.env := by rfl)
    (hfew : ((backTo pos (starEach [e] X.env)).all (fun x => !x.1) && (backToKw pos (keywordEach [] X.env)).all (fun x => x.1.isSome)
      && decide (([e] : List Expr).length + ([] : List Keyword).length + (if ([] : List Keyword).isEmpty then 0 else 1) < 30)) = true := by rfl)
    (hline : (apos.endLine == pos.line) = true := by rfl) (hs1 : starEach [e] X.env = (false, eval e X.env) :: starEach [] X.env := by rfl) (hplain : (backTo pos (starEach [] X.env)).any (·.1) = false := by rfl)
    (hs : swapsWith (.Call (.Attribute (.Name x px) "extend" apos) [e] [] pos) none pos2.line X.env = pure false := by rfl) :
    PS X (.Expr (.Call (.Attribute (.Name x px) "extend" apos) [e] [] pos) pos2) (liftS Z (pExt i te)) :=
  PSw (ps_expr (pe_bm PySem.F.plainAttrs_list PySem.F.slot_list_extend PySem.F.type_list_extend mt_extend (pe_var hi hv hd hcd) (pa_cons he pa_nil hs1) hbase hfew hline hs1 hplain) hs) fun D σ H ⟨W0, H0, W, ρ, E, h0, e, S, t, D1⟩ => by
    unfold pExt at t
    split at t
    · rename_i l z
      obtain ⟨a, h1, ⟨xs, ha, r⟩, h3, h4, h5⟩ := S.own i _ z
      refine ⟨_, h1, .inl ⟨rfl, xs, .of ha⟩, W, H0, ρ, _, e.holds, S, t, fun W1 H1 v p e1 d1 t1 => ?_⟩
      obtain ⟨b, g1, ⟨ys, hb, r1⟩, g3, g4, g5⟩ := (S.ext e1).own i _ z
      rw [h1] at g1
      cases g1
      cases d1 with
      | lst hz rz =>
        refine ⟨a, _, ys, _, rfl, rfl, hb, e1.holds.ex hz (fun z => z), by rw [r1.length, rz.length]; exact t1.1, ?_⟩
        have E1 := e.trans h0 e1
        exact D1.nx W1 _ _ _ (E1.wr g4 g5 g3) (e1.lt.wr fun p u z => by rw [hb] at z; cases z) ((S.ext e1).wr (p := .lst (l ++ _)) z h1 ⟨_, upd_same, r1.append rz⟩) t1.2
      | _ => exact t1.elim
    · exact t.elim
/-! ### tables -/
def putA {κ α : Type} [DecidableEq κ] (kvs : List (κ × α)) (k : κ) (v : α) : List (κ × α) :=
  if (kvs.any fun kv => decide (kv.1 = k)) = true then kvs.map (fun kv => if kv.1 = k then (kv.1, v) else kv) else kvs ++ [(k, v)]
def valA {κ α : Type} [DecidableEq κ] (kvs : List (κ × α)) (k : κ) : Option α := (kvs.find? fun kv => decide (kv.1 = k)).map (·.2)
theorem valA_nil {κ α : Type} [DecidableEq κ] {k : κ} : valA ([] : List (κ × α)) k = none := rfl
theorem valA_cons {κ α : Type} [DecidableEq κ] {p : κ × α} {r : List (κ × α)} {k : κ} : valA (p :: r) k = if p.1 = k then some p.2 else valA r k := by
  by_cases e : p.1 = k
  · simp [valA, List.find?_cons, e]
  · simp [valA, List.find?_cons, e]
theorem DatK.any {K : PySem.W.Frag} {W : Wd} {k : Key} : ∀ {vs : List (Key × V)} {ps : List (Key × PV)}, DatK K W vs ps → (vs.any fun kv => decide (kv.1 = k)) = (ps.any fun kv => decide (kv.1 = k))
  | _, _, .nil => rfl
  | _, _, .cons h t => by simp only [List.any_cons]; rw [DatK.any t]
theorem DatK.mapIf {K : PySem.W.Frag} {W : Wd} {k : Key} {v : V} {p : PV} (d : Dat K W v p) : ∀ {vs : List (Key × V)} {ps : List (Key × PV)}, DatK K W vs ps → DatK K W (vs.map fun kv => if kv.1 = k then (kv.1, v) else kv) (ps.map fun kv => if kv.1 = k then (kv.1, p) else kv)
  | _, _, .nil => .nil
  | _, _, .cons (k := k') h t => by
    simp only [List.map_cons]
    by_cases c : k' = k
    · rw [if_pos c, if_pos c]; exact .cons d (DatK.mapIf d t)
    · rw [if_neg c, if_neg c]; exact .cons h (DatK.mapIf d t)
theorem DatK.append {K : PySem.W.Frag} {W : Wd} : ∀ {vs vs' : List (Key × V)} {ps ps' : List (Key × PV)}, DatK K W vs ps → DatK K W vs' ps' → DatK K W (vs ++ vs') (ps ++ ps')
  | _, _, _, _, .nil, s => s
  | _, _, _, _, .cons h t, s => .cons h (DatK.append t s)
theorem DatK.put {K : PySem.W.Frag} {W : Wd} {k : Key} {v : V} {p : PV} {vs : List (Key × V)} {ps : List (Key × PV)} (r : DatK K W vs ps) (d : Dat K W v p) : DatK K W (putK vs k v) (putA ps k p) := by
  unfold putK putA
  rw [r.any]
  by_cases c : (ps.any fun kv => decide (kv.1 = k)) = true
  · rw [if_pos c, if_pos c]; exact r.mapIf d
  · rw [if_neg c, if_neg c]; exact r.append (.cons d .nil)
theorem DatK.val {K : PySem.W.Frag} {W : Wd} {k : Key} : ∀ {vs : List (Key × V)} {ps : List (Key × PV)}, DatK K W vs ps → (valV vs k = none ∧ valA ps k = none) ∨ ∃ v p, valV vs k = some v ∧ valA ps k = some p ∧ Dat K W v p
  | _, _, .nil => .inl ⟨rfl, rfl⟩
  | _, _, .cons (k := k') (v := v) (p := p) h t => by
    by_cases c : k' = k
    · exact .inr ⟨v, p, valV_pos c, by rw [valA_cons, if_pos c], h⟩
    · rw [valV_neg c, valA_cons, if_neg c]
      exact DatK.val t
theorem DatT.any {K : PySem.W.Frag} {W : Wd} {k : List Key} : ∀ {vs : List (List Key × V)} {ps : List (List Key × PV)}, DatT K W vs ps → (vs.any fun kv => decide (kv.1 = k)) = (ps.any fun kv => decide (kv.1 = k))
  | _, _, .nil => rfl
  | _, _, .cons h t => by simp only [List.any_cons]; rw [DatT.any t]
theorem DatT.mapIf {K : PySem.W.Frag} {W : Wd} {k : List Key} {v : V} {p : PV} (d : Dat K W v p) : ∀ {vs : List (List Key × V)} {ps : List (List Key × PV)}, DatT K W vs ps → DatT K W (vs.map fun kv => if kv.1 = k then (kv.1, v) else kv) (ps.map fun kv => if kv.1 = k then (kv.1, p) else kv)
  | _, _, .nil => .nil
  | _, _, .cons (k := k') h t => by
    simp only [List.map_cons]
    by_cases c : k' = k
    · rw [if_pos c, if_pos c]; exact .cons d (DatT.mapIf d t)
    · rw [if_neg c, if_neg c]; exact .cons h (DatT.mapIf d t)
theorem DatT.append {K : PySem.W.Frag} {W : Wd} : ∀ {vs vs' : List (List Key × V)} {ps ps' : List (List Key × PV)}, DatT K W vs ps → DatT K W vs' ps' → DatT K W (vs ++ vs') (ps ++ ps')
  | _, _, _, _, .nil, s => s
  | _, _, _, _, .cons h t, s => .cons h (DatT.append t s)
theorem DatT.put {K : PySem.W.Frag} {W : Wd} {k : List Key} {v : V} {p : PV} {vs : List (List Key × V)} {ps : List (List Key × PV)} (r : DatT K W vs ps) (d : Dat K W v p) : DatT K W (putK vs k v) (putA ps k p) := by
  unfold putK putA
  rw [r.any]
  by_cases c : (ps.any fun kv => decide (kv.1 = k)) = true
  · rw [if_pos c, if_pos c]; exact r.mapIf d
  · rw [if_neg c, if_neg c]; exact r.append (.cons d .nil)
theorem DatT.length {K : PySem.W.Frag} {W : Wd} : ∀ {vs : List (List Key × V)} {ps : List (List Key × PV)}, DatT K W vs ps → vs.length = ps.length
  | _, _, .nil => rfl
  | _, _, .cons _ t => congrArg (· + 1) (DatT.length t)
/-- a key as a value -/
def keyP : PV → Option Key
  | .int i => some (.inl i)
  | .str x => some (.inr x)
  | _ => none
def keysP : List PV → Option (List Key)
  | [] => some []
  | p :: r => match keyP p, keysP r with
    | some k, some ks => some (k :: ks)
    | _, _ => none
theorem Dat.key {K : PySem.W.Frag} {W : Wd} {v : V} {p : PV} {k : Key} (d : Dat K W v p) (e : keyP p = some k) : v = kV k := by
  cases d with
  | int i => cases e; rfl
  | str x => cases e; rfl
  | _ => cases e
theorem DatL.keys {K : PySem.W.Frag} {W : Wd} : ∀ {vs : List V} {ps : List PV} {ks : List Key}, DatL K W vs ps → keysP ps = some ks → vs = ks.map kV
  | _, _, _, .nil, e => by cases e; rfl
  | _, p :: r, ks, .cons h t, e => by
    unfold keysP at e
    split at e
    · rename_i k ks' e1 e2
      cases e
      rw [List.map_cons, h.key e1, t.keys e2]
    · cases e
/-- d[k] = e -/
def pDPut (i : Nat) (tk tv : PTE) : PTS := fun E ρ => match ρ[i]? with
  | some (.own (.dic l)) => tv ρ fun p => tk ρ fun q => match keyP q with
    | some k => l.length < sizeLine ∧ E.nx (ρ.set i (.own (.dic (putA l k p))))
    | none => False
  | some (.own (.dct l)) => tv ρ fun p => tk ρ fun q => match q with
    | .tup ks => (match keysP ks with
      | some k => l.length < sizeLine ∧ E.nx (ρ.set i (.own (.dct (putA l k p))))
      | none => False)
    | _ => False
  | _ => False
theorem qs_dput {i : Nat} {x : Str} {ek e : Expr} {tk tv : PTE} {px pos' pos : Pos} {j : Nat} (hr : Room j X.A) (hk : PE X ek (lift Z tk)) (he : PE X e (lift Z tv)) (hi : X.N[i]? = some x := by rfl) (hv : Vis X.env.scope x := by first | exact .inl rfl | exact .inr (.inl rfl) | exact .inr (.inr rfl))
    (hd : (x == ("__debug__" : Str)) = false := by decide) (hcd : (x == ("__classdict__" : Str)) = false := by decide) (hs : swapsWith e (some (.Subscript (.Name x px) ek pos')) pos.line X.env = pure false := by rfl) :
    PS X (.Assign [.Subscript (.Name x px) ek pos'] e pos) (liftS Z (pDPut i tk tv)) := by
  have hu : X.A.units + 1 < cLine := by have := hr.units; omega
  refine PSw (ps_dput hu (pe_var hi hv hd hcd) hk he hs) fun D σ H ⟨W0, H0, W, ρ, E, h0, e, S, t, D1⟩ => ?_
  unfold pDPut at t
  split at t
  · rename_i l z
    refine ⟨W, H0, ρ, _, e.holds, S, t, fun W1 H1 v p e1 d1 t1 => ?_⟩
    obtain ⟨a, h1, h2, h3, h4, h5⟩ := (S.ext e1).own i _ z
    refine ⟨_, h1, W1, H0, ρ, _, e1.holds, S.ext e1, t1, fun W2 H2 u q e2 d2 t2 => ?_⟩
    obtain ⟨b, g1, ⟨xs, hx, r⟩, g3, g4, g5⟩ := ((S.ext e1).ext e2).own i _ z
    rw [h1] at g1
    cases g1
    have E2 := (e.trans h0 e1).trans h0 e2
    split at t2
    · rename_i k ek
      refine ⟨a, _, rfl, by rw [d2.key ek]; exact .k hx (by rw [r.length]; exact t2.1), ?_⟩
      exact D1.nx W2 _ _ _ (E2.wr g4 g5 g3) ((e1.lt.trans e2.lt).wr fun p u z => by rw [hx] at z; cases z) (((S.ext e1).ext e2).wr (p := .dic (putA l k p)) z h1 ⟨_, upd_same, r.put (d1.mono e2.le)⟩) t2.2
    · exact t2.elim
  · rename_i l z
    refine ⟨W, H0, ρ, _, e.holds, S, t, fun W1 H1 v p e1 d1 t1 => ?_⟩
    obtain ⟨a, h1, h2, h3, h4, h5⟩ := (S.ext e1).own i _ z
    refine ⟨_, h1, W1, H0, ρ, _, e1.holds, S.ext e1, t1, fun W2 H2 u q e2 d2 t2 => ?_⟩
    obtain ⟨b, g1, ⟨xs, hx, r⟩, g3, g4, g5⟩ := ((S.ext e1).ext e2).own i _ z
    rw [h1] at g1
    cases g1
    have E2 := (e.trans h0 e1).trans h0 e2
    cases d2 with
    | tup hb rb =>
      dsimp only at t2
      split at t2
      · rename_i k ek
        have hb' := e2.holds.ex hb (fun z => z)
        rw [rb.keys ek] at hb'
        refine ⟨a, _, rfl, .t hx hb' (by rw [r.length]; exact t2.1), ?_⟩
        exact D1.nx W2 _ _ _ (E2.wr g4 g5 g3) ((e1.lt.trans e2.lt).wr fun p u z => by rw [hx] at z; cases z) (((S.ext e1).ext e2).wr (p := .dct (putA l k p)) z h1 ⟨_, upd_same, r.put (d1.mono e2.le)⟩) t2.2
      · exact t2.elim
    | _ => exact t2.elim
  · exact t.elim

/-! ### comprehensions -/
def wipeP (ρ : List Slt) : List Nat → List Slt
  | [] => ρ
  | v :: vs => (wipeP ρ vs).set v .no
theorem Slots.wipe {Z : Par} {W : Wd} {H0 H : Hp} {σ : L2.St} {ρ : List Slt} (S : Slots Z W H0 H σ ρ) : ∀ vs : List Nat, Slots Z W H0 H (L2.wipe σ vs) (wipeP ρ vs)
  | [] => S
  | v :: vs => (Slots.wipe S vs).setNo v
theorem wipe_only {ws vs : List Nat} {σ σ' : L2.St} (o : Only1 ws σ σ') (hs : ∀ i ∈ ws, i ∈ vs) : L2.wipe σ' vs = L2.wipe σ vs := by
  have at_ : ∀ (vs : List Nat) (σ : L2.St) (i : Nat), (L2.wipe σ vs)[i]? = if i < σ.length then (if i ∈ vs then some none else σ[i]?) else none := by
    intro vs
    induction vs with
    | nil =>
      intro σ i
      show σ[i]? = _
      by_cases h : i < σ.length
      · rw [if_pos h, if_neg (by simp)]
      · rw [if_neg h, List.getElem?_eq_none (by omega)]
    | cons v vs ih =>
      intro σ i
      show ((L2.wipe σ vs).set v none)[i]? = _
      by_cases c : v = i
      · subst c
        by_cases h : v < σ.length
        · rw [List.getElem?_set_self (by rw [wipe_length]; exact h), if_pos h, if_pos (by simp)]
        · rw [List.getElem?_eq_none (by rw [List.length_set, wipe_length]; omega), if_neg h]
      · rw [List.getElem?_set_ne c, ih]
        have m : i ∈ v :: vs ↔ i ∈ vs := by simp [Ne.symm c]
        simp only [m]
  apply List.ext_getElem?
  intro i
  rw [at_, at_, o.1]
  by_cases h : i < σ.length
  · rw [if_pos h, if_pos h]
    by_cases c : i ∈ vs
    · rw [if_pos c, if_pos c]
    · rw [if_neg c, if_neg c]
      exact o.2 i fun z => c (hs i z)
  · rw [if_neg h, if_neg h]
def pTsYes : PTT := fun _ Q => Q true
def pLcL (g : PTG) (tt : PTT) (te : PTE) (ρ : List Slt) (Q : List PV → Prop) : List PV → List PV → Prop
  | [], acc => Q acc
  | p :: ps, acc => g p ρ fun ρ1 => tt ρ1 fun b => match b with
    | true => te ρ1 fun r => acc.length < sizeLine ∧ pLcL g tt te ρ Q ps (acc ++ [r])
    | false => pLcL g tt te ρ Q ps acc
def pLc (ti : PTI) (g : PTG) (tt : PTT) (te : PTE) (vs : List Nat) : PTE := fun ρ Q => ti ρ fun l => pLcL g tt te (wipeP ρ vs) (fun acc => Q (.lst acc)) l []
theorem lc_of {ti : PTI} {ws vs : List Nat} {g : PTG} {tt : PTT} {te : PTE} (hs : ∀ i ∈ ws, i ∈ vs) (σ : L2.St) (H : Hp) (Q : VK) (h : lift Z (pLc ti g tt te vs) σ H Q) : tLc (liftI Z ti) (liftG Z ws g) (liftT Z tt) (lift Z te) vs σ H Q := by
  obtain ⟨W, H0, ρ, Qp, hh, S, t, q⟩ := h
  refine ⟨W, H0, ρ, _, hh, S, t, fun W1 H1 J l e1 sv t1 => fun D nD => ?_⟩
  have S1 := (S.ext e1).wipe vs
  have ePut := Ext.put (o := .lst []) e1.holds nD
  refine ⟨fun i m H' => m = l.length - i ∧ i ≤ l.length ∧ ∃ W' va acc, Ext Z W1 H1 W' H' ∧ H' D = some (.lst va) ∧ W'.D D = none ∧ ¬ W'.M D ∧ DatL Z.K W' va acc ∧ pLcL g tt te (wipeP ρ vs) (fun acc => Qp (.lst acc)) (l.drop i) acc,
    ⟨l.length, rfl, Nat.zero_le _, W1, [], [], ePut, upd_same, e1.holds.new nD, e1.holds.newM nD, .nil, t1⟩, ?_⟩
  rintro i m H' ⟨rfl, hi, W', va, acc, e', hD, nW, nM, da, t'⟩
  have sv' := sv W' H' e'.lt e'.holds
  by_cases hlt : i < l.length
  · have g1 := sv'.2 i l[i] (by simp [hlt])
    rw [drop_cons hlt] at t'
    refine .inr ⟨g1.1, fun H2 => i < l.length ∧ ∃ W2 va acc, Ext Z W1 H1 W2 H2 ∧ H2 D = some (.lst va) ∧ W2.D D = none ∧ ¬ W2.M D ∧ DatL Z.K W2 va acc ∧ pLcL g tt te (wipeP ρ vs) (fun acc => Qp (.lst acc)) (l.drop (i + 1)) acc, ?_, fun x H2 y => ?_⟩
    · rintro H2 ⟨_, r⟩
      exact ⟨l.length - (i + 1), by omega, rfl, hlt, r⟩
    · obtain ⟨W2, e2, d2⟩ := g1.2 x H2 y
      have keepD : ∀ {W3 : Wd} {H3 : Hp}, Ext Z W' H' W3 H3 → H3 D = some (.lst va) ∧ W3.D D = none ∧ ¬ W3.M D := fun {W3 H3} e3 => by
        refine ⟨e3.base D _ hD nW nM, ?_, fun z => ?_⟩
        · cases r : W3.D D with
          | none => rfl
          | some u =>
            rcases e3.fr D u r with z | z
            · rw [nW] at z; cases z
            · rw [hD] at z; cases z
        · rcases e3.frM D z with z | z
          · exact nM z
          · rw [hD] at z; cases z
      have S2 := (S1.ext e').ext e2
      refine ⟨W2, H0, wipeP ρ vs, l[i], _, e2.holds, S2, d2, t', fun σ3 ρ3 o3 S3 t3 => ⟨?_, ?_⟩⟩
      · rw [wipe_only o3 hs]
        exact wipe_only (ws := vs) (by
          constructor
          · exact wipe_length σ vs
          · intro i n
            exact wipe_out n) (fun _ h => h)
      · refine ⟨W2, H0, ρ3, _, e2.holds, S3, t3, fun W4 H4 b e4 t4 => ?_⟩
        have E4 := e2.trans e'.holds e4
        cases b with
        | false =>
          obtain ⟨k1, k2, k3⟩ := keepD E4
          exact (if_neg (by decide)).mpr ⟨hlt, W4, va, acc, e'.trans e1.holds E4, k1, k2, k3, da.mono E4.le, t4⟩
        | true =>
          refine (if_pos rfl).mpr ⟨W4, H0, ρ3, _, e4.holds, S3.ext e4, t4, fun W5 H5 v p e5 d5 t5 => ?_⟩
          have E5 := E4.trans e'.holds e5
          obtain ⟨k1, k2, k3⟩ := keepD E5
          refine ⟨va, k1, by rw [da.length]; exact t5.1, hlt, W5, va ++ [v], acc ++ [p], ?_, upd_same, k2, k3, (da.mono E5.le).append (.one d5), t5.2⟩
          exact (e'.trans e1.holds E5).wr k2 k3 nD
  · have ei : i = l.length := by omega
    subst ei
    rw [List.drop_length] at t'
    refine .inl ⟨sv'.1 _ (Nat.le_refl _), ?_⟩
    have e3 : Ext Z W1 H1 (W'.add D (.lst va)) H' := e'.frz nW nM nD hD
    exact q _ _ _ _ (e1.trans hh e3) (.lst Wd.add_at (da.mono (Wd.le_add nW))) t'
structure PTsP (Z : Par) (X : Cx) (ifs : List Expr) (t : PTT) : Prop where
  h : PTs X ifs (liftT Z t)
theorem qts_nil {X : Cx} : PTs X [] (liftT Z pTsYes) := ⟨fun pins s σ H Q I ⟨W, H0, ρ, Qp, hh, S, t, q⟩ => pts_nil.run pins s σ H Q I (q W H true (.refl hh) t)⟩
theorem qts_one {X : Cx} {c : Expr} {t : PTT} (h : PT X c (liftT Z t)) : PTs X [c] (liftT Z t) := pts_one h
theorem q_lc {elt tg iter : Expr} {ifs : List Expr} {scope : Scope} {own : List (Str × Nat)} {ws : List Nat} {pos : Pos} {ti : PTI} {g : PTG} {tt : PTT} {te : PTE} (hN : X.N.Nodup) (hi : PI X tg iter (liftI Z ti)) (ok : BlkOk X.N X.env.scope scope own)
    (hg : ∀ (s : Shared) (H : Hp) (C : Addr) (cl : List (Str × Addr)) (fp : List Addr), PG (X.blk s H scope (compEnvC scope cl C X.env) fp) tg (liftG Z ws g)) (ht : ∀ (s : Shared) (H : Hp) (C : Addr) (cl : List (Str × Addr)) (fp : List Addr), PTs (X.blk s H scope (compEnvC scope cl C X.env) fp) ifs (liftT Z tt))
    (he : ∀ (s : Shared) (H : Hp) (C : Addr) (cl : List (Str × Addr)) (fp : List Addr), PE (X.blk s H scope (compEnvC scope cl C X.env) fp) elt (lift Z te)) (hws : ∀ i ∈ ws, i ∈ own.map (·.2) := by decide) (hc : X.calm = true := by rfl) (hs : ∀ x, foldedSetIterable iter X.env x = pure x := by intro _; rfl) :
    PE X (.ListComp elt [⟨tg, iter, ifs, 0⟩] scope pos) (lift Z (pLc ti g tt te (own.map (·.2)))) :=
  PEw (pe_lc hc hN hi ok hg ht he hs) fun σ H Q => lc_of hws σ H Q
theorem qs_setLc {i : Nat} {y : Str} {py : Pos} {elt tg iter : Expr} {ifs : List Expr} {scope : Scope} {own : List (Str × Nat)} {ws : List Nat} {pos spos : Pos} {ti : PTI} {g : PTG} {tt : PTT} {te : PTE} (hN : X.N.Nodup)
    (hsw : swapsWith (.ListComp elt [⟨tg, iter, ifs, 0⟩] scope pos) (some (.Name y py)) spos.line X.env = pure true) (hi : PI X tg iter (liftI Z ti)) (ok : BlkOk X.N X.env.scope scope own)
    (hg : ∀ (s : Shared) (H : Hp) (C : Addr) (cl : List (Str × Addr)) (fp : List Addr), PG (X.blk s H scope (compEnvC scope cl C X.env) fp) tg (liftG Z ws g)) (ht : ∀ (s : Shared) (H : Hp) (C : Addr) (cl : List (Str × Addr)) (fp : List Addr), PTs (X.blk s H scope (compEnvC scope cl C X.env) fp) ifs (liftT Z tt))
    (he : ∀ (s : Shared) (H : Hp) (C : Addr) (cl : List (Str × Addr)) (fp : List Addr), PE (X.blk s H scope (compEnvC scope cl C X.env) fp) elt (lift Z te)) (hws : ∀ i ∈ ws, i ∈ own.map (·.2) := by decide) (hc : X.calm = true := by rfl) (hy : X.N[i]? = some y := by rfl) (hyl : X.env.scope.names.lookup y = some .local := by rfl) (hs : ∀ x, foldedSetIterable iter X.env x = pure x := by intro _; rfl) :
    PS X (.Assign [.Name y py] (.ListComp elt [⟨tg, iter, ifs, 0⟩] scope pos) spos) (liftS Z (pAsg (pLc ti g tt te (own.map (·.2))) (gNm i))) :=
  PSw (ps_setLc hc hN hy hyl hsw hi ok hg ht he hs) fun D σ H h => by
    obtain ⟨W0, H0, W, ρ, E, h0, e, S, t, D1⟩ := h
    exact lc_of hws σ H _ ⟨W, H0, ρ, _, e.holds, S, t, fun W1 H1 v p e1 d1 t1 => D1.nx W1 H1 _ _ (e.trans h0 e1) e1.lt ((S.ext e1).setVal i d1) t1⟩
end
end L3

/-! ## L3S -/
/-! Set comprehensions, whatever the element's kind (the rule of "add" is handed in), and sorted(a set of ints) of any size. -/
namespace L3
open PySem PySem.Spec PyProof.Rows L2

section
variable {X : Cx}
/-- what adding asks: D the set -/
abbrev AddR := Addr → V → Hp → (Hp → Prop) → Prop
def AddOk (P : Program) (w : World) (r : AddR) : Prop := ∀ (Y : Cx), Y.prog = P → Y.w = w → ∀ (pins : List (Addr × Obj)) (s : Shared) (σ : L2.St) (H : Hp) (D : Addr) (y : V) (u : Value) (Nx : Hp → Prop) (E : Value → Shared → Prop),
  Inv Y pins σ H s → RelV y u → r D y H Nx → wpAny (model P w) Y.A (call (.builtin "set.add") [.ref D, u]) (fun _ s' => ∃ H', Inv Y pins σ H' s' ∧ Nx H') E s
def tScG (mk : Addr → HO) (r : AddR) (wi : TI) (g : TG) (tt : TT) (te : TE) (vs : List Nat) : TE := fun σ H Q => wi σ H fun J H1 => ∀ D, H1 D = none → ∃ W : Nat → Nat → Hp → Prop, (∃ m, W 0 m (upd H1 D (mk D))) ∧ ∀ i m H, W i m H →
  (J.stop i H ∧ Q (.ref D) H) ∨ (J.go i H ∧ ∃ Nx : Hp → Prop, (∀ H', Nx H' → ∃ m', m' < m ∧ W (i + 1) m' H') ∧ ∀ x H', J.yld i H x H' → g x (L2.wipe σ vs) H' fun σ2 H2 => L2.wipe σ2 vs = L2.wipe σ vs ∧ tt σ2 H2 fun b H3 =>
    if b = true then te σ2 H3 fun y H4 => r D y H4 Nx else Nx H3)
abbrev emptySet (w : World) : Obj := { cls := .type "set", dict := none, data := .set #[] 0 (.fresh 0 0 (!w.params.followText "set-order")) }
theorem scG_core {mk : Addr → HO} {r : AddR} {pins : List (Addr × Obj)} {s : Shared} {σ : L2.St} {H : Hp} {Q : VK} {elt tg iter : Expr} {ifs : List Expr} {scope : Scope} {own : List (PySem.Str × Nat)} {pos pos' : Pos} {wi : TI} {g : TG} {tt : TT} {te : TE} {use : Option (Value → Sem Unit)} {Qf : Value → Shared → Prop}
    (hmk : ∀ (H' : Hp) (h : Heap), ObjOk X.prog X.w H' (h.push (emptySet X.w)) h.objs.size (mk h.objs.size)) (hadd : AddOk X.prog X.w r)
    (hc : X.calm = true) (hN : X.N.Nodup) (I : Inv X pins σ H s) (hi : PI X tg iter wi) (ok : BlkOk X.N X.env.scope scope own)
    (hg : ∀ (s : Shared) (H : Hp) (C : Addr) (cl : List (PySem.Str × Addr)) (fp : List Addr), PG (X.blk s H scope (compEnvC scope cl C X.env) fp) tg g)
    (ht : ∀ (s : Shared) (H : Hp) (C : Addr) (cl : List (PySem.Str × Addr)) (fp : List Addr), PTs (X.blk s H scope (compEnvC scope cl C X.env) fp) ifs tt)
    (he : ∀ (s : Shared) (H : Hp) (C : Addr) (cl : List (PySem.Str × Addr)) (fp : List Addr), PE (X.blk s H scope (compEnvC scope cl C X.env) fp) elt te) (hs : ∀ x, foldedSetIterable iter X.env x = pure x)
    (h : tScG mk r wi g tt te (own.map (·.2)) σ H Q)
    (hEnd : ∀ D C s' m H', Inv X pins σ H' s' → Q (.ref D) H' → s'.heap.Ns C m → FpOk X pins H' C → compPost (model X.prog X.w) X.A X.xe use Qf (.ref D) C (.ok .next) s') :
    wpAny (model X.prog X.w) X.A (comprehension (.SetComp elt [⟨tg, iter, ifs, 0⟩] scope pos) scope X.env pos' (newSet (.type "set")) false (eval iter X.env) use) Qf X.xe s := by
  have cellAt : ∀ y ∈ scope.names, y.2 = .free → ∃ c, X.env.cells.lookup y.1 = some c := fun y hy e => (ok.free y hy e).elim (fun k => I.ok.has _ (.inl k)) fun k => I.ok.has _ (.inr k)
  refine wpAny_comprehension_free (use := use) rfl hs (closure_ok cellAt) ok.kind (fun y hy e => by rw [ok.uniq y hy, e]) (thn (hi.run pins s σ H _ I h) fun xv a1 hx => thn hx fun itv a2 k2 => ?_)
  obtain ⟨it, fp, tn, J, H2, e, I2, T, at2, f2, q⟩ := k2
  subst e
  refine PpSet.newSet_ok (newEnv_comp ?_)
  -- the new set stands at D
  generalize hD : a2.heap.objs.size = D
  have nD : H2 D = none := I2.hok.fresh (Nat.le_of_eq hD)
  obtain ⟨W, ⟨m0, w0⟩, turn⟩ := q D nD
  generalize hs3 : ({ a2 with heap := a2.heap.push (emptySet X.w) } : Shared) = a3
  have I3 : Inv X pins σ (upd H2 D (mk D)) a3 := by
    rw [← hs3]
    exact I2.laid (t' := a2.toks) (fun b o e => Heap.get?_push_of_some _ e) (Nat.le_of_eq hD) (by rw [← hD]; exact hmk _ _)
  have h3 : a3.heap = a2.heap.push (emptySet X.w) := by rw [← hs3]
  have szf : ∀ b ∈ fp, b < a2.heap.objs.size := fun b hb => (T.obj _ _ at2 b hb).elim fun o z => Heap.lt_size z.1
  have f3 : ∀ b ∈ fp, FpOk X pins (upd H2 D (mk D)) b ∧ b < a3.heap.objs.size := fun b hb => by
    have lt := szf b hb
    exact ⟨⟨by rw [upd_ne (by rw [← hD]; exact Nat.ne_of_lt lt)]; exact (f2 b hb).1, (f2 b hb).2⟩, by rw [h3, Heap.size_push]; exact Nat.lt_succ_of_lt lt⟩
  have at3 : tn 0 a3.heap := T.keep _ _ _ at2 fun b _ o e => by rw [h3]; exact Heap.get?_push_of_some _ e
  have I4 := block_start I3 ok hN f3
  have pg := hg a3 (upd H2 D (mk D)) a3.heap.objs.size (cellsFrom (a3.heap.objs.size + 1) scope.names (cloFrom X.env.cells scope.names [])) fp
  have pt := ht a3 (upd H2 D (mk D)) a3.heap.objs.size (cellsFrom (a3.heap.objs.size + 1) scope.names (cloFrom X.env.cells scope.names [])) fp
  have pe := he a3 (upd H2 D (mk D)) a3.heap.objs.size (cellsFrom (a3.heap.objs.size + 1) scope.names (cloFrom X.env.cells scope.names [])) fp
  show codeAny _ _ (.compStart (.SetComp elt [⟨tg, iter, ifs, 0⟩] scope pos) 0 (.ref it) (.ref D) (compEnvC scope (cellsFrom (a3.heap.objs.size + 1) scope.names (cloFrom X.env.cells scope.names [])) a3.heap.objs.size X.env))
    (compPost (model X.prog X.w) X.A X.xe use Qf (.ref D) a3.heap.objs.size) { a3 with heap := pushCells (a3.heap.push { cls := .type "dict", data := .dict #[] }) scope.names }
  have nfp : ∀ b ∈ fp, (upd H2 D (mk D)) b = none := fun b hb => (f3 b hb).1.1
  generalize hce : compEnvC scope (cellsFrom (a3.heap.objs.size + 1) scope.names (cloFrom X.env.cells scope.names [])) a3.heap.objs.size X.env = ce at I4 pg pt pe ⊢
  have cL : ce.locals = a3.heap.objs.size := by subst hce; rfl
  generalize hH3 : upd H2 D (mk D) = H3 at I3 I4 pg pt pe w0 nfp f3
  generalize hs4 : ({ a3 with heap := pushCells (a3.heap.push { cls := .type "dict", data := .dict #[] }) scope.names } : Shared) = a4 at I4 ⊢
  have at4 : tn 0 a4.heap := T.keep _ _ _ at3 fun b _ o e => by rw [← hs4]; exact pushCells_keeps _ _ _ _ (Heap.get?_push_of_some _ e)
  have fpk : ∀ {σ' : L2.St} {H' : Hp} {s' : Shared}, Inv (X.blk a3 H3 scope ce fp) [] σ' H' s' → (∀ b ∈ fp, H' b = none) → ∀ b ∈ fp, FpOk (X.blk a3 H3 scope ce fp) [] H' b := fun {σ' H' s'} I' hn b hb =>
    ⟨hn b hb, (I'.ok.exf b hb).1, I'.ok.exfs b hb, .inl hb, fun x c e => (I'.ok.exf b hb).2 x c e, fun p hp => absurd (show p ∈ ([] : List (Addr × Obj)) ++ [] from hp) (by simp)⟩
  have loop : codeAny (model X.prog X.w) X.A (.compLoop (.SetComp elt [⟨tg, iter, ifs, 0⟩] scope pos) 0 (.ref it) (.ref D) ce) (compPost (model X.prog X.w) X.A X.xe use Qf (.ref D) a3.heap.objs.size) a4 := by
    refine PpSet.compLoopS_any (fun n s' => ∃ i H', Inv (X.blk a3 H3 scope ce fp) [] (L2.wipe σ (own.map (·.2))) H' s' ∧ tn i s'.heap ∧ (∀ b ∈ fp, H' b = none) ∧ W i n H') ?_ m0 ⟨0, H3, I4, at4, nfp, w0⟩
    rintro n a5 ⟨i, H5, I5, at5, n5, w5⟩
    rcases turn i n H5 w5 with ⟨stop, qq⟩ | ⟨go, Nx, hNx, step⟩
    · refine thnF (T.done (X.blk a3 H3 scope ce fp) rfl rfl rfl hc i [] a5 _ H5 (fun _ _ => False) I5 (fpk I5 n5) at5 stop) fun o a6 ⟨ho, I6⟩ => ?_
      subst ho
      have I7 : Inv X pins σ H5 a6 := I3.call' (ch := fp) I6.os I6.base I6.hok I6.bare fun b hb => ⟨(f3 b hb).1.2.2.2.1, (f3 b hb).1.2.1, (f3 b hb).1.2.2.2.2.1, (f3 b hb).1.2.2.2.2.2⟩
      have z : H5 ce.locals = none := I6.free
      obtain ⟨m, hn, _⟩ := I6.loc
      have hn : a6.heap.Ns ce.locals m := hn
      rw [cL] at z hn
      exact hEnd D a3.heap.objs.size a6 m H5 I7 qq hn (I3.fpOk (Nat.le_refl _) z)
    · refine thnF (T.item (X.blk a3 H3 scope ce fp) rfl rfl rfl hc i [] a5 _ H5 (fun _ _ => False) I5 (fpk I5 n5) at5 go) fun o a6 ⟨u, ho, k6⟩ => ?_
      subst ho
      refine thnF k6 fun _ a7 ⟨x, H7, I7, r7, y7, at7, n7⟩ => ?_
      have J7 := I7.pinned (fpk I7 n7) (T.obj _ _ at7)
      refine thnF (pg.run _ a7 _ H7 x u _ J7 r7 (step x H7 y7)) fun _ a8 ⟨σ8, H8, I8, hw8, q8⟩ => ?_
      refine thnF (pt.run _ a8 σ8 H8 _ I8 q8) fun b a9 ⟨H9, I9, q9⟩ => ?_
      have fin : ∀ {s' : Shared} {H' : Hp}, Inv (X.blk a3 H3 scope ce fp) ([] ++ pinsAt fp a7.heap) σ8 H' s' → Nx H' → ∃ m, m < n ∧ ∃ i H', Inv (X.blk a3 H3 scope ce fp) [] (L2.wipe σ (own.map (·.2))) H' s' ∧ tn i s'.heap ∧ (∀ b ∈ fp, H' b = none) ∧ W i m H' := fun {s' H'} I' nx => by
        obtain ⟨m', hm, w'⟩ := hNx H' nx
        have pinK : ∀ b ∈ fp, ∀ o, a7.heap.get? b = some o → s'.heap.get? b = some o ∧ H' b = none := fun b hb o e =>
          have z := I'.pin (b, o) (List.mem_append_right _ (List.mem_append_right _ (mem_pinsAt hb e)))
          ⟨z.1, z.2.1⟩
        refine ⟨m', hm, i + 1, H', (I'.unpinned (pins := [])).weak (by rw [← hw8, wipe_length]) (fun j v e => ?_), T.keep _ _ _ at7 fun b hb o e => (pinK b hb o e).1, fun b hb => (T.obj _ _ at7 b hb).elim fun o z => (pinK b hb o z.1).2, w'⟩
        rw [← hw8] at e
        exact (wipe_some e).1
      cases b with
      | false => exact fin I9 ((if_neg (by decide)).mp q9)
      | true =>
        refine thnF (pe.run _ a9 σ8 H9 _ I9 ((if_pos rfl).mp q9)) fun z a10 ⟨yv, H10, I10, r10, q10⟩ => ?_
        exact thnF (hadd (X.blk a3 H3 scope ce fp) rfl rfl _ a10 σ8 H10 D yv z Nx (fun _ _ => False) I10 r10 q10) fun _ a11 ⟨H11, I11, nx⟩ => fin I11 nx
  exact PpSet.codeAny_compStart_set loop (T.self X.A 0 _ _ _ at4 loop)
theorem pe_scG {mk : Addr → HO} {r : AddR} {elt tg iter : Expr} {ifs : List Expr} {scope : Scope} {own : List (PySem.Str × Nat)} {pos : Pos} {wi : TI} {g : TG} {tt : TT} {te : TE}
    (hmk : ∀ (H' : Hp) (h : Heap), ObjOk X.prog X.w H' (h.push (emptySet X.w)) h.objs.size (mk h.objs.size)) (hadd : AddOk X.prog X.w r)
    (hc : X.calm = true) (hN : X.N.Nodup) (hi : PI X tg iter wi) (ok : BlkOk X.N X.env.scope scope own)
    (hg : ∀ (s : Shared) (H : Hp) (C : Addr) (cl : List (PySem.Str × Addr)) (fp : List Addr), PG (X.blk s H scope (compEnvC scope cl C X.env) fp) tg g)
    (ht : ∀ (s : Shared) (H : Hp) (C : Addr) (cl : List (PySem.Str × Addr)) (fp : List Addr), PTs (X.blk s H scope (compEnvC scope cl C X.env) fp) ifs tt)
    (he : ∀ (s : Shared) (H : Hp) (C : Addr) (cl : List (PySem.Str × Addr)) (fp : List Addr), PE (X.blk s H scope (compEnvC scope cl C X.env) fp) elt te) (hs : ∀ x, foldedSetIterable iter X.env x = pure x := by intro _; rfl) :
    PE X (.SetComp elt [⟨tg, iter, ifs, 0⟩] scope pos) (tScG mk r wi g tt te (own.map (·.2))) :=
  ⟨fun pins s σ H Q I h => by
    rw [PpSet.eval_SetComp]
    refine scG_core hmk hadd hc hN I hi ok hg ht he hs h fun D C s' m H' I' q hn f => ⟨m, hn, fun h'' sb => ?_⟩
    obtain ⟨f0, f1, f2, f3, f4, f5⟩ := f
    exact ⟨.ref D, H', I'.turned (t' := s'.toks) (fun b o hb e => (sb.2 b hb).trans e) f0 f1 f3 f4 f5, rfl, q⟩⟩

/-! ### ints -/
def addI (w : World) : AddR := fun D y H Nx => ∃ (k : Int) (S : Int → Bool) (n : Nat), y = .int k ∧ H D = some (SetO w D S n) ∧ n + 1 < scanBound ∧ Nx (upd H D (SetO w D (fun j => S j || decide (j = k)) (if S k = true then n else n + 1)))
theorem addI_ok (P : Program) (w : World) : AddOk P w (addI w) := by
  intro Y hp hw pins s σ H D y u Nx E I ry ⟨k, S, n, ey, hD, room, nx⟩
  subst ey hp hw
  obtain ⟨tk, rfl⟩ := ry
  refine setR_add (setO_get I hD) room fun h' sb new => ?_
  have he : ∃ q, h'.get? D = some q := let ⟨o, _, _, _, ho, _⟩ := new; ⟨o, ho⟩
  exact ⟨_, I.write (e := D) (t' := s.toks + 1) (by rw [hD]; trivial) (.inl rfl) (fun b u hb hu => (sb.2 b hb).trans hu) he (setO_new new), nx⟩
theorem mkI_ok (P : Program) (w : World) (H' : Hp) (h : Heap) : ObjOk P w H' (h.push (emptySet w)) h.objs.size (SetO w h.objs.size (fun _ => false) 0) := setO_new (setR_fresh w)
/-- sorted(a set of ints), any size -/
theorem sorted_setAny {w : World} {P : Program} {A : Around} {E : Value → Shared → Prop} {s : Shared} {a : Addr} {S : Int → Bool} {n : Nat} {Q : Value → Shared → Prop} (R : SetR w s.heap a S n) (hh : A.handled = none)
    (hQ : ∀ s' p (out : Array Value) (c : Nat) (ns : List Int), (∀ b o, s.heap.get? b = some o → s'.heap.get? b = some o) → s'.gens = s.gens → s'.os = s.os → s.heap.objs.size ≤ p →
      s'.heap.get? p = some (seqObj "list" out c) → IntsAre out.toList ns → ns.Pairwise (· < ·) → (∀ k, k ∈ ns ↔ S k = true) → ns.length = n → Q (.ref p) s') :
    wpAny (model P w) A (call (.builtin "sorted") [.ref a]) Q E s := by
  obtain ⟨o, es, ep, t, ho, hex, hd, g, nd, hm, hb, hf, hn, hr, hl⟩ := R
  refine Calls.call_function_entry kind_sorted plain_sorted entry_sorted (args_sorted1 _) ?_
  unfold Builtin.«sorted»
  refine wpAny_bind (m := checkCount "sorted" 1 1 _) (wpAny_pure ?_)
  refine wpAny_bind (collect_set (A := A.in1) hh ⟨o, ho, hex.1, hd⟩ hf hb hr hl fun b1 vs k1 hz g1 o1 pm => ?_)
  have len : vs.length = n := by rw [pm.length_eq, List.length_map, Array.length_toList]; exact hn
  have hI : IntsAre vs (vs.map Builtin.Re.reRawOf) := ints_of vs fun v hv => by
    obtain ⟨e, he, q⟩ := List.mem_map.mp (pm.mem_iff.mp hv)
    obtain ⟨k, tk, z, _⟩ := g e he
    exact ⟨k, tk, by rw [← q]; exact z⟩
  have pk : (vs.map Builtin.Re.reRawOf).Perm (es.toList.map keyOf) := by
    have z := pm.map Builtin.Re.reRawOf
    rwa [List.map_map] at z
  have small : vs.length ≤ sizeLine := by
    rw [len, ← hn, sizeLine_eq]
    have : (scanBound : Nat) = 4096 := rfl
    omega
  refine wpAny_bind (wpAny_newList ?_ small)
  have hoL : (b1.heap.push (seqObj "list" vs.toArray 0)).get? b1.heap.objs.size = some (seqObj "list" vs.toArray 0) := Heap.get?_push_size _ rfl
  refine wpAny_bind (wpAny_holding (wpAny_call_entry slot_list_sort ⟨_, hoL, rfl⟩ entry_list_sort (SrtO.list_sort_ord SrtO.swo_int hoL small (fun h2 => SrtO.ints_sortable hI h2) fun out q1 q2 => ⟨_, rfl, ?_⟩) (args_list_sort _)))
  obtain ⟨c1, c2, c3⟩ := SrtO.ints_out hI q1 q2
  obtain ⟨c, hc⟩ := PyProof.Rows.sortedHeap_at (vs := vs) (out := out.toArray) hoL
  have pn : (out.map SrtO.iv).Perm (es.toList.map keyOf) := c2.trans pk
  refine wpAny_pure ⟨_, rfl, hQ _ b1.heap.objs.size out.toArray c (out.map SrtO.iv) (fun b u e => ?_) g1 o1 hz hc c1 (lt_of_le_nodup _ c3 (pn.nodup_iff.mpr nd)) (fun k => by rw [pn.mem_iff, ← hm k]) ?_⟩
  · have z := k1 b u e
    have lt := Heap.lt_size z
    show (PyProof.Rows.sortedHeap (b1.heap.push (seqObj "list" vs.toArray 0)) b1.heap.objs.size vs out.toArray).get? b = some u
    rw [PyProof.Rows.sortedHeap_old (Nat.ne_of_lt lt) (by rw [size_push']; exact Nat.lt_succ_of_lt lt)]
    exact Heap.get?_push_of_some _ z
  · rw [pn.length_eq, List.length_map, Array.length_toList]; exact hn
def rSortedSetA (w : World) : List V → Hp → VK → Prop := fun vs H Q => ∃ (a : Addr) (S : Int → Bool) (n : Nat), vs = [V.ref a] ∧ H a = some (SetO w a S n) ∧
  ∀ (ns : List Int) (p : Addr), ns.Pairwise (· < ·) → (∀ k : Int, k ∈ ns ↔ S k = true) → ns.length = n → H p = none → Q (.ref p) (upd H p (.lst (ns.map V.int)))
theorem cr_sortedSetA (hc : X.calm = true) : CallR X (.builtin "sorted") (rSortedSetA X.w) := by
  intro pins s σ H vs us Q I r h
  obtain ⟨a, S, n, rfl, ha, q⟩ := h
  have R := setO_get I ha
  have nb : n ≤ sizeLine := by
    obtain ⟨o, es, ep, t, _, _, _, _, _, _, hb, _, hn, _⟩ := R
    rw [← hn, sizeLine_eq]
    have : (scanBound : Nat) = 4096 := rfl
    omega
  rw [Vals.ref1 r]
  refine sorted_setAny R (I.ok.hd hc) fun s' p out c ns k g o hp hg hi hs hm hl => ?_
  have hn : H p = none := I.hok.fresh hp
  have J : Inv X pins σ (upd H p (.lst (ns.map V.int))) { s with heap := s'.heap, gens := s'.gens, drawn := s'.drawn, toks := s'.toks } :=
    I.call (ch := []) (Un.laid k hp hn) (I.hok.laid k hp ⟨by rw [List.length_map, hl]; exact nb, out.toList, c, vals_of_ints hi, hg⟩) (by rw [g]; exact I.bare) (fun _ z => nomatch z)
  have e : s' = { s with heap := s'.heap, gens := s'.gens, drawn := s'.drawn, toks := s'.toks } := by
    cases s'
    cases s
    cases o
    rfl
  rw [e]
  exact ⟨.ref p, _, J, rfl, q ns p hs hm hl hn⟩
end
end L3

/-! ## L3E -/
/-! Operators, subscripts and built-in calls over pure values. -/
namespace L3
open PySem PySem.Spec PyProof.Rows L2

section
variable {X : Cx} {Z : Par}
/-! ### arithmetic -/
def kII (C : Int → Int → Prop) (g : Int → Int → PV) : PK2 := fun p q Q => match p, q with
  | .int i, .int j => C i j ∧ Q (g i j)
  | _, _ => False
theorem opII {f : Value → Value → Sem Value} {C : Int → Int → Prop} {g : Int → Int → V} {g' : Int → Int → PV} (h : OpR X f (rI C g)) (d : ∀ W i j, Dat Z.K W (g i j) (g' i j)) : OpP Z X f (kII C g') :=
  ⟨_, h, fun W H x y p q Q Qp hh dx dy t k => by
    unfold kII at t
    split at t
    · cases dx; cases dy
      exact ⟨_, _, rfl, rfl, t.1, k W H _ _ (.refl hh) (d W _ _) t.2⟩
    · exact t.elim⟩
def kI0 (g : Int → Int → PV) : PK2 := fun p q Q => match p, q with
  | .int i, .int j => Q (g i j)
  | _, _ => False
theorem opI0' {f : Value → Value → Sem Value} {g : Int → Int → V} {g' : Int → Int → PV} (h : OpR X f (rI0 g)) (d : ∀ W i j, Dat Z.K W (g i j) (g' i j)) : OpP Z X f (kI0 g') :=
  ⟨_, h, fun W H x y p q Q Qp hh dx dy t k => by
    unfold kI0 at t
    split at t
    · cases dx; cases dy
      exact ⟨_, _, rfl, rfl, k W H _ _ (.refl hh) (d W _ _) t⟩
    · exact t.elim⟩
/-- two kinds -/
def kOr (k k' : PK2) : PK2 := fun p q Q => k p q Q ∨ k' p q Q
theorem opOr {f : Value → Value → Sem Value} {k k' : PK2} (a : OpP Z X f k) (b : OpP Z X f k') : OpP Z X f (kOr k k') := by
  obtain ⟨r, h1, w1⟩ := a.ex
  obtain ⟨r', h2, w2⟩ := b.ex
  refine ⟨_, h1.or h2, fun W H x y p q Q Qp hh dx dy t k => ?_⟩
  rcases t with t | t
  · exact .inl (w1 W H x y p q Q Qp hh dx dy t k)
  · exact .inr (w2 W H x y p q Q Qp hh dx dy t k)
theorem q_addI : OpP Z X (binaryOp .Add) (kI0 fun i j => .int (i + j)) := opI0' op_add fun _ _ _ => .int _
theorem q_subI : OpP Z X (binaryOp .Sub) (kI0 fun i j => .int (i - j)) := opI0' op_sub fun _ _ _ => .int _
abbrev MulOk (i j : Int) : Prop := i.natAbs.log2 + j.natAbs.log2 < 1000000
theorem q_mulI : OpP Z X (binaryOp .Mult) (kII MulOk fun i j => .int (i * j)) := opII (C := CMulW) op_mulW fun _ _ _ => .int _
abbrev DivOk (_ j : Int) : Prop := j ≠ 0 ∧ j.natAbs.log2 < 9000
theorem op_fdivA : OpR X (binaryOp .FloorDiv) (rI DivOk fun i j => .int (i.fdiv j)) := L2.opI fun _ _ _ _ _ _ _ hc q => floordiv_int hc.1 q (.inl (PyProof.noPylong_of_log2 hc.2))
theorem q_fdivI : OpP Z X (binaryOp .FloorDiv) (kII DivOk fun i j => .int (i.fdiv j)) := opII op_fdivA fun _ _ _ => .int _
abbrev ModOk (_ j : Int) : Prop := j ≠ 0
theorem q_modI : OpP Z X (binaryOp .Mod) (kII ModOk fun i j => .int (i.fmod j)) := opII op_modN fun _ _ _ => .int _
theorem q_powI : OpP Z X (binaryOp .Pow) (kII CPow fun i j => .int (i ^ j.toNat)) := opII op_pow fun _ _ _ => .int _
/-- a bool less a bool -/
def kBB : PK2 := fun p q Q => match p, q with
  | .bl a, .bl b => Q (.int (b2i a - b2i b))
  | _, _ => False
theorem op_subB : OpR X (binaryOp .Sub) (fun x y H Q => ∃ a b, x = .bl a ∧ y = .bl b ∧ Q (.int (b2i a - b2i b)) H) := by
  intro pins s σ H x y v u Q I rx ry h
  obtain ⟨a, b, rfl, rfl, q⟩ := h
  cases rx; cases ry
  exact sub_bool ⟨.int _, H, I.tok _, ⟨_, rfl⟩, q⟩
theorem q_subB : OpP Z X (binaryOp .Sub) kBB := ⟨_, op_subB, fun W H x y p q Q Qp hh dx dy t k => by
    unfold kBB at t
    split at t
    · cases dx; cases dy
      exact ⟨_, _, rfl, rfl, k W H _ _ (.refl hh) (.int _) t⟩
    · exact t.elim⟩
/-- lists joined -/
def kCat : PK2 := fun p q Q => match p, q with
  | .lst l, .lst m => l.length + m.length ≤ sizeLine ∧ Q (.lst (l ++ m))
  | _, _ => False
theorem q_cat : OpP Z X (binaryOp .Add) kCat := ⟨_, op_cat, fun W H x y p q Q Qp hh dx dy t k => by
    unfold kCat at t
    split at t
    · cases dx with
      | lst ha ra => cases dy with
        | lst hb rb =>
          refine ⟨_, _, _, _, rfl, rfl, hh.ex ha (fun z => z), hh.ex hb (fun z => z), by rw [ra.length, rb.length]; exact t.1, fun p n => ?_⟩
          exact k _ _ _ _ (Ext.new hh n) (.lst Wd.add_at ((ra.append rb).mono (Wd.le_add (hh.new n)))) t.2
    · exact t.elim⟩
def pUn (k : PV → (PV → Prop) → Prop) (t : PTE) : PTE := fun ρ Q => t ρ fun p => k p Q
def kNeg : PV → (PV → Prop) → Prop := fun p Q => match p with
  | .int i => Q (.int (-i))
  | _ => False
theorem q_neg {a : Expr} {pos : Pos} {t : PTE} (ha : PE X a (lift Z t)) : PE X (.UnaryOp .USub a pos) (lift Z (pUn kNeg t)) :=
  PEw (pe_un un_neg ha) fun σ H Q ⟨W, H0, ρ, Qp, hh, S, t, q⟩ => by
    refine ⟨W, H0, ρ, _, hh, S, t, fun W1 H1 v p e1 d1 t1 => ?_⟩
    cases d1 with
    | int i => exact ⟨i, rfl, q W1 H1 _ _ e1 (.int _) t1⟩
    | _ => exact t1.elim

/-! ### comparisons -/
theorem q_lt : OpP Z X (compareOp .Lt) (kI0 fun i j => .bl (decide (i < j))) := opI0' op_lt fun _ _ _ => .bl _
theorem q_le : OpP Z X (compareOp .LtE) (kI0 fun i j => .bl (decide (i ≤ j))) := opI0' op_le fun _ _ _ => .bl _
theorem q_gt : OpP Z X (compareOp .Gt) (kI0 fun i j => .bl (decide (j < i))) := opI0' op_gt fun _ _ _ => .bl _
theorem q_ge : OpP Z X (compareOp .GtE) (kI0 fun i j => .bl (decide (j ≤ i))) := opI0' op_ge fun _ _ _ => .bl _
def kLtS : PK2 := fun p q Q => match p, q with
  | .str a, .str b => Q (.bl (decide (a.cps.toList < b.cps.toList)))
  | _, _ => False
theorem q_ltS : OpP Z X (compareOp .Lt) kLtS := ⟨_, op_lt_str, fun W H x y p q Q Qp hh dx dy t k => by
    unfold kLtS at t
    split at t
    · cases dx; cases dy
      exact ⟨_, _, rfl, rfl, k W H _ _ (.refl hh) (.bl _) t⟩
    · exact t.elim⟩
/-! data of any depth -/
mutual
def toD : PV → Option PyData
  | .non => some .none
  | .bl b => some (.bool b)
  | .int i => some (.int i)
  | .str x => some (.str x)
  | .tup l => (toDs l).map .tuple
  | .lst l => (toDs l).map .list
  | _ => none
def toDs : List PV → Option (List PyData)
  | [] => some []
  | p :: r => match toD p, toDs r with
    | some d, some ds => some (d :: ds)
    | _, _ => none
end
section
variable {K : PySem.W.Frag} {W : Wd} {H : Hp}
mutual
theorem dp_of (hh : Holds Z W H) : ∀ (p : PV) (v : V) (d : PyData), Dat K W v p → toD p = some d → Dp K H v d
  | .non, _, _, h, e => by cases h; cases e; exact .non
  | .bl b, _, _, h, e => by cases h; cases e; exact .bl b
  | .int i, _, _, h, e => by cases h; cases e; exact .int i
  | .str x, _, _, h, e => by cases h; cases e; exact .str x
  | .tup l, _, _, h, e => by
    cases h with
    | tup ha r =>
      unfold toD at e
      cases q : toDs l with
      | none => rw [q] at e; cases e
      | some ds =>
        rw [q] at e
        cases e
        exact .tup (.of (hh.ex ha fun z => z)) (dps_of hh l _ ds r q)
  | .lst l, _, _, h, e => by
    cases h with
    | lst ha r =>
      unfold toD at e
      cases q : toDs l with
      | none => rw [q] at e; cases e
      | some ds =>
        rw [q] at e
        cases e
        exact .lst (.of (hh.ex ha fun z => z)) (dps_of hh l _ ds r q)
  | .ty _, _, _, _, e => by cases e
  | .frz _, _, _, _, e => by cases e
  | .dic _, _, _, _, e => by cases e
  | .dct _, _, _, _, e => by cases e
  | .obj _ _, _, _, _, e => by cases e
  | .cel, _, _, _, e => by cases e
  | .raw _, _, _, _, e => by cases e
theorem dps_of (hh : Holds Z W H) : ∀ (l : List PV) (vs : List V) (ds : List PyData), DatL K W vs l → toDs l = some ds → DpAll K H vs ds
  | [], _, _, h, e => by cases h; cases e; exact .nil
  | p :: r, _, _, h, e => by
    cases h with
    | cons h t =>
      unfold toDs at e
      cases q : toD p with
      | none => rw [q] at e; cases e
      | some d =>
        cases q2 : toDs r with
        | none => rw [q, q2] at e; cases e
        | some ds =>
          rw [q, q2] at e
          cases e
          exact .cons (dp_of hh p _ d h q) (dps_of hh r _ ds t q2)
end
end
theorem Dat.dp {K : PySem.W.Frag} {W : Wd} {H : Hp} (hh : Holds Z W H) {v : V} {p : PV} {d : PyData} (h : Dat K W v p) (e : toD p = some d) : Dp K H v d := dp_of hh p v d h e
def eqP (p q : PV) : Option Bool := match toD p, toD q with
  | some d, some e => if SeqAt.shaped d = true ∧ SeqAt.shaped e = true then some (PyData.eqv d e) else none
  | _, _ => none
def kEq : PK2 := fun p q Q => match eqP p q with
  | some b => Q (.bl b)
  | none => False
def kNe : PK2 := fun p q Q => match eqP p q with
  | some b => Q (.bl (!b))
  | none => False
theorem eqP_ok {p q : PV} {b : Bool} (e : eqP p q = some b) : ∃ d d', toD p = some d ∧ toD q = some d' ∧ SeqAt.shaped d = true ∧ SeqAt.shaped d' = true ∧ b = PyData.eqv d d' := by
  unfold eqP at e
  split at e
  · rename_i d d' e1 e2
    split at e
    · rename_i hs
      cases e
      exact ⟨d, d', e1, e2, hs.1, hs.2, rfl⟩
    · cases e
  · cases e
theorem q_eq {j : Nat} (hr : Room j X.A) (hK : X.K = Z.K := by rfl) : OpP Z X (compareOp .Eq) kEq := ⟨_, op_eqD hr.units, fun W H x y p q Q Qp hh dx dy t k => by
    unfold kEq at t
    split at t
    · rename_i b e
      obtain ⟨d, d', e1, e2, s1, s2, eb⟩ := eqP_ok e
      rw [hK]
      exact ⟨d, d', Dat.dp hh dx e1, Dat.dp hh dy e2, s1, s2, by rw [← eb]; exact k W H _ _ (.refl hh) (.bl _) t⟩
    · exact t.elim⟩
theorem q_ne {j : Nat} (hr : Room j X.A) (hK : X.K = Z.K := by rfl) : OpP Z X (compareOp .NotEq) kNe := ⟨_, op_neD hr.units, fun W H x y p q Q Qp hh dx dy t k => by
    unfold kNe at t
    split at t
    · rename_i b e
      obtain ⟨d, d', e1, e2, s1, s2, eb⟩ := eqP_ok e
      rw [hK]
      exact ⟨d, d', Dat.dp hh dx e1, Dat.dp hh dy e2, s1, s2, by rw [← eb]; exact k W H _ _ (.refl hh) (.bl _) t⟩
    · exact t.elim⟩
/-- is None, is not None -/
def isNonP : PV → Bool
  | .non => true
  | _ => false
theorem Dat.isNon {K : PySem.W.Frag} {W : Wd} {v : V} {p : PV} (d : Dat K W v p) : decide (v = .non) = isNonP p := by
  cases d <;> first | rfl | exact decide_eq_false (fun z => nomatch z)
def pIsN (t : PTE) : PTE := fun ρ Q => t ρ fun p => Q (.bl (isNonP p))
def pNotN (t : PTE) : PTE := fun ρ Q => t ρ fun p => Q (.bl (!isNonP p))
theorem q_isN {a : Expr} {j : Nat} {pos pos' : Pos} {t : PTE} (ha : PE X a (lift Z t)) : PE X (.Compare a [.Is] [.Constant .none j pos'] pos) (lift Z (pIsN t)) :=
  PEw (pe_cmp (pc_isN ha) (by first | exact nobehind _ (by decide) (by decide) | rfl)) fun σ H Q ⟨W, H0, ρ, Qp, hh, S, t, q⟩ =>
    ⟨W, H0, ρ, _, hh, S, t, fun W1 H1 v p e1 d1 t1 => by show Q (V.bl (decide (v = V.non))) H1; rw [d1.isNon]; exact q W1 H1 _ _ e1 (.bl _) t1⟩
theorem q_notN {a : Expr} {j : Nat} {pos pos' : Pos} {t : PTE} (ha : PE X a (lift Z t)) : PE X (.Compare a [.IsNot] [.Constant .none j pos'] pos) (lift Z (pNotN t)) :=
  PEw (pe_cmp (pc_notN ha) (by first | exact nobehind _ (by decide) (by decide) | rfl)) fun σ H Q ⟨W, H0, ρ, Qp, hh, S, t, q⟩ =>
    ⟨W, H0, ρ, _, hh, S, t, fun W1 H1 v p e1 d1 t1 => by show Q (V.bl (!decide (v = V.non))) H1; rw [d1.isNon]; exact q W1 H1 _ _ e1 (.bl _) t1⟩
theorem qt_isN {a : Expr} {j : Nat} {pos pos' : Pos} {t : PTE} (ha : PE X a (lift Z t)) : PT X (.Compare a [.Is] [.Constant .none j pos'] pos) (liftT Z (pTst (pIsN t))) :=
  PTw (pt_cmp (pc_isN ha) (by first | exact nobehind _ (by decide) (by decide) | rfl)) fun σ H Q ⟨W, H0, ρ, Qp, hh, S, t, q⟩ =>
    ⟨W, H0, ρ, _, hh, S, t, fun W1 H1 v p e1 d1 t1 => ⟨_, rfl, by rw [d1.isNon]; exact q W1 H1 _ e1 t1⟩⟩
theorem qt_notN {a : Expr} {j : Nat} {pos pos' : Pos} {t : PTE} (ha : PE X a (lift Z t)) : PT X (.Compare a [.IsNot] [.Constant .none j pos'] pos) (liftT Z (pTst (pNotN t))) :=
  PTw (pt_cmp (pc_notN ha) (by first | exact nobehind _ (by decide) (by decide) | rfl)) fun σ H Q ⟨W, H0, ρ, Qp, hh, S, t, q⟩ =>
    ⟨W, H0, ρ, _, hh, S, t, fun W1 H1 v p e1 d1 t1 => ⟨_, rfl, by rw [d1.isNon]; exact q W1 H1 _ e1 t1⟩⟩
/-- in a list of data -/
def inP (p : PV) (l : List PV) : Option Bool := match toD p, toDs l with
  | some d, some ds => if SeqAt.shaped d = true ∧ SeqAt.shaped (.list ds) = true then some (ds.any fun z => PyData.eqv z d) else none
  | _, _ => none
def kIn (neg : Bool) : PK2 := fun p q Q => match q with
  | .lst l => (match inP p l with
    | some b => Q (.bl (if neg = true then !b else b))
    | none => False)
  | _ => False
theorem q_in {j : Nat} (hr : Room (j + 1) X.A) (hK : X.K = Z.K := by rfl) : OpP Z X (compareOp .In) (kIn false) := ⟨_, op_inD (by have := hr.un; omega), fun W H x y p q Q Qp hh dx dy t k => by
    unfold kIn at t
    split at t
    · rename_i l
      split at t
      · rename_i b e
        unfold inP at e
        split at e
        · rename_i d ds e1 e2
          split at e
          · rename_i hs
            cases e
            rw [hK]
            refine ⟨d, ds, Dat.dp hh dx e1, Dat.dp hh dy (by simp only [toD, e2, Option.map_some]), hs.1, hs.2, ?_⟩
            exact k W H _ _ (.refl hh) (.bl _) t
          · cases e
        · cases e
      · exact t.elim
    · exact t.elim⟩
theorem q_notIn {j : Nat} (hr : Room (j + 1) X.A) (hK : X.K = Z.K := by rfl) : OpP Z X (compareOp .NotIn) (kIn true) := ⟨_, op_notInD (by have := hr.un; omega), fun W H x y p q Q Qp hh dx dy t k => by
    unfold kIn at t
    split at t
    · rename_i l
      split at t
      · rename_i b e
        unfold inP at e
        split at e
        · rename_i d ds e1 e2
          split at e
          · rename_i hs
            cases e
            rw [hK]
            refine ⟨d, ds, Dat.dp hh dx e1, Dat.dp hh dy (by simp only [toD, e2, Option.map_some]), hs.1, hs.2, ?_⟩
            exact k W H _ _ (.refl hh) (.bl _) t
          · cases e
        · cases e
      · exact t.elim
    · exact t.elim⟩
/-- a text in a text -/
def kInS (neg : Bool) : PK2 := fun p q Q => match p, q with
  | .str i, .str j => Q (.bl (if neg = true then !(!(Builtin.Str.occurrences j i 0 j.length 1).isEmpty) else !(Builtin.Str.occurrences j i 0 j.length 1).isEmpty))
  | _, _ => False
theorem q_inS : OpP Z X (compareOp .In) (kInS false) := ⟨_, op_in_str, fun W H x y p q Q Qp hh dx dy t k => by
    unfold kInS at t
    split at t
    · cases dx; cases dy
      exact ⟨_, _, rfl, rfl, k W H _ _ (.refl hh) (.bl _) t⟩
    · exact t.elim⟩
theorem q_notInS : OpP Z X (compareOp .NotIn) (kInS true) := ⟨_, op_notin_str, fun W H x y p q Q Qp hh dx dy t k => by
    unfold kInS at t
    split at t
    · cases dx; cases dy
      exact ⟨_, _, rfl, rfl, k W H _ _ (.refl hh) (.bl _) t⟩
    · exact t.elim⟩

/-! ### subscripts, slices -/
def kIx : PK2 := fun p q Q => match q with
  | .int i => (match p with
    | .lst l => (match atI l i with | some r => Q r | none => False)
    | .frz l => (match atI l i with | some r => Q r | none => False)
    | .tup l => (match atI l i with | some r => Q r | none => False)
    | .str z => z.length ≤ sizeLine ∧ (match atI z.cps.toList i with | some c => Q (.str ⟨#[c]⟩) | none => False)
    | _ => False)
  | _ => False
theorem DatL.atI {K : PySem.W.Frag} {W : Wd} {xs : List V} {l : List PV} {i : Int} {p : PV} (d : DatL K W xs l) (e : L2.atI l i = some p) : ∃ v, L2.atI xs i = some v ∧ Dat K W v p := by
  unfold L2.atI at e ⊢
  rw [d.length]
  cases h : ixN l.length i with
  | none => rw [h] at e; cases e
  | some j =>
    rw [h] at e
    exact d.getP e
theorem lift_ix (hK : X.K = Z.K) : ∀ W H x y p q Q Qp, Holds Z W H → Dat Z.K W x p → Dat Z.K W y q → kIx p q Qp → (∀ W' H' v r, Ext Z W H W' H' → Dat Z.K W' v r → Qp r → Q v H') → rIx X.K x y H Q := fun W H x y p q Q Qp hh dx dy t k => by
  unfold kIx at t
  split at t
  · rename_i i
    cases dy
    split at t
    · split at t
      · rename_i r e
        cases dx with
        | lst ha ra =>
          obtain ⟨v, hv, dv⟩ := ra.atI e
          exact .inl ⟨_, _, _, _, rfl, rfl, .of (hh.ex ha fun z => z), hv, k W H _ _ (.refl hh) dv t⟩
      · exact t.elim
    · split at t
      · rename_i r e
        cases dx with
        | frz ha ra =>
          obtain ⟨v, hv, dv⟩ := ra.atI e
          exact .inl ⟨_, _, _, _, rfl, rfl, by rw [hK]; exact SqL.holds hh ha, hv, k W H _ _ (.refl hh) dv t⟩
      · exact t.elim
    · split at t
      · rename_i r e
        cases dx with
        | tup ha ra =>
          obtain ⟨v, hv, dv⟩ := ra.atI e
          exact .inr (.inl ⟨_, _, _, _, rfl, rfl, .of (hh.ex ha fun z => z), hv, k W H _ _ (.refl hh) dv t⟩)
      · exact t.elim
    · obtain ⟨hz, t⟩ := t
      split at t
      · rename_i c e
        cases dx with
        | str z => exact .inr (.inr ⟨_, _, _, rfl, rfl, hz, e, k W H _ _ (.refl hh) (.str _) t⟩)
      · exact t.elim
    · exact t.elim
  · exact t.elim
theorem q_ix {a b : Expr} {ta tb : PTE} {pos : Pos} (ha : PE X a (lift Z ta)) (hb : PE X b (lift Z tb)) (hK : X.K = Z.K := by rfl) (hs : PlainIx b := by exact fun _ _ => rfl) : PE X (.Subscript a b pos) (lift Z (pBin kIx ta tb)) :=
  PEw (pe_ix ix_seq ha hb hs) fun σ H Q => lift_bin (lift_ix hK) σ H Q
/-- d[k] of a dict -/
def kDGet : PK2 := fun p q Q => match p, keyP q with
  | .dic l, some k => (match valA l k with | some r => Q r | none => False)
  | _, _ => False
theorem q_dget {a b : Expr} {ta tb : PTE} {pos : Pos} {j : Nat} (hr : Room j X.A) (ha : PE X a (lift Z ta)) (hb : PE X b (lift Z tb)) (hs : NoSl b := by exact fun _ _ => rfl) : PE X (.Subscript a b pos) (lift Z (pBin kDGet ta tb)) :=
  PEw (pe_dget (by have := hr.units; omega) ha hb hs) fun σ H Q ⟨W, H0, ρ, Qp, hh, S, t, q⟩ => by
    refine ⟨W, H0, ρ, _, hh, S, t, fun W1 H1 x p e1 d1 t1 => ⟨W1, H0, ρ, _, e1.holds, S.ext e1, t1, fun W2 H2 y p2 e2 d2 t2 => ?_⟩⟩
    unfold kDGet at t2
    split at t2
    · rename_i l k ek
      have dx := d1.mono e2.le
      cases dx with
      | dic ha r =>
        rcases r.val (k := k) with ⟨_, z⟩ | ⟨v, p, z1, z2, dv⟩
        · rw [z] at t2; exact t2.elim
        · rw [z2] at t2
          exact ⟨_, v, rfl, .inl ⟨_, k, e2.holds.rd ha, d2.key ek, z1.symm⟩, q W2 H2 _ _ (e1.trans hh e2) dv t2⟩
    · exact t2.elim
/-- k in d -/
def kDIn (neg : Bool) : PK2 := fun p q Q => match q, keyP p with
  | .dic l, some k => Q (.bl (if neg = true then !(valA l k).isSome else (valA l k).isSome))
  | _, _ => False
theorem din_of {ta tb : PTE} (σ : L2.St) (H : Hp) (Q : VK) (h : lift Z (pBin (kDIn false) ta tb) σ H Q) : tDIn (lift Z ta) (lift Z tb) σ H Q := by
  obtain ⟨W, H0, ρ, Qp, hh, S, t, q⟩ := h
  refine ⟨W, H0, ρ, _, hh, S, t, fun W1 H1 x p e1 d1 t1 => ⟨W1, H0, ρ, _, e1.holds, S.ext e1, t1, fun W2 H2 y p2 e2 d2 t2 => ?_⟩⟩
  unfold kDIn at t2
  split at t2
  · rename_i l k ek
    cases d2 with
    | dic ha r =>
      have ey := (d1.mono e2.le).key ek
      rcases r.val (k := k) with ⟨z1, z2⟩ | ⟨v, p, z1, z2, dv⟩
      · exact ⟨_, none, rfl, .inl ⟨_, k, e2.holds.rd ha, ey, z1.symm⟩, q W2 H2 _ _ (e1.trans hh e2) (.bl _) (by rw [z2] at t2; exact t2)⟩
      · exact ⟨_, some v, rfl, .inl ⟨_, k, e2.holds.rd ha, ey, z1.symm⟩, q W2 H2 _ _ (e1.trans hh e2) (.bl _) (by rw [z2] at t2; exact t2)⟩
  · exact t2.elim
theorem dnin_of {ta tb : PTE} (σ : L2.St) (H : Hp) (Q : VK) (h : lift Z (pBin (kDIn true) ta tb) σ H Q) : tDNotIn (lift Z ta) (lift Z tb) σ H Q := by
  obtain ⟨W, H0, ρ, Qp, hh, S, t, q⟩ := h
  refine ⟨W, H0, ρ, _, hh, S, t, fun W1 H1 x p e1 d1 t1 => ⟨W1, H0, ρ, _, e1.holds, S.ext e1, t1, fun W2 H2 y p2 e2 d2 t2 => ?_⟩⟩
  unfold kDIn at t2
  split at t2
  · rename_i l k ek
    cases d2 with
    | dic ha r =>
      have ey := (d1.mono e2.le).key ek
      rcases r.val (k := k) with ⟨z1, z2⟩ | ⟨v, p, z1, z2, dv⟩
      · exact ⟨_, none, rfl, .inl ⟨_, k, e2.holds.rd ha, ey, z1.symm⟩, q W2 H2 _ _ (e1.trans hh e2) (.bl _) (by rw [z2] at t2; exact t2)⟩
      · exact ⟨_, some v, rfl, .inl ⟨_, k, e2.holds.rd ha, ey, z1.symm⟩, q W2 H2 _ _ (e1.trans hh e2) (.bl _) (by rw [z2] at t2; exact t2)⟩
  · exact t2.elim
theorem q_din {a b : Expr} {ta tb : PTE} {pos : Pos} {j : Nat} (hr : Room j X.A) (ha : PE X a (lift Z ta)) (hb : PE X b (lift Z tb)) (hm : behindInMarks .In b = false := by rfl) : PE X (.Compare a [.In] [b] pos) (lift Z (pBin (kDIn false) ta tb)) :=
  PEw (pe_cmp (pc_din (by have := hr.units; omega) ha hb) hm) din_of
theorem q_dnin {a b : Expr} {ta tb : PTE} {pos : Pos} {j : Nat} (hr : Room j X.A) (ha : PE X a (lift Z ta)) (hb : PE X b (lift Z tb)) (hm : behindInMarks .NotIn b = false := by rfl) : PE X (.Compare a [.NotIn] [b] pos) (lift Z (pBin (kDIn true) ta tb)) :=
  PEw (pe_cmp (pc_dnotin (by have := hr.units; omega) ha hb) hm) dnin_of
theorem qt_din {a b : Expr} {ta tb : PTE} {pos : Pos} {j : Nat} (hr : Room j X.A) (ha : PE X a (lift Z ta)) (hb : PE X b (lift Z tb)) (hm : behindInMarks .In b = false := by rfl) : PT X (.Compare a [.In] [b] pos) (liftT Z (pTst (pBin (kDIn false) ta tb))) :=
  PTw (pt_cmp (pc_din (by have := hr.units; omega) ha hb) hm) fun σ H Q h => din_of σ H _ (tst_of σ H Q h)
theorem qt_dnin {a b : Expr} {ta tb : PTE} {pos : Pos} {j : Nat} (hr : Room j X.A) (ha : PE X a (lift Z ta)) (hb : PE X b (lift Z tb)) (hm : behindInMarks .NotIn b = false := by rfl) : PT X (.Compare a [.NotIn] [b] pos) (liftT Z (pTst (pBin (kDIn true) ta tb))) :=
  PTw (pt_cmp (pc_dnotin (by have := hr.units; omega) ha hb) hm) fun σ H Q h => dnin_of σ H _ (tst_of σ H Q h)
/-- slices -/
abbrev PTO := List Slt → (Option Int → Prop) → Prop
def liftO (Z : Par) (t : PTO) : TO := fun σ H Q => ∃ W H0 ρ Qp, Holds Z W H ∧ Slots Z W H0 H σ ρ ∧ t ρ Qp ∧ ∀ W' H' o, Ext Z W H W' H' → Qp o → Q o H'
def pNoPart : PTO := fun _ Q => Q none
def pPart (t : PTE) : PTO := fun ρ Q => t ρ fun p => match p with
  | .int i => Q (some i)
  | _ => False
theorem POw {e : Option Expr} {t t' : TO} (h : PO X e t) (w : ∀ σ H Q, t' σ H Q → t σ H Q) : PO X e t' := ⟨fun pins s σ H Q I q => h.run pins s σ H Q I (w _ _ _ q)⟩
theorem qo_none : PO X none (liftO Z pNoPart) := POw po_none fun σ H Q ⟨W, H0, ρ, Qp, hh, S, t, q⟩ => q W H none (.refl hh) t
theorem qo_some {e : Expr} {t : PTE} (h : PE X e (lift Z t)) : PO X (some e) (liftO Z (pPart t)) := POw (po_some h) fun σ H Q ⟨W, H0, ρ, Qp, hh, S, t, q⟩ =>
  ⟨W, H0, ρ, _, hh, S, t, fun W1 H1 v p e1 d1 t1 => by
    cases d1 with
    | int i => exact ⟨i, rfl, q W1 H1 _ e1 t1⟩
    | _ => exact t1.elim⟩
def cutP (l : List PV) (lo hi : Option Int) : List PV := (l.drop (HT.sIx l.length 0 lo)).take (HT.sIx l.length l.length hi - HT.sIx l.length 0 lo)
theorem DatL.cut {K : PySem.W.Frag} {W : Wd} {xs : List V} {l : List PV} (d : DatL K W xs l) (lo hi : Option Int) : DatL K W (cutV xs lo hi) (cutP l lo hi) := by
  unfold cutV cutP
  rw [d.length]
  exact (d.drop _).take _
def pSlL (te : PTE) (tl th : PTO) : PTE := fun ρ Q => te ρ fun p => tl ρ fun lo => th ρ fun hi => match p with
  | .lst l => Q (.lst (cutP l lo hi))
  | .frz l => Q (.lst (cutP l lo hi))
  | _ => False
theorem q_sliceL {e : Expr} {te : PTE} {lo hi : Option Expr} {tl th : PTO} {p2 pos : Pos} (he : PE X e (lift Z te)) (hl : PO X lo (liftO Z tl)) (hu : PO X hi (liftO Z th)) (hK : X.K = Z.K := by rfl) : PE X (.Subscript e (.Slice lo hi none p2) pos) (lift Z (pSlL te tl th)) :=
  PEw (pe_slice sl_list he hl hu) fun σ H Q ⟨W, H0, ρ, Qp, hh, S, t, q⟩ => by
    refine ⟨W, H0, ρ, _, hh, S, t, fun W1 H1 x p e1 d1 t1 => ⟨W1, H0, ρ, _, e1.holds, S.ext e1, t1, fun W2 H2 o2 e2 t2 => ⟨W2, H0, ρ, _, e2.holds, (S.ext e1).ext e2, t2, fun W3 H3 o3 e3 t3 => ?_⟩⟩⟩
    have dx := (d1.mono e2.le).mono e3.le
    have E3 := (e1.trans hh e2).trans hh e3
    cases dx with
    | lst ha ra =>
      refine ⟨_, _, rfl, .of (e3.holds.ex ha fun z => z), fun p n => ?_⟩
      exact q _ _ _ _ (E3.trans hh (Ext.new e3.holds n)) (.lst Wd.add_at ((ra.cut o2 o3).mono (Wd.le_add (e3.holds.new n)))) t3
    | frz ha ra =>
      refine ⟨_, _, rfl, by rw [hK]; exact SqL.holds e3.holds ha, fun p n => ?_⟩
      exact q _ _ _ _ (E3.trans hh (Ext.new e3.holds n)) (.lst Wd.add_at ((ra.cut o2 o3).mono (Wd.le_add (e3.holds.new n)))) t3
    | _ => exact t3.elim
/-- a tuple's slice that is not the whole -/
def pSlT (te : PTE) (tl th : PTO) : PTE := fun ρ Q => te ρ fun p => tl ρ fun lo => th ρ fun hi => match p with
  | .tup l => (cutP l lo hi).length ≠ l.length ∧ Q (.tup (cutP l lo hi))
  | _ => False

end
end L3

/-! ## L3Z -/
/-! zip(a, b, strict=False) over two lists. -/
namespace PySem
namespace F
theorem zipk_call (a b c : Value) : checkTypeCall "zip" ⟨[a, b], [(Str.ofString "strict", c)]⟩ = pure () := by kernel_rfl
theorem zipk_new (a b c : Value) : checkBuiltinCall "zip.__new__" ⟨[.type "zip", a, b], [(Str.ofString "strict", c)]⟩ = pure () := by kernel_rfl
theorem zipk_init (o a b c : Value) : argsOk "object.__init__" ⟨[o, a, b], [(Str.ofString "strict", c)]⟩ := by unfold argsOk; kernel_rfl
end F
theorem meets_zipk (l1 l2 : Addr) (xs ys : Array Value) :
    Meets (Builtin.«zip.__new__» ⟨[.type "zip", .ref l1, .ref l2], [(Str.ofString "strict", .bool false)]⟩) (fun _ R s => s.heap.IsList l1 xs ∧ s.heap.IsList l2 ys ∧
      R (.ok (.ret (.ref (zipH4 s.heap l1 l2).objs.size))) { s with heap := zipH5 s.heap l1 l2 }) :=
  .of_wp fun prog w A R s h => by
    obtain ⟨hp, g, d, tk, os⟩ := s
    obtain ⟨k1, k2, h⟩ := h
    have hsub := sub_zip
    have L1 : Heap.IsList (Shared.heap ⟨hp, g, d, tk, os⟩) l1 xs := k1
    have L2 : Heap.IsList (Shared.heap ⟨hp.push { cls := .type "list_iterator", data := .fields #[.ref l1, .int 0 0] }, g, d, tk, os⟩) l2 ys := Heap.IsList.push k2 _
    have e1 : (Str.ofString "strict" != ("strict" : Str)) = false := by decide +kernel
    wp_walk using wpAny_pyIter_list L1, wpAny_pyIter_list L2
    exact ⟨_, rfl, h⟩
section
variable {prog : Program} {w : World} {A : Around} {E : Value → Shared → Prop} {s : Shared}
theorem call_zipk {l1 l2 : Addr} {xs ys : Array Value} {Q : Value → Shared → Prop} (k1 : s.heap.IsList l1 xs) (k2 : s.heap.IsList l2 ys)
    (h : ∀ h', IsZip h' (s.heap.objs.size + 4) (s.heap.objs.size + 2) (s.heap.objs.size + 3) .none → IsPair h' (s.heap.objs.size + 2) (.ref s.heap.objs.size) (.ref (s.heap.objs.size + 1)) →
      IsPair h' (s.heap.objs.size + 3) .none .none → h'.IsListIter s.heap.objs.size l1 0 → h'.IsListIter (s.heap.objs.size + 1) l2 0 →
      (∀ c o, s.heap.get? c = some o → h'.get? c = some o) → Q (.ref (s.heap.objs.size + 4)) { s with heap := h' }) :
    wpAny (model prog w) A (call (.type "zip") [.ref l1, .ref l2] [(Str.ofString "strict", .bool false)]) Q E s := by
  refine callType_newKw F.called_zip (by decide) (F.zipk_call _ _ _) (F.zipk_new _ _ _) (fun o => F.zipk_init o _ _ _) F.entry_zip_new (meets_zipk l1 l2 xs ys) ⟨k1, k2, ?_⟩
  have n1 : (zipH1 s.heap l1).objs.size = s.heap.objs.size + 1 := Heap.size_push ..
  have n2 : (zipH2 s.heap l1 l2).objs.size = s.heap.objs.size + 2 := by rw [Heap.size_push, n1]
  have n3 : (zipH3 s.heap l1 l2).objs.size = s.heap.objs.size + 3 := by rw [Heap.size_push, n2]
  have n4 : (zipH4 s.heap l1 l2).objs.size = s.heap.objs.size + 4 := by rw [Heap.size_push, n3]
  have p5 : (zipH5 s.heap l1 l2).get? (zipH4 s.heap l1 l2).objs.size = some _ := Heap.get?_push_size _ rfl
  have p4 : (zipH5 s.heap l1 l2).get? (zipH3 s.heap l1 l2).objs.size = some _ := Heap.get?_push_of_some _ (Heap.get?_push_size _ rfl)
  have p3 : (zipH5 s.heap l1 l2).get? (zipH2 s.heap l1 l2).objs.size = some _ := Heap.get?_push_of_some _ (Heap.get?_push_of_some _ (Heap.get?_push_size _ rfl))
  have p2 : (zipH5 s.heap l1 l2).get? (zipH1 s.heap l1).objs.size = some _ := Heap.get?_push_of_some _ (Heap.get?_push_of_some _ (Heap.get?_push_of_some _ (Heap.get?_push_size _ rfl)))
  have p1 : (zipH5 s.heap l1 l2).get? s.heap.objs.size = some _ := Heap.get?_push_of_some _ (Heap.get?_push_of_some _ (Heap.get?_push_of_some _ (Heap.get?_push_of_some _ (Heap.get?_push_size _ rfl))))
  show _ ∧ _
  rw [n2, n3, n4] at p5
  rw [n1, n2] at p3
  rw [n3] at p4
  rw [n1] at p2
  rw [n4]
  exact ⟨⟨_, p5, rfl⟩, h _ p5 p3 p4 ⟨_, p1, rfl, rfl⟩ ⟨_, p2, rfl, rfl⟩ fun c o x =>
    Heap.get?_push_of_some _ (Heap.get?_push_of_some _ (Heap.get?_push_of_some _ (Heap.get?_push_of_some _ (Heap.get?_push_of_some _ x))))⟩
/-- a built-in class called with keywords -/
theorem callWith_typeK {M : Model} {A : Around} {E : Value → Shared → Prop} {s : Shared} {env : Env} {pos : Pos} {T : String} {e : Expr} {rest : List Expr} {kws : List Keyword} {Q : Value → Shared → Prop}
    (h : wpAny M A (spliced (backTo pos (starEach (e :: rest) env))) (fun vs s₁ => wpAny M A (evalAll ((backToKw pos (keywordEach kws env)).map (·.2)))
      (fun kvs s₂ => wpAny M A (call (.type T) vs (((backToKw pos (keywordEach kws env)).filterMap (·.1)).zip kvs)) Q E s₂) E s₁) E s)
    (he : backTo pos (starEach (e :: rest) env) = (false, eval e env) :: backTo pos (starEach rest env) := by rfl)
    (hplain : (backTo pos (starEach (e :: rest) env)).any (·.1) = false := by rfl)
    (hall : (backToKw pos (keywordEach kws env)).all (·.1.isSome) = true := by rfl)
    (hkw : (backToKw pos (keywordEach kws env)).any (·.1.isNone) = false := by rfl) :
    wpAny M A (callWith pos (.type T) [] (backTo pos (starEach (e :: rest) env)) (backToKw pos (keywordEach kws env))) Q E s := by
  unfold callWith
  rw [he] at h hplain ⊢
  refine wpAny_bind (wpAny_holding (wpAny_mono (PyProof.Rows.evalArgs_kwB (Q := fun a s₂ => wpAny M A (call (.type T) a.pos a.kw) Q E s₂) hall h) (fun a s₁ h₁ => wpAny_bind (wpAny_standAt ?_)) fun _ _ x => x))
  simp only [hplain, hkw, Bool.or_false]
  refine wpAny_bind (wpAny_pure ?_)
  exact wpAny_bind (wpAny_mono h₁ (fun r s₂ hr => wpAny_bind (wpAny_holding (wpAny_point (wpAny_pure hr)))) fun _ _ x => x)
end
end PySem
namespace L3
open PySem PySem.Spec PyProof.Rows L2
theorem pi_zipk {X : Cx} {e e2 : Expr} {ta : TA} {j : Nat} {p pos kp cp tpos : Pos} {elts : List Expr} {kk : Nat} (hm : X.mg "zip" = none) (ha : PA X [e, e2] ta) (hg : Gl X "zip" := by rfl)
    (hs : starEach [e, e2] X.env = (false, eval e X.env) :: starEach [e2] X.env := by rfl)
    (he : backTo pos (starEach [e, e2] X.env) = (false, eval e X.env) :: backTo pos (starEach [e2] X.env) := by rfl)
    (hpl : (backTo pos (starEach [e, e2] X.env)).any (·.1) = false := by rfl)
    (ht : eval (.Call (.Name "zip" p) [e, e2] [⟨some "strict", .Constant (.bool false) j cp, kp⟩] pos) X.env = (do
      let fv ← eval (.Name "zip" p) X.env
      callWith pos fv [] (backTo pos (starEach [e, e2] X.env)) (backToKw pos (keywordEach [⟨some "strict", .Constant (.bool false) j cp, kp⟩] X.env))) := by rfl) :
    PI X (.Tuple elts kk tpos) (.Call (.Name "zip" p) [e, e2] [⟨some "strict", .Constant (.bool false) j cp, kp⟩] pos) (iZip X.K ta) := by
  refine ⟨fun pins s σ H R I h => ?_⟩
  rw [ht]
  refine wpAny_bind (ld_blt I hg hm PyProof.Rows.boot_zip (callWith_typeK (thn (ha.run pos pins s σ H _ I h) fun us s1 ⟨vs, H1, I1, r1, q1⟩ => ?_) he hpl))
  refine kws_cons (Constant_bool (kws_nil ?_))
  obtain ⟨a, b, xs, ys, ex, hqx, hqy, q⟩ := q1
  subst ex
  cases r1 with
  | cons r rr =>
    cases rr with
    | cons r' rr =>
      cases rr
      cases r
      cases r'
      obtain ⟨its, rv, p1, _⟩ := I1.list hqx
      obtain ⟨its2, rv2, p2, _⟩ := I1.list hqy
      have la : a < s1.heap.objs.size := p1.lt
      have lb : b < s1.heap.objs.size := p2.lt
      refine call_zipk p1.isList p2.isList fun h' hz hTI hTO h1 h2 hk => wpAny_pyIter_zip hz ?_
      have I2 : Inv X pins σ H1 { s1 with heap := h' } := I1.kept (t' := s1.toks) hk
      refine ⟨s1.heap.objs.size + 4, [s1.heap.objs.size + 4, s1.heap.objs.size + 2, s1.heap.objs.size + 3, s1.heap.objs.size, s1.heap.objs.size + 1], _, _, H1, rfl, I2, turn_zip (PySem.W.ktu_apart s1.heap.objs.size a b la lb), ⟨hz, hTI, ⟨_, _, hTO⟩, h1, h2⟩, fun c hcm => ?_, q⟩
      have hle : s1.heap.objs.size ≤ c := by
        have e' : c = s1.heap.objs.size + 4 ∨ c = s1.heap.objs.size + 2 ∨ c = s1.heap.objs.size + 3 ∨ c = s1.heap.objs.size ∨ c = s1.heap.objs.size + 1 := by simpa using hcm
        rcases e' with z | z | z | z | z <;> rw [z] <;> first | exact Nat.le_refl _ | exact Nat.le_add_right _ _
      exact I1.fpOk hle (I1.hok.fresh hle)
def zipP : List PV → List PV → List PV
  | p :: ps, q :: qs => .tup [p, q] :: zipP ps qs
  | _, _ => []
theorem zipP_get : ∀ {l m : List PV} {i : Nat} {r : PV}, (zipP l m)[i]? = some r → ∃ p q, l[i]? = some p ∧ m[i]? = some q ∧ r = .tup [p, q]
  | [], _, i, r, h => by simp [zipP] at h
  | p :: l, [], i, r, h => by simp [zipP] at h
  | p :: l, q :: m, 0, r, h => by simp [zipP] at h; exact ⟨p, q, rfl, rfl, h.symm⟩
  | p :: l, q :: m, i + 1, r, h => by
    have h' : (zipP l m)[i]? = some r := by simpa [zipP] using h
    obtain ⟨a, b, h1, h2, h3⟩ := zipP_get h'
    exact ⟨a, b, by simpa using h1, by simpa using h2, h3⟩
theorem zipP_length : ∀ (l m : List PV), (zipP l m).length = min l.length m.length
  | [], _ => by simp [zipP]
  | p :: l, [] => by simp [zipP]
  | p :: l, q :: m => by simp only [zipP, List.length_cons, zipP_length l m]; omega
def pZip (ta : PTA) : PTI := fun ρ Q => ta ρ fun ps => match ps with
  | [.lst l, .lst m] => Q (zipP l m)
  | _ => False
section
variable {X : Cx} {Z : Par}
theorem serves_zip {K : PySem.W.Frag} {W : Wd} {H : Hp} {a b : Addr} {xs ys : List V} {l m : List PV} (ha : W.D a = some (.lst xs)) (hb : W.D b = some (.lst ys)) (da : DatL Z.K W xs l) (db : DatL Z.K W ys m) : Serves Z W H (Itz K a b) (zipP l m) := fun W1 H1 le h1 => by
  have ka : SqL K H1 a xs := .of (h1.ex (le.le.d _ _ ha) fun z => z)
  have kb : SqL K H1 b ys := .of (h1.ex (le.le.d _ _ hb) fun z => z)
  refine ⟨fun i hi => ⟨xs, ys, ka, kb, ?_⟩, fun i p hp => ?_⟩
  · rw [zipP_length] at hi
    rw [da.length, db.length]
    omega
  · obtain ⟨p1, p2, h2, h3, rfl⟩ := zipP_get hp
    obtain ⟨v1, hv1, d1⟩ := da.getP h2
    obtain ⟨v2, hv2, d2⟩ := db.getP h3
    refine ⟨⟨xs, ys, v1, v2, ka, kb, hv1, hv2⟩, fun x H2 ⟨T, x1, y1, e1, n, e2, g1, g2⟩ => ?_⟩
    subst e1 e2
    have z1 := g1 xs ka
    have z2 := g2 ys kb
    rw [hv1] at z1
    rw [hv2] at z2
    cases z1
    cases z2
    have e := Ext.new (o := .tup [v1, v2]) h1 n
    exact ⟨_, e, .tup Wd.add_at (.cons ((d1.mono le.le).mono e.le) (.cons ((d2.mono le.le).mono e.le) .nil))⟩
theorem qi_zipk {e e2 : Expr} {ta : PTA} {j : Nat} {p pos kp cp tpos : Pos} {elts : List Expr} {kk : Nat} (hm : X.mg "zip" = none) (ha : PA X [e, e2] (liftA Z ta)) (hg : Gl X "zip" := by rfl)
    (hs : starEach [e, e2] X.env = (false, eval e X.env) :: starEach [e2] X.env := by rfl)
    (he : backTo pos (starEach [e, e2] X.env) = (false, eval e X.env) :: backTo pos (starEach [e2] X.env) := by rfl)
    (hpl : (backTo pos (starEach [e, e2] X.env)).any (·.1) = false := by rfl)
    (ht : eval (.Call (.Name "zip" p) [e, e2] [⟨some "strict", .Constant (.bool false) j cp, kp⟩] pos) X.env = (do
      let fv ← eval (.Name "zip" p) X.env
      callWith pos fv [] (backTo pos (starEach [e, e2] X.env)) (backToKw pos (keywordEach [⟨some "strict", .Constant (.bool false) j cp, kp⟩] X.env))) := by rfl) :
    PI X (.Tuple elts kk tpos) (.Call (.Name "zip" p) [e, e2] [⟨some "strict", .Constant (.bool false) j cp, kp⟩] pos) (liftI Z (pZip ta)) :=
  PIw (pi_zipk hm ha hg hs he hpl ht) fun σ H R ⟨W, H0, ρ, Qp, hh, S, t, q⟩ => by
    refine ⟨W, H0, ρ, _, hh, S, t, fun W1 H1 vs ps e1 d1 t1 => ?_⟩
    split at t1
    · cases d1 with
      | cons d1 d2 => cases d1 with
        | lst h1 r1 => cases d2 with
          | cons d2 d3 => cases d2 with
            | lst h2 r2 => cases d3 with
              | nil => exact ⟨_, _, _, _, rfl, .of (e1.holds.ex h1 fun z => z), .of (e1.holds.ex h2 fun z => z), q W1 H1 _ _ e1 (serves_zip h1 h2 r1 r2) t1⟩
    · exact t1.elim
end
end L3

/-! ## L3F -/
/-! Built-in calls, instances, dicts walked, further comprehensions. -/
namespace L3
open PySem PySem.Spec PyProof.Rows L2

section
variable {X : Cx} {Z : Par}
/-! ### calls -/
def kLen : PKA := fun ps Q => match ps with
  | [.lst l] => Q (.int l.length)
  | [.frz l] => Q (.int l.length)
  | [.tup l] => Q (.int l.length)
  | [.str z] => z.length ≤ sizeLine ∧ Q (.int z.length)
  | _ => False
theorem c_len (hK : X.K = Z.K := by rfl) : CallP Z X (.builtin "len") kLen := ⟨_, call_len, fun W H xs ps Q Qp hh d t k => by
  unfold kLen at t
  split at t
  · cases d with
    | cons d1 d2 => cases d2; cases d1 with
      | lst ha r => exact ⟨_, _, rfl, .inl ⟨_, .of (hh.ex ha fun z => z), r.length.symm⟩, k W H _ _ (.refl hh) (.int _) t⟩
  · cases d with
    | cons d1 d2 => cases d2; cases d1 with
      | frz ha r => exact ⟨_, _, rfl, .inl ⟨_, by rw [hK]; exact SqL.holds hh ha, r.length.symm⟩, k W H _ _ (.refl hh) (.int _) t⟩
  · cases d with
    | cons d1 d2 => cases d2; cases d1 with
      | tup ha r => exact ⟨_, _, rfl, .inr ⟨_, .of (hh.ex ha fun z => z), r.length.symm⟩, k W H _ _ (.refl hh) (.int _) t⟩
  · cases d with
    | cons d1 d2 => cases d2; cases d1 with
      | str => exact ⟨_, _, rfl, ⟨t.1, rfl⟩, k W H _ _ (.refl hh) (.int _) t.2⟩
  · exact t.elim⟩
def kLenD : PKA := fun ps Q => match ps with
  | [.dic l] => Q (.int l.length)
  | _ => False
theorem call_lenDR : CallR X (.builtin "len") (fun xs H Q => ∃ a kvs, xs = [V.ref a] ∧ Rd H a (.dK kvs) ∧ Q (.int kvs.length) H) := by
  intro pins s σ H xs us Q I r h
  obtain ⟨a, kvs, rfl, ha, q⟩ := h
  obtain ⟨u, rfl, ru⟩ := vals1 r
  cases ru
  exact d_len I ha fun t s' I' => ⟨.int kvs.length, H, I', ⟨t, rfl⟩, q⟩
theorem c_lenD : CallP Z X (.builtin "len") kLenD := ⟨_, call_lenDR, fun W H xs ps Q Qp hh d t k => by
  unfold kLenD at t
  split at t
  · cases d with
    | cons d1 d2 => cases d2; cases d1 with
      | dic ha r => exact ⟨_, _, rfl, hh.rd ha, by rw [r.length]; exact k W H _ _ (.refl hh) (.int _) t⟩
  · exact t.elim⟩
def kAbs : PKA := fun ps Q => match ps with
  | [.int i] => Q (.int (if i < 0 then -i else i))
  | _ => False
theorem c_abs : CallP Z X (.builtin "abs") kAbs := ⟨_, call_abs, fun W H xs ps Q Qp hh d t k => by
  unfold kAbs at t
  split at t
  · cases d with
    | cons d1 d2 => cases d2; cases d1; exact ⟨_, rfl, k W H _ _ (.refl hh) (.int _) t⟩
  · exact t.elim⟩
def kMax2 : PKA := fun ps Q => match ps with
  | [.int i, .int j] => Q (.int (if j > i then j else i))
  | _ => False
theorem c_max2 (hc : X.calm = true := by rfl) : CallP Z X (.builtin "max") kMax2 := ⟨_, call_max2 hc, fun W H xs ps Q Qp hh d t k => by
  unfold kMax2 at t
  split at t
  · cases d with
    | cons d1 d2 => cases d2 with
      | cons d2 d3 => cases d3; cases d1; cases d2; exact ⟨_, _, rfl, k W H _ _ (.refl hh) (.int _) t⟩
  · exact t.elim⟩
def kMin2 : PKA := fun ps Q => match ps with
  | [.int i, .int j] => Q (.int (if j < i then j else i))
  | _ => False
theorem c_min2 (hc : X.calm = true := by rfl) : CallP Z X (.builtin "min") kMin2 := ⟨_, call_min2 hc, fun W H xs ps Q Qp hh d t k => by
  unfold kMin2 at t
  split at t
  · cases d with
    | cons d1 d2 => cases d2 with
      | cons d2 d3 => cases d3; cases d1; cases d2; exact ⟨_, _, rfl, k W H _ _ (.refl hh) (.int _) t⟩
  · exact t.elim⟩
def kInt : PKA := fun ps Q => match ps with
  | [.int i] => Q (.int i)
  | [.bl b] => Q (.int (if b then 1 else 0))
  | _ => False
theorem c_int : CallP Z X (.type "int") kInt := ⟨_, call_int1, fun W H xs ps Q Qp hh d t k => by
  unfold kInt at t
  split at t
  · cases d with
    | cons d1 d2 => cases d2; cases d1; exact .inl ⟨_, rfl, k W H _ _ (.refl hh) (.int _) t⟩
  · cases d with
    | cons d1 d2 => cases d2; cases d1; exact .inr ⟨_, rfl, k W H _ _ (.refl hh) (.int _) t⟩
  · exact t.elim⟩
/-- lists of ints, of bools, of texts -/
def intsP : List PV → Option (List Int)
  | [] => some []
  | .int i :: r => (intsP r).map (i :: ·)
  | _ => none
def blsP : List PV → Option (List Bool)
  | [] => some []
  | .bl b :: r => (blsP r).map (b :: ·)
  | _ => none
def strsP : List PV → Option (List Str)
  | [] => some []
  | .str x :: r => (strsP r).map (x :: ·)
  | _ => none
theorem DatL.ints {K : PySem.W.Frag} {W : Wd} : ∀ {vs : List V} {ps : List PV} {ns : List Int}, DatL K W vs ps → intsP ps = some ns → vs = ns.map V.int
  | _, _, _, .nil, e => by cases e; rfl
  | _, p :: r, ns, .cons h t, e => by
    unfold intsP at e
    split at e
    · rename_i z
      cases z
    · rename_i e1
      cases e1
      simp only [Option.map_eq_some_iff] at e
      obtain ⟨ms, e1, e2⟩ := e
      subst e2
      cases h
      rw [t.ints e1] <;> rfl
    · cases e
theorem DatL.bls {K : PySem.W.Frag} {W : Wd} : ∀ {vs : List V} {ps : List PV} {ns : List Bool}, DatL K W vs ps → blsP ps = some ns → vs = ns.map V.bl
  | _, _, _, .nil, e => by cases e; rfl
  | _, p :: r, ns, .cons h t, e => by
    unfold blsP at e
    split at e
    · rename_i z
      cases z
    · rename_i e1
      cases e1
      simp only [Option.map_eq_some_iff] at e
      obtain ⟨ms, e1, e2⟩ := e
      subst e2
      cases h
      rw [t.bls e1] <;> rfl
    · cases e
theorem DatL.strs {K : PySem.W.Frag} {W : Wd} : ∀ {vs : List V} {ps : List PV} {ns : List Str}, DatL K W vs ps → strsP ps = some ns → vs = ns.map V.str
  | _, _, _, .nil, e => by cases e; rfl
  | _, p :: r, ns, .cons h t, e => by
    unfold strsP at e
    split at e
    · rename_i z
      cases z
    · rename_i e1
      cases e1
      simp only [Option.map_eq_some_iff] at e
      obtain ⟨ms, e1, e2⟩ := e
      subst e2
      cases h
      rw [t.strs e1] <;> rfl
    · cases e
theorem DatL.ofInts {K : PySem.W.Frag} {W : Wd} : ∀ ns : List Int, DatL K W (ns.map V.int) (ns.map PV.int)
  | [] => .nil
  | n :: r => .cons (.int n) (DatL.ofInts r)
theorem DatL.ofStrs {K : PySem.W.Frag} {W : Wd} : ∀ ns : List Str, DatL K W (ns.map V.str) (ns.map PV.str)
  | [] => .nil
  | n :: r => .cons (.str n) (DatL.ofStrs r)
def kSum : PKA := fun ps Q => match ps with
  | [.lst l] => (match intsP l with | some ns => Q (.int ns.sum) | none => False)
  | _ => False
theorem c_sum (hK : X.K = Z.K := by rfl) (hc : X.calm = true := by rfl) : CallP Z X (.builtin "sum") kSum := ⟨_, cr_sum hc, fun W H xs ps Q Qp hh d t k => by
  unfold kSum at t
  split at t
  · split at t
    · rename_i ns e
      cases d with
      | cons d1 d2 => cases d2; cases d1 with
        | lst ha r => exact ⟨_, ns, rfl, .of (by rw [← r.ints e]; exact hh.ex ha fun z => z), k W H _ _ (.refl hh) (.int _) t⟩
    · exact t.elim
  · exact t.elim⟩
def kAll : PKA := fun ps Q => match ps with
  | [.lst l] => (match blsP l with | some ns => Q (.bl (ns.all id)) | none => False)
  | _ => False
def kAny : PKA := fun ps Q => match ps with
  | [.lst l] => (match blsP l with | some ns => Q (.bl (ns.any id)) | none => False)
  | _ => False
theorem c_all (hK : X.K = Z.K := by rfl) (hc : X.calm = true := by rfl) : CallP Z X (.builtin "all") kAll := ⟨_, cr_all hc, fun W H xs ps Q Qp hh d t k => by
  unfold kAll at t
  split at t
  · split at t
    · rename_i ns e
      cases d with
      | cons d1 d2 => cases d2; cases d1 with
        | lst ha r => exact ⟨_, ns, rfl, .of (by rw [← r.bls e]; exact hh.ex ha fun z => z), k W H _ _ (.refl hh) (.bl _) t⟩
    · exact t.elim
  · exact t.elim⟩
theorem c_any (hK : X.K = Z.K := by rfl) (hc : X.calm = true := by rfl) : CallP Z X (.builtin "any") kAny := ⟨_, cr_any hc, fun W H xs ps Q Qp hh d t k => by
  unfold kAny at t
  split at t
  · split at t
    · rename_i ns e
      cases d with
      | cons d1 d2 => cases d2; cases d1 with
        | lst ha r => exact ⟨_, ns, rfl, .of (by rw [← r.bls e]; exact hh.ex ha fun z => z), k W H _ _ (.refl hh) (.bl _) t⟩
    · exact t.elim
  · exact t.elim⟩
def kList : PKA := fun ps Q => match ps with
  | [.lst l] => Q (.lst l)
  | [.tup l] => Q (.lst l)
  | _ => False
theorem c_list (hK : X.K = Z.K := by rfl) : CallP Z X (.type "list") kList := ⟨_, call_list_of, fun W H xs ps Q Qp hh d t k => by
  unfold kList at t
  split at t
  · cases d with
    | cons d1 d2 => cases d2; cases d1 with
      | lst ha r => exact ⟨_, _, rfl, .inl (.of (hh.ex ha fun z => z)), fun p n => k _ _ _ _ (Ext.new hh n) (.lst Wd.add_at (r.mono (Wd.le_add (hh.new n)))) t⟩
  · cases d with
    | cons d1 d2 => cases d2; cases d1 with
      | tup ha r => exact ⟨_, _, rfl, .inr (.of (hh.ex ha fun z => z)), fun p n => k _ _ _ _ (Ext.new hh n) (.lst Wd.add_at (r.mono (Wd.le_add (hh.new n)))) t⟩
  · exact t.elim⟩
def keyPV : Key → PV
  | .inl i => .int i
  | .inr x => .str x
theorem DatL.ofKeys {K : PySem.W.Frag} {W : Wd} : ∀ {vs : List (Key × V)} {ps : List (Key × PV)}, DatK K W vs ps → DatL K W (vs.map fun kv => kV kv.1) (ps.map fun kv => keyPV kv.1)
  | _, _, .nil => .nil
  | _, _, .cons (k := .inl i) h t => .cons (.int i) (DatL.ofKeys t)
  | _, _, .cons (k := .inr i) h t => .cons (.str i) (DatL.ofKeys t)
def kListD : PKA := fun ps Q => match ps with
  | [.dic l] => Q (.lst (l.map fun kv => keyPV kv.1))
  | _ => False
theorem c_listD (hc : X.calm = true := by rfl) : CallP Z X (.type "list") kListD := ⟨_, call_listD hc, fun W H xs ps Q Qp hh d t k => by
  unfold kListD at t
  split at t
  · cases d with
    | cons d1 d2 => cases d2; cases d1 with
      | dic ha r => exact ⟨_, _, rfl, hh.rd ha, fun p n => k _ _ _ _ (Ext.new hh n) (.lst Wd.add_at (DatL.ofKeys (r.mono (Wd.le_add (hh.new n))))) t⟩
  · exact t.elim⟩
/-- sorted of ints -/
def kSortI : PKA := fun ps Q => match ps with
  | [.lst l] => (match intsP l with | some ns => ∀ ns' : List Int, ns'.Perm ns → ns'.Pairwise (· ≤ ·) → Q (.lst (ns'.map PV.int)) | none => False)
  | _ => False
theorem c_sortI (hK : X.K = Z.K := by rfl) : CallP Z X (.builtin "sorted") kSortI := ⟨_, cr_sortedI, fun W H xs ps Q Qp hh d t k => by
  unfold kSortI at t
  split at t
  · split at t
    · rename_i ns e
      cases d with
      | cons d1 d2 => cases d2; cases d1 with
        | lst ha r => exact ⟨_, ns, rfl, .of (by rw [← r.ints e]; exact hh.ex ha fun z => z), fun ns' p h1 h2 n => k _ _ _ _ (Ext.new hh n) (.lst Wd.add_at (DatL.ofInts ns')) (t ns' h1 h2)⟩
    · exact t.elim
  · exact t.elim⟩
/-- sorted of a dict's text keys -/
def keysS {α : Type} : List (Key × α) → Option (List Str)
  | [] => some []
  | (.inr x, _) :: r => (keysS r).map (x :: ·)
  | _ => none
theorem DatK.keysS {K : PySem.W.Frag} {W : Wd} : ∀ {vs : List (Key × V)} {ps : List (Key × PV)} {ks : List Str}, DatK K W vs ps → L3.keysS ps = some ks → vs.map (·.1) = ks.map Sum.inr
  | _, _, _, .nil, e => by cases e; rfl
  | _, _, ks, .cons (k := .inr x) h t, e => by
    simp only [L3.keysS, Option.map_eq_some_iff] at e
    obtain ⟨ms, e1, e2⟩ := e
    subst e2
    simp only [List.map_cons, DatK.keysS t e1]
  | _, _, _, .cons (k := .inl i) h t, e => by cases e
def kSortD : PKA := fun ps Q => match ps with
  | [.dic l] => (match keysS l with | some ks => ks.length < 64 ∧ ∀ ys : List Str, ys.Perm ks → sortedS ys = true → Q (.lst (ys.map PV.str)) | none => False)
  | _ => False
theorem c_sortD (hc : X.calm = true := by rfl) : CallP Z X (.builtin "sorted") kSortD := ⟨_, call_sortedD hc, fun W H xs ps Q Qp hh d t k => by
  unfold kSortD at t
  split at t
  · split at t
    · rename_i ks e
      cases d with
      | cons d1 d2 => cases d2; cases d1 with
        | dic ha r => exact ⟨_, _, ks, rfl, hh.rd ha, r.keysS e, t.1, fun ys p h1 h2 n => k _ _ _ _ (Ext.new hh n) (.lst Wd.add_at (DatL.ofStrs ys)) (t.2 ys h1 h2)⟩
    · exact t.elim
  · exact t.elim⟩
/-- sorted of texts -/
def kSortS : PKA := fun ps Q => match ps with
  | [.lst l] => (match strsP l with | some ks => ks.length < 64 ∧ ∀ ys : List Str, ys.Perm ks → sortedS ys = true → Q (.lst (ys.map PV.str)) | none => False)
  | _ => False
theorem c_sortS : CallP Z X (.builtin "sorted") kSortS := ⟨_, cr_sortedS, fun W H xs ps Q Qp hh d t k => by
  unfold kSortS at t
  split at t
  · split at t
    · rename_i ks e
      cases d with
      | cons d1 d2 => cases d2; cases d1 with
        | lst ha r => exact ⟨_, ks, rfl, .of (by rw [← r.strs e]; exact hh.ex ha fun z => z), t.1, fun ys p h1 h2 n => k _ _ _ _ (Ext.new hh n) (.lst Wd.add_at (DatL.ofStrs ys)) (t.2 ys h1 h2)⟩
    · exact t.elim
  · exact t.elim⟩

/-! ### isinstance -/
def tyP : PV → Option String
  | .non => some "NoneType"
  | .bl _ => some "bool"
  | .int _ => some "int"
  | .str _ => some "str"
  | .tup _ => some "tuple"
  | .lst _ => some "list"
  | .dic _ => some "dict"
  | _ => none
theorem tyP_ok {W : Wd} {H : Hp} {v : V} {p : PV} {n : String} (hh : Holds Z W H) (d : Dat Z.K W v p) (e : tyP p = some n) : TyX Z.K H v (.type n) := by
  cases d with
  | non => cases e; exact .base .non
  | bl => cases e; exact .base (.bl _)
  | int => cases e; exact .base (.int _)
  | str => cases e; exact .base (.str _)
  | tup h => cases e; exact .base (.tup (hh.ex h fun z => z))
  | lst h => cases e; exact .base (.lst (hh.ex h fun z => z))
  | dic h =>
    cases e
    rcases hh.rd h with q | ⟨o, q⟩
    · exact .base (.dK q)
    · exact .fDict q
  | _ => cases e
def kIsi : PKA := fun ps Q => match ps with
  | [p, .ty n] => (match tyP p with
    | some m => (match kitB m n with | some b => Q (.bl b) | none => False)
    | none => False)
  | _ => False
theorem c_isi (hK : X.K = Z.K := by rfl) : CallP Z X (.builtin "isinstance") kIsi := ⟨_, call_isi, fun W H xs ps Q Qp hh d t k => by
  unfold kIsi at t
  split at t
  · split at t
    · rename_i m e
      split at t
      · rename_i b eb
        cases d with
        | cons d1 d2 => cases d2 with
          | cons d2 d3 => cases d3; cases d2; exact ⟨_, _, .type m, _, b, rfl, .ty _, by rw [hK]; exact tyP_ok hh d1 e, kit_ty eb, k W H _ _ (.refl hh) (.bl _) t⟩
      · exact t.elim
    · exact t.elim
  · exact t.elim⟩
def kIsi2 : PKA := fun ps Q => match ps with
  | [p, .tup [.ty n, .ty n']] => (match tyP p with
    | some m => (match kitB m n, kitB m n' with | some b, some b' => Q (.bl (b || b')) | _, _ => False)
    | none => False)
  | _ => False
theorem c_isi2 (hK : X.K = Z.K := by rfl) : CallP Z X (.builtin "isinstance") kIsi2 := ⟨_, call_isiT, fun W H xs ps Q Qp hh d t k => by
  unfold kIsi2 at t
  split at t
  · split at t
    · rename_i m e
      split at t
      · rename_i b b' eb eb'
        cases d with
        | cons d1 d2 => cases d2 with
          | cons d2 d3 => cases d3; cases d2 with
            | tup h r => cases r with
              | cons r1 r2 => cases r2 with
                | cons r2 r3 => cases r1; cases r2; cases r3
                                refine ⟨_, _, _, .type m, _, b || b', rfl, hh.ex h (fun z => z), .cons (.ty _) (.cons (.ty _) .nil), by rw [hK]; exact tyP_ok hh d1 e, ?_, k W H _ _ (.refl hh) (.bl _) t⟩
                                refine kitAny_cons (kit_ty eb) (fun z => ?_) fun z => by rw [z]; rfl
                                refine kitAny_cons (kit_ty eb') (fun z2 => ?_) fun z2 => by rw [z2, Bool.or_true]
                                rw [z, z2]
                                exact kitAny_nil
      · exact t.elim
    · exact t.elim
  · exact t.elim⟩

/-! ### instances -/
/-- what the class named c needs -/
abbrev ClsP (Z : Par) (c : Str) : Prop := Cls Z.K (He.ga Z.K c)
def pFld (c f : Str) (t : PTE) : PTE := fun ρ Q => t ρ fun p => match p with
  | .obj c' fs => c' = c ∧ (match fs.lookup f with | some r => Q r | none => False)
  | _ => False
theorem q_fld {e : Expr} {c f : Str} {pos : Pos} {t : PTE} (cl : ClsP Z c) (na : NoAttr Z.K (He.ga Z.K c) f) (he : PE X e (lift Z t)) (hK : X.K = Z.K := by rfl) (hb : attributeBase e f X.env (eval e X.env) = eval e X.env := by rfl) : PE X (.Attribute e f pos) (lift Z (pFld c f t)) :=
  PEw (pe_fld he hb) fun σ H Q ⟨W, H0, ρ, Qp, hh, S, t, q⟩ => by
    refine ⟨W, H0, ρ, _, hh, S, t, fun W1 H1 v p e1 d1 t1 => ?_⟩
    split at t1
    · obtain ⟨ec, t1⟩ := t1
      subst ec
      split at t1
      · rename_i r er
        cases d1 with
        | obj ha rs =>
          obtain ⟨w, hw, dw⟩ := rs.look er
          exact ⟨_, _, _, _, w, rfl, e1.holds.ex ha (fun z => z), by rw [hK]; exact cl, by rw [hK]; exact na, hw, q W1 H1 _ _ e1 dw t1⟩
      · exact t1.elim
    · exact t1.elim
/-- a method (or property's getter, or special method) of the class named c keeps Φ -/
structure MtC (P : Program) (w : World) (mg : Str → Option Value) (Z : Par) (c m : Str) (k n : Nat) (Φ : Con) : Prop where
  ex : ∃ (f : Addr) (fd : FuncData) (ps : List Str), Meth Z.K (He.ga Z.K c) m f ∧ Binds Z.K fd ps [] ∧ ps.length = n ∧ ∀ base : Heap, FnOk P w Z.K mg base CX0 k f fd ps (spP Z Φ)
  cl : Cls Z.K (He.ga Z.K c)
def pMeth (c m : Str) (Φ : Con) (to : PTE) (t : PTA) : PTE := fun ρ Q => to ρ fun p => match p with
  | .obj c' fs => c' = c ∧ fs.lookup m = none ∧ t ρ fun ps => Φ (.obj c' fs :: ps) Q
  | _ => False
theorem lift_meth {c m : Str} {Φ : Con} {to : PTE} {t : PTA} (σ : L2.St) (H : Hp) (Q : VK) (h : lift Z (pMeth c m Φ to t) σ H Q) : tMeth (He.ga Z.K c) m (spP Z Φ) [] E0 (lift Z to) (liftA Z t) σ H Q := by
  obtain ⟨W, H0, ρ, Qp, hh, S, t, q⟩ := h
  refine ⟨W, H0, ρ, _, hh, S, t, fun W1 H1 v p e1 d1 t1 => ?_⟩
  split at t1
  · obtain ⟨ec, l, t1⟩ := t1
    subst ec
    have d1' := d1
    cases d1 with
    | obj ha rs =>
      refine ⟨_, _, _, rfl, e1.holds.ex ha (fun z => z), rs.lookN l, W1, H0, ρ, _, e1.holds, S.ext e1, t1, fun W2 H2 vs ps e2 d2 t2 => ?_⟩
      show spP Z Φ (_ :: (vs ++ [])) H2 Q E0
      rw [List.append_nil]
      exact ⟨W2, _, Qp, e2.holds, .cons (d1'.mono e2.le) d2, t2, fun W3 H3 v p e3 d3 t3 => q W3 H3 v p ((e1.trans hh e2).trans hh e3) d3 t3⟩
  · exact t1.elim
theorem q_meth {c m : Str} {k j n : Nat} {Φ : Con} {pos apos : Pos} {o e : Expr} {es : List Expr} {to : PTE} {t : PTA} {pl : Sem Bool} (M : MtC X.prog X.w X.mg Z c m k n Φ) (hr : Room j X.A) (he : PE X o (lift Z to)) (ha : PA X (e :: es) (liftA Z t)) (hK : X.K = Z.K := by rfl) (hj : k ≤ j := by decide)
    (hst : starEach (e :: es) X.env = (false, eval e X.env) :: starEach es X.env := by rfl) (hpl : (backTo pos (starEach es X.env)).any (·.1) = false := by rfl)
    (ht : eval (.Call (.Attribute o m apos) (e :: es) [] pos) X.env = (do
      let ov ← eval o X.env
      standAt apos.atName
      let (f, first) ← holding [ov] (getMethod ov m pl)
      callWith pos f first (backTo pos (starEach (e :: es) X.env)) (backToKw pos (keywordEach [] X.env))) := by rfl) :
    PE X (.Call (.Attribute o m apos) (e :: es) [] pos) (lift Z (pMeth c m Φ to t)) := by
  obtain ⟨f, fd, ps, hm, b, hn, F⟩ := M.ex
  have cl := M.cl
  rw [← hK] at hm b cl
  exact PEw (pe_meth he cl hm (hK ▸ F X.base) (hr.mono hj) b .nil pass0 ha hst hpl ht) fun σ H Q h => by rw [hK]; exact lift_meth σ H Q h
theorem q_meth0 {c m : Str} {k j n : Nat} {Φ : Con} {pos apos : Pos} {o : Expr} {to : PTE} {pl : Sem Bool} (M : MtC X.prog X.w X.mg Z c m k n Φ) (hr : Room j X.A) (he : PE X o (lift Z to)) (hK : X.K = Z.K := by rfl) (hj : k ≤ j := by decide)
    (ht : eval (.Call (.Attribute o m apos) [] [] pos) X.env = (do
      let ov ← eval o X.env
      standAt apos.atName
      let (f, first) ← holding [ov] (getMethod ov m pl)
      callWith pos f first (backTo pos (starEach [] X.env)) (backToKw pos (keywordEach [] X.env))) := by rfl) :
    PE X (.Call (.Attribute o m apos) [] [] pos) (lift Z (pMeth c m Φ to pNil)) := by
  obtain ⟨f, fd, ps, hm, b, hn, F⟩ := M.ex
  have cl := M.cl
  rw [← hK] at hm b cl
  refine PEw (pe_meth0 he cl hm (hK ▸ F X.base) (hr.mono hj) b .nil pass0 ht) fun σ H Q h => ?_
  rw [hK]
  have z := lift_meth σ H Q h
  obtain ⟨W, H0, ρ, Qp, hh, S, t, q⟩ := z
  refine ⟨W, H0, ρ, Qp, hh, S, t, fun W1 H1 v p e1 d1 t1 => ?_⟩
  obtain ⟨a, dx, fs, h1, h2, h3, W2, H2, ρ2, Qp2, hh2, S2, t2, q2⟩ := q W1 H1 v p e1 d1 t1
  exact ⟨a, dx, fs, h1, h2, h3, q2 W2 H1 [] [] (.refl hh2) .nil t2⟩
/-- a property -/
structure PrC (P : Program) (w : World) (mg : Str → Option Value) (Z : Par) (c f : Str) (k : Nat) (Φ : Con) : Prop where
  ex : ∃ (p g : Addr) (fd : FuncData) (ps : List Str), PropOf Z.K (He.ga Z.K c) f p g ∧ Binds Z.K fd ps [] ∧ ∀ base : Heap, FnOk P w Z.K mg base CX0 k g fd ps (spP Z Φ)
  cl : Cls Z.K (He.ga Z.K c)
def pProp (c : Str) (Φ : Con) (t : PTE) : PTE := fun ρ Q => t ρ fun p => match p with
  | .obj c' fs => c' = c ∧ Φ [.obj c' fs] Q
  | _ => False
theorem q_prop {e : Expr} {c f : Str} {k j : Nat} {Φ : Con} {pos : Pos} {t : PTE} (M : PrC X.prog X.w X.mg Z c f k Φ) (hr : Room j X.A) (he : PE X e (lift Z t)) (hK : X.K = Z.K := by rfl) (hj : k + 1 ≤ j := by decide) (hab : attributeBase e f X.env (eval e X.env) = eval e X.env := by rfl) :
    PE X (.Attribute e f pos) (lift Z (pProp c Φ t)) := by
  obtain ⟨p, g, fd, ps, hp, b, F⟩ := M.ex
  have cl := M.cl
  rw [← hK] at hp b cl
  refine PEw (pe_prop he cl hp (hK ▸ F X.base) (hr.mono hj) b .nil pass0 hab) fun σ H Q ⟨W, H0, ρ, Qp, hh, S, t, q⟩ => ?_
  refine ⟨W, H0, ρ, _, hh, S, t, fun W1 H1 v p e1 d1 t1 => ?_⟩
  split at t1
  · obtain ⟨ec, t1⟩ := t1
    subst ec
    have d1' := d1
    cases d1 with
    | obj ha rs => exact ⟨_, _, _, rfl, by rw [hK]; exact e1.holds.ex ha (fun z => z), W1, _, Qp, e1.holds, .cons d1' .nil, t1, fun W3 H3 v p e3 d3 t3 => q W3 H3 v p (e1.trans hh e3) d3 t3⟩
  · exact t1.elim
end
end L3

/-! ## L3G -/
/-! Own __contains__, dicts walked, values(), get, dict and set comprehensions, two clauses, stars. -/
namespace L3
open PySem PySem.Spec PyProof.Rows L2

section
variable {X : Cx} {Z : Par}
/-! ### in, by an own __contains__ -/
theorem own_contains {P : Program} {w : World} {K : PySem.W.Frag} {A : Around} {E : Value → Shared → Prop} {s : Shared} {a C g : Addr} {ox : Obj} {od : Option Obj} {x : Value} {Q : Bool → Shared → Prop} (X : K.In s.heap) (I : PySem.W.InstAt s.heap a ox C od)
    (hf : PySem.W.findIn K (.ref C) "__contains__" = some (some (.ref g))) (ht : PySem.W.typeIn K (.ref g) = some (.type "function"))
    (h : wpAny (model P w) A (call (.ref g) [.ref a, x]) (fun r s' => ∃ b, r = .bool b ∧ Q b s') E s) : wpAny (model P w) A (contains (.ref a) x) Q E s := by
  have L1 : PySem.W.Looks (model P w) s.heap (specialOf (.ref a) "__contains__") (some (.ref g)) := I.type.andThen (PySem.W.looks_findIn X hf)
  unfold contains
  refine wpAny_holding ?_
  rw [stdlibNamesSay?_ref]
  refine wpAny_bind (L1.here ?_)
  show wpAny _ _ (if (some (Value.ref g) == some Value.none) = true then _ else _) _ _ _
  rw [if_neg (by intro h; exact Bool.noConfusion h)]
  refine wpAny_bind ?_
  simp only [callSpecialUnlessNone?]
  refine wpAny_bind (L1.here ?_)
  refine wpAny_holding (wpAny_bind ((PySem.W.bind_fn X (.ref a) ht).here ?_))
  show wpAny _ _ (if (Value.ref g == Value.none) = true then _ else _) _ _ _
  rw [if_neg (by intro h; exact Bool.noConfusion h)]
  refine wpAny_bind (wpAny_mono h (fun r s' hr => ?_) fun _ _ e => e)
  obtain ⟨b, rfl, q⟩ := hr
  exact wpAny_pure (wpAny_truthy_bool q)
theorem isFn_type {K : PySem.W.Frag} {g : Addr} (h : PySem.W.isFn K (.ref g) = true) : PySem.W.typeIn K (.ref g) = some (.type "function") := beq_iff_eq.mp h
def rOwnIn (Z : Par) (c : Str) (Φ : Con) (neg : Bool) : R2 := fun x y H Q => ∃ a dx fs, y = .ref a ∧ H a = some (.ins (He.ga Z.K c) dx fs) ∧ spP Z Φ [y, x] H (fun v H' => ∃ b, v = .bl b ∧ Q (.bl (if neg = true then !b else b)) H') E0
theorem op_ownIn {c : Str} {k j n : Nat} {Φ : Con} (M : MtC X.prog X.w X.mg Z c "__contains__" k n Φ) (hr : Room j X.A) (hK : X.K = Z.K := by rfl) (hj : k ≤ j := by decide) : OpR X (compareOp .In) (rOwnIn Z c Φ false) := by
  intro pins s σ H x y v u Q I rx ry ⟨a, dx, fs, ey, ha, hs⟩
  subst ey
  obtain rfl : u = Value.ref a := ry
  obtain ⟨f, fd, ps, hm, b, hn, F⟩ := M.ex
  rw [← hK] at hm b
  obtain ⟨mA, O, _⟩ := ins_get I.hok ha
  obtain ⟨od, J, _⟩ := O.look
  refine wpAny_bind (own_contains I.kIn J (by rw [← hK]; exact hm.at_) (isFn_type hm.fn) (thn (run_fn (vs := [.ref a, x]) (us := [.ref a, v]) (hK ▸ F X.base) (hr.mono hj) b .nil pass0 I (.cons rfl (.cons rx .nil)) hs) fun r s' ⟨z, H', I', rz, b, ez, q⟩ => ?_))
  subst ez
  cases rz
  exact ⟨b, rfl, wpAny_pure ⟨.bl b, H', I', rfl, q⟩⟩
theorem op_ownNotIn {c : Str} {k j n : Nat} {Φ : Con} (M : MtC X.prog X.w X.mg Z c "__contains__" k n Φ) (hr : Room j X.A) (hK : X.K = Z.K := by rfl) (hj : k ≤ j := by decide) : OpR X (compareOp .NotIn) (rOwnIn Z c Φ true) := by
  intro pins s σ H x y v u Q I rx ry ⟨a, dx, fs, ey, ha, hs⟩
  subst ey
  obtain rfl : u = Value.ref a := ry
  obtain ⟨f, fd, ps, hm, b, hn, F⟩ := M.ex
  rw [← hK] at hm b
  obtain ⟨mA, O, _⟩ := ins_get I.hok ha
  obtain ⟨od, J, _⟩ := O.look
  refine wpAny_bind (own_contains I.kIn J (by rw [← hK]; exact hm.at_) (isFn_type hm.fn) (thn (run_fn (vs := [.ref a, x]) (us := [.ref a, v]) (hK ▸ F X.base) (hr.mono hj) b .nil pass0 I (.cons rfl (.cons rx .nil)) hs) fun r s' ⟨z, H', I', rz, b, ez, q⟩ => ?_))
  subst ez
  cases rz
  exact ⟨b, rfl, wpAny_pure ⟨.bl (!b), H', I', rfl, q⟩⟩
def kOwnIn (c : Str) (Φ : Con) (neg : Bool) : PK2 := fun p q Q => match q with
  | .obj c' fs => c' = c ∧ Φ [.obj c' fs, p] fun r => match r with
    | .bl b => Q (.bl (if neg = true then !b else b))
    | _ => False
  | _ => False
theorem ownIn_w {c : Str} {Φ : Con} {neg : Bool} : ∀ W H x y p q Q Qp, Holds Z W H → Dat Z.K W x p → Dat Z.K W y q → kOwnIn c Φ neg p q Qp → (∀ W' H' v r, Ext Z W H W' H' → Dat Z.K W' v r → Qp r → Q v H') → rOwnIn Z c Φ neg x y H Q := fun W H x y p q Q Qp hh dx dy t k => by
  unfold kOwnIn at t
  split at t
  · obtain ⟨ec, t⟩ := t
    subst ec
    have dy' := dy
    cases dy with
    | obj ha rs =>
      refine ⟨_, _, _, rfl, hh.ex ha (fun z => z), W, _, _, hh, .cons dy' (.cons dx .nil), t, fun W1 H1 v r e1 d1 t1 => ?_⟩
      cases d1 with
      | bl b => exact ⟨b, rfl, k W1 H1 _ _ e1 (.bl _) t1⟩
      | _ => exact t1.elim
  · exact t.elim
theorem q_ownIn {c : Str} {k j n : Nat} {Φ : Con} (M : MtC X.prog X.w X.mg Z c "__contains__" k n Φ) (hr : Room j X.A) (hK : X.K = Z.K := by rfl) (hj : k ≤ j := by decide) : OpP Z X (compareOp .In) (kOwnIn c Φ false) := ⟨_, op_ownIn M hr hK hj, ownIn_w⟩
theorem q_ownNotIn {c : Str} {k j n : Nat} {Φ : Con} (M : MtC X.prog X.w X.mg Z c "__contains__" k n Φ) (hr : Room j X.A) (hK : X.K = Z.K := by rfl) (hj : k ≤ j := by decide) : OpP Z X (compareOp .NotIn) (kOwnIn c Φ true) := ⟨_, op_ownNotIn M hr hK hj, ownIn_w⟩

/-! ### stars -/
def pStar (te : PTE) (t : PTA) : PTA := fun ρ Q => te ρ fun p => match p with
  | .lst l => t ρ fun ps => Q (l ++ ps)
  | .tup l => t ρ fun ps => Q (l ++ ps)
  | _ => False
theorem qa_star {e : Expr} {es : List Expr} {p : Pos} {te : PTE} {t : PTA} (he : PE X e (lift Z te)) (hr : PA X es (liftA Z t)) (hK : X.K = Z.K := by rfl) : PA X (.Starred e p :: es) (liftA Z (pStar te t)) :=
  PAw (StX.pa_star he hr) fun σ H Q ⟨W, H0, ρ, Qp, hh, S, t, q⟩ => by
    refine ⟨W, H0, ρ, _, hh, S, t, fun W1 H1 v p e1 d1 t1 => ?_⟩
    cases d1 with
    | lst ha r => exact ⟨_, _, rfl, .inr (.of (e1.holds.ex ha fun z => z)), W1, H0, ρ, _, e1.holds, S.ext e1, t1, fun W2 H2 vs ps e2 d2 t2 => q W2 H2 _ _ (e1.trans hh e2) ((r.mono e2.le).append d2) t2⟩
    | tup ha r => exact ⟨_, _, rfl, .inl (.of (e1.holds.ex ha fun z => z)), W1, H0, ρ, _, e1.holds, S.ext e1, t1, fun W2 H2 vs ps e2 d2 t2 => q W2 H2 _ _ (e1.trans hh e2) ((r.mono e2.le).append d2) t2⟩
    | _ => exact t1.elim

/-! ### dicts -/
/-- e, and the dict that it gives is locked from then on -/
theorem pe_lockd {e : Expr} {te : TE} (h : PE X e te) : PE X e (fun σ H Q => te σ H fun x H1 => ∃ d u, x = .ref d ∧ ((H1 d = some u ∧ Mut (some u) ∧ ∀ od, Q x (upd H1 d (.frz od u))) ∨ (∃ od, H1 d = some (.frz od u) ∧ Q x H1))) := by
  refine ⟨fun pins s σ H Q I hw => thn (h.run pins s σ H _ I hw) fun v s1 ⟨x, H1, I1, r, d, u, ex, k⟩ => ?_⟩
  rcases k with ⟨hd, mu, q⟩ | ⟨od, hd, q⟩
  · obtain ⟨od, I2⟩ := I1.lock hd mu
    exact ⟨x, _, I2, r, q od⟩
  · exact ⟨x, H1, I1, r, q⟩
def onDic (Qp : List (Key × PV) → Prop) : PV → Prop
  | .dic l => Qp l
  | _ => False
theorem lock_of {te : PTE} {R : V → Hp → Prop} (σ : L2.St) (H : Hp) {W : Wd} {H0 : Hp} {ρ : List Slt} {Qp : List (Key × PV) → Prop} (hh : Holds Z W H) (S : Slots Z W H0 H σ ρ) (t : te ρ (onDic Qp))
    (q : ∀ W' H' d od kvs l, Ext Z W H W' H' → W'.D d = some (.dK kvs) → H' d = some (.frz od (.dK kvs)) → DatK Z.K W' kvs l → Qp l → R (.ref d) H') :
    lift Z te σ H fun x H1 => ∃ d u, x = .ref d ∧ ((H1 d = some u ∧ Mut (some u) ∧ ∀ od, R x (upd H1 d (.frz od u))) ∨ (∃ od, H1 d = some (.frz od u) ∧ R x H1)) := by
  refine ⟨W, H0, ρ, _, hh, S, t, fun W1 H1 v p e1 d1 t1 => ?_⟩
  cases d1 with
  | @dic a xs _ ha r =>
    refine ⟨a, .dK xs, rfl, ?_⟩
    rcases e1.holds.sub _ _ ha with z | ⟨_, od, z⟩
    · exact .inl ⟨z, trivial, fun od => q W1 _ _ od xs _ (e1.trans hh (Ext.lock e1.holds ha trivial z od)) ha upd_same r t1⟩
    · exact .inr ⟨od, z, q W1 _ _ od xs _ e1 ha z r t1⟩
  | _ => exact t1.elim
theorem DatK.getP {K : PySem.W.Frag} {W : Wd} : ∀ {xs : List (Key × V)} {l : List (Key × PV)} {i : Nat} {k : Key} {p : PV}, DatK K W xs l → l[i]? = some (k, p) → ∃ v, xs[i]? = some (k, v) ∧ Dat K W v p
  | _, _, _, _, _, .nil, e => by simp at e
  | _, _, 0, _, _, .cons h _, e => by simp at e; obtain ⟨rfl, rfl⟩ := e; exact ⟨_, rfl, h⟩
  | _, _, i + 1, _, _, .cons _ t, e => by
    obtain ⟨v, h1, h2⟩ := DatK.getP (i := i) t (by simpa using e)
    exact ⟨v, by simpa using h1, h2⟩
/-- for v in d.values(), for k in d, for k, v in d.items() -/
def pIVals (te : PTE) : PTI := fun ρ Q => te ρ (onDic fun l => Q (l.map (·.2)))
def pIKeys (te : PTE) : PTI := fun ρ Q => te ρ (onDic fun l => Q (l.map fun kv => keyPV kv.1))
def pIItems (te : PTE) : PTI := fun ρ Q => te ρ (onDic fun l => Q (l.map fun kv => .tup [keyPV kv.1, kv.2]))
theorem datKey {K : PySem.W.Frag} {W : Wd} : ∀ k : Key, Dat K W (kV k) (keyPV k)
  | .inl i => .int i
  | .inr x => .str x
theorem qi_vals {tg e : Expr} {te : PTE} {apos cpos : Pos} (he : PE X e (lift Z te)) (hbase : attributeBase e "values" X.env (eval e X.env) = eval e X.env := by rfl) (hline : (apos.endLine == cpos.line) = true := by rfl) :
    PI X tg (.Call (.Attribute e "values" apos) [] [] cpos) (liftI Z (pIVals te)) :=
  PIw (pi_values (pe_lockd he) hbase hline) fun σ H R ⟨W, H0, ρ, Qp, hh, S, t, q⟩ => by
    refine lock_of (R := fun x H1 => ∃ d o kvs, x = .ref d ∧ H1 d = some (.frz o (.dK kvs)) ∧ R (Itd d o kvs) H1) σ H hh S (Qp := fun l : List (Key × PV) => Qp (l.map (·.2))) (by exact t) fun W1 H1 d od kvs l e1 hd hl r ql => ⟨d, od, kvs, rfl, hl, ?_⟩
    refine q W1 H1 _ _ e1 (fun W2 H2 lt h2 => ⟨fun i hi => ⟨lt.fz _ _ _ hl, by rw [r.length]; simpa using hi⟩, fun i p hp => ?_⟩) ql
    rw [List.getElem?_map] at hp
    cases z : l[i]? with
    | none => rw [z] at hp; cases hp
    | some kp =>
      rw [z] at hp
      cases hp
      obtain ⟨v, hv, dv⟩ := r.getP (k := kp.1) (p := kp.2) z
      refine ⟨⟨lt.fz _ _ _ hl, (List.getElem?_eq_some_iff.mp hv).1⟩, fun x H3 ⟨e3, k, hx⟩ => ?_⟩
      subst e3
      rw [hv] at hx
      cases hx
      exact ⟨W2, .refl h2, dv.mono lt.le⟩
theorem qi_keys {tg e : Expr} {te : PTE} (he : PE X e (lift Z te)) : PI X tg e (liftI Z (pIKeys te)) :=
  PIw (pi_keys (pe_lockd he)) fun σ H R ⟨W, H0, ρ, Qp, hh, S, t, q⟩ => by
    refine lock_of (R := fun x H1 => ∃ d o, x = .ref d ∧ ((∃ kvs, H1 d = some (.frz o (.dK kvs)) ∧ R (Itk d o kvs) H1) ∨ ∃ kvs, H1 d = some (.frz o (.dT kvs)) ∧ R (Itkt d o kvs) H1)) σ H hh S (Qp := fun l : List (Key × PV) => Qp (l.map fun kv => keyPV kv.1)) (by exact t) fun W1 H1 d od kvs l e1 hd hl r ql => ⟨d, od, rfl, .inl ⟨kvs, hl, ?_⟩⟩
    refine q W1 H1 _ _ e1 (fun W2 H2 lt h2 => ⟨fun i hi => ⟨lt.fz _ _ _ hl, by rw [r.length]; simpa using hi⟩, fun i p hp => ?_⟩) ql
    rw [List.getElem?_map] at hp
    cases z : l[i]? with
    | none => rw [z] at hp; cases hp
    | some kp =>
      rw [z] at hp
      cases hp
      obtain ⟨v, hv, dv⟩ := r.getP (k := kp.1) (p := kp.2) z
      refine ⟨⟨lt.fz _ _ _ hl, (List.getElem?_eq_some_iff.mp hv).1⟩, fun x H3 ⟨e3, k, v', hx, ex⟩ => ?_⟩
      subst e3 ex
      rw [hv] at hx
      cases hx
      exact ⟨W2, .refl h2, datKey _⟩
theorem qi_items {e : Expr} {te : PTE} {apos cpos tpos : Pos} {elts : List Expr} {kk : Nat} (he : PE X e (lift Z te)) (hbase : attributeBase e "items" X.env (eval e X.env) = eval e X.env := by rfl) (hline : (apos.endLine == cpos.line) = true := by rfl) :
    PI X (.Tuple elts kk tpos) (.Call (.Attribute e "items" apos) [] [] cpos) (liftI Z (pIItems te)) :=
  PIw (pi_items (pe_lockd he) hbase hline) fun σ H R ⟨W, H0, ρ, Qp, hh, S, t, q⟩ => by
    refine lock_of (R := fun x H1 => ∃ d o kvs, x = .ref d ∧ H1 d = some (.frz o (.dK kvs)) ∧ R (Iti d o kvs) H1) σ H hh S (Qp := fun l : List (Key × PV) => Qp (l.map fun kv => .tup [keyPV kv.1, kv.2])) (by exact t) fun W1 H1 d od kvs l e1 hd hl r ql => ⟨d, od, kvs, rfl, hl, ?_⟩
    refine q W1 H1 _ _ e1 (fun W2 H2 lt h2 => ⟨fun i hi => ⟨lt.fz _ _ _ hl, by rw [r.length]; simpa using hi⟩, fun i p hp => ?_⟩) ql
    rw [List.getElem?_map] at hp
    cases z : l[i]? with
    | none => rw [z] at hp; cases hp
    | some kp =>
      rw [z] at hp
      cases hp
      obtain ⟨v, hv, dv⟩ := r.getP (k := kp.1) (p := kp.2) z
      refine ⟨⟨lt.fz _ _ _ hl, (List.getElem?_eq_some_iff.mp hv).1⟩, fun x H3 ⟨T, k, v', hx, ex, n, e3⟩ => ?_⟩
      subst e3 ex
      rw [hv] at hx
      cases hx
      have e := Ext.new (o := .tup [kV kp.1, v]) h2 n
      exact ⟨_, e, .tup Wd.add_at (.cons (datKey _) (.cons ((dv.mono lt.le).mono e.le) .nil))⟩
/-- for c in s -/
def pIStr (te : PTE) : PTI := fun ρ Q => te ρ fun p => match p with
  | .str x => Q (x.cps.toList.map fun c => .str ⟨#[c]⟩)
  | _ => False
theorem qi_str {tg e : Expr} {te : PTE} (he : PE X e (lift Z te)) : PI X tg e (liftI Z (pIStr te)) :=
  PIw (pi_str he) fun σ H R ⟨W, H0, ρ, Qp, hh, S, t, q⟩ => by
    refine ⟨W, H0, ρ, _, hh, S, t, fun W1 H1 v p e1 d1 t1 => ?_⟩
    cases d1 with
    | str x =>
      refine ⟨x, rfl, q W1 H1 _ _ e1 (fun W2 H2 lt h2 => ⟨fun i hi => ?_, fun i p hp => ?_⟩) t1⟩
      · show x.cps.size ≤ i
        simpa using hi
      · rw [List.getElem?_map] at hp
        cases z : x.cps.toList[i]? with
        | none => rw [z] at hp; cases hp
        | some c =>
          rw [z] at hp
          cases hp
          have z' : x.cps[i]? = some c := by rw [← Array.getElem?_toList]; exact z
          refine ⟨?_, fun y H3 ⟨e3, c', hc, ey⟩ => ?_⟩
          · show i < x.cps.size
            exact (Array.getElem?_eq_some_iff.mp z').1
          · subst e3 ey
            rw [z'] at hc
            cases hc
            exact ⟨W2, .refl h2, .str _⟩
    | _ => exact t1.elim
/-- for i, x in enumerate(l) -/
def enumP (l : List PV) : List PV := l.zipIdx.map fun p => .tup [.int (p.2 : Nat), p.1]
theorem enumP_get {l : List PV} {i : Nat} {r : PV} (h : (enumP l)[i]? = some r) : ∃ p, l[i]? = some p ∧ r = .tup [.int (i : Nat), p] := by
  unfold enumP at h
  rw [List.getElem?_map, List.getElem?_zipIdx] at h
  cases z : l[i]? with
  | none => rw [z] at h; cases h
  | some p =>
    rw [z] at h
    simp at h
    exact ⟨p, rfl, h.symm⟩
def pEnum (ta : PTA) : PTI := fun ρ Q => ta ρ fun ps => match ps with
  | [.lst l] => Q (enumP l)
  | _ => False
theorem qi_enum {e : Expr} {ta : PTA} {p pos tpos : Pos} {elts : List Expr} {kk : Nat} (hm : X.mg "enumerate" = none) (ha : PA X [e] (liftA Z ta)) (hg : Gl X "enumerate" := by rfl) (hs : starEach [e] X.env = [(false, eval e X.env)] := by rfl) :
    PI X (.Tuple elts kk tpos) (.Call (.Name "enumerate" p) [e] [] pos) (liftI Z (pEnum ta)) :=
  PIw (pi_enum hg hm ha hs) fun σ H R ⟨W, H0, ρ, Qp, hh, S, t, q⟩ => by
    refine ⟨W, H0, ρ, _, hh, S, t, fun W1 H1 vs ps e1 d1 t1 => ?_⟩
    split at t1
    · cases d1 with
      | cons d1 d2 => cases d2; cases d1 with
        | @lst a xs l ha r =>
          refine ⟨_, _, rfl, .of (e1.holds.ex ha fun z => z), q W1 H1 _ _ e1 (fun W2 H2 lt h2 => ?_) t1⟩
          have ka : SqL X.K H2 a xs := .of (h2.ex (lt.le.d _ _ ha) fun z => z)
          refine ⟨fun i hi => ⟨xs, ka, ?_⟩, fun i p hp => ?_⟩
          · rw [r.length]
            simpa [enumP] using hi
          · obtain ⟨p2, hp2, rfl⟩ := enumP_get hp
            obtain ⟨v, hv, dv⟩ := r.getP hp2
            refine ⟨⟨xs, v, ka, hv⟩, fun x H3 ⟨T, y, ex, n, e3, g⟩ => ?_⟩
            subst ex e3
            have z := g xs ka
            rw [hv] at z
            cases z
            have e := Ext.new (o := .tup [.int (i : Nat), v]) h2 n
            exact ⟨_, e, .tup Wd.add_at (.cons (.int _) (.cons ((dv.mono lt.le).mono e.le) .nil))⟩
    · exact t1.elim
/-- list(d.values()) -/
theorem pe_listVals {e : Expr} {te : TE} {p apos cpos pos : Pos} (hc : X.calm = true) (he : PE X e te) (hg : Gl X "list") (hm : X.mg "list" = none) (hbase : attributeBase e "values" X.env (eval e X.env) = eval e X.env) (hline : (apos.endLine == cpos.line) = true)
    (hs : starEach [.Call (.Attribute e "values" apos) [] [] cpos] X.env = (false, eval (.Call (.Attribute e "values" apos) [] [] cpos) X.env) :: starEach [] X.env := by rfl) :
    PE X (.Call (.Name "list" p) [.Call (.Attribute e "values" apos) [] [] cpos] [] pos) (fun σ H Q => te σ H fun x H1 => ∃ d kvs, x = .ref d ∧ Rd H1 d (.dK kvs) ∧ ∀ q, H1 q = none → Q (.ref q) (upd H1 q (.lst (kvs.map (·.2))))) := by
  refine ⟨fun pins s σ H Q I hq => ?_⟩
  refine wpAny_Call_Name_kw (ld_blt I hg hm PyProof.Rows.boot_list ?_)
  refine PyProof.Rows.callWith_type1 ?_ hs rfl
  rw [hs]
  show wpAny _ _ (spliced ((false, eval (.Call (.Attribute e "values" apos) [] [] cpos) X.env) :: backTo pos (starEach [] X.env))) _ _ s
  refine Calls.spliced_cons ?_
  refine wpAny_Call_method (T := "dict") (id := "dict.values") hbase rfl hline F.plainAttrs_dict F.slot_dict_values F.type_dict_values (thn (he.run pins s σ H _ I hq) fun u s1 ⟨x, H1, I1, rx, d, kvs, ex, hd, q⟩ => ?_)
  subst ex
  obtain rfl : u = Value.ref d := rx
  obtain ⟨hz, hs0, vs, kv, hdo⟩ := dk_rd I1.hok hd
  obtain ⟨ep, hat⟩ := hdo.dictAt
  have I2 : Inv X pins σ H1 { s1 with heap := s1.heap.push { cls := .type "dict_values", data := .fields #[.ref d] } } := I1.kept (t' := s1.toks) fun b ob q => Heap.get?_push_of_some _ q
  refine ⟨hdo.typeIs, hdo.mapOf.noDict, ?_⟩
  show wpAny _ _ (callWith cpos (.builtin "dict.values") [.ref d] [] []) _ X.xe s1
  refine method_meetsIn F.slot_dict_values F.entry_dict_values rfl (PySem.evalArgs_none ⟨rfl, hdo.typeIs, F.args_dict_values_1 _, _, meets_dict_values (mixKind X.prog X.w) d hs0, ⟨vs, hdo⟩, ?_⟩)
  refine Calls.spliced_nil ?_
  refine PySem.W.kdl_call (PySem.W.kdl_values (knd := mixKind X.prog X.w) (kvs := vs) (ep := ep)) (I1.ok.hd hc) ⟨⟨_, Heap.get?_push_size _ rfl, rfl, rfl⟩, hat.push _⟩ (by rw [← Paired.length kv]; exact hz) fun h' tk acc c hk hS hacc => ?_
  have lk : kvs.length = vs.length := Paired.length kv
  have hv : Vals (kvs.map (·.2)) acc.toList := by
    have key : ∀ (n : Nat) (i : Nat), n = kvs.length - i → Vals ((kvs.map (·.2)).drop i) (acc.toList.drop i) := by
      intro n
      induction n with
      | zero =>
        intro i hn
        rw [List.drop_of_length_le (by rw [List.length_map]; omega), List.drop_of_length_le (by rw [Array.length_toList, hacc.1]; omega)]
        exact .nil
      | succ n ih =>
        intro i hn
        have h1 : i < (kvs.map (·.2)).length := by rw [List.length_map]; omega
        have h2 : i < acc.toList.length := by rw [Array.length_toList, hacc.1]; omega
        rw [List.drop_eq_getElem_cons h1, List.drop_eq_getElem_cons h2]
        refine .cons ?_ (ih (i + 1) (by omega))
        obtain ⟨k, e⟩ := hacc.2 i acc.toList[i] (by rw [← Array.getElem?_toList]; exact List.getElem?_eq_getElem h2)
        have h3 : i < kvs.length := by omega
        obtain ⟨y, e2, r1, r2⟩ := LiI.paired_get kv (List.getElem?_eq_getElem h3)
        rw [e] at e2
        cases e2
        simpa using r2
    exact key _ 0 rfl
  exact ⟨.ref _, upd H1 _ (.lst (kvs.map (·.2))), I2.laid (t' := tk) hk (Nat.le_refl _) ⟨by rw [List.length_map]; exact hz, acc.toList, c, hv, by rw [Array.toArray_toList]; exact hS⟩, rfl, q _ (I2.hok.fresh (Nat.le_refl _))⟩
def pListVals (te : PTE) : PTE := fun ρ Q => te ρ fun p => match p with
  | .dic l => Q (.lst (l.map (·.2)))
  | _ => False
theorem DatK.snd {K : PySem.W.Frag} {W : Wd} : ∀ {vs : List (Key × V)} {ps : List (Key × PV)}, DatK K W vs ps → DatL K W (vs.map (·.2)) (ps.map (·.2))
  | _, _, .nil => .nil
  | _, _, .cons h t => .cons h (DatK.snd t)
theorem q_listVals {e : Expr} {te : PTE} {p apos cpos pos : Pos} (hm : X.mg "list" = none) (he : PE X e (lift Z te)) (hc : X.calm = true := by rfl) (hg : Gl X "list" := by rfl) (hbase : attributeBase e "values" X.env (eval e X.env) = eval e X.env := by rfl) (hline : (apos.endLine == cpos.line) = true := by rfl)
    (hs : starEach [.Call (.Attribute e "values" apos) [] [] cpos] X.env = (false, eval (.Call (.Attribute e "values" apos) [] [] cpos) X.env) :: starEach [] X.env := by rfl) :
    PE X (.Call (.Name "list" p) [.Call (.Attribute e "values" apos) [] [] cpos] [] pos) (lift Z (pListVals te)) :=
  PEw (pe_listVals hc he hg hm hbase hline hs) fun σ H Q ⟨W, H0, ρ, Qp, hh, S, t, q⟩ => by
    refine ⟨W, H0, ρ, _, hh, S, t, fun W1 H1 v p e1 d1 t1 => ?_⟩
    cases d1 with
    | dic ha r => exact ⟨_, _, rfl, e1.holds.rd ha, fun p n => q _ _ _ _ (e1.trans hh (Ext.new e1.holds n)) (.lst Wd.add_at (r.snd.mono (Wd.le_add (e1.holds.new n)))) t1⟩
    | _ => exact t1.elim
/-- d.get(k) -/
def pDGet1 (td tk : PTE) : PTE := fun ρ Q => td ρ fun p => match p with
  | .dic l => tk ρ fun q => (match keyP q with
    | some k => Q ((valA l k).getD .non)
    | none => False)
  | _ => False
theorem q_dget1 {o e : Expr} {td tk : PTE} {apos cpos : Pos} {j : Nat} (hr : Room j X.A) (ho : PE X o (lift Z td)) (he : PE X e (lift Z tk)) (m : M1 X o "get" apos e cpos := by exact ⟨rfl, rfl, rfl, rfl⟩) : PE X (.Call (.Attribute o "get" apos) [e] [] cpos) (lift Z (pDGet1 td tk)) :=
  PEw (pe_dget1 (by have := hr.units; omega) ho he m) fun σ H Q ⟨W, H0, ρ, Qp, hh, S, t, q⟩ => by
    refine ⟨W, H0, ρ, _, hh, S, t, fun W1 H1 v p e1 d1 t1 => ?_⟩
    split at t1
    · have d1' := d1
      cases d1 with
      | dic ha r =>
        refine ⟨_, rfl, .inl ⟨_, e1.holds.rd ha⟩, W1, H0, ρ, _, e1.holds, S.ext e1, t1, fun W2 H2 y p2 e2 d2 t2 => ?_⟩
        split at t2
        · rename_i k ek
          have E2 := e1.trans hh e2
          have ha2 := e2.le.d _ _ ha
          rcases (r.mono e2.le).val (k := k) with ⟨z1, z2⟩ | ⟨v, p, z1, z2, dv⟩
          · rw [z2] at t2
            exact ⟨none, .inl ⟨_, k, e2.holds.rd ha2, d2.key ek, z1.symm⟩, q W2 H2 _ _ E2 .non t2⟩
          · rw [z2] at t2
            exact ⟨some v, .inl ⟨_, k, e2.holds.rd ha2, d2.key ek, z1.symm⟩, q W2 H2 _ _ E2 dv t2⟩
        · exact t2.elim
    · exact t1.elim
end
end L3

/-! ## L3H -/
/-! Dict comprehensions, sorted({..}), list comprehensions of two clauses, instances made. -/
namespace L3
open PySem PySem.Spec PyProof.Rows L2

section
variable {X : Cx} {Z : Par}
/-- a tracked object that is not frozen stays as it is -/
theorem Ext.keepD {W W3 : Wd} {H H3 : Hp} {D : Addr} {o : HO} (e3 : Ext Z W H W3 H3) (hD : H D = some o) (nW : W.D D = none) (nM : ¬ W.M D) : H3 D = some o ∧ W3.D D = none ∧ ¬ W3.M D := by
  refine ⟨e3.base D _ hD nW nM, ?_, fun z => ?_⟩
  · cases r : W3.D D with
    | none => rfl
    | some u =>
      rcases e3.fr D u r with z | z
      · rw [nW] at z; cases z
      · rw [hD] at z; cases z
  · rcases e3.frM D z with z | z
    · exact nM z
    · rw [hD] at z; cases z
theorem wipe_twice {σ : L2.St} {vs : List Nat} : L2.wipe (L2.wipe σ vs) vs = L2.wipe σ vs :=
  wipe_only (ws := vs) ⟨wipe_length σ vs, fun i n => wipe_out n⟩ fun _ h => h

/-! ### {k: v for ..} -/
def pDcL (g : PTG) (tt : PTT) (tk tv : PTE) (ρ : List Slt) (Q : List (Key × PV) → Prop) : List PV → List (Key × PV) → Prop
  | [], acc => Q acc
  | p :: ps, acc => g p ρ fun ρ1 => tt ρ1 fun b => match b with
    | true => tk ρ1 fun kp => tv ρ1 fun r => match keyP kp with
      | some k => acc.length < sizeLine ∧ pDcL g tt tk tv ρ Q ps (putA acc k r)
      | none => False
    | false => pDcL g tt tk tv ρ Q ps acc
def pDc (ti : PTI) (g : PTG) (tt : PTT) (tk tv : PTE) (vs : List Nat) : PTE := fun ρ Q => ti ρ fun l => pDcL g tt tk tv (wipeP ρ vs) (fun acc => Q (.dic acc)) l []
theorem dc_of {ti : PTI} {ws vs : List Nat} {g : PTG} {tt : PTT} {tk tv : PTE} (hs : ∀ i ∈ ws, i ∈ vs) (σ : L2.St) (H : Hp) (Q : VK) (h : lift Z (pDc ti g tt tk tv vs) σ H Q) : tDc (liftI Z ti) (liftG Z ws g) (liftT Z tt) (lift Z tk) (lift Z tv) vs σ H Q := by
  obtain ⟨W, H0, ρ, Qp, hh, S, t, q⟩ := h
  refine ⟨W, H0, ρ, _, hh, S, t, fun W1 H1 J l e1 sv t1 => fun D nD => ?_⟩
  have S1 := (S.ext e1).wipe vs
  have ePut := Ext.put (o := .dK []) e1.holds nD
  refine ⟨fun i m H' => m = l.length - i ∧ i ≤ l.length ∧ ∃ W' va acc, Ext Z W1 H1 W' H' ∧ H' D = some (.dK va) ∧ W'.D D = none ∧ ¬ W'.M D ∧ DatK Z.K W' va acc ∧ pDcL g tt tk tv (wipeP ρ vs) (fun acc => Qp (.dic acc)) (l.drop i) acc,
    ⟨l.length, rfl, Nat.zero_le _, W1, [], [], ePut, upd_same, e1.holds.new nD, e1.holds.newM nD, .nil, t1⟩, ?_⟩
  rintro i m H' ⟨rfl, hi, W', va, acc, e', hD, nW, nM, da, t'⟩
  have sv' := sv W' H' e'.lt e'.holds
  by_cases hlt : i < l.length
  · have g1 := sv'.2 i l[i] (by simp [hlt])
    rw [drop_cons hlt] at t'
    refine .inr ⟨g1.1, fun H2 => i < l.length ∧ ∃ W2 va acc, Ext Z W1 H1 W2 H2 ∧ H2 D = some (.dK va) ∧ W2.D D = none ∧ ¬ W2.M D ∧ DatK Z.K W2 va acc ∧ pDcL g tt tk tv (wipeP ρ vs) (fun acc => Qp (.dic acc)) (l.drop (i + 1)) acc, ?_, fun x H2 y => ?_⟩
    · rintro H2 ⟨_, r⟩
      exact ⟨l.length - (i + 1), by omega, rfl, hlt, r⟩
    · obtain ⟨W2, e2, d2⟩ := g1.2 x H2 y
      have S2 := (S1.ext e').ext e2
      refine ⟨W2, H0, wipeP ρ vs, l[i], _, e2.holds, S2, d2, t', fun σ3 ρ3 o3 S3 t3 => ⟨(wipe_only o3 hs).trans wipe_twice, ?_⟩⟩
      refine ⟨W2, H0, ρ3, _, e2.holds, S3, t3, fun W4 H4 b e4 t4 => ?_⟩
      have E4 := e2.trans e'.holds e4
      cases b with
      | false =>
        obtain ⟨k1, k2, k3⟩ := E4.keepD hD nW nM
        exact (if_neg (by decide)).mpr ⟨hlt, W4, va, acc, e'.trans e1.holds E4, k1, k2, k3, da.mono E4.le, t4⟩
      | true =>
        refine (if_pos rfl).mpr ⟨W4, H0, ρ3, _, e4.holds, S3.ext e4, t4, fun W5 H5 v p e5 d5 t5 => ⟨W5, H0, ρ3, _, e5.holds, (S3.ext e4).ext e5, t5, fun W6 H6 u r e6 d6 t6 => ?_⟩⟩
        have E6 := (E4.trans e'.holds e5).trans e'.holds e6
        obtain ⟨k1, k2, k3⟩ := E6.keepD hD nW nM
        split at t6
        · rename_i k ek
          refine ⟨va, k, d5.key ek, k1, by rw [da.length]; exact t6.1, hlt, W6, _, putA acc k r, ?_, upd_same, k2, k3, (da.mono E6.le).put d6, t6.2⟩
          exact (e'.trans e1.holds E6).wr k2 k3 nD
        · exact t6.elim
  · have ei : i = l.length := by omega
    subst ei
    rw [List.drop_length] at t'
    refine .inl ⟨sv'.1 _ (Nat.le_refl _), ?_⟩
    have e3 : Ext Z W1 H1 (W'.add D (.dK va)) H' := e'.frz nW nM nD hD
    exact q _ _ _ _ (e1.trans hh e3) (.dic Wd.add_at (da.mono (Wd.le_add nW))) t'
theorem q_dc {kx vx tg iter : Expr} {ifs : List Expr} {scope : Scope} {own : List (Str × Nat)} {ws : List Nat} {pos : Pos} {ti : PTI} {g : PTG} {tt : PTT} {tk tv : PTE} (hN : X.N.Nodup) (hi : PI X tg iter (liftI Z ti)) (ok : BlkOk X.N X.env.scope scope own)
    (hg : ∀ (s : Shared) (H : Hp) (C : Addr) (cl : List (Str × Addr)) (fp : List Addr), PG (X.blk s H scope (compEnvC scope cl C X.env) fp) tg (liftG Z ws g)) (ht : ∀ (s : Shared) (H : Hp) (C : Addr) (cl : List (Str × Addr)) (fp : List Addr), PTs (X.blk s H scope (compEnvC scope cl C X.env) fp) ifs (liftT Z tt))
    (hk : ∀ (s : Shared) (H : Hp) (C : Addr) (cl : List (Str × Addr)) (fp : List Addr), PE (X.blk s H scope (compEnvC scope cl C X.env) fp) kx (lift Z tk))
    (he : ∀ (s : Shared) (H : Hp) (C : Addr) (cl : List (Str × Addr)) (fp : List Addr), PE (X.blk s H scope (compEnvC scope cl C X.env) fp) vx (lift Z tv)) (hws : ∀ i ∈ ws, i ∈ own.map (·.2) := by decide) (hc : X.calm = true := by rfl) (hs : ∀ x, foldedSetIterable iter X.env x = pure x := by intro _; rfl) :
    PE X (.DictComp kx vx [⟨tg, iter, ifs, 0⟩] scope pos) (lift Z (pDc ti g tt tk tv (own.map (·.2)))) :=
  PEw (pe_dc hc hN hi ok hg ht hk he hs) fun σ H Q => dc_of hws σ H Q

/-! ### two clauses -/
/-- without what is tracked at D -/
def delH (H : Hp) (D : Addr) : Hp := fun a => if a = D then none else H a
theorem delH_at {H : Hp} {D : Addr} : delH H D D = none := if_pos rfl
theorem delH_ne {H : Hp} {D a : Addr} (h : a ≠ D) : delH H D a = H a := if_neg h
theorem delH_back {H : Hp} {D : Addr} {o : HO} (h : H D = some o) : upd (delH H D) D o = H := by
  funext a
  by_cases c : a = D
  · subst c; rw [upd_same, h]
  · rw [upd_ne c, delH_ne c]
theorem Holds.del {W : Wd} {H : Hp} {D : Addr} (h : Holds Z W H) (n : W.D D = none) (m : ¬ W.M D) : Holds Z W (delH H D) where
  sub := fun a o e => by rw [delH_ne (fun c => by rw [c, n] at e; cases e)]; exact h.sub a o e
  cel := fun a q => by rw [delH_ne (fun c => m (by rw [← c]; exact q))]; exact h.cel a q
  dis := h.dis
theorem Slots.mark {W : Wd} {H0 H : Hp} {σ : L2.St} {ρ : List Slt} {D : Addr} {o : HO} (S : Slots Z W H0 H σ ρ) (h : ∀ (i : Nat) (p : PV), ρ[i]? = some (.own p) → σ[i]? ≠ some (some (.ref D))) : Slots Z W (upd H0 D o) H σ ρ :=
  ⟨S.len, S.val, fun i p e => by
    obtain ⟨a, h1, h2, h3, h4, h5⟩ := S.own i p e
    exact ⟨a, h1, h2, by rw [upd_ne (fun c => h i p e (by rw [← c]; exact h1))]; exact h3, h4, h5⟩, S.dst⟩
theorem Slots.del {W : Wd} {H0 H : Hp} {σ : L2.St} {ρ : List Slt} {D : Addr} {o : HO} (S : Slots Z W (upd H0 D o) H σ ρ) : Slots Z W H0 (delH H D) σ ρ :=
  ⟨S.len, S.val, fun i p e => by
    obtain ⟨a, h1, h2, h3, h4, h5⟩ := S.own i p e
    have ne : a ≠ D := fun c => by rw [c, upd_same] at h3; cases h3
    rw [upd_ne ne] at h3
    exact ⟨a, h1, h2.mono (.refl W) fun u hu => by rw [delH_ne ne]; exact hu, h3, h4, h5⟩, S.dst⟩
theorem Slots.away {W : Wd} {H0 H : Hp} {σ : L2.St} {ρ : List Slt} {D : Addr} (S : Slots Z W H0 H σ ρ) (n : H D = none) : ∀ (i : Nat) (p : PV), ρ[i]? = some (.own p) → σ[i]? ≠ some (some (.ref D)) := S.fresh_own n
def pLc2L (g : PTG) (tt : PTT) (ti1 : PTI) (g1 : PTG) (tt1 : PTT) (te : PTE) (vs1 : List Nat) (ρ : List Slt) (Q : List PV → Prop) : List PV → List PV → Prop
  | [], acc => Q acc
  | p :: ps, acc => g p ρ fun ρ1 => tt ρ1 fun b => match b with
    | true => ti1 ρ1 fun l => pLcL g1 tt1 te (wipeP ρ1 vs1) (fun acc' => pLc2L g tt ti1 g1 tt1 te vs1 ρ Q ps acc') l acc
    | false => pLc2L g tt ti1 g1 tt1 te vs1 ρ Q ps acc
def pLc2 (ti : PTI) (g : PTG) (tt : PTT) (ti1 : PTI) (g1 : PTG) (tt1 : PTT) (te : PTE) (vs vs1 : List Nat) : PTE := fun ρ Q => ti ρ fun l => pLc2L g tt ti1 g1 tt1 te vs1 (wipeP ρ vs) (fun acc => Q (.lst acc)) l []
theorem lc2_of {ti ti1 : PTI} {ws vs ws1 vs1 : List Nat} {g g1 : PTG} {tt tt1 : PTT} {te : PTE} (hs : ∀ i ∈ ws, i ∈ vs) (hs1 : ∀ i ∈ ws1, i ∈ vs1) (σ : L2.St) (H : Hp) (Q : VK) (h : lift Z (pLc2 ti g tt ti1 g1 tt1 te vs vs1) σ H Q) :
    tLc2 (liftI Z ti) (liftG Z ws g) (liftT Z tt) (liftI Z ti1) (liftG Z ws1 g1) (liftT Z tt1) (lift Z te) vs vs1 σ H Q := by
  obtain ⟨W, H0, ρ, Qp, hh, S, t, q⟩ := h
  refine ⟨W, H0, ρ, _, hh, S, t, fun W1 H1 J l e1 sv t1 => fun D nD => ?_⟩
  have S1 := (S.ext e1).wipe vs
  have ePut := Ext.put (o := .lst []) e1.holds nD
  let Rest : List PV → List PV → Prop := pLc2L g tt ti1 g1 tt1 te vs1 (wipeP ρ vs) (fun acc => Qp (.lst acc))
  let At : Hp → Wd → List PV → Prop := fun H' W' acc => ∃ va, Ext Z W1 H1 W' H' ∧ H' D = some (.lst va) ∧ W'.D D = none ∧ ¬ W'.M D ∧ DatL Z.K W' va acc
  refine ⟨fun i m H' => m = l.length - i ∧ i ≤ l.length ∧ ∃ W' acc, At H' W' acc ∧ Rest (l.drop i) acc, ⟨l.length, rfl, Nat.zero_le _, W1, [], ⟨[], ePut, upd_same, e1.holds.new nD, e1.holds.newM nD, .nil⟩, t1⟩, ?_⟩
  rintro i m H' ⟨rfl, hi, W', acc, ⟨va, e', hD, nW, nM, da⟩, t'⟩
  have sv' := sv W' H' e'.lt e'.holds
  by_cases hlt : i < l.length
  · have g0 := sv'.2 i l[i] (by simp [hlt])
    have t' : pLc2L g tt ti1 g1 tt1 te vs1 (wipeP ρ vs) (fun acc => Qp (.lst acc)) (l.drop i) acc := t'
    rw [drop_cons hlt] at t'
    refine .inr ⟨g0.1, fun H2 => i < l.length ∧ ∃ W2 acc, At H2 W2 acc ∧ Rest (l.drop (i + 1)) acc, ?_, fun x H2 y => ?_⟩
    · rintro H2 ⟨_, r⟩
      exact ⟨l.length - (i + 1), by omega, rfl, hlt, r⟩
    · obtain ⟨W2, e2, d2⟩ := g0.2 x H2 y
      have S2 := ((S1.ext e').ext e2).mark (D := D) (o := .lst []) (S1.away nD)
      obtain ⟨i1, i2, i3⟩ := e2.keepD hD nW nM
      refine ⟨W2, _, wipeP ρ vs, l[i], _, e2.holds, S2, d2, t', fun σ3 ρ3 o3 S3 t3 => ⟨(wipe_only o3 hs).trans wipe_twice, ?_⟩⟩
      refine ⟨W2, _, ρ3, _, e2.holds, S3, t3, fun W4 H4 b e4 t4 => ?_⟩
      have E4 := e2.trans e'.holds e4
      cases b with
      | false =>
        obtain ⟨k1, k2, k3⟩ := E4.keepD hD nW nM
        exact (if_neg (by decide)).mpr ⟨hlt, W4, acc, ⟨va, e'.trans e1.holds E4, k1, k2, k3, da.mono E4.le⟩, t4⟩
      | true =>
        refine (if_pos rfl).mpr ⟨W4, _, ρ3, _, e4.holds, S3.ext e4, t4, fun W5 H5 J1 l1 e5 sv1 t5 => ?_⟩
        have E5 := E4.trans e'.holds e5
        obtain ⟨m1, m2, m3⟩ := E5.keepD hD nW nM
        -- the heap without D
        have hd : Holds Z W2 (delH H2 D) := e2.holds.del i2 i3
        have eb : Ext Z W2 (delH H2 D) W2 H2 := by
          have z := Ext.put (o := .lst va) hd delH_at
          rwa [delH_back i1] at z
        have Ed : Ext Z W2 (delH H2 D) W5 H5 := (eb.trans hd e4).trans hd e5
        have Sd : Slots Z W2 H0 (delH H2 D) (L2.wipe σ3 vs1) (wipeP ρ3 vs1) := S3.del.wipe vs1
        refine ⟨fun j k H6 => k = l1.length - j ∧ j ≤ l1.length ∧ ∃ W6 acc, At H6 W6 acc ∧ Ext Z W2 (delH H2 D) W6 H6 ∧ Lt W5 H5 W6 (upd H6 D (.lst va)) ∧ pLcL g1 tt1 te (wipeP ρ3 vs1) (fun acc' => Rest (l.drop (i + 1)) acc') (l1.drop j) acc,
          ⟨l1.length, rfl, Nat.zero_le _, W5, acc, ⟨va, e'.trans e1.holds E5, m1, m2, m3, da.mono E5.le⟩, Ed, ⟨.refl W5, fun a p u z => by rw [upd_ne (fun c => by rw [c, m1] at z; cases z)]; exact z⟩, t5⟩, ?_⟩
        rintro j k H6 ⟨rfl, hj, W6, acc6, ⟨va6, f', fD, fW, fM, fa⟩, F6, L6, t6⟩
        have L6' : Lt W5 H5 W6 H6 := ⟨L6.le, fun a p u z => by
          have y := L6.fz a p u z
          rw [upd_ne (fun c => by rw [c, m1] at z; cases z)] at y
          exact y⟩
        have sv6 := sv1 W6 H6 L6' f'.holds
        by_cases hjl : j < l1.length
        · have g6 := sv6.2 j l1[j] (by simp [hjl])
          rw [drop_cons hjl] at t6
          refine .inr ⟨g6.1, fun H7 => j < l1.length ∧ ∃ W7 acc, At H7 W7 acc ∧ Ext Z W2 (delH H2 D) W7 H7 ∧ Lt W5 H5 W7 (upd H7 D (.lst va)) ∧ pLcL g1 tt1 te (wipeP ρ3 vs1) (fun acc' => Rest (l.drop (i + 1)) acc') (l1.drop (j + 1)) acc, ?_, fun x7 H7 y7 => ?_⟩
          · rintro H7 ⟨_, r⟩
            exact ⟨l1.length - (j + 1), by omega, rfl, hjl, r⟩
          · obtain ⟨W7, e7, d7⟩ := g6.2 x7 H7 y7
            have S7 := (Sd.ext F6).ext e7
            have lt7 : ∀ {W8 : Wd} {H8 : Hp} {o : HO}, Ext Z W6 H6 W8 H8 → Lt W5 H5 W8 (upd (upd H8 D o) D (.lst va)) := fun {W8 H8 o} e8 => ⟨L6.le.trans e8.le, fun a p u z => by
              rw [upd_upd, upd_ne (fun c => by rw [c, m1] at z; cases z)]
              exact e8.fz a p u (L6'.fz a p u z)⟩
            have lt7' : ∀ {W8 : Wd} {H8 : Hp}, Ext Z W6 H6 W8 H8 → Lt W5 H5 W8 (upd H8 D (.lst va)) := fun {W8 H8} e8 => ⟨L6.le.trans e8.le, fun a p u z => by
              rw [upd_ne (fun c => by rw [c, m1] at z; cases z)]
              exact e8.fz a p u (L6'.fz a p u z)⟩
            refine ⟨W7, H0, wipeP ρ3 vs1, l1[j], _, e7.holds, S7, d7, t6, fun σ8 ρ8 o8 S8 t8 => ⟨(wipe_only o8 hs1).trans wipe_twice, ?_⟩⟩
            refine ⟨W7, H0, ρ8, _, e7.holds, S8, t8, fun W9 H9 b e9 t9 => ?_⟩
            have E9 := e7.trans f'.holds e9
            cases b with
            | false =>
              obtain ⟨k1, k2, k3⟩ := E9.keepD fD fW fM
              exact (if_neg (by decide)).mpr ⟨hjl, W9, acc6, ⟨va6, f'.trans e1.holds E9, k1, k2, k3, fa.mono E9.le⟩, F6.trans hd E9, lt7' E9, t9⟩
            | true =>
              refine (if_pos rfl).mpr ⟨W9, H0, ρ8, _, e9.holds, S8.ext e9, t9, fun Wa Ha v p ea dd ta => ?_⟩
              have Ea := E9.trans f'.holds ea
              obtain ⟨k1, k2, k3⟩ := Ea.keepD fD fW fM
              exact ⟨va6, k1, by rw [fa.length]; exact ta.1, hjl, Wa, acc6 ++ [p], ⟨va6 ++ [v], (f'.trans e1.holds Ea).wr k2 k3 nD, upd_same, k2, k3, (fa.mono Ea.le).append (.one dd)⟩, (F6.trans hd Ea).wr k2 k3 delH_at, lt7 Ea, ta.2⟩
        · have ej : j = l1.length := by omega
          subst ej
          rw [List.drop_length] at t6
          exact .inl ⟨sv6.1 _ (Nat.le_refl _), hlt, W6, acc6, ⟨va6, f', fD, fW, fM, fa⟩, t6⟩
  · have ei : i = l.length := by omega
    subst ei
    have t' : pLc2L g tt ti1 g1 tt1 te vs1 (wipeP ρ vs) (fun acc => Qp (.lst acc)) (l.drop l.length) acc := t'
    rw [List.drop_length] at t'
    refine .inl ⟨sv'.1 _ (Nat.le_refl _), ?_⟩
    have e3 : Ext Z W1 H1 (W'.add D (.lst va)) H' := e'.frz nW nM nD hD
    exact q _ _ _ _ (e1.trans hh e3) (.lst Wd.add_at (da.mono (Wd.le_add nW))) t'
theorem q_lc2 {elt tg iter tg1 iter1 : Expr} {ifs ifs1 : List Expr} {scope : Scope} {own : List (Str × Nat)} {vs1 ws ws1 : List Nat} {pos : Pos} {ti ti1 : PTI} {g g1 : PTG} {tt tt1 : PTT} {te : PTE} (hN : X.N.Nodup) (hi : PI X tg iter (liftI Z ti)) (ok : BlkOk X.N X.env.scope scope own)
    (hg : ∀ (s : Shared) (H : Hp) (C : Addr) (cl : List (Str × Addr)) (fp : List Addr), PG (X.blk s H scope (compEnvC scope cl C X.env) fp) tg (liftG Z ws g)) (ht : ∀ (s : Shared) (H : Hp) (C : Addr) (cl : List (Str × Addr)) (fp : List Addr), PTs (X.blk s H scope (compEnvC scope cl C X.env) fp) ifs (liftT Z tt))
    (hi1 : ∀ (s : Shared) (H : Hp) (C : Addr) (cl : List (Str × Addr)) (fp : List Addr), PI (X.blk s H scope (compEnvC scope cl C X.env) fp) tg1 iter1 (liftI Z ti1))
    (hg1 : ∀ (s : Shared) (H : Hp) (C : Addr) (cl : List (Str × Addr)) (fp : List Addr), PG (X.blk s H scope (compEnvC scope cl C X.env) fp) tg1 (liftG Z ws1 g1)) (ht1 : ∀ (s : Shared) (H : Hp) (C : Addr) (cl : List (Str × Addr)) (fp : List Addr), PTs (X.blk s H scope (compEnvC scope cl C X.env) fp) ifs1 (liftT Z tt1))
    (he : ∀ (s : Shared) (H : Hp) (C : Addr) (cl : List (Str × Addr)) (fp : List Addr), PE (X.blk s H scope (compEnvC scope cl C X.env) fp) elt (lift Z te)) (hv : ∀ i ∈ vs1, i ∈ own.map (·.2) := by decide) (hws : ∀ i ∈ ws, i ∈ own.map (·.2) := by decide) (hws1 : ∀ i ∈ ws1, i ∈ vs1 := by decide) (hc : X.calm = true := by rfl)
    (hs : ∀ x, foldedSetIterable iter X.env x = pure x := by intro _; rfl) (hs1 : ∀ env x, foldedSetIterable iter1 env x = pure x := by intro _ _; rfl) :
    PE X (.ListComp elt [⟨tg, iter, ifs, 0⟩, ⟨tg1, iter1, ifs1, 0⟩] scope pos) (lift Z (pLc2 ti g tt ti1 g1 tt1 te (own.map (·.2)) vs1)) :=
  PEw (pe_lc2 hc hN hi ok hv hg ht hi1 hg1 ht1 he hs hs1) fun σ H Q => lc2_of hws hws1 σ H Q
theorem qs_setLc2 {i : Nat} {y : Str} {py : Pos} {elt tg iter tg1 iter1 : Expr} {ifs ifs1 : List Expr} {scope : Scope} {own : List (Str × Nat)} {vs1 ws ws1 : List Nat} {pos spos : Pos} {ti ti1 : PTI} {g g1 : PTG} {tt tt1 : PTT} {te : PTE} (hN : X.N.Nodup)
    (hsw : swapsWith (.ListComp elt [⟨tg, iter, ifs, 0⟩, ⟨tg1, iter1, ifs1, 0⟩] scope pos) (some (.Name y py)) spos.line X.env = pure true) (hi : PI X tg iter (liftI Z ti)) (ok : BlkOk X.N X.env.scope scope own)
    (hg : ∀ (s : Shared) (H : Hp) (C : Addr) (cl : List (Str × Addr)) (fp : List Addr), PG (X.blk s H scope (compEnvC scope cl C X.env) fp) tg (liftG Z ws g)) (ht : ∀ (s : Shared) (H : Hp) (C : Addr) (cl : List (Str × Addr)) (fp : List Addr), PTs (X.blk s H scope (compEnvC scope cl C X.env) fp) ifs (liftT Z tt))
    (hi1 : ∀ (s : Shared) (H : Hp) (C : Addr) (cl : List (Str × Addr)) (fp : List Addr), PI (X.blk s H scope (compEnvC scope cl C X.env) fp) tg1 iter1 (liftI Z ti1))
    (hg1 : ∀ (s : Shared) (H : Hp) (C : Addr) (cl : List (Str × Addr)) (fp : List Addr), PG (X.blk s H scope (compEnvC scope cl C X.env) fp) tg1 (liftG Z ws1 g1)) (ht1 : ∀ (s : Shared) (H : Hp) (C : Addr) (cl : List (Str × Addr)) (fp : List Addr), PTs (X.blk s H scope (compEnvC scope cl C X.env) fp) ifs1 (liftT Z tt1))
    (he : ∀ (s : Shared) (H : Hp) (C : Addr) (cl : List (Str × Addr)) (fp : List Addr), PE (X.blk s H scope (compEnvC scope cl C X.env) fp) elt (lift Z te)) (hv : ∀ i ∈ vs1, i ∈ own.map (·.2) := by decide) (hws : ∀ i ∈ ws, i ∈ own.map (·.2) := by decide) (hws1 : ∀ i ∈ ws1, i ∈ vs1 := by decide) (hc : X.calm = true := by rfl)
    (hy : X.N[i]? = some y := by rfl) (hyl : X.env.scope.names.lookup y = some .local := by rfl) (hs : ∀ x, foldedSetIterable iter X.env x = pure x := by intro _; rfl) (hs1 : ∀ env x, foldedSetIterable iter1 env x = pure x := by intro _ _; rfl) :
    PS X (.Assign [.Name y py] (.ListComp elt [⟨tg, iter, ifs, 0⟩, ⟨tg1, iter1, ifs1, 0⟩] scope pos) spos) (liftS Z (pAsg (pLc2 ti g tt ti1 g1 tt1 te (own.map (·.2)) vs1) (gNm i))) :=
  PSw (ps_setLc2 hc hN hy hyl hsw hi ok hv hg ht hi1 hg1 ht1 he hs hs1) fun D σ H h => by
    obtain ⟨W0, H0, W, ρ, E, h0, e, S, t, D1⟩ := h
    exact lc2_of hws hws1 σ H _ ⟨W, H0, ρ, _, e.holds, S, t, fun W1 H1 v p e1 d1 t1 => D1.nx W1 H1 _ _ (e.trans h0 e1) e1.lt ((S.ext e1).setVal i d1) t1⟩
end
end L3

/-! ## L3I -/
/-! sorted({e for ..}) of ints; instances made. -/
namespace L3
open PySem PySem.Spec PyProof.Rows L2
section
variable {X : Cx} {Z : Par}
def pScL (g : PTG) (tt : PTT) (te : PTE) (ρ : List Slt) (Q : List Int → Prop) : List PV → List Int → Prop
  | [], acc => Q acc
  | p :: ps, acc => g p ρ fun ρ1 => tt ρ1 fun b => match b with
    | true => te ρ1 fun r => match r with
      | .int k => acc.length < 4000 ∧ pScL g tt te ρ Q ps (acc ++ [k])
      | _ => False
    | false => pScL g tt te ρ Q ps acc
def pSortSc (ti : PTI) (g : PTG) (tt : PTT) (te : PTE) (vs : List Nat) : PTE := fun ρ Q => ti ρ fun l => pScL g tt te (wipeP ρ vs) (fun acc => ∀ ns : List Int, ns.Pairwise (· < ·) → (∀ k : Int, k ∈ ns ↔ k ∈ acc) → Q (.lst (ns.map PV.int))) l []
theorem sc_of {w : World} {ti : PTI} {ws vs : List Nat} {g : PTG} {tt : PTT} {te : PTE} (hs : ∀ i ∈ ws, i ∈ vs) (σ : L2.St) (H : Hp) (Q : VK) (h : lift Z (pSortSc ti g tt te vs) σ H Q) :
    tScG (fun D => SetO w D (fun _ => false) 0) (addI w) (liftI Z ti) (liftG Z ws g) (liftT Z tt) (lift Z te) vs σ H fun x H1 => rSortedSetA w [x] H1 Q := by
  obtain ⟨W, H0, ρ, Qp, hh, S, t, q⟩ := h
  refine ⟨W, H0, ρ, _, hh, S, t, fun W1 H1 J l e1 sv t1 => fun D nD => ?_⟩
  have S1 := (S.ext e1).wipe vs
  have ePut := Ext.put (o := SetO w D (fun _ => false) 0) e1.holds nD
  let Rest : List PV → List Int → Prop := pScL g tt te (wipeP ρ vs) (fun acc => ∀ ns : List Int, ns.Pairwise (· < ·) → (∀ k : Int, k ∈ ns ↔ k ∈ acc) → Qp (.lst (ns.map PV.int)))
  let At : Hp → Wd → List Int → Prop := fun H' W' acc => ∃ S n, Ext Z W1 H1 W' H' ∧ H' D = some (SetO w D S n) ∧ W'.D D = none ∧ ¬ W'.M D ∧ (∀ k : Int, S k = true ↔ k ∈ acc) ∧ n ≤ acc.length
  refine ⟨fun i m H' => m = l.length - i ∧ i ≤ l.length ∧ ∃ W' acc, At H' W' acc ∧ Rest (l.drop i) acc, ⟨l.length, rfl, Nat.zero_le _, W1, [], ⟨_, 0, ePut, upd_same, e1.holds.new nD, e1.holds.newM nD, fun k => by simp, Nat.le_refl _⟩, t1⟩, ?_⟩
  rintro i m H' ⟨rfl, hi, W', acc, ⟨T, n, e', hD, nW, nM, mem, hn⟩, t'⟩
  have sv' := sv W' H' e'.lt e'.holds
  have t' : pScL g tt te (wipeP ρ vs) (fun acc => ∀ ns : List Int, ns.Pairwise (· < ·) → (∀ k : Int, k ∈ ns ↔ k ∈ acc) → Qp (.lst (ns.map PV.int))) (l.drop i) acc := t'
  by_cases hlt : i < l.length
  · have g1 := sv'.2 i l[i] (by simp [hlt])
    rw [drop_cons hlt] at t'
    refine .inr ⟨g1.1, fun H2 => i < l.length ∧ ∃ W2 acc, At H2 W2 acc ∧ Rest (l.drop (i + 1)) acc, ?_, fun x H2 y => ?_⟩
    · rintro H2 ⟨_, r⟩
      exact ⟨l.length - (i + 1), by omega, rfl, hlt, r⟩
    · obtain ⟨W2, e2, d2⟩ := g1.2 x H2 y
      have S2 := (S1.ext e').ext e2
      refine ⟨W2, H0, wipeP ρ vs, l[i], _, e2.holds, S2, d2, t', fun σ3 ρ3 o3 S3 t3 => ⟨(wipe_only o3 hs).trans wipe_twice, ?_⟩⟩
      refine ⟨W2, H0, ρ3, _, e2.holds, S3, t3, fun W4 H4 b e4 t4 => ?_⟩
      have E4 := e2.trans e'.holds e4
      cases b with
      | false =>
        obtain ⟨k1, k2, k3⟩ := E4.keepD hD nW nM
        exact (if_neg (by decide)).mpr ⟨hlt, W4, acc, ⟨T, n, e'.trans e1.holds E4, k1, k2, k3, mem, hn⟩, t4⟩
      | true =>
        refine (if_pos rfl).mpr ⟨W4, H0, ρ3, _, e4.holds, S3.ext e4, t4, fun W5 H5 v p e5 d5 t5 => ?_⟩
        have E5 := E4.trans e'.holds e5
        obtain ⟨k1, k2, k3⟩ := E5.keepD hD nW nM
        split at t5
        · rename_i k
          cases d5
          have sb : (scanBound : Nat) = 4096 := rfl
          refine ⟨k, T, n, rfl, k1, by have := t5.1; omega, hlt, W5, acc ++ [k], ⟨_, _, (e'.trans e1.holds E5).wr k2 k3 nD, upd_same, k2, k3, fun j => ?_, ?_⟩, t5.2⟩
          · rw [Bool.or_eq_true, mem j, decide_eq_true_eq, List.mem_append, List.mem_singleton]
          · rw [List.length_append]
            split
            · exact Nat.le_trans hn (Nat.le_add_right _ _)
            · exact Nat.succ_le_succ hn
        · exact t5.elim
  · have ei : i = l.length := by omega
    subst ei
    rw [List.drop_length] at t'
    refine .inl ⟨sv'.1 _ (Nat.le_refl _), D, T, n, rfl, hD, fun ns p h1 h2 h3 np => ?_⟩
    exact q _ _ _ _ (e1.trans hh (e'.trans e1.holds (Ext.new e'.holds np))) (.lst Wd.add_at (DatL.ofInts ns)) (t' ns h1 fun k => (h2 k).trans (mem k))
theorem q_sortSc {elt tg iter : Expr} {ifs : List Expr} {scope : Scope} {own : List (Str × Nat)} {ws : List Nat} {p pos pos2 : Pos} {ti : PTI} {g : PTG} {tt : PTT} {te : PTE} (hm : X.mg "sorted" = none) (hN : X.N.Nodup) (hi : PI X tg iter (liftI Z ti)) (ok : BlkOk X.N X.env.scope scope own)
    (hg : ∀ (s : Shared) (H : Hp) (C : Addr) (cl : List (Str × Addr)) (fp : List Addr), PG (X.blk s H scope (compEnvC scope cl C X.env) fp) tg (liftG Z ws g)) (ht : ∀ (s : Shared) (H : Hp) (C : Addr) (cl : List (Str × Addr)) (fp : List Addr), PTs (X.blk s H scope (compEnvC scope cl C X.env) fp) ifs (liftT Z tt))
    (he : ∀ (s : Shared) (H : Hp) (C : Addr) (cl : List (Str × Addr)) (fp : List Addr), PE (X.blk s H scope (compEnvC scope cl C X.env) fp) elt (lift Z te)) (hws : ∀ i ∈ ws, i ∈ own.map (·.2) := by decide) (hc : X.calm = true := by rfl) (hgl : Gl X "sorted" := by rfl) (hs : ∀ x, foldedSetIterable iter X.env x = pure x := by intro _; rfl)
    (hst : starEach [.SetComp elt [⟨tg, iter, ifs, 0⟩] scope pos2] X.env = (false, eval (.SetComp elt [⟨tg, iter, ifs, 0⟩] scope pos2) X.env) :: starEach [] X.env := by rfl) (hpl : (backTo pos (starEach [] X.env)).any (·.1) = false := by rfl) :
    PE X (.Call (.Name "sorted" p) [.SetComp elt [⟨tg, iter, ifs, 0⟩] scope pos2] [] pos) (lift Z (pSortSc ti g tt te (own.map (·.2)))) := by
  refine PEw (pe_callB (cr_sortedSetA hc) hgl hm PyProof.Rows.boot_sorted (pa_cons (pe_scG (mk := fun D => SetO X.w D (fun _ => false) 0) (r := addI X.w) (fun H' h => mkI_ok X.prog X.w H' h) (addI_ok X.prog X.w) hc hN hi ok hg ht he hs) pa_nil hst) (by decide) (by decide) hst hpl) fun σ H Q h => ?_
  exact sc_of (w := X.w) hws σ H Q h

/-! ### instances made -/
/-- what __init__ promises: from a bare instance (own to it) to the value Φ -/
def spMk (Z : Par) (c : Str) (Φ : Con) : Sp := fun vs H Q _ => ∃ x dx vs' W Hb ps Qp, vs = .ref x :: vs' ∧ Holds Z W Hb ∧ Hb x = none ∧ H = upd Hb x (.ins (He.ga Z.K c) dx []) ∧ DatL Z.K W vs' ps ∧ Φ ps Qp ∧
  ∀ W' H' p, Ext Z W Hb W' H' → Dat Z.K W' (.ref x) p → Qp p → Q .non H'
structure MkC (P : Program) (w : World) (mg : Str → Option Value) (Z : Par) (c : Str) (k n : Nat) (Φ : Con) : Prop where
  ex : ∃ (f : Addr) (fd : FuncData) (ps : List Str), mg c = some (.ref (He.ga Z.K c)) ∧ Mk Z.K (He.ga Z.K c) f ∧ Binds Z.K fd ps [] ∧ ps.length = n + 1 ∧ ∀ base : Heap, FnOk P w Z.K mg base CX0 k f fd ps (spMk Z c Φ)
theorem q_make {c : Str} {k j n : Nat} {Φ : Con} {p pos : Pos} {e : Expr} {es : List Expr} {t : PTA} (M : MkC X.prog X.w X.mg Z c k n Φ) (hr : Room j X.A) (ha : PA X (e :: es) (liftA Z t)) (hK : X.K = Z.K := by rfl) (hj : k + 1 ≤ j := by decide) (hg : Gl X c := by rfl)
    (hdb : (c == ("__debug__" : Str)) = false := by decide) (he : starEach (e :: es) X.env = (false, eval e X.env) :: starEach es X.env := by rfl) (hpl : (backTo pos (starEach es X.env)).any (·.1) = false := by rfl) :
    PE X (.Call (.Name c p) (e :: es) [] pos) (lift Z (pCall Φ t)) := by
  obtain ⟨f, fd, ps, hm, mk, b, hn, F⟩ := M.ex
  rw [← hK] at mk b
  refine PEw (pe_make mk (hK ▸ F X.base) (hr.mono hj) hg (by rw [hK]; exact hm) b .nil pass0 ha hdb he hpl) fun σ H Q ⟨W, H0, ρ, Qp, hh, S, t, q⟩ => ?_
  refine ⟨W, H0, ρ, _, hh, S, t, fun W1 H1 vs ps e1 d1 t1 => fun x dx nx ndx ne => ?_⟩
  have e2 := Ext.put (o := .own x) e1.holds ndx
  have nx2 : (upd H1 dx (.own x)) x = none := by rw [upd_ne (Ne.symm ne)]; exact nx
  refine ⟨x, dx, vs, W1, upd H1 dx (.own x), ps, Qp, by rw [List.append_nil], e2.holds, nx2, by rw [hK], d1, t1, fun W3 H3 p3 e3 d3 t3 => ⟨rfl, ?_⟩⟩
  exact q W3 H3 _ p3 (e1.trans hh (e2.trans e1.holds e3)) d3 t3
end
end L3

/-! ## L3J -/
/-! Names of kinds; += on ints; a tuple's slice; dict(pairs); the shared pool; two targets, one an own list. -/
namespace L3
open PySem PySem.Spec PyProof.Rows L2
abbrev kAddI : PK2 := kI0 fun i j => .int (i + j)
abbrev kSubI : PK2 := kI0 fun i j => .int (i - j)
abbrev kMulI : PK2 := kII MulOk fun i j => .int (i * j)
abbrev kFdI : PK2 := kII DivOk fun i j => .int (i.fdiv j)
abbrev kMdI : PK2 := kII ModOk fun i j => .int (i.fmod j)
abbrev kPowI : PK2 := kII CPow fun i j => .int (i ^ j.toNat)
abbrev kLtI : PK2 := kI0 fun i j => .bl (decide (i < j))
abbrev kLeI : PK2 := kI0 fun i j => .bl (decide (i ≤ j))
abbrev kGtI : PK2 := kI0 fun i j => .bl (decide (j < i))
abbrev kGeI : PK2 := kI0 fun i j => .bl (decide (j ≤ i))
section
variable {X : Cx} {Z : Par}
/-- x += e, whole numbers -/
def pAug (i : Nat) (te : PTE) : PTS := fun E ρ => match ρ[i]? with
  | some (.val (.int a)) => te ρ fun p => (match p with
    | .int b => E.nx (ρ.set i (.val (.int (a + b))))
    | _ => False)
  | _ => False
theorem qs_augAdd {i : Nat} {x : Str} {e : Expr} {te : PTE} {pos' pos : Pos} (hN : X.N.Nodup) (he : PE X e (lift Z te)) (hi : X.N[i]? = some x := by rfl) (hx : Loc X.env.scope x := by first | exact .inl rfl | exact .inr rfl)
    (hf : X.fn x = true ∨ X.env.scope.names.lookup x = some .local := by first | exact .inl rfl | exact .inr rfl) :
    PS X (.AugAssign (.Name x pos') .Add e pos) (liftS Z (pAug i te)) :=
  PSw (ps_aug hN hi hx he ip_add hf) fun D σ H ⟨W0, H0, W, ρ, E, h0, e, S, t, D1⟩ => by
    unfold pAug at t
    split at t
    · rename_i a z
      obtain ⟨v, h1, h2⟩ := S.val i _ z
      cases h2
      refine ⟨_, h1, W, H0, ρ, _, e.holds, S, t, fun W1 H1 v p e1 d1 t1 => ?_⟩
      cases d1 with
      | int b => exact ⟨a, b, rfl, rfl, D1.nx W1 H1 _ _ (e.trans h0 e1) e1.lt ((S.ext e1).setVal i (.int _)) t1⟩
      | _ => exact t1.elim
    · exact t.elim
theorem q_sliceT {e : Expr} {te : PTE} {lo hi : Option Expr} {tl th : PTO} {p2 pos : Pos} (he : PE X e (lift Z te)) (hl : PO X lo (liftO Z tl)) (hu : PO X hi (liftO Z th)) (hK : X.K = Z.K := by rfl) : PE X (.Subscript e (.Slice lo hi none p2) pos) (lift Z (pSlT te tl th)) :=
  PEw (pe_slice sl_tup he hl hu) fun σ H Q ⟨W, H0, ρ, Qp, hh, S, t, q⟩ => by
    refine ⟨W, H0, ρ, _, hh, S, t, fun W1 H1 x p e1 d1 t1 => ⟨W1, H0, ρ, _, e1.holds, S.ext e1, t1, fun W2 H2 o2 e2 t2 => ⟨W2, H0, ρ, _, e2.holds, (S.ext e1).ext e2, t2, fun W3 H3 o3 e3 t3 => ?_⟩⟩⟩
    have dx := (d1.mono e2.le).mono e3.le
    have E3 := (e1.trans hh e2).trans hh e3
    cases dx with
    | tup ha ra =>
      refine ⟨_, _, rfl, .of (e3.holds.ex ha fun z => z), fun hq => ?_, fun p n => ?_⟩
      · refine t3.1 ?_
        rw [ra.length] at hq
        simp [cutP, hq.1, hq.2]
      · exact q _ _ _ _ (E3.trans hh (Ext.new e3.holds n)) (.tup Wd.add_at ((ra.cut o2 o3).mono (Wd.le_add (e3.holds.new n)))) t3.2
    | _ => exact t3.elim
def kGtS : PK2 := fun p q Q => match p, q with
  | .str a, .str b => Q (.bl (decide (b.cps.toList < a.cps.toList)))
  | _, _ => False
theorem q_gtS : OpP Z X (compareOp .Gt) kGtS := ⟨_, op_gt_str, fun W H x y p q Q Qp hh dx dy t k => by
    unfold kGtS at t
    split at t
    · cases dx; cases dy
      exact ⟨_, _, rfl, rfl, k W H _ _ (.refl hh) (.bl _) t⟩
    · exact t.elim⟩

/-! ### dict(pairs) -/
def pairsP : List PV → Option (List (Key × PV))
  | [] => some []
  | .tup [k, v] :: r => match keyP k, pairsP r with
    | some k, some ks => some ((k, v) :: ks)
    | _, _ => none
  | _ => none
def mergeP (kvs more : List (Key × PV)) : List (Key × PV) := more.foldl (fun acc kv => putA acc kv.1 kv.2) kvs
theorem DatK.merge {K : PySem.W.Frag} {W : Wd} : ∀ (ms : List (Key × V)) {qs : List (Key × PV)} {vs : List (Key × V)} {ps : List (Key × PV)}, DatK K W ms qs → DatK K W vs ps → DatK K W (mergeK vs ms) (mergeP ps qs)
  | [], _, _, _, d, h => by cases d; exact h
  | _ :: ms, _, _, _, d, h => by
    cases d with
    | @cons k _ _ _ _ d t =>
      have z := DatK.merge ms t (h.put (k := k) d)
      exact z
theorem pairs_ok {W : Wd} {H : Hp} (hh : Holds Z W H) : ∀ {xs : List V} {l : List PV} {kvs : List (Key × PV)}, DatL Z.K W xs l → pairsP l = some kvs → ∃ (ps : List Addr) (ms : List (Key × V)), xs = ps.map V.ref ∧ Paired (fun p kv => SqT Z.K H p [kV kv.1, kv.2]) ps ms ∧ DatK Z.K W ms kvs
  | _, _, _, .nil, e => by cases e; exact ⟨[], [], rfl, .nil, .nil⟩
  | _, p :: r, kvs, .cons d t, e => by
    unfold pairsP at e
    split at e
    · rename_i z; cases z
    · rename_i k v r' z
      cases z
      split at e
      · rename_i k' ks e1 e2
        cases e
        obtain ⟨ps, ms, h1, h2, h3⟩ := pairs_ok hh t e2
        cases d with
        | @tup a xs _ ha ra =>
          cases ra with
          | @cons u _ us _ d1 ra => cases ra with
            | @cons v' _ vs _ d2 ra => cases ra with
              | nil =>
                refine ⟨a :: ps, (k', v') :: ms, by rw [h1]; rfl, .cons ?_ h2, .cons d2 h3⟩
                show SqT Z.K H a [kV k', v']
                rw [← d1.key e1]
                exact .of (hh.ex ha fun z => z)
      · cases e
    · cases e
def kDict : PKA := fun ps Q => match ps with
  | [.lst l] => (match pairsP l with | some kvs => Q (.dic (mergeP [] kvs)) | none => False)
  | _ => False
theorem c_dict (hK : X.K = Z.K := by rfl) (hc : X.calm = true := by rfl) : CallP Z X (.type "dict") kDict := ⟨_, call_dictP hc, fun W H xs ps Q Qp hh d t k => by
  unfold kDict at t
  split at t
  · split at t
    · rename_i kvs e
      cases d with
      | cons d1 d2 => cases d2; cases d1 with
        | lst ha r =>
          obtain ⟨as, ms, h1, h2, h3⟩ := pairs_ok hh r e
          refine ⟨_, as, ms, rfl, .of (by rw [← h1]; exact hh.ex ha fun z => z), by rw [hK]; exact h2, fun p n => k _ _ _ _ (Ext.new hh n) (.dic Wd.add_at (DatK.merge ms (h3.mono (Wd.le_add (hh.new n))) .nil)) t⟩
    · exact t.elim
  · exact t.elim⟩
/-- x = dict(pairs), an own one -/
def pOwnD (i : Nat) (ta : PTA) : PTS := fun E ρ => ta ρ fun ps => match ps with
  | [.lst l] => (match pairsP l with | some kvs => E.nx (ρ.set i (.own (.dic (mergeP [] kvs)))) | none => False)
  | _ => False
theorem qs_ownD {i : Nat} {x : Str} {ea : Expr} {ta : PTA} {pf pos' pos pos2 : Pos} (hN : X.N.Nodup) (hm : X.mg "dict" = none) (ha : PA X [ea] (liftA Z ta)) (hK : X.K = Z.K := by rfl) (hc : X.calm = true := by rfl) (hg : Gl X "dict" := by rfl)
    (he : starEach [ea] X.env = (false, eval ea X.env) :: starEach [] X.env := by rfl) (hpl : (backTo pos2 (starEach [] X.env)).any (·.1) = false := by rfl)
    (hi : X.N[i]? = some x := by rfl) (hx : Loc X.env.scope x := by first | exact .inl rfl | exact .inr rfl) (hs : swapsWith (.Call (.Name "dict" pf) [ea] [] pos2) (some (.Name x pos')) pos.line X.env = pure false := by rfl)
    (hf : X.fn x = true ∨ X.env.scope.names.lookup x = some .local := by first | exact .inl rfl | exact .inr rfl) :
    PS X (.Assign [.Name x pos'] (.Call (.Name "dict" pf) [ea] [] pos2) pos) (liftS Z (pOwnD i ta)) :=
  PSw (ps_set hN hi hx (pe_callTy (call_dictP hc) hg hm rfl ha (by decide) (by decide) he hpl) hs hf) fun D σ H ⟨W0, H0, W, ρ, E, h0, e, S, t, D1⟩ =>
    ⟨W, H0, ρ, _, e.holds, S, t, fun W1 H1 vs ps e1 d1 t1 => by
      split at t1
      · split at t1
        · rename_i kvs ek
          cases d1 with
          | cons d1 d2 => cases d2; cases d1 with
            | lst ha r =>
              obtain ⟨as, ms, h1, h2, h3⟩ := pairs_ok e1.holds r ek
              refine ⟨_, as, ms, rfl, .of (by rw [← h1]; exact e1.holds.ex ha fun z => z), by rw [hK]; exact h2, fun p n => ?_⟩
              obtain ⟨e2, S2⟩ := new_own (o := .dK (mergeK [] ms)) (p := .dic (mergeP [] kvs)) h0 (e.trans h0 e1) (S.ext e1) i n ⟨_, upd_same, DatK.merge ms h3 .nil⟩
              exact D1.nx W1 _ _ _ e2 ⟨e1.le, fun b q v e => by
                have z := e1.fz b q v e
                rw [upd_ne (ne_of_none z n)]
                exact z⟩ S2 t1
        · exact t1.elim
      · exact t1.elim⟩

/-! ### a, b = [..], e with a own; a, b = e, [] with b own -/
def pParL (i j : Nat) (ta : PTA) (te : PTE) : PTS := fun E ρ => ta ρ fun ps => ps.length ≤ sizeLine ∧ te ρ fun q => E.nx ((ρ.set i (.own (.lst ps))).set j (.val q))
theorem qs_parL {i j : Nat} {x y : Str} {es : List Expr} {b : Expr} {ta : PTA} {te : PTE} {px py pt pos lp : Pos} {kt k2 pt2} (hN : X.N.Nodup) (ha : PA X es (liftA Z ta)) (hb : PE X b (lift Z te)) (hi : X.N[i]? = some x := by rfl) (hj : X.N[j]? = some y := by rfl) (hij : i ≠ j := by decide)
    (hx : X.env.scope.names.lookup x = some .local := by rfl) (hy : X.env.scope.names.lookup y = some .local := by rfl) (hc : X.calm = true := by rfl)
    (h1 : starEach [.List es lp, b] X.env = (false, eval (.List es lp) X.env) :: starEach [b] X.env := by rfl) (h2 : starEach [b] X.env = (false, eval b X.env) :: starEach [] X.env := by rfl)
    (hw : swappedStores [.Tuple [.Name x px, .Name y py] kt pt] (.Tuple [.List es lp, b] k2 pt2) X.env = pure (some [x, y]) := by rfl)
    (hs : swapsWithSole [.Tuple [.Name x px, .Name y py] kt pt] (.Tuple [.List es lp, b] k2 pt2) pos.line X.env = pure false := by rfl) :
    PS X (.Assign [.Tuple [.Name x px, .Name y py] kt pt] (.Tuple [.List es lp, b] k2 pt2) pos) (liftS Z (pParL i j ta te)) :=
  PSw (ps_par hc hN hi hj hij hx hy (pa_cons (pe_lst ha) (pa_cons hb pa_nil h2) h1) hw hs) fun D σ H ⟨W0, H0, W, ρ, E, h0, e, S, t, D1⟩ =>
    ⟨W, H0, ρ, _, e.holds, S, t, fun W1 H1 vs ps e1 d1 t1 => ⟨by rw [d1.length]; exact t1.1, fun p n => by
      have S1 := S.ext e1
      have ep := Ext.put (o := .lst vs) e1.holds n
      refine ⟨W1, H0, ρ, _, ep.holds, S1.ext ep, t1.2, fun W2 H2 v q e2 d2 t2 => ⟨_, _, rfl, ?_⟩⟩
      obtain ⟨k1, k2, k3⟩ := e2.keepD upd_same (e1.holds.new n) (e1.holds.newM n)
      have E2 := ((e.trans h0 e1).trans h0 ep).trans h0 e2
      have hp0 : H0 p = none := (e.trans h0 e1).nonE h0 n
      have fr : ∀ (k : Nat) (r : PV), ρ[k]? = some (.own r) → σ[k]? ≠ some (some (.ref p)) := S1.fresh_own n
      exact D1.nx W2 H2 _ _ E2 ((e1.lt.trans ep.lt).trans e2.lt) ((((S1.ext ep).ext e2).setOwn i (a := p) (p := .lst ps) ⟨vs, k1, d1.mono e2.le⟩ hp0 k2 k3 fr).setVal j d2) t2⟩⟩
def pParR (i j : Nat) (te : PTE) (ta : PTA) : PTS := fun E ρ => te ρ fun q => ta ρ fun ps => ps.length ≤ sizeLine ∧ E.nx ((ρ.set i (.val q)).set j (.own (.lst ps)))
theorem qs_parR {i j : Nat} {x y : Str} {es : List Expr} {b : Expr} {ta : PTA} {te : PTE} {px py pt pos lp : Pos} {kt k2 pt2} (hN : X.N.Nodup) (hb : PE X b (lift Z te)) (ha : PA X es (liftA Z ta)) (hi : X.N[i]? = some x := by rfl) (hj : X.N[j]? = some y := by rfl) (hij : i ≠ j := by decide)
    (hx : X.env.scope.names.lookup x = some .local := by rfl) (hy : X.env.scope.names.lookup y = some .local := by rfl) (hc : X.calm = true := by rfl)
    (h1 : starEach [b, .List es lp] X.env = (false, eval b X.env) :: starEach [.List es lp] X.env := by rfl) (h2 : starEach [.List es lp] X.env = (false, eval (.List es lp) X.env) :: starEach [] X.env := by rfl)
    (hw : swappedStores [.Tuple [.Name x px, .Name y py] kt pt] (.Tuple [b, .List es lp] k2 pt2) X.env = pure (some [x, y]) := by rfl)
    (hs : swapsWithSole [.Tuple [.Name x px, .Name y py] kt pt] (.Tuple [b, .List es lp] k2 pt2) pos.line X.env = pure false := by rfl) :
    PS X (.Assign [.Tuple [.Name x px, .Name y py] kt pt] (.Tuple [b, .List es lp] k2 pt2) pos) (liftS Z (pParR i j te ta)) :=
  PSw (ps_par hc hN hi hj hij hx hy (pa_cons hb (pa_cons (pe_lst ha) pa_nil h2) h1) hw hs) fun D σ H ⟨W0, H0, W, ρ, E, h0, e, S, t, D1⟩ =>
    ⟨W, H0, ρ, _, e.holds, S, t, fun W1 H1 v q e1 d1 t1 => ⟨W1, H0, ρ, _, e1.holds, S.ext e1, t1, fun W2 H2 vs ps e2 d2 t2 => ⟨by rw [d2.length]; exact t2.1, fun p n => ⟨_, _, rfl, by
      have S2 := ((S.ext e1).ext e2).setVal i (d1.mono e2.le)
      obtain ⟨e3, S3⟩ := new_own (o := .lst vs) (p := .lst ps) h0 ((e.trans h0 e1).trans h0 e2) S2 j n ⟨vs, upd_same, d2⟩
      exact D1.nx W2 _ _ _ e3 ⟨(e1.le).trans e2.le, fun b q v e => by
        have z := e2.fz b q v (e1.fz b q v e)
        rw [upd_ne (ne_of_none z n)]
        exact z⟩ S3 t2.2⟩⟩⟩⟩
end

/-! ### the pool: a list of two ints, shared -/
def PoolI : Hp → HO → Prop := fun _ o => ∃ c s : Int, o = .lst [.int c, .int s] ∧ 0 ≤ s ∧ s < 2147483648
def Zp (K : PySem.W.Frag) : Par := ⟨K, PoolI, fun _ _ _ _ h => h⟩
section
variable {X : Cx} {K : PySem.W.Frag}
def pCel (v : Nat) (i : Int) : PTE := fun ρ Q => match ρ[v]? with
  | some (.val .cel) => (i = 0 ∧ ∀ c : Int, Q (.int c)) ∨ (i = 1 ∧ ∀ s : Int, 0 ≤ s → s < 2147483648 → Q (.int s))
  | _ => False
theorem q_cel {v : Nat} {i : Int} {x : Str} {j : Nat} {px pi pos : Pos} (hK : X.K = K := by rfl) (hN : X.N[v]? = some x := by rfl) (hv : Vis X.env.scope x := by first | exact .inl rfl | exact .inr (.inl rfl) | exact .inr (.inr rfl)) (hd : (x == ("__debug__" : Str)) = false := by decide) (hcd : (x == ("__classdict__" : Str)) = false := by decide) :
    PE X (.Subscript (.Name x px) (.Constant (.int i) j pi) pos) (lift (Zp K) (pCel v i)) :=
  PEw (pe_ix ix_seq (pe_var hN hv hd hcd) pe_int (fun _ _ => rfl)) fun σ H Q ⟨W, H0, ρ, Qp, hh, S, t, q⟩ => by
    unfold pCel at t
    split at t
    · rename_i z
      obtain ⟨u, h1, h2⟩ := S.val v _ z
      refine ⟨u, h1, ?_⟩
      cases h2 with
      | cel hm =>
        obtain ⟨o, ho, c, s, rfl, s0, s1⟩ := hh.cel _ hm
        rcases t with ⟨rfl, t⟩ | ⟨rfl, t⟩
        · exact .inl ⟨_, _, _, _, rfl, rfl, .of ho, rfl, q W H _ _ (.refl hh) (.int _) (t c)⟩
        · exact .inl ⟨_, _, _, _, rfl, rfl, .of ho, rfl, q W H _ _ (.refl hh) (.int _) (t s s0 s1)⟩
    · exact t.elim
theorem Ext.wrM {W : Wd} {H : Hp} {a : Addr} {o : HO} (h : Holds (Zp K) W H) (m : W.M a) (p : PoolI W.D o) : Ext (Zp K) W H W (upd H a o) where
  holds :=
    { sub := fun b u e => by
        rw [upd_ne (fun c => by rw [c, h.dis a m] at e; cases e)]
        exact h.sub b u e
      cel := fun b q => by
        by_cases c : b = a
        · subst c; exact ⟨o, upd_same, p⟩
        · obtain ⟨u, r, s⟩ := h.cel b q
          exact ⟨u, by rw [upd_ne c]; exact r, s⟩
      dis := h.dis }
  le := .refl W
  base := fun b u e _ n => by rw [upd_ne (fun c => n (by rw [c]; exact m))]; exact e
  fr := fun _ _ q => .inl q
  frM := fun _ q => .inl q
  fz := fun b od u e => by
    rw [upd_ne (fun c => by
      obtain ⟨o', ho, c', s', rfl, _⟩ := h.cel a m
      rw [c, ho] at e; cases e)]
    exact e
def pCelSet (v : Nat) (i : Int) (te : PTE) : PTS := fun E ρ => match ρ[v]? with
  | some (.val .cel) => te ρ fun p => (match p with
    | .int n => (i = 0 ∨ (i = 1 ∧ 0 ≤ n ∧ n < 2147483648)) ∧ E.nx ρ
    | _ => False)
  | _ => False
theorem qs_celSet {v : Nat} {i : Int} {x : Str} {j : Nat} {e : Expr} {te : PTE} {px pi pos' pos : Pos} (he : PE X e (lift (Zp K) te)) (hN : X.N[v]? = some x := by rfl) (hv : Vis X.env.scope x := by first | exact .inl rfl | exact .inr (.inl rfl) | exact .inr (.inr rfl)) (hd : (x == ("__debug__" : Str)) = false := by decide) (hcd : (x == ("__classdict__" : Str)) = false := by decide)
    (hs : swapsWithSole [.Subscript (.Name x px) (.Constant (.int i) j pi) pos'] e pos.line X.env = pure false := by rfl) (hw : swappedStores [.Subscript (.Name x px) (.Constant (.int i) j pi) pos'] e X.env = pure none := by rfl)
    (h1 : List.map (fun x => x.snd) (assignEach [.Subscript (.Name x px) (.Constant (.int i) j pi) pos'] X.env) = [assign (.Subscript (.Name x px) (.Constant (.int i) j pi) pos') X.env] := by rfl) :
    PS X (.Assign [.Subscript (.Name x px) (.Constant (.int i) j pi) pos'] e pos) (liftS (Zp K) (pCelSet v i te)) :=
  PSw (ps_asg he (pg_sub (pe_var hN hv hd hcd) pe_int set_list) hs hw h1) fun D σ H ⟨W0, H0, W, ρ, E, h0, e, S, t, D1⟩ => by
    unfold pCelSet at t
    split at t
    · rename_i z
      refine ⟨W, H0, ρ, _, e.holds, S, t, fun W1 H1 y p e1 d1 t1 => ?_⟩
      cases d1 with
      | int n =>
        obtain ⟨u, h1, h2⟩ := (S.ext e1).val v _ z
        refine ⟨u, h1, ?_⟩
        cases h2 with
        | @cel a hm =>
          obtain ⟨o, ho, c, s, rfl, s0, s1⟩ := e1.holds.cel _ hm
          obtain ⟨hc, t1⟩ := t1
          rcases hc with rfl | ⟨rfl, n0, n1⟩
          · have ew := Ext.wrM (o := .lst [.int n, .int s]) e1.holds hm ⟨n, s, rfl, s0, s1⟩
            exact ⟨a, _, 0, 0, rfl, rfl, ho, rfl, D1.nx W1 _ σ ρ ((e.trans h0 e1).trans h0 ew) (e1.lt.trans ew.lt) ((S.ext e1).ext ew) t1⟩
          · have ew := Ext.wrM (o := .lst [.int c, .int n]) e1.holds hm ⟨c, n, rfl, n0, n1⟩
            exact ⟨a, _, 1, 1, rfl, rfl, ho, rfl, D1.nx W1 _ σ ρ ((e.trans h0 e1).trans h0 ew) (e1.lt.trans ew.lt) ((S.ext e1).ext ew) t1⟩
      | _ => exact t1.elim
    · exact t.elim
/-- [c, s], shared from here on -/
def pNewCel (ta : PTA) : PTE := fun ρ Q => ta ρ fun ps => match ps with
  | [.int _, .int s] => 0 ≤ s ∧ s < 2147483648 ∧ Q .cel
  | _ => False
theorem Ext.newCel {W : Wd} {H : Hp} {p : Addr} {o : HO} (h : Holds (Zp K) W H) (n : H p = none) (i : PoolI W.D o) : Ext (Zp K) W H ⟨W.D, fun a => W.M a ∨ a = p⟩ (upd H p o) where
  holds :=
    { sub := (h.put n).sub
      cel := fun a q => by
        by_cases c : a = p
        · subst c; exact ⟨o, upd_same, i⟩
        · exact (h.put n).cel a (q.resolve_right c)
      dis := fun a q => by
        rcases q with q | q
        · exact h.dis a q
        · rw [q]; exact h.new n }
  le := ⟨fun _ _ e => e, fun _ m => .inl m⟩
  base := fun a u q _ _ => by rw [upd_ne (ne_of_none q n)]; exact q
  fr := fun _ _ q => .inl q
  frM := fun a q => by
    rcases q with q | q
    · exact .inl q
    · exact .inr (by rw [q]; exact n)
  fz := fun a o u q => by rw [upd_ne (ne_of_none q n)]; exact q
theorem q_newCel {es : List Expr} {pos : Pos} {t : PTA} (h : PA X es (liftA (Zp K) t)) : PE X (.List es pos) (lift (Zp K) (pNewCel t)) :=
  PEw (pe_lst h) fun σ H Q ⟨W, H0, ρ, Qp, hh, S, t, q⟩ =>
    ⟨W, H0, ρ, _, hh, S, t, fun W1 H1 vs ps e1 d1 t1 => by
      split at t1
      · obtain ⟨s0, s1, t1⟩ := t1
        cases d1 with
        | cons d1 d2 => cases d2 with
          | cons d2 d3 => cases d1; cases d2; cases d3
                          exact ⟨by rw [sizeLine_eq]; exact Nat.le_of_ble_eq_true rfl, fun p n => q _ _ _ _ (e1.trans hh (Ext.newCel (o := .lst [.int _, .int _]) e1.holds n ⟨_, _, rfl, s0, s1⟩)) (.cel (.inr rfl)) t1⟩
      · exact t1.elim⟩
end
end L3

/-! ## L3M -/
/-! __init__: an instance under the making, with one own dict in a field at the most. -/
namespace L3
open PySem PySem.Spec PyProof.Rows L2

abbrev Isd := Option (Str × List (Key × PV))
def IslD (Z : Par) (W : Wd) (Hb H Hs : Hp) (x : Addr) (xs : List (Str × V)) (fs : List (Str × PV)) : Isd → Prop
  | none => DatF Z.K W xs fs
  | some (f, l) => ∃ ys d kvs, xs = ys ++ [(f, .ref d)] ∧ DatF Z.K W ys fs ∧ fs.lookup f = none ∧ d ≠ x ∧ H d = some (.dK kvs) ∧ DatK Z.K W kvs l ∧ Hb d = none ∧ W.D d = none ∧ ¬ W.M d ∧ Hs d ≠ none
structure Isl (Z : Par) (c : Str) (x dx : Addr) (W : Wd) (Hb H Hs : Hp) (fs : List (Str × PV)) (dd : Isd) : Prop where
  ex : ∃ xs, H x = some (.ins (He.ga Z.K c) dx xs) ∧ IslD Z W Hb H Hs x xs fs dd
  b0 : Hb x = none
  nD : W.D x = none
  nM : ¬ W.M x
  s0 : Hs x ≠ none
  hb : ∀ a, Hb a ≠ none → Hs a ≠ none
abbrev ITN := List Slt → List (Str × PV) → Isd → Prop
abbrev ITS := ITN → ITN
structure NSt (Z : Par) (c : Str) (x dx : Addr) (W0 : Wd) (Hb : Hp) (W : Wd) (H : Hp) (σ : L2.St) (ρ : List Slt) (fs : List (Str × PV)) (dd : Isd) : Prop where
  h0 : Holds Z W0 Hb
  e : Ext Z W0 Hb W H
  z : ρ[0]? = some (.val (.raw x))
  ex : ∃ Hs, Slots Z W Hs H σ ρ ∧ Isl Z c x dx W Hb H Hs fs dd
def liftN (Z : Par) (c : Str) (x dx : Addr) (t : ITS) : TS := fun D σ H => ∃ W0 Hb W ρ fs dd nx, NSt Z c x dx W0 Hb W H σ ρ fs dd ∧ t nx ρ fs dd ∧
  ∀ W' H' σ' ρ' fs' dd', Lt W H W' H' → NSt Z c x dx W0 Hb W' H' σ' ρ' fs' dd' → nx ρ' fs' dd' → D.nx σ' H'
section
variable {X : Cx} {Z : Par} {c : Str} {x dx : Addr}
theorem Isl.ext {W W' : Wd} {Hb H H' Hs : Hp} {fs : List (Str × PV)} {dd : Isd} (I : Isl Z c x dx W Hb H Hs fs dd) (e : Ext Z W H W' H') : Isl Z c x dx W' Hb H' Hs fs dd := by
  obtain ⟨⟨xs, hx, hd⟩, b0, nD, nM, s0, hb⟩ := I
  obtain ⟨k1, k2, k3⟩ := e.keepD hx nD nM
  refine ⟨⟨xs, k1, ?_⟩, b0, k2, k3, s0, hb⟩
  cases dd with
  | none => exact DatF.mono e.le hd
  | some fl =>
    obtain ⟨f, l⟩ := fl
    obtain ⟨ys, d, kvs, h1, h2, hf, h3, h4, h5, h6, h7, h8, h9⟩ := hd
    obtain ⟨q1, q2, q3⟩ := e.keepD h4 h7 h8
    exact ⟨ys, d, kvs, h1, h2.mono e.le, hf, h3, q1, h5.mono e.le, h6, q2, q3, h9⟩
theorem NSt.self {W0 W : Wd} {Hb H : Hp} {σ : L2.St} {ρ : List Slt} {fs : List (Str × PV)} {dd : Isd} (S : NSt Z c x dx W0 Hb W H σ ρ fs dd) : σ[0]? = some (some (.ref x)) := by
  obtain ⟨Hs, S1, _⟩ := S.ex
  obtain ⟨v, h1, h2⟩ := S1.val 0 _ S.z
  cases h2
  exact h1
theorem NSt.ext {W0 W W' : Wd} {Hb H H' : Hp} {σ : L2.St} {ρ : List Slt} {fs : List (Str × PV)} {dd : Isd} (S : NSt Z c x dx W0 Hb W H σ ρ fs dd) (e : Ext Z W H W' H') : NSt Z c x dx W0 Hb W' H' σ ρ fs dd := by
  obtain ⟨Hs, S1, I⟩ := S.ex
  exact ⟨S.h0, S.e.trans S.h0 e, S.z, Hs, S1.ext e, I.ext e⟩
theorem Slots.off {W : Wd} {H0 H : Hp} {σ : L2.St} {ρ : List Slt} {a : Addr} {o : HO} (S : Slots Z W H0 H σ ρ) (n : H0 a ≠ none) : Slots Z W H0 (upd H a o) σ ρ where
  len := S.len
  val := S.val
  own := fun i p q => by
    obtain ⟨b, h1, h2, h3, h4, h5⟩ := S.own i p q
    exact ⟨b, h1, h2.ne fun e => n (by rw [← e]; exact h3), h3, h4, h5⟩
  dst := S.dst
/-- what is not an own slot's -/
noncomputable def outH (W : Wd) (Hs H : Hp) : Hp := by
  classical exact fun a => if Hs a = none ∧ W.D a = none ∧ ¬ W.M a then none else H a
theorem outH_in {W : Wd} {Hs H : Hp} {a : Addr} (h : Hs a = none) (d : W.D a = none) (m : ¬ W.M a) : outH W Hs H a = none := by
  unfold outH; rw [if_pos ⟨h, d, m⟩]
theorem outH_out {W : Wd} {Hs H : Hp} {a : Addr} (h : ¬ (Hs a = none ∧ W.D a = none ∧ ¬ W.M a)) : outH W Hs H a = H a := by
  unfold outH; rw [if_neg h]
theorem outH_le {W : Wd} {Hs H : Hp} {a : Addr} {o : HO} (h : outH W Hs H a = some o) : H a = some o := by
  by_cases c : Hs a = none ∧ W.D a = none ∧ ¬ W.M a
  · rw [outH_in c.1 c.2.1 c.2.2] at h; cases h
  · rw [outH_out c] at h; exact h
theorem Holds.out {W : Wd} {H Hs : Hp} (h : Holds Z W H) : Holds Z W (outH W Hs H) where
  sub := fun a o e => by
    rw [outH_out (fun z => by rw [z.2.1] at e; cases e)]
    exact h.sub a o e
  cel := fun a m => by
    rw [outH_out (fun z => z.2.2 m)]
    exact h.cel a m
  dis := h.dis
theorem Ext.out {W : Wd} {H Hs : Hp} (h : Holds Z W H) : Ext Z W (outH W Hs H) W H :=
  ⟨h, .refl W, fun a o e _ _ => outH_le e, fun _ _ e => .inl e, fun _ e => .inl e, fun a o u e => outH_le e⟩
theorem Slots.out {W : Wd} {H Hs : Hp} {σ : L2.St} {ρ : List Slt} (S : Slots Z W Hs H σ ρ) : Slots Z W (outH W Hs H) H σ ρ :=
  ⟨S.len, S.val, fun i p q => let ⟨a, h1, h2, h3, h4, h5⟩ := S.own i p q; ⟨a, h1, h2, outH_in h3 h4 h5, h4, h5⟩, S.dst⟩
theorem Isl.out {W W0 : Wd} {Hb H Hs : Hp} {fs : List (Str × PV)} {dd : Isd} (I : Isl Z c x dx W Hb H Hs fs dd) (e : Ext Z W0 Hb W H) : Isl Z c x dx W Hb (outH W Hs H) (outH W Hs H) fs dd ∧ Ext Z W0 Hb W (outH W Hs H) := by
  obtain ⟨⟨xs, hx, hd⟩, b0, nD, nM, s0, hb⟩ := I
  have kb : ∀ a o, Hb a = some o → outH W Hs H a = H a := fun a o q => outH_out fun z => hb a (by rw [q]; exact fun z => nomatch z) z.1
  refine ⟨⟨⟨xs, by rw [outH_out (fun z => s0 z.1)]; exact hx, ?_⟩, b0, nD, nM, (by rw [outH_out (fun z => s0 z.1), hx]; exact fun z => nomatch z), fun a q z => ?_⟩, e.holds.out, e.le, fun a o q d m => by rw [kb a o q]; exact e.base a o q d m, e.fr, e.frM, fun a o u q => by rw [kb a _ q]; exact e.fz a o u q⟩
  · cases dd with
    | none => exact hd
    | some fl =>
      obtain ⟨ys, d, kvs, h1, h2, hf, h3, h4, h5, h6, h7, h8, h9⟩ := hd
      have k : outH W Hs H d = some (.dK kvs) := by rw [outH_out (fun z => h9 z.1)]; exact h4
      exact ⟨ys, d, kvs, h1, h2, hf, h3, k, h5, h6, h7, h8, by rw [k]; exact fun z => nomatch z⟩
  · cases r : Hb a with
    | none => exact q r
    | some o =>
      rw [kb a o r] at z
      have := e.holds
      by_cases m : W0.M a
      · obtain ⟨u, y, _⟩ := e.holds.cel a (e.le.m a m)
        rw [z] at y; cases y
      · cases d : W0.D a with
        | none => rw [e.base a o r d m] at z; cases z
        | some u =>
          obtain ⟨v, y⟩ := e.holds.there (e.le.d a u d)
          rw [z] at y; cases y
/-- a statement that does not touch the instance -/
def iOf (t : PTS) : ITS := fun nx ρ fs dd => t ⟨fun ρ' => ρ'[0]? = ρ[0]? ∧ nx ρ' fs dd, fun _ => False, fun _ => False, fun _ => False⟩ ρ
theorem n_of {st : Stmt} {t : PTS} (h : PS X st (liftS Z t)) : PS X st (liftN Z c x dx (iOf t)) :=
  PSw h fun D σ H ⟨W0, Hb, W, ρ, fs, dd, nx, S, t, k⟩ => by
    obtain ⟨Hs, S1, I⟩ := S.ex
    have hh := S.e.holds
    refine ⟨W, outH W Hs H, W, ρ, _, hh.out, Ext.out hh, S1.out, t, ⟨fun W' H' σ' ρ' e' le S' t' => ?_, fun _ _ _ _ _ _ z => z.elim, fun _ _ _ _ _ _ _ z => z.elim, fun _ _ _ _ _ _ _ z => z.elim⟩⟩
    obtain ⟨I2, e2⟩ := I.out S.e
    exact k W' H' σ' ρ' fs dd le ⟨S.h0, e2.trans S.h0 e', by rw [t'.1]; exact S.z, _, S', I2.ext e'⟩ t'.2
/-- one behind another -/
def iSeq (t u : ITS) : ITS := fun nx => t (u nx)
def iNext : ITS := fun nx => nx
theorem n_nil : PSs X [] (liftN Z c x dx iNext) := PSsw pss_nil fun D σ H ⟨W0, Hb, W, ρ, fs, dd, nx, S, t, k⟩ => k W H σ ρ fs dd (.refl W H) S t
theorem n_one {st : Stmt} {t : ITS} (h : PS X st (liftN Z c x dx t)) : PSs X [st] (liftN Z c x dx t) := pss_one h
theorem n_cons {st : Stmt} {rest : List Stmt} {t u : ITS} (h1 : PS X st (liftN Z c x dx t)) (h2 : PSs X rest (liftN Z c x dx u)) : PSs X (st :: rest) (liftN Z c x dx (iSeq t u)) :=
  PSsw (pss_cons h1 h2) fun D σ H ⟨W0, Hb, W, ρ, fs, dd, nx, S, t, k⟩ =>
    ⟨W0, Hb, W, ρ, fs, dd, u nx, S, t, fun W' H' σ' ρ' fs' dd' lt S' t' => ⟨W0, Hb, W', ρ', fs', dd', nx, S', t', fun W2 H2 σ2 ρ2 fs2 dd2 lt2 S2 t2 => k W2 H2 σ2 ρ2 fs2 dd2 (lt.trans lt2) S2 t2⟩⟩
/-- for -/
def iForL (g : PTG) (tb : ITS) (nx : ITN) : List PV → ITN
  | [] => nx
  | p :: ps => fun ρ fs dd => g p ρ fun ρ1 => ρ1[0]? = ρ[0]? ∧ tb (iForL g tb nx ps) ρ1 fs dd
def iFor (ti : PTI) (g : PTG) (tb : ITS) : ITS := fun nx ρ fs dd => ti ρ fun l => iForL g tb nx l ρ fs dd
theorem n_for {tg iter : Expr} {body : List Stmt} {ti : PTI} {ws : List Nat} {g : PTG} {tb : ITS} {pos : Pos} (hi : PI X tg iter (liftI Z ti)) (hg : PG X tg (liftG Z ws g)) (hb : PSs X body (liftN Z c x dx tb)) (hp : PassesOwn (model X.prog X.w) X.A X.env X.xe := by exact PassesOwn.never)
    (hc : X.calm = true := by rfl) (hs : ∀ x, foldedSetIterable iter X.env x = pure x := by intro _; rfl) : PS X (.For tg iter body [] pos) (liftN Z c x dx (iFor ti g tb)) :=
  PSw (ps_for hp hc hi hg hb hs) fun D σ H ⟨W0, Hb, W, ρ, fs, dd, nx, S, t, k⟩ => by
    obtain ⟨Hs, S1, I⟩ := S.ex
    refine ⟨W, Hs, ρ, _, S.e.holds, S1, t, fun W1 H1 J l e1 sv t1 => ?_⟩
    refine ⟨fun i m σ' H' => m = l.length - i ∧ i ≤ l.length ∧ ∃ W' ρ' fs' dd', Lt W1 H1 W' H' ∧ NSt Z c x dx W0 Hb W' H' σ' ρ' fs' dd' ∧ iForL g tb nx (l.drop i) ρ' fs' dd', ⟨l.length, rfl, Nat.zero_le _, W1, ρ, fs, dd, .refl W1 H1, S.ext e1, t1⟩, ?_⟩
    rintro i m σ' H' ⟨rfl, hi, W', ρ', fs', dd', le', S', t'⟩
    have sv' := sv W' H' le' S'.e.holds
    by_cases hlt : i < l.length
    · have g1 := sv'.2 i l[i] (by simp [hlt])
      rw [drop_cons hlt] at t'
      refine .inr ⟨g1.1, fun σ2 H2 => i < l.length ∧ ∃ W2 ρ2 fs2 dd2, Lt W1 H1 W2 H2 ∧ NSt Z c x dx W0 Hb W2 H2 σ2 ρ2 fs2 dd2 ∧ iForL g tb nx (l.drop (i + 1)) ρ2 fs2 dd2, ?_, fun y H2 yy => ?_⟩
      · rintro σ2 H2 ⟨_, r⟩
        exact ⟨l.length - (i + 1), by omega, rfl, hlt, r⟩
      · obtain ⟨W2, e2, d2⟩ := g1.2 y H2 yy
        have S2 := S'.ext e2
        obtain ⟨Hs2, S3, I3⟩ := S2.ex
        refine ⟨W2, Hs2, ρ', l[i], _, e2.holds, S3, d2, t', fun σ3 ρ3 o3 S4 t3 => ?_⟩
        refine ⟨W0, Hb, W2, ρ3, fs', dd', _, ⟨S2.h0, S2.e, by rw [t3.1]; exact S2.z, Hs2, S4, I3⟩, t3.2, fun W4 H4 σ4 ρ4 fs4 dd4 lt4 S4 t4 => ⟨hlt, W4, ρ4, fs4, dd4, (le'.trans e2.lt).trans lt4, S4, t4⟩⟩
    · have ei : i = l.length := by omega
      subst ei
      rw [List.drop_length] at t'
      exact .inl ⟨sv'.1 _ (Nat.le_refl _), k W' H' σ' ρ' fs' dd' (e1.lt.trans le') S' t'⟩

/-! ### fields -/
theorem putF_new {f : Str} {v : V} : ∀ {xs : List (Str × V)}, xs.lookup f = none → putF f v xs = xs ++ [(f, v)]
  | [], _ => rfl
  | (g, u) :: r, e => by
    rw [List.lookup_cons] at e
    cases q : f == g with
    | true => rw [q] at e; cases e
    | false =>
      rw [q] at e
      have n : ¬ g = f := fun z => by rw [z, beq_self_eq_true] at q; cases q
      show (if g = f then _ else _) = _
      rw [if_neg n, putF_new e]
      rfl
theorem DatF.append {K : PySem.W.Frag} {W : Wd} : ∀ {vs vs' : List (Str × V)} {ps ps' : List (Str × PV)}, DatF K W vs ps → DatF K W vs' ps' → DatF K W (vs ++ vs') (ps ++ ps')
  | _, _, _, _, .nil, s => s
  | _, _, _, _, .cons h t, s => .cons h (DatF.append t s)
theorem DatF.length {K : PySem.W.Frag} {W : Wd} : ∀ {vs : List (Str × V)} {ps : List (Str × PV)}, DatF K W vs ps → vs.length = ps.length
  | _, _, .nil => rfl
  | _, _, .cons _ t => congrArg (· + 1) (DatF.length t)
theorem lookup_last {α : Type} {f : Str} {v : α} : ∀ {ys : List (Str × α)}, ys.lookup f = none → (ys ++ [(f, v)]).lookup f = some v
  | [], _ => by simp
  | (g, u) :: r, e => by
    rw [List.lookup_cons] at e
    rw [List.cons_append, List.lookup_cons]
    cases q : f == g with
    | true => rw [q] at e; cases e
    | false => rw [q] at e; exact lookup_last e
theorem lookup_ext {α : Type} {f g : Str} {v w : α} : ∀ {ys : List (Str × α)}, ys.lookup f = some v → (ys ++ [(g, w)]).lookup f = some v
  | [], e => by cases e
  | (g', u) :: r, e => by
    rw [List.lookup_cons] at e
    rw [List.cons_append, List.lookup_cons]
    cases q : f == g' with
    | true => rw [q] at e; exact e
    | false => rw [q] at e; exact lookup_ext e
theorem lookup_extN {α : Type} {f g : Str} {w : α} (n : (f == g) = false) : ∀ {ys : List (Str × α)}, ys.lookup f = none → (ys ++ [(g, w)]).lookup f = none
  | [], _ => by rw [List.nil_append, List.lookup_cons, n]; rfl
  | (g', u) :: r, e => by
    rw [List.lookup_cons] at e
    rw [List.cons_append, List.lookup_cons]
    cases q : f == g' with
    | true => rw [q] at e; cases e
    | false => rw [q] at e; exact lookup_extN n e
/-- self.f = e -/
def iSetF (f : Str) (te : PTE) : ITS := fun nx ρ fs dd => dd = none ∧ fs.lookup f = none ∧ fs.length < 1000 ∧ te ρ fun p => nx ρ (fs ++ [(f, p)]) none
theorem n_setF {y f : Str} {e : Expr} {te : PTE} {px pos' pos : Pos} (cl : ClsP Z c) (na : NoAttr Z.K (He.ga Z.K c) f) (he : PE X e (lift Z te)) (hK : X.K = Z.K := by rfl) (hN : X.N[0]? = some y := by rfl) (hv : Vis X.env.scope y := by first | exact .inl rfl | exact .inr (.inl rfl) | exact .inr (.inr rfl)) (hd : (y == ("__debug__" : Str)) = false := by decide) (hcd : (y == ("__classdict__" : Str)) = false := by decide)
    (hs : swapsWith e (some (.Attribute (.Name y px) f pos')) pos.line X.env = pure false := by rfl) : PS X (.Assign [.Attribute (.Name y px) f pos'] e pos) (liftN Z c x dx (iSetF f te)) :=
  PSw (ps_fld (pe_var hN hv hd hcd) he hs) fun D σ H ⟨W0, Hb, W, ρ, fs, dd, nx, S, ⟨ed, lk, ln, t⟩, k⟩ => by
    subst ed
    obtain ⟨Hs, S1, I⟩ := S.ex
    refine ⟨W, Hs, ρ, _, S.e.holds, S1, t, fun W1 H1 v p e1 d1 t1 => ?_⟩
    have S2 := S.ext e1
    have I2 := I.ext e1
    obtain ⟨⟨xs, hx, hf⟩, b0, nD, nM, s0, hb⟩ := I2
    have hf : DatF Z.K W1 xs fs := hf
    refine ⟨_, S2.self, x, He.ga Z.K c, dx, xs, rfl, hx, by rw [hK]; exact cl, by rw [hK]; exact na, by rw [hf.length]; exact ln, ?_⟩
    rw [putF_new (hf.lookN lk)]
    have Sx := (S1.ext e1).off (a := x) (o := .ins (He.ga Z.K c) dx (xs ++ [(f, v)])) s0
    exact k W1 _ σ ρ (fs ++ [(f, p)]) none (e1.lt.wr fun p u z => by rw [hx] at z; cases z) ⟨S.h0, S2.e.wr nD nM b0, S.z, Hs, Sx, ⟨_, upd_same, hf.append (.cons d1 .nil)⟩, b0, nD, nM, s0, hb⟩ t1
/-- self.f = {} -/
def iNewD (f : Str) : ITS := fun nx ρ fs dd => dd = none ∧ fs.lookup f = none ∧ fs.length < 1000 ∧ nx ρ fs (some (f, []))
theorem n_newD {y f : Str} {px pos' pos pos2 : Pos} (cl : ClsP Z c) (na : NoAttr Z.K (He.ga Z.K c) f) (hK : X.K = Z.K := by rfl) (hN : X.N[0]? = some y := by rfl) (hv : Vis X.env.scope y := by first | exact .inl rfl | exact .inr (.inl rfl) | exact .inr (.inr rfl)) (hd : (y == ("__debug__" : Str)) = false := by decide) (hcd : (y == ("__classdict__" : Str)) = false := by decide)
    (hs : swapsWith (.Dict [] [] pos2) (some (.Attribute (.Name y px) f pos')) pos.line X.env = pure false := by rfl) : PS X (.Assign [.Attribute (.Name y px) f pos'] (.Dict [] [] pos2) pos) (liftN Z c x dx (iNewD f)) :=
  PSw (ps_fld (pe_var hN hv hd hcd) pe_dnewK hs) fun D σ H ⟨W0, Hb, W, ρ, fs, dd, nx, S, ⟨ed, lk, ln, t⟩, k⟩ => by
    subst ed
    intro d n
    obtain ⟨Hs, S1, I⟩ := S.ex
    obtain ⟨⟨xs, hx, hf⟩, b0, nD, nM, s0, hb⟩ := I
    have hf : DatF Z.K W xs fs := hf
    have e1 := Ext.put (o := .dK []) S.e.holds n
    have nx' : d ≠ x := fun z => by rw [z, hx] at n; cases n
    have hx1 : (upd H d (.dK [])) x = some (.ins (He.ga Z.K c) dx xs) := by rw [upd_ne (Ne.symm nx')]; exact hx
    have b0d : Hb d = none := S.e.nonE S.h0 n
    have wD := S.e.holds.new n
    have wM := S.e.holds.newM n
    refine ⟨_, S.self, x, He.ga Z.K c, dx, xs, rfl, hx1, by rw [hK]; exact cl, by rw [hK]; exact na, by rw [hf.length]; exact ln, ?_⟩
    rw [putF_new (hf.lookN lk)]
    have Sm := (S1.mark (D := d) (o := .dK []) (S1.away n)).ext e1
    have sx : (upd Hs d (.dK [])) x ≠ none := by rw [upd_ne (Ne.symm nx')]; exact s0
    have Sx := Sm.off (a := x) (o := .ins (He.ga Z.K c) dx (xs ++ [(f, .ref d)])) sx
    refine k W _ σ ρ fs (some (f, [])) (e1.lt.wr fun p u z => by rw [hx1] at z; cases z) ⟨S.h0, (S.e.trans S.h0 e1).wr nD nM b0, S.z, _, Sx, ⟨_, upd_same, xs, d, [], rfl, hf, lk, nx', ?_, .nil, b0d, wD, wM, by rw [upd_same]; exact fun z => nomatch z⟩, b0, nD, nM, sx, fun a q => ?_⟩ t
    · rw [upd_ne nx']; exact upd_same
    · by_cases cc : a = d
      · rw [cc, upd_same]; exact fun z => nomatch z
      · rw [upd_ne cc]; exact hb a q
/-- self.f[k] = v -/
def iPut (f : Str) (tk tv : PTE) : ITS := fun nx ρ fs dd => ∃ l, dd = some (f, l) ∧ tv ρ fun p => tk ρ fun q => match keyP q with
  | some k => l.length < sizeLine ∧ nx ρ fs (some (f, putA l k p))
  | none => False
theorem n_put {y f : Str} {ek e : Expr} {tk tv : PTE} {j : Nat} {px apos pos' pos : Pos} (hr : Room j X.A) (cl : ClsP Z c) (na : NoAttr Z.K (He.ga Z.K c) f) (hk : PE X ek (lift Z tk)) (he : PE X e (lift Z tv)) (hK : X.K = Z.K := by rfl) (hN : X.N[0]? = some y := by rfl) (hv : Vis X.env.scope y := by first | exact .inl rfl | exact .inr (.inl rfl) | exact .inr (.inr rfl)) (hd : (y == ("__debug__" : Str)) = false := by decide) (hcd : (y == ("__classdict__" : Str)) = false := by decide)
    (hab : attributeBase (.Name y px) f X.env (eval (.Name y px) X.env) = eval (.Name y px) X.env := by rfl)
    (hs : swapsWith e (some (.Subscript (.Attribute (.Name y px) f apos) ek pos')) pos.line X.env = pure false := by rfl) : PS X (.Assign [.Subscript (.Attribute (.Name y px) f apos) ek pos'] e pos) (liftN Z c x dx (iPut f tk tv)) :=
  PSw (ps_dput (by have := hr.units; omega) (pe_fld (pe_var hN hv hd hcd) hab) hk he hs) fun D σ H ⟨W0, Hb, W, ρ, fs, dd, nx, S, ⟨l, ed, t⟩, k⟩ => by
    subst ed
    obtain ⟨Hs, S1, I⟩ := S.ex
    refine ⟨W, Hs, ρ, _, S.e.holds, S1, t, fun W1 H1 v p e1 d1 t1 => ?_⟩
    have S2 := S.ext e1
    obtain ⟨⟨xs, hx, ys, d, kvs, h1, h2, hf, h3, h4, h5, h6, h7, h8, h9⟩, b0, nD, nM, s0, hb⟩ := I.ext e1
    refine ⟨_, S2.self, x, He.ga Z.K c, dx, xs, .ref d, rfl, hx, by rw [hK]; exact cl, by rw [hK]; exact na, by rw [h1]; exact lookup_last (h2.lookN hf), ?_⟩
    refine ⟨W1, Hs, ρ, _, e1.holds, S1.ext e1, t1, fun W2 H2 u q e2 d2 t2 => ?_⟩
    have S3 := S2.ext e2
    have e12 := e1.trans S.e.holds e2
    obtain ⟨q1, q2, q3⟩ := e2.keepD h4 h7 h8
    obtain ⟨x1, x2, x3⟩ := e2.keepD hx nD nM
    split at t2
    · rename_i kk ek
      have kl : kvs.length = l.length := h5.length
      refine ⟨d, _, rfl, .inl ⟨kvs, kk, q1, d2.key ek, by rw [kl]; exact t2.1, rfl⟩, ?_⟩
      have Sx := ((S1.ext e1).ext e2).off (a := d) (o := .dK (putK kvs kk v)) h9
      refine k W2 _ σ ρ fs (some (f, putA l kk p)) (e12.lt.wr fun p u z => by rw [q1] at z; cases z) ⟨S.h0, S3.e.wr q2 q3 h6, S.z, Hs, Sx, ⟨xs, by rw [upd_ne (Ne.symm h3)]; exact x1, ys, d, _, h1, h2.mono e2.le, hf, h3, upd_same, (h5.mono e2.le).put (d1.mono e2.le), h6, q2, q3, h9⟩, b0, x2, x3, s0, hb⟩ t2.2
    · exact t2.elim
/-- self.g = (self.f1, self.f2), the dict's last change behind -/
def iParts (g f1 f2 : Str) : ITS := fun nx ρ fs dd => ∃ l p1, dd = some (f2, l) ∧ fs.lookup f1 = some p1 ∧ fs.lookup g = none ∧ (g == f2) = false ∧ fs.length < 900 ∧ nx ρ ((fs ++ [(f2, .dic l)]) ++ [(g, .tup [p1, .dic l])]) none
theorem n_parts {y g f1 f2 : Str} {p1 p2 a1 a2 tp px pos' pos : Pos} {kk} (cl : ClsP Z c) (n1 : NoAttr Z.K (He.ga Z.K c) f1) (n2 : NoAttr Z.K (He.ga Z.K c) f2) (ng : NoAttr Z.K (He.ga Z.K c) g) (hK : X.K = Z.K := by rfl) (hN : X.N[0]? = some y := by rfl) (hv : Vis X.env.scope y := by first | exact .inl rfl | exact .inr (.inl rfl) | exact .inr (.inr rfl)) (hd : (y == ("__debug__" : Str)) = false := by decide) (hcd : (y == ("__classdict__" : Str)) = false := by decide)
    (hb1 : attributeBase (.Name y p1) f1 X.env (eval (.Name y p1) X.env) = eval (.Name y p1) X.env := by rfl) (hb2 : attributeBase (.Name y p2) f2 X.env (eval (.Name y p2) X.env) = eval (.Name y p2) X.env := by rfl)
    (he1 : starEach [.Attribute (.Name y p1) f1 a1, .Attribute (.Name y p2) f2 a2] X.env = (false, eval (.Attribute (.Name y p1) f1 a1) X.env) :: starEach [.Attribute (.Name y p2) f2 a2] X.env := by rfl) (he2 : starEach [.Attribute (.Name y p2) f2 a2] X.env = (false, eval (.Attribute (.Name y p2) f2 a2) X.env) :: starEach [] X.env := by rfl)
    (hs : swapsWith (.Tuple [.Attribute (.Name y p1) f1 a1, .Attribute (.Name y p2) f2 a2] kk tp) (some (.Attribute (.Name y px) g pos')) pos.line X.env = pure false := by rfl) :
    PS X (.Assign [.Attribute (.Name y px) g pos'] (.Tuple [.Attribute (.Name y p1) f1 a1, .Attribute (.Name y p2) f2 a2] kk tp) pos) (liftN Z c x dx (iParts g f1 f2)) :=
  PSw (ps_fld (pe_var hN hv hd hcd) (pe_tup (pa_cons (pe_fld (pe_var hN hv hd hcd) hb1) (pa_cons (pe_fld (pe_var hN hv hd hcd) hb2) pa_nil he2) he1)) hs) fun D σ H ⟨W0, Hb, W, ρ, fs, dd, nx, S, ⟨l, q1, ed, l1, lg, gf, ln, t⟩, k⟩ => by
    subst ed
    obtain ⟨Hs, S1, ⟨xs, hx, ys, d, kvs, h1, h2, hf, h3, h4, h5, h6, h7, h8, h9⟩, b0, nD, nM, s0, hb⟩ := S.ex
    obtain ⟨v1, lv1, dv1⟩ := h2.look l1
    refine ⟨_, S.self, x, He.ga Z.K c, dx, xs, v1, rfl, hx, by rw [hK]; exact cl, by rw [hK]; exact n1, by rw [h1]; exact lookup_ext lv1, ?_⟩
    refine ⟨_, S.self, x, He.ga Z.K c, dx, xs, .ref d, rfl, hx, by rw [hK]; exact cl, by rw [hK]; exact n2, by rw [h1]; exact lookup_last (h2.lookN hf), ?_⟩
    refine ⟨by rw [sizeLine_eq]; exact Nat.le_of_ble_eq_true rfl, fun p n => ?_⟩
    have lf := Wd.le_add (o := .dK kvs) h7
    have Ef := S.e.frz h7 h8 h6 h4
    have dd2 : Dat Z.K (W.add d (.dK kvs)) (.ref d) (.dic l) := .dic Wd.add_at (h5.mono lf)
    have e1 := Ext.new (o := .tup [v1, .ref d]) Ef.holds n
    have le1 := e1.le
    have nDx : (W.add d (.dK kvs)).D x = none := by show upd W.D d _ x = none; rw [upd_ne (Ne.symm h3)]; exact nD
    obtain ⟨x1, x2, x3⟩ := e1.keepD hx nDx nM
    have lenE : xs.length = fs.length + 1 := by rw [h1, List.length_append, h2.length]; rfl
    refine ⟨_, S.self, x, He.ga Z.K c, dx, xs, rfl, x1, by rw [hK]; exact cl, by rw [hK]; exact ng, by omega, ?_⟩
    have lgx : xs.lookup g = none := by rw [h1]; exact lookup_extN gf (h2.lookN lg)
    rw [putF_new lgx]
    have px' : p ≠ x := fun z => by rw [z, hx] at n; cases n
    have Sf : Slots Z (W.add d (.dK kvs)) Hs H σ ρ :=
      ⟨S1.len, fun i r z => let ⟨v, a, b⟩ := S1.val i r z; ⟨v, a, b.mono lf⟩, fun i r z => by
        obtain ⟨b, g1, g2, g3, g4, g5⟩ := S1.own i r z
        have ne : b ≠ d := fun e => h9 (by rw [← e]; exact g3)
        exact ⟨b, g1, g2.mono lf fun _ h => h, g3, by show upd W.D d _ b = none; rw [upd_ne ne]; exact g4, g5⟩, S1.dst⟩
    have Sx := (Sf.ext e1).off (a := x) (o := .ins (He.ga Z.K c) dx (xs ++ [(g, .ref p)])) s0
    refine k _ _ σ ρ ((fs ++ [(f2, .dic l)]) ++ [(g, .tup [q1, .dic l])]) none ?_ ⟨S.h0, (Ef.trans S.h0 e1).wr x2 x3 b0, S.z, Hs, Sx, ⟨_, upd_same, ?_⟩, b0, x2, x3, s0, hb⟩ t
    · exact Lt.wr ⟨lf.trans le1, e1.fz⟩ fun p u z => by rw [x1] at z; cases z
    · show DatF Z.K _ (xs ++ [(g, V.ref p)]) _
      rw [h1]
      exact (((h2.mono lf).mono le1).append (.cons (dd2.mono le1) .nil)).append (.cons (.tup Wd.add_at (.cons ((dv1.mono lf).mono le1) (.cons (dd2.mono le1) .nil))) .nil)
end
theorem okI {P : Program} {w : World} {mg : Str → Option Value} {base : Heap} {Z : Par} {c nm qual : Str} {params : Arguments} {body : List Stmt} {scope : Scope} {dvs : List V} {kws : List (Str × V)} {f : Addr} {fd : FuncData} {N ps : List Str} {k : Nat} {t : ITS} {Φ : Con}
    (F : FunD Z.K nm qual params body scope dvs kws f fd) (S : FnScope N ps scope)
    (hb : ∀ (x dx : Addr) (cdv : Value) (A : Around) (outer : List Env) (s : Shared) (H : Hp) (E : XK), Room k (A.deeper (envOfC qual scope s.heap.objs.size f cdv)) → PSs (cxOf CX0 P w Z.K mg base N qual scope f cdv A outer s H E).nox body (liftN Z c x dx t))
    (hp : ∀ as Q, Φ as Q → as.length + 1 = ps.length ∧ ∀ x, t (fun _ fs dd => dd = none ∧ Q (.obj c fs)) (startP N (.raw x :: as)) [] none) (hN : 0 < N.length := by decide) : FnOk P w Z.K mg base CX0 (k + 1) f fd ps (spMk Z c Φ) := by
  refine F.ok S (fun vs H Q E ⟨x, dx, vs', W, Hb, as, Qp, ev, hh, nx, eH, d, φ, q⟩ => ?_) (fun cdv A outer s H vs Q E hr ⟨x, dx, vs', W, Hb, as, Qp, ev, hh, nx, eH, d, φ, q⟩ => ⟨_, (hb x dx cdv A outer s H E hr).nox, ?_⟩)
  · rw [ev, List.length_cons, d.length]; exact (hp as Qp φ).1
  · subst ev eH
    have ep := Ext.put (o := .ins (He.ga Z.K c) dx []) hh nx
    refine ⟨W, Hb, W, _, [], none, _, ⟨hh, ep, by simp [startP], upd Hb x (.ins (He.ga Z.K c) dx []), slots_start (.cons (.raw x) d), ⟨[], upd_same, .nil⟩, nx, hh.new nx, hh.newM nx, (by rw [upd_same]; exact fun z => nomatch z), fun a n => ?_⟩, (hp as Qp φ).2 x, fun W' H' σ' ρ' fs' dd' lt S' t' => ?_⟩
    · by_cases cc : a = x
      · rw [cc, upd_same]; exact fun z => nomatch z
      · rw [upd_ne cc]; exact n
    · obtain ⟨ed, t'⟩ := t'
      subst ed
      obtain ⟨Hs, S1, ⟨xs, hx, hf⟩, b0, nD, nM, s0, hbb⟩ := S'.ex
      have hf : DatF Z.K W' xs fs' := hf
      have le := Wd.le_add (o := .ins (He.ga Z.K c) dx xs) nD
      exact q _ _ _ (S'.e.frz nD nM b0 hx) (.obj Wd.add_at (hf.mono le)) t'
end L3

/-! ## LP -/
/-! Loops and comprehensions over a list of known things. -/
namespace L3
open PySem PySem.Spec PyProof.Rows L2
theorem forL_of {α : Type} {g : PTG} {tb : PTS} {E : PEnds} (inj : α → PV) (I : List α → List Slt → Prop)
    (step : ∀ a rest ρ, I (a :: rest) ρ → ∀ N : List Slt → Prop, (∀ ρ', I rest ρ' → N ρ') → g (inj a) ρ fun ρ1 => tb ⟨N, E.rt, E.nx, N⟩ ρ1) (fin : ∀ ρ, I [] ρ → E.nx ρ) :
    ∀ (L : List α) (ρ : List Slt), I L ρ → pForL g tb E (L.map inj) ρ
  | [], ρ, h => fin ρ h
  | a :: r, ρ, h => step a r ρ h _ fun ρ' h' => forL_of inj I step fin r ρ' h'
theorem lcL_of {α : Type} {g : PTG} {tt : PTT} {te : PTE} {ρ : List Slt} {Q : List PV → Prop} (inj : α → PV) (f : α → Option PV) : ∀ (L : List α) (acc : List PV)
    (step : ∀ a ∈ L, ∀ (T : PV → Prop) (F : Prop), (match f a with | some r => T r | none => F) → g (inj a) ρ fun ρ1 => tt ρ1 fun b => match b with | true => te ρ1 T | false => F),
    acc.length + L.length ≤ sizeLine → Q (acc ++ L.filterMap f) → pLcL g tt te ρ Q (L.map inj) acc
  | [], acc, _, _, q => by simpa [pLcL] using q
  | a :: r, acc, step, hl, q => by
    have hs := step a (List.mem_cons_self ..) (fun r' => acc.length < sizeLine ∧ pLcL g tt te ρ Q (r.map inj) (acc ++ [r'])) (pLcL g tt te ρ Q (r.map inj) acc) ?_
    · exact hs
    · have hl' : acc.length + (r.length + 1) ≤ sizeLine := by simpa using hl
      cases e : f a with
      | none =>
        refine lcL_of inj f r acc (fun b hb => step b (List.mem_cons_of_mem _ hb)) (by omega) ?_
        rw [List.filterMap_cons, e] at q
        exact q
      | some r' =>
        refine ⟨by omega, lcL_of inj f r _ (fun b hb => step b (List.mem_cons_of_mem _ hb)) (by simp; omega) ?_⟩
        rw [List.filterMap_cons, e] at q
        simpa using q
/-- without a test -/
theorem lcL_map {α : Type} {g : PTG} {te : PTE} {ρ : List Slt} {Q : List PV → Prop} (inj : α → PV) (f : α → PV) (L : List α)
    (step : ∀ a ∈ L, ∀ (T : PV → Prop), T (f a) → g (inj a) ρ fun ρ1 => te ρ1 T) (hl : L.length ≤ sizeLine) (q : Q (L.map f)) : pLcL g pTsYes te ρ Q (L.map inj) [] := by
  refine lcL_of inj (fun a => some (f a)) L [] (fun a ha T F h => step a ha T h) (by simpa using hl) ?_
  rw [List.nil_append, List.filterMap_eq_map']
  exact q
theorem putA_len {κ α : Type} [DecidableEq κ] (l : List (κ × α)) (k : κ) (v : α) : (putA l k v).length ≤ l.length + 1 := by
  unfold putA
  split <;> simp
theorem dcL_of {α : Type} {g : PTG} {tt : PTT} {tk tv : PTE} {ρ : List Slt} {Q : List (Key × PV) → Prop} (inj : α → PV) (f : α → Option (Key × PV)) : ∀ (L : List α) (acc : List (Key × PV))
    (step : ∀ a ∈ L, ∀ (T : Key → PV → Prop) (F : Prop), (match f a with | some r => T r.1 r.2 | none => F) → g (inj a) ρ fun ρ1 => tt ρ1 fun b => match b with | true => (tk ρ1 fun kp => tv ρ1 fun r => match keyP kp with | some k => T k r | none => False) | false => F),
    acc.length + L.length ≤ sizeLine → Q (mergeP acc (L.filterMap f)) → pDcL g tt tk tv ρ Q (L.map inj) acc
  | [], acc, _, _, q => by simpa [pDcL, mergeP] using q
  | a :: r, acc, step, hl, q => by
    have hs := step a (List.mem_cons_self ..) (fun k r' => acc.length < sizeLine ∧ pDcL g tt tk tv ρ Q (r.map inj) (putA acc k r')) (pDcL g tt tk tv ρ Q (r.map inj) acc) ?_
    · exact hs
    · have hl' : acc.length + (r.length + 1) ≤ sizeLine := by simpa using hl
      cases e : f a with
      | none =>
        refine dcL_of inj f r acc (fun b hb => step b (List.mem_cons_of_mem _ hb)) (by omega) ?_
        rw [List.filterMap_cons, e] at q
        exact q
      | some r' =>
        have := putA_len acc r'.1 r'.2
        refine ⟨by omega, dcL_of inj f r _ (fun b hb => step b (List.mem_cons_of_mem _ hb)) (by omega) ?_⟩
        rw [List.filterMap_cons, e] at q
        exact q
theorem putA_new {κ α : Type} [DecidableEq κ] {l : List (κ × α)} {k : κ} {v : α} (h : ∀ p ∈ l, p.1 ≠ k) : putA l k v = l ++ [(k, v)] := by
  unfold putA
  rw [if_neg]
  intro z
  obtain ⟨p, hp, e⟩ := List.any_eq_true.mp z
  exact h p hp (by simpa using e)
theorem mergeP_new : ∀ (ms acc : List (Key × PV)), ms.Pairwise (fun a b => a.1 ≠ b.1) → (∀ a ∈ acc, ∀ b ∈ ms, a.1 ≠ b.1) → mergeP acc ms = acc ++ ms
  | [], acc, _, _ => by simp [mergeP]
  | m :: ms, acc, hp, ha => by
    obtain ⟨h1, h2⟩ := List.pairwise_cons.mp hp
    show mergeP (putA acc m.1 m.2) ms = _
    rw [putA_new (fun p hp => ha p hp m (List.mem_cons_self ..)), mergeP_new ms _ h2, List.append_assoc]
    · rfl
    · intro a haa b hb
      rw [List.mem_append, List.mem_singleton] at haa
      rcases haa with haa | rfl
      · exact ha a haa b (List.mem_cons_of_mem _ hb)
      · exact h1 b hb
theorem scL_of {α : Type} {g : PTG} {te : PTE} {ρ : List Slt} {Q : List Int → Prop} (inj : α → PV) (f : α → Int) : ∀ (L : List α) (acc : List Int)
    (step : ∀ a ∈ L, ∀ (T : PV → Prop), T (.int (f a)) → g (inj a) ρ fun ρ1 => te ρ1 T), acc.length + L.length ≤ 4000 → Q (acc ++ L.map f) → pScL g pTsYes te ρ Q (L.map inj) acc
  | [], acc, _, _, q => by simpa [pScL] using q
  | a :: r, acc, step, hl, q => by
    have hl' : acc.length + (r.length + 1) ≤ 4000 := by simpa using hl
    refine step a (List.mem_cons_self ..) _ ⟨by omega, scL_of inj f r _ (fun b hb => step b (List.mem_cons_of_mem _ hb)) (by simp; omega) (by simpa using q)⟩
theorem lc2L_of {α : Type} {g g1 : PTG} {tt tt1 : PTT} {ti1 : PTI} {te : PTE} {vs1 : List Nat} {ρ : List Slt} {Q : List PV → Prop} (inj : α → PV) (f : α → List PV) : ∀ (L : List α) (acc : List PV)
    (step : ∀ a ∈ L, ∀ (R : List PV → Prop) (acc : List PV), acc.length + (f a).length ≤ sizeLine → R (acc ++ f a) → g (inj a) ρ fun ρ1 => tt ρ1 fun b => match b with | true => ti1 ρ1 fun l => pLcL g1 tt1 te (wipeP ρ1 vs1) R l acc | false => R acc),
    acc.length + (L.flatMap f).length ≤ sizeLine → Q (acc ++ L.flatMap f) → pLc2L g tt ti1 g1 tt1 te vs1 ρ Q (L.map inj) acc
  | [], acc, _, _, q => by simpa [pLc2L] using q
  | a :: r, acc, step, hl, q => by
    have hl' : acc.length + ((f a).length + (r.flatMap f).length) ≤ sizeLine := by rw [List.flatMap_cons, List.length_append] at hl; exact hl
    have hs := step a (List.mem_cons_self ..) (fun acc' => pLc2L g tt ti1 g1 tt1 te vs1 ρ Q (r.map inj) acc') acc (by omega) ?_
    · exact hs
    · refine lc2L_of inj f r _ (fun b hb => step b (List.mem_cons_of_mem _ hb)) (by rw [List.length_append]; omega) (by simpa using q)
theorem iforL_of {α : Type} {g : PTG} {tb : ITS} {nx : ITN} (inj : α → PV) (I : List α → ITN)
    (step : ∀ a rest ρ fs dd, I (a :: rest) ρ fs dd → ∀ N : ITN, (∀ ρ' fs' dd', I rest ρ' fs' dd' → N ρ' fs' dd') → g (inj a) ρ fun ρ1 => ρ1[0]? = ρ[0]? ∧ tb N ρ1 fs dd) (fin : ∀ ρ fs dd, I [] ρ fs dd → nx ρ fs dd) :
    ∀ (L : List α) (ρ : List Slt) (fs : List (Str × PV)) (dd : Isd), I L ρ fs dd → iForL g tb nx (L.map inj) ρ fs dd
  | [], ρ, fs, dd, h => fin ρ fs dd h
  | a :: r, ρ, fs, dd, h => step a r ρ fs dd h _ fun ρ' fs' dd' h' => iforL_of inj I step fin r ρ' fs' dd' h'
theorem perm_map {α β : Type} (f : α → β) : ∀ (ys : List β) (rs : List α), ys.Perm (rs.map f) → ∃ rs' : List α, rs'.Perm rs ∧ rs'.map f = ys
  | [], rs, h => by
    have : rs = [] := by
      have := h.length_eq
      cases rs with
      | nil => rfl
      | cons => simp at this
    exact ⟨[], by rw [this], rfl⟩
  | y :: ys, rs, h => by
    have hy : y ∈ rs.map f := h.mem_iff.mp (List.mem_cons_self ..)
    obtain ⟨r, hr, e⟩ := List.mem_map.mp hy
    obtain ⟨s, t, est⟩ := List.append_of_mem hr
    subst est e
    have h2 : ys.Perm ((s ++ t).map f) := by
      have h3 : (s ++ r :: t).Perm (r :: (s ++ t)) := List.perm_middle
      exact (h.trans (h3.map f)).cons_inv
    obtain ⟨rs', h4, h5⟩ := perm_map f ys (s ++ t) h2
    exact ⟨r :: rs', (h4.cons r).trans List.perm_middle.symm, by rw [List.map_cons, h5]⟩
theorem valA_map {α : Type} (nm : α → Str) (v : α → PV) : ∀ {rs : List α} {r : α}, (rs.Pairwise fun a b => nm a ≠ nm b) → r ∈ rs → valA (rs.map fun r => ((Sum.inr (nm r) : Key), v r)) (Sum.inr (nm r)) = some (v r)
  | [], r, _, h => by cases h
  | a :: rs, r, hp, h => by
    obtain ⟨h1, h2⟩ := List.pairwise_cons.mp hp
    rw [List.map_cons, valA_cons]
    rcases List.mem_cons.mp h with rfl | h
    · simp
    · have := h1 r h
      rw [if_neg (by simpa using this), valA_map nm v h2 h]
theorem keysS_map {α : Type} (nm : α → Str) (v : α → PV) : ∀ rs : List α, keysS (rs.map fun r => ((Sum.inr (nm r) : Key), v r)) = some (rs.map nm)
  | [] => rfl
  | a :: rs => by simp only [List.map_cons, keysS, keysS_map nm v rs, Option.map_some]
theorem size_le {n : Nat} (h : n ≤ 16777216) : n ≤ sizeLine := by rw [sizeLine_eq]; exact h
end L3

/-! ## L3N -/
/-! d == {} -/
namespace L3
open PySem PySem.Spec PyProof.Rows L2
section
variable {X : Cx} {Z : Par}
def rEqD0 : R2 := fun x y H Q => ∃ a b ks, x = .ref a ∧ y = .ref b ∧ Rd H a (.dK ks) ∧ Rd H b (.dK []) ∧ Q (.bl ks.isEmpty) H
theorem op_eqD0 (hu : X.A.units < cLine) : OpR X (compareOp .Eq) rEqD0 := by
  intro pins s σ H x y v u Q I rx ry h
  obtain ⟨a, b, ks, ex, ey, ha, hb, q⟩ := h
  subst ex ey
  obtain rfl : v = Value.ref a := rx
  obtain rfl : u = Value.ref b := ry
  obtain ⟨hz, hs0, vs, kv, hdo⟩ := dk_rd I.hok ha
  obtain ⟨hz2, hs2, ws, kw, hdo2⟩ := dk_rd I.hok hb
  have lw : ws = [] := by cases kw; rfl
  subst lw
  have e : (vs.length == ([] : List (Key × Value)).length && true) = ks.isEmpty := by
    have := Paired.length kv
    cases ks with
    | nil => cases kv; rfl
    | cons => cases vs with
      | nil => cases kv
      | cons => rfl
  refine PySem.W.rcP_dicts (knd := mixKind X.prog X.w) (r := true) hs0 hs2 hdo hdo2 hu (fun e => ?_) _ _ ?_
  · have : vs = [] := List.length_eq_zero_iff.mp e
    rw [this]; exact .nil
  · rw [e]
    exact ⟨.bl ks.isEmpty, H, I, rfl, q⟩
def pEqD0 (te : PTE) : PTE := fun ρ Q => te ρ fun p => match p with
  | .dic l => Q (.bl l.isEmpty)
  | _ => False
theorem eqD0_of {te : PTE} (σ : L2.St) (H : Hp) (Q : VK) (h : lift Z (pEqD0 te) σ H Q) : tOp rEqD0 (lift Z te) tDNewK σ H Q := by
  obtain ⟨W, H0, ρ, Qp, hh, S, t, q⟩ := h
  refine ⟨W, H0, ρ, _, hh, S, t, fun W1 H1 v p e1 d1 t1 => fun b n => ?_⟩
  cases d1 with
  | @dic a xs l ha r =>
    have e2 := Ext.put (o := .dK []) e1.holds n
    have hl : xs.isEmpty = l.isEmpty := by cases r <;> rfl
    exact ⟨a, b, xs, rfl, rfl, e2.holds.rd ha, .inl upd_same, by rw [hl]; exact q W1 _ _ _ (e1.trans hh e2) (.bl _) t1⟩
  | _ => exact t1.elim
theorem q_eqD0 {a : Expr} {te : PTE} {pos dp : Pos} {j : Nat} (hr : Room j X.A) (ha : PE X a (lift Z te)) (hm : behindInMarks .Eq (.Dict [] [] dp) = false := by first | exact nobehind _ (by decide) (by decide) | rfl) : PE X (.Compare a [.Eq] [.Dict [] [] dp] pos) (lift Z (pEqD0 te)) :=
  PEw (pe_cmpR (op_eqD0 (by have := hr.units; omega)) ha pe_dnewK hm) fun σ H Q => eqD0_of σ H Q
theorem qt_eqD0 {a : Expr} {te : PTE} {pos dp : Pos} {j : Nat} (hr : Room j X.A) (ha : PE X a (lift Z te)) (hm : behindInMarks .Eq (.Dict [] [] dp) = false := by first | exact nobehind _ (by decide) (by decide) | rfl) : PT X (.Compare a [.Eq] [.Dict [] [] dp] pos) (liftT Z (pTst (pEqD0 te))) :=
  PTw (pt_cmpR (op_eqD0 (by have := hr.units; omega)) ha pe_dnewK hm) fun σ H Q h => eqD0_of σ H _ (tst_of σ H Q h)
/-- a, b = a list -/
def gLstP (n : Nat) (t : PTGs) : PTG := fun p ρ Q => match p with
  | .lst l => l.length = n ∧ t l ρ Q
  | _ => False
theorem qg_lst {es : List Expr} {k : Nat} {t : PTGs} {ws : List Nat} {n : Nat} {pos : Pos} (h : PGs X es (liftGs Z ws t)) (hK : X.K = Z.K := by rfl) (hc : X.calm = true := by rfl)
    (hn : (assignEach es X.env).length = n := by rfl) (hst : (assignEach es X.env).findIdx? (·.1) = none := by rfl) : PG X (.Tuple es k pos) (liftG Z ws (gLstP n t)) :=
  PGw (pg_lst hc h hn hst) fun v σ H Q ⟨W, H0, ρ, p, Qp, hh, S, d, t, q⟩ => by
    cases d with
    | lst ha r => exact ⟨_, _, rfl, .of (hh.ex ha (fun z => z)), by rw [r.length]; exact t.1, W, H0, ρ, _, Qp, hh, S, r, t.2, q⟩
    | _ => exact t.elim
end
end L3

/-! ## L3O -/
/-! Ranges with a step. -/
namespace L3
open PySem PySem.Spec PyProof.Rows L2
section
variable {X : Cx} {Z : Par}
def rngC (lo c : Int) (n : Nat) : List PV := (List.range n).map fun i : Nat => PV.int (lo + (i : Int) * c)
theorem serves_rngC {W : Wd} {H : Hp} (lo c : Int) (n : Nat) : Serves Z W H (Itc lo c n) (rngC lo c n) := fun W1 H1 le h1 =>
  ⟨fun i hi => by show n ≤ i; simpa [rngC] using hi, fun i p hp => by
    have hi : i < n := by
      have := (List.getElem?_eq_some_iff.mp hp).1
      simpa [rngC] using this
    refine ⟨hi, fun x H2 ⟨e, y⟩ => ?_⟩
    subst e y
    have e : p = .int (lo + i * c) := by
      have z : (rngC lo c n)[i]? = some (.int (lo + i * c)) := by simp [rngC, List.getElem?_map, List.getElem?_range hi]
      rw [z] at hp
      exact (Option.some.inj hp).symm
    subst e
    exact ⟨W1, .refl h1, .int _⟩⟩
theorem rgC_up {i j : Int} (ha : -(2 ^ 62) ≤ i) (ha' : i < 2 ^ 62) (hb : -(2 ^ 62) ≤ j) (hb' : j < 2 ^ 62) : RgC i j 1 (j - i).toNat :=
  ⟨by decide, by decide, small_one ha ha' hb hb', rangeSize_nat i j⟩
def pR3 (ta : PTA) : PTI := fun ρ Q => ta ρ fun ps => match ps with
  | [.int i, .int j, .int c] => (-(2 ^ 62) ≤ i ∧ i < 2 ^ 62 ∧ -(2 ^ 62) ≤ j ∧ j < 2 ^ 62) ∧ ((c = 1 ∧ Q (rngC i 1 (j - i).toNat)) ∨ (c = -1 ∧ Q (rngC i (-1) (i - j).toNat)))
  | _ => False
theorem qi_range3 {tg a b c : Expr} {ta : PTA} {p pos : Pos} (hm : X.mg "range" = none) (ha : PA X [a, b, c] (liftA Z ta)) (hg : Gl X "range" := by rfl)
    (hs : starEach [a, b, c] X.env = [(false, eval a X.env), (false, eval b X.env), (false, eval c X.env)] := by rfl) (hs2 : starEach [b, c] X.env = [(false, eval b X.env), (false, eval c X.env)] := by rfl) : PI X tg (.Call (.Name "range" p) [a, b, c] [] pos) (liftI Z (pR3 ta)) :=
  PIw (pi_range3 hg hm ha (by rw [hs, hs2]) (by rw [hs2]; rfl)) fun σ H R ⟨W, H0, ρ, Qp, hh, S, t, q⟩ => by
    refine ⟨W, H0, ρ, _, hh, S, t, fun W1 H1 vs ps e1 d1 t1 => ?_⟩
    match ps, d1, t1 with
    | [.int i, .int j, .int c], .cons (.int _) (.cons (.int _) (.cons (.int _) .nil)), t1 =>
      obtain ⟨⟨b1, b2, b3, b4⟩, t2⟩ := t1
      rcases t2 with ⟨rfl, t2⟩ | ⟨rfl, t2⟩
      · exact ⟨i, j, 1, _, rfl, rgC_up b1 b2 b3 b4, q W1 H1 _ _ e1 (serves_rngC i 1 _) t2⟩
      · exact ⟨i, j, -1, _, rfl, RgC.neg b1 b2 b3 b4, q W1 H1 _ _ e1 (serves_rngC i (-1) _) t2⟩
/-- a list's truth -/
def pTru (t : PTE) : PTT := fun ρ Q => t ρ fun p => match p with
  | .lst l => Q (!l.isEmpty)
  | .frz l => Q (!l.isEmpty)
  | .tup l => Q (!l.isEmpty)
  | _ => False
theorem DatL.isEmpty {K : PySem.W.Frag} {W : Wd} {xs : List V} {l : List PV} (r : DatL K W xs l) : xs.isEmpty = l.isEmpty := by cases r <;> rfl
theorem qt_tru {e : Expr} {t : PTE} (h : PE X e (lift Z t)) (hK : X.K = Z.K := by rfl) (he : ∀ whole, isTrue e X.env whole = (do let v ← whole; standAt e.pos; holding [v] (truthy v)) := by intro _; rfl) : PT X e (liftT Z (pTru t)) :=
  PTw (pt_truth h he) fun σ H Q ⟨W, H0, ρ, Qp, hh, S, t, q⟩ => by
    refine ⟨W, H0, ρ, _, hh, S, t, fun W1 H1 v p e1 d1 t1 => ?_⟩
    cases d1 with
    | lst ha r => exact ⟨_, .inl ⟨_, .of (e1.holds.ex ha fun z => z), by rw [r.isEmpty]⟩, q W1 H1 _ e1 t1⟩
    | frz ha r => exact ⟨_, .inl ⟨_, by rw [hK]; exact SqL.holds e1.holds ha, by rw [r.isEmpty]⟩, q W1 H1 _ e1 t1⟩
    | tup ha r => exact ⟨_, .inr (.inl ⟨_, .of (e1.holds.ex ha fun z => z), by rw [r.isEmpty]⟩), q W1 H1 _ e1 t1⟩
    | _ => exact t1.elim
end
end L3

/-! ## L3Q -/
/-! Dicts with keys of several parts: their values, ==; tuples of lists. -/
namespace PySem.W
open PySem PySem.Calls PyProof.Rows PyProof.V PySem.Spec
section
variable {prog : Program} {w : World} {K : Type} [DecidableEq K] {knd : HeapKind prog w K} {A : Around} {E : Value → Shared → Prop} {s : Shared}
theorem atKey_some {xs : List (K × Addr × Value)} (hn : (xs.map (·.1)).Nodup) {j : Nat} {k : K} {p : Addr × Value} (h : xs[j]? = some (k, p)) : atKey xs k = some p := atKey_of_get hn h
theorem atKey_get : ∀ {xs : List (K × Addr × Value)} {k : K} {p : Addr × Value}, atKey xs k = some p → ∃ j : Nat, xs[j]? = some (k, p)
  | [], k, p, h => by cases h
  | x :: xs, k, p, h => by
    unfold atKey at h
    rw [List.find?_cons] at h
    by_cases c : x.1 = k
    · rw [decide_eq_true c] at h
      have h : x.2 = p := by simpa using h
      exact ⟨0, by rw [List.getElem?_cons_zero, ← c, ← h]⟩
    · rw [decide_eq_false c] at h
      obtain ⟨j, e⟩ := atKey_get (xs := xs) h
      exact ⟨j + 1, e⟩
/-- two dicts of the same keys, their values equal -/
theorem samePairsH {nm : String} {a b : Addr} {xa xb : List (K × Addr × Value)} {Q : Bool → Shared → Prop} (hu : knd.room A) (ha : (a == sysModules) = false) (hb : (b == sysModules) = false)
    (da : s.heap.DictOfH knd a xa) (db : s.heap.DictOfH knd b xb) (hl : xa.length = xb.length) (hits : ∀ x ∈ xa, ∃ y, atKey xb x.1 = some y ∧ SeqAt.EqP prog w A s x.2.2 y.2 true) (h : Q true s) :
    wpAny (model prog w) A (Builtin.Dict.samePairs nm a b) Q E s := by
  obtain ⟨oa, es, ep, hoa, _, hda, hea, hia, hna⟩ := da
  obtain ⟨ob, es', ep', hob, _, hdb, heb, hib, hnb⟩ := db
  have hla : xa.length = es.size := (size_of_entries hea).symm
  have hlb : xb.length = es'.size := (size_of_entries heb).symm
  unfold Builtin.Dict.samePairs Builtin.Dict.showsAll
  rw [if_neg (show ¬ (a == sysModules) = true by rw [ha]; exact Bool.false_ne_true), if_neg (show ¬ (b == sysModules) = true by rw [hb]; exact Bool.false_ne_true)]
  refine wpAny_bind (wpAny_pure (wpAny_bind (wpAny_pure ?_)))
  refine wpAny_bind (wpAny_dictEntries hoa hda ?_)
  dsimp only
  refine wpAny_bind (wpAny_dictEntries hob hdb ?_)
  have hsz : es.size = es'.size := by omega
  rw [if_neg (by rw [hsz]; simp)]
  refine wpAny_bind (wpAny_dictEpoch hoa hda ?_)
  refine wpAny_bind ?_
  rw [Std.Legacy.Range.forIn_eq_forIn_range']
  simp only [Std.Legacy.Range.size, Nat.sub_zero, Nat.add_sub_cancel, Nat.div_one]
  refine wpAny_forIn_list _
    (fun rest q s' => s' = s ∧ q = (none, ()) ∧ ∃ i, rest = List.range' i (es.size - i) ∧ i ≤ es.size)
    _ ?_ ?_ _ _ ⟨rfl, rfl, 0, by simp, Nat.zero_le _⟩
  · rintro x rest q s' ⟨rfl, rfl, i, hr, hi⟩
    have hlt : i < es.size := by
      rcases Nat.lt_or_ge i es.size with h | h
      · exact h
      · rw [Nat.sub_eq_zero_of_le h] at hr; simp at hr
    obtain ⟨rfl, hrest⟩ : x = i ∧ rest = List.range' (i + 1) (es.size - (i + 1)) := by
      have e : es.size - i = (es.size - (i + 1)) + 1 := by omega
      rw [e, List.range'_succ] at hr
      injection hr with h1 h2
      exact ⟨h1, h2⟩
    refine wpAny_bind (wpAny_dictEntries hoa hda ?_)
    have hlt' : x < xa.length := by omega
    have e1 : es[x]? = some (entryOfKey knd xa[x]) := by rw [entry_at hea x, List.getElem?_eq_getElem hlt']; rfl
    have e2 : es[x] = entryOfKey knd xa[x] := by
      rw [Array.getElem?_eq_getElem hlt] at e1
      exact Option.some.inj e1
    rw [e1]
    obtain ⟨k, ka, va, hkv⟩ : ∃ k ka va, xa[x] = (k, ka, va) := ⟨_, _, _, rfl⟩
    rw [hkv]
    have hx : (k, ka, va) ∈ xa := by rw [← hkv]; exact List.getElem_mem _
    obtain ⟨⟨kb, vb⟩, hy, he⟩ := hits _ hx
    obtain ⟨j0, hj0⟩ := atKey_get hy
    show wpAny _ _ (holding [Value.ref ka, va] _ >>= _) _ _ _
    refine wpAny_bind (wpAny_holding (wpAny_bind (wpAny_dictFind_heap hu (hia _ hx) hob hdb heb hib hnb (fun hno => absurd hj0 (hno j0 _)) fun j p hj => ?_)))
    have ep' : p = (kb, vb) := Option.some.inj ((atKey_of_get hnb hj).symm.trans hy)
    subst ep'
    refine wpAny_bind (wpAny_dictEntries hob hdb ?_)
    have e3 : es'[j]? = some (entryOfKey knd (k, kb, vb)) := by rw [entry_at heb j, hj]; rfl
    rw [e3]
    refine wpAny_holding (he _ _ ?_)
    show wpAny _ _ (if (!true) = true then _ else _) _ _ _
    rw [if_neg (by decide)]
    refine wpAny_bind (wpAny_dictEpoch hoa hda ?_)
    rw [if_neg (by simp)]
    exact wpAny_pure ⟨rfl, rfl, x + 1, hrest, hlt⟩
  · rintro q s' ⟨rfl, rfl, i, hr, hi⟩
    exact wpAny_pure h
theorem rcH_dicts {a b : Addr} {xa xb : List (K × Addr × Value)} (hr : knd.room A.in1) (ha : (a == sysModules) = false) (hb : (b == sysModules) = false)
    (da : s.heap.DictOfH knd a xa) (db : s.heap.DictOfH knd b xb) (hu : A.units < cLine) (hl : xa.length = xb.length) (hits : ∀ x ∈ xa, ∃ y, atKey xb x.1 = some y ∧ SeqAt.EqP prog w A.in1 s x.2.2 y.2 true) (E Q : Value → Shared → Prop) (h : Q (.bool true) s) : wpAny (model prog w) A (richCompare .Eq (.ref a) (.ref b)) Q E s := by
  refine wpAny_richCompare_same_room (op := .Eq) da.typeIs db.typeIs PySem.F.slot_dict_eq (wpAny_call_entry PySem.F.slot_dict_eq da.typeIs PySem.F.entry_dict_eq ?_ (PySem.F.args_dict_eq_2 _ _)) hu
  show wpAny _ _ (Builtin.Dict.dictSlotArgs "__eq__" ⟨[.ref a, .ref b], []⟩ >>= _) _ _ s
  refine wpAny_bind ?_
  unfold Builtin.Dict.dictSlotArgs
  refine wpAny_bind (wpAny_notOrdered_dict da.typeIs ?_)
  show wpAny _ _ (pure (Value.ref a, Value.ref b)) _ _ s
  refine wpAny_pure ?_
  refine wpAny_bind (wpAny_isInstance (T := "dict") db.typeIs PySem.F.sub_dict_dict ?_)
  simp only [Bool.not_true, Bool.false_eq_true, if_false]
  refine wpAny_bind (wpAny_pure (wpAny_bind (wpAny_pure ?_)))
  refine wpAny_bind (samePairsH hr ha hb da db hl hits ?_)
  refine wpAny_pure ⟨_, rfl, ?_, ?_⟩
  · exact fun x => nomatch x
  · simpa using h
theorem neH_dicts {a b : Addr} {xa xb : List (K × Addr × Value)} {Q : Value → Shared → Prop} (hr : knd.room A.in1) (ha : (a == sysModules) = false) (hb : (b == sysModules) = false)
    (da : s.heap.DictOfH knd a xa) (db : s.heap.DictOfH knd b xb) (hu : A.units < cLine) (hl : xa.length = xb.length) (hits : ∀ x ∈ xa, ∃ y, atKey xb x.1 = some y ∧ SeqAt.EqP prog w A.in1 s x.2.2 y.2 true) (h : Q (.bool false) s) : wpAny (model prog w) A (compareOp .NotEq (.ref a) (.ref b)) Q E s := by
  refine wpAny_richCompare_same_room (op := .NotEq) da.typeIs db.typeIs PySem.F.slot_dict_ne (wpAny_call_entry PySem.F.slot_dict_ne da.typeIs PySem.F.entry_dict_ne ?_ (PySem.F.args_dict_ne_2 _ _)) hu
  show wpAny _ _ (Builtin.Dict.dictSlotArgs "__ne__" ⟨[.ref a, .ref b], []⟩ >>= _) _ _ s
  refine wpAny_bind ?_
  unfold Builtin.Dict.dictSlotArgs
  refine wpAny_bind (wpAny_notOrdered_dict da.typeIs ?_)
  show wpAny _ _ (pure (Value.ref a, Value.ref b)) _ _ s
  refine wpAny_pure ?_
  refine wpAny_bind (wpAny_isInstance (T := "dict") db.typeIs PySem.F.sub_dict_dict ?_)
  simp only [Bool.not_true, Bool.false_eq_true, if_false]
  refine wpAny_bind (wpAny_pure (wpAny_bind (wpAny_pure ?_)))
  refine wpAny_bind (samePairsH hr ha hb da db hl hits ?_)
  refine wpAny_pure ⟨_, rfl, ?_, ?_⟩
  · exact fun x => nomatch x
  · simpa using h
/-- the values of any dict -/
theorem kdl_valuesRaw {r d : Addr} {es : Array DictEntry} {ep : Nat} : KdlSrc prog w "dict_values" r d es.size (fun i v => ∃ hi : i < es.size, v = es[i].val) (fun h => h.IsValuesView r d ∧ h.DictRaw d es ep) where
  type := fun _ hm => hm.1.typeIs
  there := fun _ hm => ⟨let ⟨_, ho, _⟩ := hm.1; Heap.lt_size ho, let ⟨_, ho, _⟩ := hm.2; Heap.lt_size ho⟩
  keep := fun _ _ hm hk => ⟨let ⟨o, ho, x⟩ := hm.1; ⟨o, hk r (.inl rfl) o ho, x⟩, hm.2.at fun o e => hk d (.inr rfl) o e⟩
  notList := by decide
  notTuple := by decide
  hint := fun _ _ _ _ hm hq => kdl_hint_values hm.1.typeIs hq
  iter := fun _ _ hh hm => ⟨_, _, (fun _ _ hq => wpAny_pyIter_values_raw hm.1 hm.2 hq), Walks.rawValues hh _ d (Nat.ne_of_lt (let ⟨_, ho, _⟩ := hm.2; Heap.lt_size ho)) es ep, ⟨⟨_, Heap.get?_push_size _ rfl, rfl, rfl⟩, hm.2.at fun o e => Heap.get?_push_of_some _ e⟩⟩
end
end PySem.W
namespace L3
open PySem PySem.Spec PyProof.Rows L2
section
variable {X : Cx} {Z : Par}
def rEqT (r : Bool) : R2 := fun x y H Q => ∃ a b ks ls, x = .ref a ∧ y = .ref b ∧ Rd H a (.dT ks) ∧ Rd H b (.dT ls) ∧ ks.length = ls.length ∧ (∀ p ∈ ks, valV ls p.1 = some p.2 ∧ flatB p.2 = true) ∧ Q (.bl r) H
theorem KT.of {H : Hp} : ∀ {kvs : List (List Key × V)} {xs : List (List Key × Addr × Value)}, KT H kvs xs → ∀ x ∈ xs, ∃ p ∈ kvs, p.1 = x.1 ∧ RelV p.2 x.2.2
  | _, _, .nil, x, h => by cases h
  | _, _, .cons (a := p) (b := q) h t, x, hx => by
    rcases List.mem_cons.mp hx with rfl | hx
    · exact ⟨p, List.mem_cons_self .., h.1, h.2.2⟩
    · obtain ⟨p', h1, h2⟩ := KT.of t x hx
      exact ⟨p', List.mem_cons_of_mem _ h1, h2⟩
theorem eqT_hits {P : Program} {w : World} {A : Around} {s : Shared} {H : Hp} {ks ls : List (List Key × V)} {xa xb : List (List Key × Addr × Value)} (ra : KT H ks xa) (rb : KT H ls xb) (hp : ∀ p ∈ ks, valV ls p.1 = some p.2 ∧ flatB p.2 = true) :
    ∀ x ∈ xa, ∃ y, atKey xb x.1 = some y ∧ SeqAt.EqP P w A s x.2.2 y.2 true := fun x hx => by
  obtain ⟨p, h1, h2, h3⟩ := KT.of ra x hx
  obtain ⟨e, f⟩ := hp p h1
  have rr := rb.val p.1
  rw [e] at rr
  obtain ⟨u, hu, ru⟩ := rr.some_of
  rw [h2] at hu
  cases hk : atKey xb x.1 with
  | none => rw [hk] at hu; cases hu
  | some y =>
    rw [hk] at hu
    have : y.2 = u := Option.some.inj hu
    subst this
    exact ⟨y, rfl, (eqAt_same h3 ru f).eqP⟩
theorem op_eqT (hu : X.A.units + 1 < cLine) : OpR X (compareOp .Eq) (rEqT true) := by
  intro pins s σ H x y v u Q I rx ry h
  obtain ⟨a, b, ks, ls, rfl, rfl, ea, eb, hlen, hp, q⟩ := h
  obtain rfl : v = Value.ref a := rx
  obtain rfl : u = Value.ref b := ry
  obtain ⟨_, ya, xa, ra, da⟩ := dt_rd I.hok ea
  obtain ⟨_, yb, xb, rb, db⟩ := dt_rd I.hok eb
  have l1 : ks.length = xa.length := Paired.length ra
  have l2 : ls.length = xb.length := Paired.length rb
  exact PySem.W.rcH_dicts (knd := tupleKind (mixKind X.prog X.w)) hu ya yb da db (by omega) (by omega) (eqT_hits ra rb hp) _ _ ⟨.bl true, H, I, rfl, q⟩
theorem op_neT (hu : X.A.units + 1 < cLine) : OpR X (compareOp .NotEq) (rEqT false) := by
  intro pins s σ H x y v u Q I rx ry h
  obtain ⟨a, b, ks, ls, rfl, rfl, ea, eb, hlen, hp, q⟩ := h
  obtain rfl : v = Value.ref a := rx
  obtain rfl : u = Value.ref b := ry
  obtain ⟨_, ya, xa, ra, da⟩ := dt_rd I.hok ea
  obtain ⟨_, yb, xb, rb, db⟩ := dt_rd I.hok eb
  have l1 : ks.length = xa.length := Paired.length ra
  have l2 : ls.length = xb.length := Paired.length rb
  exact PySem.W.neH_dicts (knd := tupleKind (mixKind X.prog X.w)) hu ya yb da db (by omega) (by omega) (eqT_hits ra rb hp) ⟨.bl false, H, I, rfl, q⟩
/-- counts of pairs -/
def cntP : List (List Key × PV) → Option (List (List Key × Int))
  | [] => some []
  | (k, .int i) :: r => (cntP r).map ((k, i) :: ·)
  | _ => none
def sameT (l m : List (List Key × PV)) : Prop := ∃ a b : List (List Key × Int), cntP l = some a ∧ cntP m = some b ∧ a.length = b.length ∧ ∀ p ∈ a, (b.find? fun q => decide (q.1 = p.1)).map (·.2) = some p.2
theorem DatT.cnt {K : PySem.W.Frag} {W : Wd} : ∀ {xs : List (List Key × V)} {l : List (List Key × PV)} {a : List (List Key × Int)}, DatT K W xs l → cntP l = some a → xs = a.map fun p => (p.1, V.int p.2)
  | _, _, a, .nil, e => by cases e; rfl
  | _, _, a, .cons (k := k) (p := p) h t, e => by
    cases h with
    | int i =>
      unfold cntP at e
      cases q : cntP _ with
      | none => rw [q] at e; cases e
      | some b =>
        rw [q] at e
        cases e
        rw [DatT.cnt t q]
        rfl
    | _ => cases e
theorem valV_cnt (b : List (List Key × Int)) (k : List Key) : valV (b.map fun p => (p.1, V.int p.2)) k = ((b.find? fun q => decide (q.1 = k)).map (·.2)).map V.int := by
  unfold valV
  induction b with
  | nil => rfl
  | cons x b ih =>
    rw [List.map_cons, List.find?_cons, List.find?_cons]
    by_cases c : x.1 = k
    · rw [decide_eq_true c]; rfl
    · rw [decide_eq_false c]; exact ih
def kEqT (neg : Bool) : PK2 := fun p q Q => match p, q with
  | .dct l, .dct m => sameT l m ∧ Q (.bl (!neg))
  | _, _ => False
theorem eqT_of (neg : Bool) {W : Wd} {H : Hp} {x y : V} {p q : PV} {Q : VK} {Qp : PV → Prop} (hh : Holds Z W H) (dx : Dat Z.K W x p) (dy : Dat Z.K W y q) (t : kEqT neg p q Qp) (k : ∀ W' H' v r, Ext Z W H W' H' → Dat Z.K W' v r → Qp r → Q v H') : rEqT (!neg) x y H Q := by
  unfold kEqT at t
  split at t
  · obtain ⟨⟨a, b, e1, e2, hl, hp⟩, t⟩ := t
    cases dx with
    | dct ha ra =>
      cases dy with
      | dct hb rb =>
        have ea := DatT.cnt ra e1
        have eb := DatT.cnt rb e2
        subst ea eb
        refine ⟨_, _, _, _, rfl, rfl, hh.rd ha, hh.rd hb, by simpa using hl, fun p hp' => ?_, k W H _ _ (.refl hh) (.bl _) t⟩
        obtain ⟨c, hc, rfl⟩ := List.mem_map.mp hp'
        rw [valV_cnt, hp c hc]
        exact ⟨rfl, rfl⟩
  · exact t.elim
theorem q_eqT {j : Nat} (hr : Room j X.A) : OpP Z X (compareOp .Eq) (kEqT false) := ⟨_, op_eqT (by have := hr.units; omega), fun W H x y p q Q Qp hh dx dy t k => eqT_of false hh dx dy t k⟩
theorem q_neT {j : Nat} (hr : Room j X.A) : OpP Z X (compareOp .NotEq) (kEqT true) := ⟨_, op_neT (by have := hr.units; omega), fun W H x y p q Q Qp hh dx dy t k => eqT_of true hh dx dy t k⟩
/-- tuple(l) -/
def kTuple : PKA := fun ps Q => match ps with
  | [.lst l] => Q (.tup l)
  | _ => False
theorem c_tuple (hK : X.K = Z.K := by rfl) : CallP Z X (.type "tuple") kTuple := ⟨_, call_tuple_of, fun W H xs ps Q Qp hh d t k => by
  unfold kTuple at t
  split at t
  · cases d with
    | cons d1 d2 => cases d2; cases d1 with
      | @lst a xs l ha r => exact ⟨_, _, rfl, .inl ⟨.of (hh.ex ha fun z => z), fun p n => by
          have e := Ext.new (o := .tup xs) hh n
          exact k _ _ _ _ e (.tup Wd.add_at (r.mono e.le)) t⟩⟩
  · exact t.elim⟩
/-- list(d.values()) -/
theorem pe_listValsT {e : Expr} {te : TE} {p apos cpos pos : Pos} (hc : X.calm = true) (he : PE X e te) (hg : Gl X "list") (hm : X.mg "list" = none) (hbase : attributeBase e "values" X.env (eval e X.env) = eval e X.env) (hline : (apos.endLine == cpos.line) = true)
    (hs : starEach [.Call (.Attribute e "values" apos) [] [] cpos] X.env = (false, eval (.Call (.Attribute e "values" apos) [] [] cpos) X.env) :: starEach [] X.env := by rfl) :
    PE X (.Call (.Name "list" p) [.Call (.Attribute e "values" apos) [] [] cpos] [] pos) (fun σ H Q => te σ H fun x H1 => ∃ d kvs, x = .ref d ∧ Rd H1 d (.dT kvs) ∧ ∀ q, H1 q = none → Q (.ref q) (upd H1 q (.lst (kvs.map (·.2))))) := by
  refine ⟨fun pins s σ H Q I hq => ?_⟩
  refine wpAny_Call_Name_kw (ld_blt I hg hm PyProof.Rows.boot_list ?_)
  refine PyProof.Rows.callWith_type1 ?_ hs rfl
  rw [hs]
  show wpAny _ _ (spliced ((false, eval (.Call (.Attribute e "values" apos) [] [] cpos) X.env) :: backTo pos (starEach [] X.env))) _ _ s
  refine Calls.spliced_cons ?_
  refine wpAny_Call_method (T := "dict") (id := "dict.values") hbase rfl hline F.plainAttrs_dict F.slot_dict_values F.type_dict_values (thn (he.run pins s σ H _ I hq) fun u s1 ⟨x, H1, I1, rx, d, kvs, ex, hd, q⟩ => ?_)
  subst ex
  obtain rfl : u = Value.ref d := rx
  obtain ⟨hz, hs0, xs, kt, dh⟩ := dt_rd I1.hok hd
  obtain ⟨o, es, ep, ho, hx, hdt, hes, hks, hnd⟩ := dh
  have raw : s1.heap.DictRaw d es ep := ⟨o, ho, hx, hdt⟩
  have I2 : Inv X pins σ H1 { s1 with heap := s1.heap.push { cls := .type "dict_values", data := .fields #[.ref d] } } := I1.kept (t' := s1.toks) fun b ob q => Heap.get?_push_of_some _ q
  have lx : es.size = xs.length := size_of_entries hes
  have lk : kvs.length = xs.length := Paired.length kt
  have nd : (∀ (n : String), True) := fun _ => trivial
  refine ⟨raw.typeIs, fun a ea => by cases ea; exact ⟨o, ho, hx.2.1⟩, ?_⟩
  show wpAny _ _ (callWith cpos (.builtin "dict.values") [.ref d] [] []) _ X.xe s1
  refine method_meetsIn F.slot_dict_values F.entry_dict_values rfl (PySem.evalArgs_none ⟨rfl, raw.typeIs, F.args_dict_values_1 _, _, PySem.meets_dict_values_raw d hs0, ⟨es, ep, raw⟩, ?_⟩)
  refine Calls.spliced_nil ?_
  refine PySem.W.kdl_call (PySem.W.kdl_valuesRaw (es := es) (ep := ep)) (I1.ok.hd hc) ⟨⟨_, Heap.get?_push_size _ rfl, rfl, rfl⟩, raw.at fun o e => Heap.get?_push_of_some _ e⟩ (by rw [lx, ← lk]; exact hz) fun h' tk acc c hk hS hacc => ?_
  have hv : Vals (kvs.map (·.2)) acc.toList := by
    have key : ∀ (n : Nat) (i : Nat), n = kvs.length - i → Vals ((kvs.map (·.2)).drop i) (acc.toList.drop i) := by
      intro n
      induction n with
      | zero =>
        intro i hn
        rw [List.drop_of_length_le (by rw [List.length_map]; omega), List.drop_of_length_le (by rw [Array.length_toList, hacc.1]; omega)]
        exact .nil
      | succ n ih =>
        intro i hn
        have h1 : i < (kvs.map (·.2)).length := by rw [List.length_map]; omega
        have h2 : i < acc.toList.length := by rw [Array.length_toList, hacc.1]; omega
        rw [List.drop_eq_getElem_cons h1, List.drop_eq_getElem_cons h2]
        refine .cons ?_ (ih (i + 1) (by omega))
        obtain ⟨hi, e⟩ := hacc.2 i acc.toList[i] (by rw [← Array.getElem?_toList]; exact List.getElem?_eq_getElem h2)
        have h3 : i < kvs.length := by omega
        obtain ⟨y, e2, r1, _, r2⟩ := LiI.paired_get kt (List.getElem?_eq_getElem h3)
        have e3 : es[i]? = some (entryOfKey (tupleKind (mixKind X.prog X.w)) y) := by rw [entry_at hes i, e2]; rfl
        rw [Array.getElem?_eq_getElem hi] at e3
        have e4 := Option.some.inj e3
        rw [e, e4, List.getElem_map]
        exact r2
    exact key _ 0 rfl
  exact ⟨.ref _, upd H1 _ (.lst (kvs.map (·.2))), I2.laid (t' := tk) hk (Nat.le_refl _) ⟨by rw [List.length_map]; exact hz, acc.toList, c, hv, by rw [Array.toArray_toList]; exact hS⟩, rfl, q _ (I2.hok.fresh (Nat.le_refl _))⟩
def pListValsT (te : PTE) : PTE := fun ρ Q => te ρ fun p => match p with
  | .dct l => Q (.lst (l.map (·.2)))
  | _ => False
theorem DatT.snd {K : PySem.W.Frag} {W : Wd} : ∀ {vs : List (List Key × V)} {ps : List (List Key × PV)}, DatT K W vs ps → DatL K W (vs.map (·.2)) (ps.map (·.2))
  | _, _, .nil => .nil
  | _, _, .cons h t => .cons h (DatT.snd t)
theorem q_listValsT {e : Expr} {te : PTE} {p apos cpos pos : Pos} (hm : X.mg "list" = none) (he : PE X e (lift Z te)) (hc : X.calm = true := by rfl) (hg : Gl X "list" := by rfl) (hbase : attributeBase e "values" X.env (eval e X.env) = eval e X.env := by rfl) (hline : (apos.endLine == cpos.line) = true := by rfl)
    (hs : starEach [.Call (.Attribute e "values" apos) [] [] cpos] X.env = (false, eval (.Call (.Attribute e "values" apos) [] [] cpos) X.env) :: starEach [] X.env := by rfl) :
    PE X (.Call (.Name "list" p) [.Call (.Attribute e "values" apos) [] [] cpos] [] pos) (lift Z (pListValsT te)) :=
  PEw (pe_listValsT hc he hg hm hbase hline hs) fun σ H Q ⟨W, H0, ρ, Qp, hh, S, t, q⟩ => by
    refine ⟨W, H0, ρ, _, hh, S, t, fun W1 H1 v p e1 d1 t1 => ?_⟩
    cases d1 with
    | dct ha r => exact ⟨_, _, rfl, e1.holds.rd ha, fun p n => q _ _ _ _ (e1.trans hh (Ext.new e1.holds n)) (.lst Wd.add_at (r.snd.mono (Wd.le_add (e1.holds.new n)))) t1⟩
    | _ => exact t1.elim
end
end L3

/-! ## L3P -/
/-! The second pool: [whole numbers, at, rest, draws]; what counts draws has two indices: draws before, draws behind. -/
namespace L3
open PySem PySem.Spec PyProof.Rows L2
/-- what every shared cell keeps, index by index -/
structure Fam where
  K : PySem.W.Frag
  PI : Nat → Hp → HO → Prop
  mono : ∀ m D D' o, (∀ a u, D a = some u → D' a = some u) → PI m D o → PI m D' o
  up : ∀ m n D o, m ≤ n → PI m D o → PI n D o
abbrev Fam.at (F : Fam) (m : Nat) : Par := ⟨F.K, F.PI m, F.mono m⟩
def PoolJ (xs : List Int) (m : Nat) : Hp → HO → Prop := fun D o => ∃ (a : Addr) (c s n : Int), o = .lst [.ref a, .int c, .int s, .int n] ∧ D a = some (.lst (xs.map V.int)) ∧ xs.length ≤ 63 ∧ 0 ≤ c ∧ 0 ≤ s ∧ 0 ≤ n ∧ n ≤ (m : Int)
theorem PoolJ.up {xs : List Int} {m n : Nat} (l : m ≤ n) {D : Hp} {o : HO} (h : PoolJ xs m D o) : PoolJ xs n D o := by
  obtain ⟨a, c, s, k, h1, h2, h3, h4, h5, h6, h7⟩ := h
  exact ⟨a, c, s, k, h1, h2, h3, h4, h5, h6, by omega⟩
abbrev famJ (K : PySem.W.Frag) (xs : List Int) : Fam := ⟨K, PoolJ xs, fun m D D' o h ⟨a, c, s, n, e, d, r⟩ => ⟨a, c, s, n, e, h _ _ d, r⟩, fun m n D o l h => PoolJ.up l h⟩
abbrev Zq (K : PySem.W.Frag) (xs : List Int) (m : Nat) : Par := (famJ K xs).at m
section
variable {F : Fam} {m n j : Nat} {W W' W0 Wb : Wd} {H H' H0 Hb : Hp}
theorem Holds.upq (l : m ≤ n) (h : Holds (F.at m) W H) : Holds (F.at n) W H := ⟨h.sub, fun a q => let ⟨o, e, i⟩ := h.cel a q; ⟨o, e, F.up _ _ _ _ l i⟩, h.dis⟩
theorem Ext.upq (l : m ≤ n) (e : Ext (F.at m) W H W' H') : Ext (F.at n) W H W' H' := ⟨e.holds.upq l, e.le, e.base, e.fr, e.frM, e.fz⟩
theorem Slots.toq {σ : L2.St} {ρ : List Slt} (S : Slots (F.at m) W H0 H σ ρ) : Slots (F.at n) W H0 H σ ρ := ⟨S.len, S.val, S.own, S.dst⟩
theorem EndsOk.dnq (l : m ≤ n) {E : PEnds} {D : Ends} (h : EndsOk (F.at n) W0 H0 Wb Hb E D) : EndsOk (F.at m) W0 H0 Wb Hb E D :=
  ⟨fun W H σ ρ e le S t => h.nx W H σ ρ (e.upq l) le S.toq t, fun W H v p e d t => h.rt W H v p (e.upq l) d t, fun W H σ ρ e le S t => h.bk W H σ ρ (e.upq l) le S.toq t, fun W H σ ρ e le S t => h.ct W H σ ρ (e.upq l) le S.toq t⟩
/-- e after f, at the last index -/
theorem Ext.thenq {W1 W2 : Wd} {H1 H2 : Hp} (l1 : m ≤ j) (l2 : j ≤ n) (h : Holds (F.at m) W H) (e : Ext (F.at j) W H W1 H1) (f : Ext (F.at n) W1 H1 W2 H2) : Ext (F.at n) W H W2 H2 := (e.upq l2).trans (h.upq (Nat.le_trans l1 l2)) f
end
variable {X : Cx} {F : Fam} {m n j : Nat}

/-! ### expressions -/
def lift2 (F : Fam) (m n : Nat) (t : PTE) : TE := fun σ H Q => ∃ W H0 ρ Qp, Holds (F.at m) W H ∧ Slots (F.at m) W H0 H σ ρ ∧ t ρ Qp ∧ ∀ W' H' v p, Ext (F.at n) W H W' H' → Dat F.K W' v p → Qp p → Q v H'
def liftA2 (F : Fam) (m n : Nat) (t : PTA) : TA := fun σ H Q => ∃ W H0 ρ Qp, Holds (F.at m) W H ∧ Slots (F.at m) W H0 H σ ρ ∧ t ρ Qp ∧ ∀ W' H' v p, Ext (F.at n) W H W' H' → DatL F.K W' v p → Qp p → Q v H'
def liftT2 (F : Fam) (m n : Nat) (t : PTT) : TT := fun σ H Q => ∃ W H0 ρ Qp, Holds (F.at m) W H ∧ Slots (F.at m) W H0 H σ ρ ∧ t ρ Qp ∧ ∀ W' H' b, Ext (F.at n) W H W' H' → Qp b → Q b H'
theorem c0 {e : Expr} {t : PTE} (h : PE X e (lift (F.at m) t)) (l : m ≤ n := by omega) : PE X e (lift2 F m n t) :=
  PEw h fun σ H Q ⟨W, H0, ρ, Qp, hh, S, t, q⟩ => ⟨W, H0, ρ, Qp, hh, S, t, fun W' H' v p e d t => q W' H' v p (e.upq l) d t⟩
theorem c0A {e : List Expr} {t : PTA} (h : PA X e (liftA (F.at m) t)) (l : m ≤ n := by omega) : PA X e (liftA2 F m n t) :=
  PAw h fun σ H Q ⟨W, H0, ρ, Qp, hh, S, t, q⟩ => ⟨W, H0, ρ, Qp, hh, S, t, fun W' H' v p e d t => q W' H' v p (e.upq l) d t⟩
theorem c0T {e : Expr} {t : PTT} (h : PT X e (liftT (F.at m) t)) (l : m ≤ n := by omega) : PT X e (liftT2 F m n t) :=
  PTw h fun σ H Q ⟨W, H0, ρ, Qp, hh, S, t, q⟩ => ⟨W, H0, ρ, Qp, hh, S, t, fun W' H' b e t => q W' H' b (e.upq l) t⟩
theorem lift2_bin {k : PK2} {r : R2} {ta tb : PTE} (l1 : m ≤ j) (l2 : j ≤ n) (w : ∀ W H x y p q Q Qp, Holds (F.at n) W H → Dat F.K W x p → Dat F.K W y q → k p q Qp → (∀ W' H' v r, Ext (F.at n) W H W' H' → Dat F.K W' v r → Qp r → Q v H') → r x y H Q)
    (σ : L2.St) (H : Hp) (Q : VK) (h : lift2 F m n (pBin k ta tb) σ H Q) : tOp r (lift2 F m j ta) (lift2 F j n tb) σ H Q := by
  obtain ⟨W, H0, ρ, Qp, hh, S, t, q⟩ := h
  refine ⟨W, H0, ρ, _, hh, S, t, fun W1 H1 v p e1 d1 t1 => ?_⟩
  refine ⟨W1, H0, ρ, _, e1.holds, (S.toq (n := j)).ext e1, t1, fun W2 H2 u p2 e2 d2 t2 => ?_⟩
  exact w W2 H2 v u p p2 Q Qp e2.holds (d1.mono e2.le) d2 t2 fun W3 H3 z pz e3 d3 t3 => q W3 H3 z pz ((e1.thenq l1 l2 hh e2).trans (hh.upq (Nat.le_trans l1 l2)) e3) d3 t3
theorem q2_op {op : Operator} {k : PK2} {a b : Expr} {ta tb : PTE} {pos : Pos} (o : OpP (F.at n) X (binaryOp op) k) (ha : PE X a (lift2 F m j ta)) (hb : PE X b (lift2 F j n tb)) (l1 : m ≤ j := by omega) (l2 : j ≤ n := by omega) : PE X (.BinOp a op b pos) (lift2 F m n (pBin k ta tb)) := by
  obtain ⟨r, ho, w⟩ := o.ex
  exact PEw (pe_op ho ha hb) fun σ H Q => lift2_bin l1 l2 w σ H Q
theorem q2_ix {a b : Expr} {ta tb : PTE} {pos : Pos} (ha : PE X a (lift2 F m j ta)) (hb : PE X b (lift2 F j n tb)) (l1 : m ≤ j := by omega) (l2 : j ≤ n := by omega) (hK : X.K = F.K := by rfl) (hs : PlainIx b := by exact fun _ _ => rfl) : PE X (.Subscript a b pos) (lift2 F m n (pBin kIx ta tb)) :=
  PEw (pe_ix ix_seq ha hb hs) fun σ H Q => lift2_bin l1 l2 (lift_ix (Z := F.at n) hK) σ H Q
theorem q2_cmp {op : CmpOp} {k : PK2} {a b : Expr} {ta tb : PTE} {pos : Pos} (o : OpP (F.at n) X (compareOp op) k) (ha : PE X a (lift2 F m j ta)) (hb : PE X b (lift2 F j n tb)) (l1 : m ≤ j := by omega) (l2 : j ≤ n := by omega)
    (hm : behindInMarks op b = false := by first | exact nobehind _ (by decide) (by decide) | rfl) : PE X (.Compare a [op] [b] pos) (lift2 F m n (pBin k ta tb)) := by
  obtain ⟨r, ho, w⟩ := o.ex
  exact PEw (pe_cmpR ho ha hb hm) fun σ H Q => lift2_bin l1 l2 w σ H Q
theorem tst2_of {t : PTE} (σ : L2.St) (H : Hp) (Q : Bool → Hp → Prop) (h : liftT2 F m n (pTst t) σ H Q) : lift2 F m n t σ H fun x H' => ∃ k, x = .bl k ∧ Q k H' := by
  obtain ⟨W, H0, ρ, Qp, hh, S, t, q⟩ := h
  refine ⟨W, H0, ρ, _, hh, S, t, fun W1 H1 v p e1 d1 t1 => ?_⟩
  cases d1 with
  | bl b => exact ⟨b, rfl, q W1 H1 b e1 t1⟩
  | _ => exact t1.elim
theorem qt2_cmp {op : CmpOp} {k : PK2} {a b : Expr} {ta tb : PTE} {pos : Pos} (o : OpP (F.at n) X (compareOp op) k) (ha : PE X a (lift2 F m j ta)) (hb : PE X b (lift2 F j n tb)) (l1 : m ≤ j := by omega) (l2 : j ≤ n := by omega)
    (hm : behindInMarks op b = false := by first | exact nobehind _ (by decide) (by decide) | rfl) : PT X (.Compare a [op] [b] pos) (liftT2 F m n (pTst (pBin k ta tb))) := by
  obtain ⟨r, ho, w⟩ := o.ex
  refine PTw (pt_cmpR ho ha hb hm) fun σ H Q h => ?_
  exact lift2_bin l1 l2 w σ H _ (tst2_of σ H Q h)
theorem qa2_cons {e : Expr} {es : List Expr} {t : PTE} {u : PTA} (ha : PE X e (lift2 F m j t)) (hr : PA X es (liftA2 F j n u)) (l1 : m ≤ j := by omega) (l2 : j ≤ n := by omega) (hs : starEach (e :: es) X.env = (false, eval e X.env) :: starEach es X.env := by rfl) : PA X (e :: es) (liftA2 F m n (pCons t u)) :=
  PAw (pa_cons ha hr hs) fun σ H Q ⟨W, H0, ρ, Qp, hh, S, t, q⟩ =>
    ⟨W, H0, ρ, _, hh, S, t, fun W1 H1 v p e1 d1 t1 => ⟨W1, H0, ρ, _, e1.holds, (S.toq (n := j)).ext e1, t1, fun W2 H2 vs ps e2 d2 t2 => q W2 H2 _ _ (e1.thenq l1 l2 hh e2) (.cons (d1.mono e2.le) d2) t2⟩⟩
theorem q2_tup {es : List Expr} {x1} {pos : Pos} {t : PTA} (h : PA X es (liftA2 F m n t)) (l : m ≤ n := by omega) : PE X (.Tuple es x1 pos) (lift2 F m n (pTup t)) :=
  PEw (pe_tup h) fun σ H Q ⟨W, H0, ρ, Qp, hh, S, t, q⟩ =>
    ⟨W, H0, ρ, _, hh, S, t, fun W1 H1 vs ps e1 d1 t1 => ⟨by rw [d1.length]; exact t1.1, fun p np => by
      have e2 := Ext.new (o := .tup vs) e1.holds np
      exact q _ _ _ _ (e1.trans (hh.upq l) e2) (.tup Wd.add_at (d1.mono e2.le)) t1.2⟩⟩
theorem q2_lst {es : List Expr} {pos : Pos} {t : PTA} (h : PA X es (liftA2 F m n t)) (l : m ≤ n := by omega) : PE X (.List es pos) (lift2 F m n (pLst t)) :=
  PEw (pe_lst h) fun σ H Q ⟨W, H0, ρ, Qp, hh, S, t, q⟩ =>
    ⟨W, H0, ρ, _, hh, S, t, fun W1 H1 vs ps e1 d1 t1 => ⟨by rw [d1.length]; exact t1.1, fun p np => by
      have e2 := Ext.new (o := .lst vs) e1.holds np
      exact q _ _ _ _ (e1.trans (hh.upq l) e2) (.lst Wd.add_at (d1.mono e2.le)) t1.2⟩⟩
theorem q2_if {c a b : Expr} {tc : PTT} {ta tb : PTE} {pos : Pos} (hc : PT X c (liftT2 F m j tc)) (ha : PE X a (lift2 F j n ta)) (hb : PE X b (lift2 F j n tb)) (l1 : m ≤ j := by omega) (l2 : j ≤ n := by omega) : PE X (.IfExp c a b pos) (lift2 F m n (pIf tc ta tb)) :=
  PEw (pe_ifExp hc ha hb) fun σ H Q ⟨W, H0, ρ, Qp, hh, S, t, q⟩ => by
    refine ⟨W, H0, ρ, _, hh, S, t, fun W1 H1 c e1 t1 => ?_⟩
    cases c with
    | true => exact (if_pos rfl).mpr ⟨W1, H0, ρ, _, e1.holds, (S.toq (n := j)).ext e1, t1, fun W2 H2 v p e2 d2 t2 => q W2 H2 v p (e1.thenq l1 l2 hh e2) d2 t2⟩
    | false => exact (if_neg (by decide)).mpr ⟨W1, H0, ρ, _, e1.holds, (S.toq (n := j)).ext e1, t1, fun W2 H2 v p e2 d2 t2 => q W2 H2 v p (e1.thenq l1 l2 hh e2) d2 t2⟩

/-! ### promises -/
def spP2 (F : Fam) (m n : Nat) (Φ : Con) : Sp := fun vs H Q _ => ∃ W ps Qp, Holds (F.at m) W H ∧ DatL F.K W vs ps ∧ Φ ps Qp ∧ ∀ W' H' v p, Ext (F.at n) W H W' H' → Dat F.K W' v p → Qp p → Q v H'
/-- the def x keeps Φ, with at most c draws -/
structure FnC2 (P : Program) (w : World) (mg : Str → Option Value) (F : Fam) (m n : Nat) (x : Str) (k ar : Nat) (Φ : Con) : Prop where
  ex : ∃ (f : Addr) (fd : FuncData) (ps : List Str), mg x = some (.ref f) ∧ PySem.W.keepIn F.K (.ref f) = true ∧ Binds F.K fd ps [] ∧ ps.length = ar ∧ ∀ base : Heap, FnOk P w F.K mg base CX0 k f fd ps (spP2 F m n Φ)
theorem q2_call {x : Str} {k i ar : Nat} {Φ : Con} {p pos : Pos} {e : Expr} {es : List Expr} {t : PTA} (c : FnC2 X.prog X.w X.mg F j n x k ar Φ) (hr : Room i X.A) (ha : PA X (e :: es) (liftA2 F m j t)) (l1 : m ≤ j := by omega) (l2 : j ≤ n := by omega) (hK : X.K = F.K := by rfl) (hj : k ≤ i := by decide) (hg : Gl X x := by rfl)
    (hdb : (x == ("__debug__" : Str)) = false := by decide) (he : starEach (e :: es) X.env = (false, eval e X.env) :: starEach es X.env := by rfl) (hpl : (backTo pos (starEach es X.env)).any (·.1) = false := by rfl) :
    PE X (.Call (.Name x p) (e :: es) [] pos) (lift2 F m n (pCall Φ t)) := by
  obtain ⟨K, PI, mo, up⟩ := F
  have hK : X.K = K := hK
  subst hK
  obtain ⟨f, fd, ps, hm, kp, b, hn, F⟩ := c.ex
  refine PEw (pe_call (F X.base) (hr.mono hj) hg hm kp b .nil pass0 ha hdb he hpl) fun σ H Q ⟨W, H0, ρ, Qp, hh, S, t, q⟩ => ?_
  refine ⟨W, H0, ρ, _, hh, S, t, fun W1 H1 vs ps e1 d1 t1 => ?_⟩
  show spP2 _ j n Φ (vs ++ []) H1 Q E0
  rw [List.append_nil]
  exact ⟨W1, ps, Qp, e1.holds, d1, t1, fun W2 H2 v p e2 d2 t2 => q W2 H2 v p (e1.thenq l1 l2 hh e2) d2 t2⟩
/-- a call of a def that draws nothing, behind arguments that draw -/
theorem FnC.to2 {P : Program} {w : World} {mg : Str → Option Value} {x : Str} {k ar : Nat} {Φ : Con} (c : FnC P w mg (F.at m) x k ar Φ) : FnC2 P w mg F m m x k ar Φ := ⟨c.ex⟩

/-! ### statements -/
def liftS2 (F : Fam) (m n : Nat) (t : PTS) : TS := fun D σ H => ∃ W0 H0 W ρ E, Holds (F.at m) W0 H0 ∧ Ext (F.at m) W0 H0 W H ∧ Slots (F.at m) W H0 H σ ρ ∧ t E ρ ∧ EndsOk (F.at n) W0 H0 W H E D
theorem cS0 {s : Stmt} {t : PTS} (h : PS X s (liftS (F.at m) t)) (l : m ≤ n := by omega) : PS X s (liftS2 F m n t) :=
  PSw h fun D σ H ⟨W0, H0, W, ρ, E, h0, e, S, t, D1⟩ => ⟨W0, H0, W, ρ, E, h0, e, S, t, D1.dnq l⟩
theorem cSs0 {s : List Stmt} {t : PTS} (h : PSs X s (liftS (F.at m) t)) (l : m ≤ n := by omega) : PSs X s (liftS2 F m n t) :=
  PSsw h fun D σ H ⟨W0, H0, W, ρ, E, h0, e, S, t, D1⟩ => ⟨W0, H0, W, ρ, E, h0, e, S, t, D1.dnq l⟩
theorem qss2_cons {st : Stmt} {rest : List Stmt} {t u : PTS} (h1 : PS X st (liftS2 F m j t)) (h2 : PSs X rest (liftS2 F j n u)) (l1 : m ≤ j := by omega) (l2 : j ≤ n := by omega) : PSs X (st :: rest) (liftS2 F m n (pSeq t u)) :=
  PSsw (pss_cons h1 h2) fun D σ H ⟨W0, H0, W, ρ, E, h0, e, S, t, D1⟩ =>
    ⟨W0, H0, W, ρ, _, h0, e, S, t, ⟨fun W' H' σ' ρ' e' le S' t' => ⟨W0, H0, W', ρ', E, h0.upq l1, e', S', t', D1.up le⟩, (D1.dnq l2).rt, (D1.dnq l2).bk, (D1.dnq l2).ct⟩⟩
theorem qss2_one {st : Stmt} {t : PTS} (h1 : PS X st (liftS2 F m n t)) : PSs X [st] (liftS2 F m n t) := pss_one h1
theorem qs2_ret {e : Expr} {te : PTE} {pos : Pos} (he : PE X e (lift2 F m n te)) (l : m ≤ n := by omega) : PS X (.Return (some e) pos) (liftS2 F m n (pRet te)) :=
  PSw (ps_ret he) fun D σ H ⟨W0, H0, W, ρ, E, h0, e, S, t, D1⟩ =>
    ⟨W, H0, ρ, _, e.holds, S, t, fun W1 H1 v p e1 d1 t1 => D1.rt W1 H1 v p (e.thenq (Nat.le_refl m) l h0 e1) d1 t1⟩
theorem qs2_if {c : Expr} {a b : List Stmt} {tc : PTT} {t u : PTS} {pos : Pos} (hc : PT X c (liftT2 F m j tc)) (ha : PSs X a (liftS2 F j n t)) (hb : PSs X b (liftS2 F j n u)) (l1 : m ≤ j := by omega) : PS X (.If c a b pos) (liftS2 F m n (pIfS tc t u)) :=
  PSw (ps_if hc ha hb) fun D σ H ⟨W0, H0, W, ρ, E, h0, e, S, t, D1⟩ =>
    ⟨W, H0, ρ, _, e.holds, S, t, fun W1 H1 b e1 t1 => by
      cases b with
      | true => exact (if_pos rfl).mpr ⟨W0, H0, W1, ρ, E, h0.upq l1, e.thenq (Nat.le_refl m) l1 h0 e1, (S.toq (n := j)).ext e1, t1, D1.up e1.lt⟩
      | false => exact (if_neg (by decide)).mpr ⟨W0, H0, W1, ρ, E, h0.upq l1, e.thenq (Nat.le_refl m) l1 h0 e1, (S.toq (n := j)).ext e1, t1, D1.up e1.lt⟩⟩
theorem qs2_asg {tg e : Expr} {te : PTE} {ws : List Nat} {g : PTG} {pos : Pos} (he : PE X e (lift2 F m n te)) (hg : PG X tg (liftG (F.at n) ws g)) (l : m ≤ n := by omega) (hs : swapsWithSole [tg] e pos.line X.env = pure false := by rfl) (hw : swappedStores [tg] e X.env = pure none := by rfl) (h1 : List.map (fun x => x.snd) (assignEach [tg] X.env) = [assign tg X.env] := by rfl) :
    PS X (.Assign [tg] e pos) (liftS2 F m n (pAsg te g)) := PSw (ps_asg he hg hs hw h1) fun D σ H ⟨W0, H0, W, ρ, E, h0, e, S, t, D1⟩ =>
  ⟨W, H0, ρ, _, e.holds, S, t, fun W1 H1 v p e1 d1 t1 => ⟨W1, H0, ρ, p, _, e1.holds, (S.toq (n := n)).ext e1, d1, t1, fun σ' ρ' o S' t' => D1.nx W1 H1 σ' ρ' (e.thenq (Nat.le_refl m) l h0 e1) e1.lt S' t'⟩⟩
theorem qs2_set {i : Nat} {x : Str} {e : Expr} {te : PTE} {pos' pos : Pos} (hN : X.N.Nodup) (he : PE X e (lift2 F m n te)) (l : m ≤ n := by omega) (hi : X.N[i]? = some x := by rfl) (hx : Loc X.env.scope x := by first | exact .inl rfl | exact .inr rfl) (hs : swapsWith e (some (.Name x pos')) pos.line X.env = pure false := by rfl)
    (hf : X.fn x = true ∨ X.env.scope.names.lookup x = some .local := by first | exact .inl rfl | exact .inr rfl) :
    PS X (.Assign [.Name x pos'] e pos) (liftS2 F m n (pAsg te (gNm i))) := PSw (ps_set hN hi hx he hs hf) fun D σ H ⟨W0, H0, W, ρ, E, h0, e, S, t, D1⟩ =>
  ⟨W, H0, ρ, _, e.holds, S, t, fun W1 H1 v p e1 d1 t1 => D1.nx W1 H1 _ _ (e.thenq (Nat.le_refl m) l h0 e1) e1.lt (((S.toq (n := n)).ext e1).setVal i d1) t1⟩
theorem qs2_par {i k : Nat} {x y : Str} {a b : Expr} {ta : PTA} {px py pt pos : Pos} {kt k2 pt2} (hN : X.N.Nodup) (ha : PA X [a, b] (liftA2 F m n ta)) (l : m ≤ n := by omega) (hi : X.N[i]? = some x := by rfl) (hj : X.N[k]? = some y := by rfl) (hij : i ≠ k := by decide)
    (hx : X.env.scope.names.lookup x = some .local := by rfl) (hy : X.env.scope.names.lookup y = some .local := by rfl) (hc : X.calm = true := by rfl)
    (hw : swappedStores [.Tuple [.Name x px, .Name y py] kt pt] (.Tuple [a, b] k2 pt2) X.env = pure (some [x, y]) := by rfl)
    (hs : swapsWithSole [.Tuple [.Name x px, .Name y py] kt pt] (.Tuple [a, b] k2 pt2) pos.line X.env = pure false := by rfl) :
    PS X (.Assign [.Tuple [.Name x px, .Name y py] kt pt] (.Tuple [a, b] k2 pt2) pos) (liftS2 F m n (pPar i k ta)) :=
  PSw (ps_par hc hN hi hj hij hx hy ha hw hs) fun D σ H ⟨W0, H0, W, ρ, E, h0, e, S, t, D1⟩ =>
    ⟨W, H0, ρ, _, e.holds, S, t, fun W1 H1 vs ps e1 d1 t1 => by
      cases d1 with
      | nil => exact t1.elim
      | cons d1 d2 => cases d2 with
        | nil => exact t1.elim
        | cons d2 d3 => cases d3 with
          | cons => exact t1.elim
          | nil => exact ⟨_, _, rfl, D1.nx W1 H1 _ _ (e.thenq (Nat.le_refl m) l h0 e1) e1.lt ((((S.toq (n := n)).ext e1).setVal i d1).setVal k d2) t1⟩⟩
end L3

/-! ## L3T -/
/-! Counted draws: the pool's cells, loops, own things, defs. -/
namespace L3
open PySem PySem.Spec PyProof.Rows L2
variable {X : Cx} {K : PySem.W.Frag} {xs : List Int} {m n j : Nat}
/-! ### the pool -/
def pCelJ (xs : List Int) (v : Nat) (i : Int) : PTE := fun ρ Q => match ρ[v]? with
  | some (.val .cel) => (i = 0 ∧ (xs.length ≤ 63 → Q (.lst (xs.map PV.int)))) ∨ ((i = 1 ∨ i = 2) ∧ ∀ c : Int, 0 ≤ c → Q (.int c)) ∨ (i = 3 ∧ ∀ c : Int, 0 ≤ c → c ≤ 1152921504606846976 → Q (.int c))
  | _ => False
theorem q_celJ {v : Nat} {i : Int} {x : Str} {k : Nat} {px pi pos : Pos} (hm : m ≤ 1152921504606846976) (hN : X.N[v]? = some x := by rfl) (hv : Vis X.env.scope x := by first | exact .inl rfl | exact .inr (.inl rfl) | exact .inr (.inr rfl)) (hd : (x == ("__debug__" : Str)) = false := by decide) (hcd : (x == ("__classdict__" : Str)) = false := by decide) :
    PE X (.Subscript (.Name x px) (.Constant (.int i) k pi) pos) (lift (Zq K xs m) (pCelJ xs v i)) :=
  PEw (pe_ix ix_seq (pe_var hN hv hd hcd) pe_int (fun _ _ => rfl)) fun σ H Q ⟨W, H0, ρ, Qp, hh, S, t, q⟩ => by
    unfold pCelJ at t
    split at t
    · rename_i z
      obtain ⟨u, h1, h2⟩ := S.val v _ z
      refine ⟨u, h1, ?_⟩
      cases h2 with
      | cel hw =>
        obtain ⟨o, ho, a, c, s, k, rfl, da, hl, c0, s0, k0, k1⟩ := hh.cel _ hw
        rcases t with ⟨rfl, t⟩ | ⟨rfl | rfl, t⟩ | ⟨rfl, t⟩
        · exact .inl ⟨_, _, _, _, rfl, rfl, .of ho, rfl, q W H _ _ (.refl hh) (.lst da (DatL.ofInts xs)) (t hl)⟩
        · exact .inl ⟨_, _, _, _, rfl, rfl, .of ho, rfl, q W H _ _ (.refl hh) (.int _) (t c c0)⟩
        · exact .inl ⟨_, _, _, _, rfl, rfl, .of ho, rfl, q W H _ _ (.refl hh) (.int _) (t s s0)⟩
        · exact .inl ⟨_, _, _, _, rfl, rfl, .of ho, rfl, q W H _ _ (.refl hh) (.int _) (t k k0 (by omega))⟩
    · exact t.elim
theorem Ext.wrJ {W : Wd} {H : Hp} {a : Addr} {o : HO} (l : m ≤ n) (h : Holds (Zq K xs m) W H) (hm : W.M a) (p : PoolJ xs n W.D o) : Ext (Zq K xs n) W H W (upd H a o) where
  holds :=
    { sub := fun b u e => by
        rw [upd_ne (fun c => by rw [c, h.dis a hm] at e; cases e)]
        exact h.sub b u e
      cel := fun b q => by
        by_cases c : b = a
        · subst c; exact ⟨o, upd_same, p⟩
        · obtain ⟨u, r, s⟩ := h.cel b q
          exact ⟨u, by rw [upd_ne c]; exact r, PoolJ.up l s⟩
      dis := h.dis }
  le := .refl W
  base := fun b u e _ n => by rw [upd_ne (fun c => n (by rw [c]; exact hm))]; exact e
  fr := fun _ _ q => .inl q
  frM := fun _ q => .inl q
  fz := fun b od u e => by
    rw [upd_ne (fun c => by
      obtain ⟨o', ho, a', c', s', n', rfl, _⟩ := h.cel a hm
      rw [c, ho] at e; cases e)]
    exact e
def pCelSetJ (v : Nat) (i : Int) (te : PTE) : PTS := fun E ρ => match ρ[v]? with
  | some (.val .cel) => te ρ fun p => (match p with
    | .int c => (i = 1 ∨ i = 2) ∧ 0 ≤ c ∧ E.nx ρ
    | _ => False)
  | _ => False
theorem qs_celSetJ {v : Nat} {i : Int} {x : Str} {k : Nat} {e : Expr} {te : PTE} {px pi pos' pos : Pos} (he : PE X e (lift (Zq K xs m) te)) (hN : X.N[v]? = some x := by rfl) (hv : Vis X.env.scope x := by first | exact .inl rfl | exact .inr (.inl rfl) | exact .inr (.inr rfl)) (hd : (x == ("__debug__" : Str)) = false := by decide) (hcd : (x == ("__classdict__" : Str)) = false := by decide)
    (hs : swapsWithSole [.Subscript (.Name x px) (.Constant (.int i) k pi) pos'] e pos.line X.env = pure false := by rfl) (hw : swappedStores [.Subscript (.Name x px) (.Constant (.int i) k pi) pos'] e X.env = pure none := by rfl)
    (h1 : List.map (fun x => x.snd) (assignEach [.Subscript (.Name x px) (.Constant (.int i) k pi) pos'] X.env) = [assign (.Subscript (.Name x px) (.Constant (.int i) k pi) pos') X.env] := by rfl) :
    PS X (.Assign [.Subscript (.Name x px) (.Constant (.int i) k pi) pos'] e pos) (liftS (Zq K xs m) (pCelSetJ v i te)) :=
  PSw (ps_asg he (pg_sub (pe_var hN hv hd hcd) pe_int set_list) hs hw h1) fun D σ H ⟨W0, H0, W, ρ, E, h0, e, S, t, D1⟩ => by
    unfold pCelSetJ at t
    split at t
    · rename_i z
      refine ⟨W, H0, ρ, _, e.holds, S, t, fun W1 H1 y p e1 d1 t1 => ?_⟩
      cases d1 with
      | int b =>
        obtain ⟨u, h1, h2⟩ := (S.ext e1).val v _ z
        refine ⟨u, h1, ?_⟩
        cases h2 with
        | @cel a hm =>
          obtain ⟨o, ho, a', c, s, d, rfl, da, hl, c0, s0, k0, k1⟩ := e1.holds.cel _ hm
          obtain ⟨hc, b0, t1⟩ := t1
          rcases hc with rfl | rfl
          · have ew := Ext.wrJ (o := .lst [.ref a', .int b, .int s, .int d]) (Nat.le_refl m) e1.holds hm ⟨a', b, s, d, rfl, da, hl, b0, s0, k0, k1⟩
            exact ⟨a, _, 1, 1, rfl, rfl, ho, rfl, D1.nx W1 _ σ ρ ((e.trans h0 e1).trans h0 ew) (e1.lt.trans ew.lt) ((S.ext e1).ext ew) t1⟩
          · have ew := Ext.wrJ (o := .lst [.ref a', .int c, .int b, .int d]) (Nat.le_refl m) e1.holds hm ⟨a', c, b, d, rfl, da, hl, c0, b0, k0, k1⟩
            exact ⟨a, _, 2, 2, rfl, rfl, ho, rfl, D1.nx W1 _ σ ρ ((e.trans h0 e1).trans h0 ew) (e1.lt.trans ew.lt) ((S.ext e1).ext ew) t1⟩
      | _ => exact t1.elim
    · exact t.elim
/-- pool[3] = pool[3] + 1 -/
def pIncJ (v : Nat) : PTS := fun E ρ => match ρ[v]? with
  | some (.val .cel) => E.nx ρ
  | _ => False
theorem qs_incJ {v : Nat} {x : Str} {k k2 k3 : Nat} {px px2 pi pi2 p3 p4 p5 pos' pos : Pos} (hN : X.N[v]? = some x := by rfl) (hv : Vis X.env.scope x := by first | exact .inl rfl | exact .inr (.inl rfl) | exact .inr (.inr rfl)) (hd : (x == ("__debug__" : Str)) = false := by decide) (hcd : (x == ("__classdict__" : Str)) = false := by decide)
    (hs : swapsWithSole [.Subscript (.Name x px) (.Constant (.int 3) k pi) pos'] (.BinOp (.Subscript (.Name x px2) (.Constant (.int 3) k2 pi2) p3) .Add (.Constant (.int 1) k3 p4) p5) pos.line X.env = pure false := by rfl) (hw : swappedStores [.Subscript (.Name x px) (.Constant (.int 3) k pi) pos'] (.BinOp (.Subscript (.Name x px2) (.Constant (.int 3) k2 pi2) p3) .Add (.Constant (.int 1) k3 p4) p5) X.env = pure none := by rfl)
    (h1 : List.map (fun x => x.snd) (assignEach [.Subscript (.Name x px) (.Constant (.int 3) k pi) pos'] X.env) = [assign (.Subscript (.Name x px) (.Constant (.int 3) k pi) pos') X.env] := by rfl) :
    PS X (.Assign [.Subscript (.Name x px) (.Constant (.int 3) k pi) pos'] (.BinOp (.Subscript (.Name x px2) (.Constant (.int 3) k2 pi2) p3) .Add (.Constant (.int 1) k3 p4) p5) pos) (liftS2 (famJ K xs) m (m + 1) (pIncJ v)) :=
  PSw (ps_asg (pe_op op_add (pe_ix ix_seq (pe_var hN hv hd hcd) pe_int (fun _ _ => rfl)) pe_int) (pg_sub (pe_var hN hv hd hcd) pe_int set_list) hs hw h1) fun D σ H ⟨W0, H0, W, ρ, E, h0, e, S, t, D1⟩ => by
    unfold pIncJ at t
    split at t
    · rename_i z
      obtain ⟨u, h1, h2⟩ := S.val v _ z
      refine ⟨u, h1, ?_⟩
      cases h2 with
      | @cel a hm =>
        obtain ⟨o, ho, a', c, s, d, rfl, da, hl, c0, s0, k0, k1⟩ := e.holds.cel _ hm
        have ew := Ext.wrJ (n := m + 1) (o := .lst [.ref a', .int c, .int s, .int (d + 1)]) (Nat.le_succ m) e.holds hm ⟨a', c, s, d + 1, rfl, da, hl, c0, s0, by omega, by omega⟩
        refine .inl ⟨_, _, _, _, rfl, rfl, .of ho, rfl, ?_⟩
        refine ⟨_, _, rfl, rfl, _, h1, ?_⟩
        exact ⟨a, _, 3, 3, rfl, rfl, ho, rfl, D1.nx W _ σ ρ (e.thenq (Nat.le_refl m) (Nat.le_succ m) h0 ew) ew.lt ((S.toq (n := m + 1)).ext ew) t⟩
    · exact t.elim
/-- [numbers, 0, 0, 0], shared from here on -/
def pNewCelJ (xs : List Int) (ta : PTA) : PTE := fun ρ Q => ta ρ fun ps => match ps with
  | [.lst l, .int 0, .int 0, .int 0] => l = xs.map PV.int ∧ xs.length ≤ 63 ∧ Q .cel
  | _ => False
theorem DatL.intsJ {W : Wd} : ∀ {vs : List V} {xs : List Int}, DatL K W vs (xs.map PV.int) → vs = xs.map V.int
  | _, [], .nil => rfl
  | _, x :: xs, .cons d t => by
    cases d
    exact congrArg (V.int x :: ·) (DatL.intsJ (xs := xs) t)
theorem Ext.newJ {W : Wd} {H : Hp} {p : Addr} {o : HO} (h : Holds (Zq K xs m) W H) (np : H p = none) (i : PoolJ xs m W.D o) : Ext (Zq K xs m) W H ⟨W.D, fun a => W.M a ∨ a = p⟩ (upd H p o) where
  holds :=
    { sub := (h.put np).sub
      cel := fun a q => by
        by_cases c : a = p
        · subst c; exact ⟨o, upd_same, i⟩
        · exact (h.put np).cel a (q.resolve_right c)
      dis := fun a q => by
        rcases q with q | q
        · exact h.dis a q
        · rw [q]; exact h.new np }
  le := ⟨fun _ _ e => e, fun _ m => .inl m⟩
  base := fun a u q _ _ => by rw [upd_ne (ne_of_none q np)]; exact q
  fr := fun _ _ q => .inl q
  frM := fun a q => by
    rcases q with q | q
    · exact .inl q
    · exact .inr (by rw [q]; exact np)
  fz := fun a o u q => by rw [upd_ne (ne_of_none q np)]; exact q
theorem q_newCelJ {es : List Expr} {pos : Pos} {t : PTA} (h : PA X es (liftA (Zq K xs m) t)) : PE X (.List es pos) (lift (Zq K xs m) (pNewCelJ xs t)) :=
  PEw (pe_lst h) fun σ H Q ⟨W, H0, ρ, Qp, hh, S, t, q⟩ =>
    ⟨W, H0, ρ, _, hh, S, t, fun W1 H1 vs ps e1 d1 t1 => by
      split at t1
      · obtain ⟨rfl, hl, t1⟩ := t1
        cases d1 with
        | cons d1 d2 => cases d2 with
          | cons d2 d3 => cases d3 with
            | cons d3 d4 => cases d4 with
              | cons d4 d5 =>
                cases d2; cases d3; cases d4; cases d5
                cases d1 with
                | @lst a ys _ ha r =>
                  cases DatL.intsJ r
                  exact ⟨by rw [sizeLine_eq]; exact Nat.le_of_ble_eq_true rfl, fun p np => q _ _ _ _ (e1.trans hh (Ext.newJ (o := .lst [.ref a, .int 0, .int 0, .int 0]) e1.holds np ⟨a, 0, 0, 0, rfl, ha, hl, by omega, by omega, by omega, by omega⟩)) (.cel (.inr rfl)) t1⟩
      · exact t1.elim⟩

variable {F : Fam}
/-! ### loops -/
def liftI2 (F : Fam) (m n : Nat) (t : PTI) : TI := fun σ H R => ∃ W H0 ρ Qp, Holds (F.at m) W H ∧ Slots (F.at m) W H0 H σ ρ ∧ t ρ Qp ∧ ∀ W' H' J l, Ext (F.at n) W H W' H' → (∀ i, Serves (F.at i) W' H' J l) → Qp l → R J H'
theorem qi2_range1 {tg a : Expr} {ta : PTA} {p pos : Pos} (hm : X.mg "range" = none) (ha : PA X [a] (liftA2 F m n ta)) (hg : Gl X "range" := by rfl) (hs : starEach [a] X.env = [(false, eval a X.env)] := by rfl) : PI X tg (.Call (.Name "range" p) [a] [] pos) (liftI2 F m n (pR1 ta)) :=
  PIw (pi_range1 hg hm ha hs) fun σ H R ⟨W, H0, ρ, Qp, hh, S, t, q⟩ => by
    refine ⟨W, H0, ρ, _, hh, S, t, fun W1 H1 vs ps e1 d1 t1 => ?_⟩
    match ps, d1, t1 with
    | [.int j], .cons (.int _) .nil, t1 => exact ⟨j, rfl, t1.1, t1.2.1, q W1 H1 _ _ e1 (fun i => serves_rng 0 j.toNat) t1.2.2⟩
theorem qi2_list {tg e : Expr} {te : PTE} (he : PE X e (lift2 F m n te)) (hK : X.K = F.K := by rfl) : PI X tg e (liftI2 F m n (pIL te)) :=
  PIw (pi_list he) fun σ H R ⟨W, H0, ρ, Qp, hh, S, t, q⟩ => by
    refine ⟨W, H0, ρ, _, hh, S, t, fun W1 H1 v p e1 d1 t1 => ?_⟩
    cases d1 with
    | lst ha r => exact ⟨_, rfl, ⟨_, .of (e1.holds.ex ha fun z => z)⟩, q W1 H1 _ _ e1 (fun i => serves_sq (Z := F.at i) hK (fun W2 H2 le h2 => .of (h2.ex (le.d _ _ ha) fun z => z)) r) t1⟩
    | frz ha r => exact ⟨_, rfl, ⟨_, by rw [hK]; exact SqL.holds e1.holds ha⟩, q W1 H1 _ _ e1 (fun i => serves_sq (Z := F.at i) hK (fun W2 H2 le h2 => by rw [hK]; exact SqL.holds h2 (SqL.monoD le.d ha)) r) t1⟩
    | _ => exact t1.elim
/-- a loop of at most R turns -/
def pForR (R : Nat) (ti : PTI) (g : PTG) (tb : PTS) : PTS := fun E ρ => ti ρ fun l => l.length ≤ R ∧ pForL g tb E l ρ
theorem for2_of {R b : Nat} {ti : PTI} {ws : List Nat} {g : PTG} {tb : PTS} (l1 : m ≤ j) (l2 : j + R * b ≤ n) (D : Ends) (σ : L2.St) (H : Hp) (h : liftS2 F m n (pForR R ti g tb) D σ H) :
    tFor (liftI2 F m j ti) (fun v σ H Q => ∃ i, liftG (F.at i) ws g v σ H Q) (fun D σ H => ∃ k, k < R ∧ liftS2 F (j + k * b) (j + (k + 1) * b) tb D σ H) D σ H := by
  obtain ⟨W0, H0, W, ρ, E, h0, e, S, t, D1⟩ := h
  refine ⟨W, H0, ρ, _, e.holds, S, t, fun W1 H1 J l e1 sv ⟨hR, t1⟩ => ?_⟩
  have D2 := D1.up e1.lt
  have mono : ∀ i, i ≤ R → j + i * b ≤ n := fun i hi => Nat.le_trans (Nat.add_le_add_left (Nat.mul_le_mul_right b hi) j) l2
  refine ⟨fun i q σ' H' => q = l.length - i ∧ i ≤ l.length ∧ ∃ W' ρ', Ext (F.at (j + i * b)) W0 H0 W' H' ∧ Lt W1 H1 W' H' ∧ Slots (F.at (j + i * b)) W' H0 H' σ' ρ' ∧ pForL g tb E (l.drop i) ρ', ⟨l.length, rfl, Nat.zero_le _, W1, ρ, by rw [Nat.zero_mul]; exact e.thenq (Nat.le_refl m) l1 h0 e1, .refl W1 H1, (S.toq (n := j)).ext e1 |>.toq, t1⟩, ?_⟩
  rintro i q σ' H' ⟨rfl, hi, W', ρ', e', le', S', t'⟩
  have sv' := sv (j + i * b) W' H' le' e'.holds
  by_cases hlt : i < l.length
  · have g1 := sv'.2 i l[i] (by simp [hlt])
    rw [drop_cons hlt] at t'
    have hk : i < R := Nat.lt_of_lt_of_le hlt hR
    refine .inr ⟨g1.1, fun σ2 H2 => i < l.length ∧ ∃ W2 ρ2, Ext (F.at (j + (i + 1) * b)) W0 H0 W2 H2 ∧ Lt W1 H1 W2 H2 ∧ Slots (F.at (j + (i + 1) * b)) W2 H0 H2 σ2 ρ2 ∧ pForL g tb E (l.drop (i + 1)) ρ2, ?_, fun x H2 y => ?_⟩
    · rintro σ2 H2 ⟨_, W2, ρ2, a, b, c, d⟩
      exact ⟨l.length - (i + 1), by omega, rfl, hlt, W2, ρ2, a, b, c, d⟩
    · obtain ⟨W2, e2, d2⟩ := g1.2 x H2 y
      have lj : m ≤ j + i * b := Nat.le_trans l1 (Nat.le_add_right _ _)
      have E2 := e'.trans (h0.upq lj) e2
      have hn := mono (i + 1) hk
      refine ⟨j + i * b, W2, H0, ρ', l[i], _, e2.holds, S'.ext e2, d2, t', fun σ3 ρ3 o3 S3 t3 => ?_⟩
      have D3 := D2.dnq hn
      refine ⟨i, hk, W0, H0, W2, ρ3, _, h0.upq lj, E2, S3, t3, ⟨fun W4 H4 σ4 ρ4 e4 le4 S4 t4 => ⟨hlt, W4, ρ4, e4, (le'.trans e2.lt).trans le4, S4, t4⟩, D3.rt, fun W4 H4 σ4 ρ4 e4 le4 S4 t4 => D3.nx W4 H4 σ4 ρ4 e4 ((le'.trans e2.lt).trans le4) S4 t4, fun W4 H4 σ4 ρ4 e4 le4 S4 t4 => ⟨hlt, W4, ρ4, e4, (le'.trans e2.lt).trans le4, S4, t4⟩⟩⟩
  · have ei : i = l.length := by omega
    subst ei
    rw [List.drop_length] at t'
    exact .inl ⟨sv'.1 _ (Nat.le_refl _), (D2.dnq (mono _ hR)).nx W' H' σ' ρ' e' le' S' t'⟩
theorem qs2_for {R b : Nat} {tg iter : Expr} {body : List Stmt} {ti : PTI} {ws : List Nat} {g : PTG} {tb : PTS} {pos : Pos} (hi : PI X tg iter (liftI2 F m j ti)) (hg : ∀ i, PG X tg (liftG (F.at i) ws g)) (hb : ∀ k, k < R → PSs X body (liftS2 F (j + k * b) (j + (k + 1) * b) tb)) (l1 : m ≤ j := by omega) (l2 : j + R * b ≤ n := by omega) (hp : PassesOwn (model X.prog X.w) X.A X.env X.xe := by exact PassesOwn.never)
    (hc : X.calm = true := by rfl) (hs : ∀ x, foldedSetIterable iter X.env x = pure x := by intro _; rfl) : PS X (.For tg iter body [] pos) (liftS2 F m n (pForR R ti g tb)) :=
  PSw (ps_for hp hc hi (g := fun v σ H Q => ∃ i, liftG (F.at i) ws g v σ H Q) ⟨fun pins s σ H v u Q I r ⟨i, q⟩ => (hg i).run pins s σ H v u Q I r q⟩ (tb := fun D σ H => ∃ k, k < R ∧ liftS2 F (j + k * b) (j + (k + 1) * b) tb D σ H) ⟨fun pins s σ H D I ⟨k, hk, q⟩ => (hb k hk).run pins s σ H D I q⟩ hs) (for2_of l1 l2)

/-! ### own things -/
theorem qs2_frz {st : Stmt} {t : PTS} (i : Nat) (h : PS X st (liftS2 F m n t)) : PS X st (liftS2 F m n (pFrz i t)) :=
  PSw h fun D σ H ⟨W0, H0, W, ρ, E, h0, e, S, t, D1⟩ => by
    unfold pFrz at t
    split at t
    · rename_i q z
      obtain ⟨W1, le, e1, S1⟩ := own_frz h0 e S z
      exact ⟨W0, H0, W1, _, E, h0, e1, S1, t, D1.up ⟨le, fun _ _ _ h => h⟩⟩
    · exact ⟨W0, H0, W, ρ, E, h0, e, S, t, D1⟩
theorem qs2_append {i : Nat} {x : Str} {e : Expr} {te : PTE} {px apos pos pos2 : Pos} (he : PE X e (lift2 F m n te)) (l : m ≤ n := by omega) (hi : X.N[i]? = some x := by rfl) (hv : Vis X.env.scope x := by first | exact .inl rfl | exact .inr (.inl rfl) | exact .inr (.inr rfl))
    (hd : (x == ("__debug__" : Str)) = false := by decide) (hcd : (x == ("__classdict__" : Str)) = false := by decide)
    (hbase : attributeBase (.Name x px) "append" X.env (eval (.Name x px) X.env) = eval (.Name x px) X.env := by rfl)
    (hfew : ((backTo pos (starEach [e] X.env)).all (fun x => !x.1) && (backToKw pos (keywordEach [] X.env)).all (fun x => x.1.isSome)
      && decide (([e] : List Expr).length + ([] : List Keyword).length + (if ([] : List Keyword).isEmpty then 0 else 1) < 30)) = true := by rfl)
    (hline : (apos.endLine == pos.line) = true := by rfl) (hs1 : starEach [e] X.env = (false, eval e X.env) :: starEach [] X.env := by rfl) (hplain : (backTo pos (starEach [] X.env)).any (·.1) = false := by rfl)
    (hs : swapsWith (.Call (.Attribute (.Name x px) "append" apos) [e] [] pos) none pos2.line X.env = pure false := by rfl) :
    PS X (.Expr (.Call (.Attribute (.Name x px) "append" apos) [e] [] pos) pos2) (liftS2 F m n (pApp i te)) :=
  PSw (ps_expr (pe_bm PySem.F.plainAttrs_list PySem.F.slot_list_append PySem.F.type_list_append mt_append (pe_var hi hv hd hcd) (pa_cons he pa_nil hs1) hbase hfew hline hs1 hplain) hs) fun D σ H ⟨W0, H0, W, ρ, E, h0, e, S, t, D1⟩ => by
    unfold pApp at t
    split at t
    · rename_i l' z
      obtain ⟨a, h1, ⟨xs, ha, r⟩, h3, h4, h5⟩ := S.own i _ z
      refine ⟨_, h1, .inl ⟨rfl, xs, .of ha⟩, W, H0, ρ, _, e.holds, S, t, fun W1 H1 v p e1 d1 t1 => ?_⟩
      obtain ⟨b, g1, ⟨ys, hb, r1⟩, g3, g4, g5⟩ := ((S.toq (n := n)).ext e1).own i _ z
      rw [h1] at g1
      cases g1
      refine ⟨a, ys, v, rfl, rfl, hb, by rw [r1.length]; exact t1.1, ?_⟩
      have E1 := e.thenq (Nat.le_refl m) l h0 e1
      exact D1.nx W1 _ _ _ (E1.wr g4 g5 g3) (e1.lt.wr fun p u z => by rw [hb] at z; cases z) (((S.toq (n := n)).ext e1).wr (p := .lst (l' ++ [p])) z h1 ⟨_, upd_same, r1.append (.one d1)⟩) t1.2
    · exact t.elim

/-! ### defs -/
theorem okP2 {P : Program} {w : World} {mg : Str → Option Value} {base : Heap} {x qual : Str} {params : Arguments} {body : List Stmt} {scope : Scope} {dvs : List V} {kws : List (Str × V)} {f : Addr} {fd : FuncData} {N ps : List Str} {k : Nat} {t : PTS} {Φ : Con}
    (Fd : FunD F.K x qual params body scope dvs kws f fd) (S : FnScope N ps scope) (l : m ≤ n)
    (hb : ∀ (cdv : Value) (A : Around) (outer : List Env) (s : Shared) (H : Hp) (E : XK), Room k (A.deeper (envOfC qual scope s.heap.objs.size f cdv)) → PSs (cxOf CX0 P w F.K mg base N qual scope f cdv A outer s H E).nox body (liftS2 F m n t))
    (hp : ∀ as Q, Φ as Q → as.length = ps.length ∧ t ⟨fun _ => Q .non, Q, fun _ => False, fun _ => False⟩ (startP N as)) : FnOk P w F.K mg base CX0 (k + 1) f fd ps (spP2 F m n Φ) := by
  refine Fd.ok S (fun vs H Q E ⟨W, as, Qp, hh, d, φ, q⟩ => ?_) (fun cdv A outer s H vs Q E hr ⟨W, as, Qp, hh, d, φ, q⟩ => ⟨_, (hb cdv A outer s H E hr).nox, ?_⟩)
  · rw [d.length]; exact (hp as Qp φ).1
  · exact ⟨W, H, W, _, _, hh, .refl hh, slots_start d, (hp as Qp φ).2, ⟨fun W' H' σ' ρ' e le S' t' => q W' H' _ _ e .non t', fun W' H' v p e d' t' => q W' H' v p e d' t', fun _ _ _ _ _ _ _ z => z.elim, fun _ _ _ _ _ _ _ z => z.elim⟩⟩
end L3

/-! ## XB -/
/-! Own exception classes over any built-in one, whose __init__ calls the base's and stores one field. -/
namespace L3X
open PySem PySem.Spec PyProof.Rows L2 PySem.W PySem.Calls PySem.HandSPX
/-- own classes, then a built-in class's row tl -/
def ownThen (tl : List Value) : List Value → Bool
  | [] => tl == []
  | a :: r => (a :: r == tl) || (match a with
    | .ref _ => ownThen tl r
    | _ => false)
structure ExB (T N I : String) (tl : List Value) : Prop where
  base : ExcBaseFacts T N I tl
  pass : ∀ self : Value, refuseLoop self "__setattr__" tl = pure ()
  obj : tl.contains (.type "object") = true
  ty : typeOf (.type T) = pure (.type "type")
theorem exb_Lookup : ExB "LookupError" "LookupError.__new__" "LookupError.__init__" [.type "LookupError", .type "Exception", .type "BaseException", .type "object"] :=
  ⟨PySem.F.excBase_LookupError, PySem.F.store_LookupError.passes, by decide +kernel, by kernel_rfl⟩
theorem exb_Runtime : ExB "RuntimeError" "RuntimeError.__new__" "RuntimeError.__init__" [.type "RuntimeError", .type "Exception", .type "BaseException", .type "object"] :=
  ⟨PySem.F.excBase_RuntimeError, PySem.F.store_RuntimeError.passes, by decide +kernel, by kernel_rfl⟩
section
variable {T N I : String} {tl : List Value}
theorem own_cases : ∀ {l : List Value}, ownThen tl l = true → l = tl ∨ ∃ c r, l = .ref c :: r ∧ ownThen tl r = true
  | [], e => .inl (beq_iff_eq.mp e).symm
  | a :: r, e => by
    unfold ownThen at e
    rcases Bool.or_eq_true_iff.mp e with e | e
    · exact .inl (beq_iff_eq.mp e)
    · cases a with
      | ref c => exact .inr ⟨c, r, rfl, e⟩
      | _ => cases e
theorem own_pass (F : ExB T N I tl) (self : Value) : ∀ l : List Value, ownThen tl l = true → refuseLoop self "__setattr__" l = pure ()
  | [], e => by
    rcases own_cases e with q | ⟨c, r, q, _⟩
    · rw [q]; exact F.pass self
    · cases q
  | a :: r, e => by
    rcases own_cases e with q | ⟨c, r', q, h⟩
    · rw [q]; exact F.pass self
    · obtain ⟨rfl, rfl⟩ := List.cons.inj q
      rw [refuseLoop_ref]
      exact own_pass F self r h
theorem own_contains (X : String) : ∀ l : List Value, ownThen tl l = true → l.contains (.type X) = tl.contains (.type X)
  | [], e => by
    rcases own_cases e with q | ⟨c, r, q, _⟩
    · rw [q]
    · cases q
  | a :: r, e => by
    rcases own_cases e with q | ⟨c, r', q, h⟩
    · rw [q]
    · obtain ⟨rfl, rfl⟩ := List.cons.inj q
      rw [List.contains_cons, own_contains X r h]
      rfl
end
/-- what the written part says of such a class -/
structure OxC (K : PySem.W.Frag) (Nw : String) (tl : List Value) (C : Addr) : Prop where
  cls : ∃ nm q N bs bm sn sub ab col dd k0 k1 k2 k3 k5, K.lookup C = some (excClassObj nm q C N bs bm true sn sub ab col dd k0 k1 k2 k3 k5 Nw) ∧ ownThen tl bm = true
  sa : PySem.W.findIn K (.ref C) "__setattr__" = some (some (.builtin "object.__setattr__"))
  exC : PySem.W.subIn K (.ref C) (.type "BaseException") = some true
  tyC : PySem.W.typeIn K (.ref C) = some (.type "type")
  kC : PySem.W.keepIn K (.ref C) = true
section
open Builtin Builtin.ObjectAttr
variable {prog : Program} {w : World} {A : Around} {E : Value → Shared → Prop} {R : Result → Shared → Prop} {hp : Heap} {g : Array GenState} {d : Drawn} {t : Nat} {os : OsState} {T N I : String} {tl : List Value}
theorem osa_first (FB : ExB T N I tl) {K : W.Frag} {name : Str} {tk : Tok} {v : Value} {x C : Addr} {fv : Array Value} {cd : ClassData}
    (X : K.In hp) (hx : hp.get? x = some { cls := .ref C, data := .fields fv }) (hcd : W.clsIn K C = some cd) (hm : ownThen tl cd.mro = true) (nem : cd.mro.isEmpty = false) (hh : cd.hasDict = true) (ha : W.findIn K (.ref C) name = some none)
    (hq : ∀ h' tk' dx, (∀ b o, b ≠ x → hp.get? b = some o → h'.get? b = some o) → hp.objs.size ≤ dx → dx ≠ x → h'.get? x = some { cls := .ref C, dict := some dx, data := .fields fv } →
      h'.Ns1 dx (fun y => if y = name then some v else none) → R (.ok (.ret .none)) ⟨h', g, d, tk', os⟩) :
    codeAny (model prog w) A (.call (.builtin "object.__setattr__") ⟨[.ref x, .str name tk, v], []⟩) R ⟨hp, g, d, t, os⟩ := by
  have J : W.InstAt hp x { cls := .ref C, data := .fields fv } C none := ⟨hx, rfl, rfl, trivial⟩
  have SF := F.store_object
  have hob : cd.mro.contains (.type "object") = true := (own_contains "object" _ hm).trans FB.obj
  have hxs : x ≠ hp.objs.size := Nat.ne_of_lt (Heap.lt_size hx)
  have sub : W.Looks (model prog w) hp (isInstance (.ref x) (.type "object")) true := J.type.andThen (W.looks_mroIn X (by unfold W.mroIn; rw [hcd, Option.bind_some, if_neg (by rw [nem]; decide), hob]))
  refine codeAny_call_builtin SF.slot.plain SF.entry (@W.check_slot (model prog w) _ _ ⟨hp, g, d, t, os⟩ "object.__setattr__" "object" "__setattr__" (.ref x) [.str name tk, v] [] _ SF.kind SF.split sub (SF.args (.ref x) (.str name tk) v) ?_)
  have hmr : W.Looks (model prog w) hp (mroOf (.ref C)) cd.mro := (W.looks_clsIn X hcd).andThen .now
  have L3 : W.Looks (model prog w) hp (storeTaker? none) none := .now
  have hcls : W.Looks (model prog w) hp (classData C) cd := W.looks_clsIn X hcd
  rw [W.osa_eq, refuse_eq]
  refine wpAny_bind (wpAny_bind (J.type.at (wpAny_bind (hmr.at ?_))))
  rw [own_pass FB _ _ hm]
  refine wpAny_pure (wpAny_bind (J.type.at (wpAny_bind ((W.looks_findIn X ha).at (wpAny_bind (L3.at ?_))))))
  show wpAny _ _ (storeInOwnDict (.ref x) (.ref C) (.str name tk) name v false) _ _ _
  obtain ⟨nm, bs, mro, ns, qn, hd, sn, sb, ab, col, del⟩ := cd
  dsimp only at hh
  subst hh
  unfold storeInOwnDict ownDictForStores
  repeat (first | with_reducible refine store_in_new ?_ ?_ | with_reducible refine wpAny_loadPart_at hx ?_ | with_reducible refine hcls.at ?_ | wp_step)
  · exact ⟨_, #[], _, (Heap.get?_update_ne _ _ _ _ hxs.symm).trans (Heap.get?_push_at rfl rfl), rfl, fun e he => absurd he (by simp), fun _ => rfl⟩
  · intro h' tk' hn' hs
    have hx₁ : (hp.push { cls := .type "dict", data := .dict #[] }).get? x = some { cls := .ref C, data := .fields fv } := Heap.get?_push_of_some _ hx
    refine hq h' tk' hp.objs.size (fun b o hb ho => ?_) (Nat.le_refl _) hxs.symm ?_ hn'
    · exact (hs.2 b (Nat.ne_of_lt (Heap.lt_size ho))).trans ((Heap.get?_update_ne _ _ _ _ hb).trans (Heap.get?_push_of_some _ ho))
    · exact (hs.2 x hxs).trans (Heap.get?_update_self _ hx₁ rfl)
end
/-! ### in the walk -/
section
variable {X : Cx} {pins : List (Addr × Obj)} {σ : L2.St} {H : Hp} {s : Shared} {a C dx : Addr} {f : Str} {y : V} {u : Value} {fs : List (Str × V)} {Q : Unit → Shared → Prop} {E : Value → Shared → Prop} {A : Around} {T N I : String} {tl : List Value}
theorem ost_first (FB : ExB T N I tl) (O : OxC X.K N tl C) (J : Inv X pins σ H s) (e : H a = some (exo a C none)) (hno : PySem.W.findIn X.K (.ref C) f = some none) (ry : RelV y u)
    (h : ∀ dx s', H dx = none → dx ≠ a → Inv X pins σ (upd (upd H dx (exd dx [(f, y)])) a (exo a C (some dx))) s' → Q () s') : wpAny (model X.prog X.w) A (setAttr (.ref a) f u) Q E s := by
  obtain ⟨nm, q, Ns, bs, bm, sn, sub, ab, col, dd, k0, k1, k2, k3, k5, hC, hbm⟩ := O.cls
  have hcl : PySem.W.clsIn X.K C = some { name := nm, bases := bs, mro := .ref C :: bm, ns := Ns, qualname := q, hasDict := true, slotNames := sn, subclasses := sub, abstract := ab, collection := col, hasDel := false } := by unfold PySem.W.clsIn; rw [hC] <;> rfl
  obtain ⟨t1, ho⟩ := exo_at J.hok e
  obtain ⟨hp, g, d, t, os⟩ := s
  have hown : ownThen tl (.ref C :: bm) = true := by
    unfold ownThen
    exact Bool.or_eq_true_iff.mpr (.inr hbm)
  refine PySem.W.set_plain J.kIn (ox := { cls := .ref C, dict := none, data := .fields #[.ref t1, .none, .none, .none, .bool false, .none] }) (od := none) ⟨ho, rfl, rfl, trivial⟩ O.sa ?_
  refine osa_first FB J.kIn ho hcl hown rfl rfl hno (fun h' tk' dx k dn dne hx hn => ?_)
  have hnd : H dx = none := J.hok.fresh dn
  have nd : ∀ {b : Addr} {o : Obj}, hp.get? b = some o → b ≠ dx := fun {b o} q => Nat.ne_of_lt (Nat.lt_of_lt_of_le (Heap.lt_size q) dn)
  have na : ∀ {b : Addr}, H b = none → b ≠ a := fun {b} n z => by
    rw [z, e] at n
    cases n
  have Un1 : Un X.fs [] H (upd (upd H dx (exd dx [(f, y)])) a (exo a C (some dx))) hp h' := {
    keep := fun b o q n _ _ => k b o (na n) q
    slot := fun b o q n _ _ => ⟨o.slots, k b o (na n) q⟩
    free := fun b o q n _ => by rw [upd_ne (na n), upd_ne (nd q)]; exact n
    there := fun b o q _ => by
      by_cases hb : b = a
      · exact ⟨_, by rw [hb]; exact hx⟩
      · exact ⟨o, k b o hb q⟩
    tups := fun b xs q => by rw [upd_ne (at_ne e q exo_tup), upd_ne (ne_of_none q hnd)]; exact q
    frzs := fun b o v q => by rw [upd_ne (at_ne e q exo_frz), upd_ne (ne_of_none q hnd)]; exact q
    tbls := fun b ps q => ⟨#[], by rw [upd_ne (at_ne e q exo_tbl), upd_ne (ne_of_none q hnd), q]; simp⟩ }
  refine h dx _ hnd dne (J.un (t' := tk') Un1 fun b o q => ?_)
  by_cases hb : b = a
  · subst hb
    rw [upd_same] at q
    cases q
    exact exo_ok hx
  · rw [upd_ne hb] at q
    by_cases hd : b = dx
    · subst hd
      rw [upd_same] at q
      cases q
      exact exd_ok hn (relO_put (fs := []) ry fun g => True.intro)
    · rw [upd_ne hd] at q
      exact (J.hok b o q).stay (fun c v hc z => k c v (by
          rcases hc with hc | hc
          · rw [hc]
            exact hb
          · exact at_ne e hc exo_own) z)
        (fun c hc => by rw [upd_ne (at_ne e hc exo_own), upd_ne (ne_of_none hc hnd)]; exact hc) (fun c xs hc => by rw [upd_ne (at_ne e hc exo_tup), upd_ne (ne_of_none hc hnd)]; exact hc)
theorem binit_ok (FB : ExB T N I tl) {us : List Value} {Q : Value → Shared → Prop} (O : OxC X.K N tl C) (J : Inv X pins σ H s) (e : H a = some (exo a C none)) (hl : us.length ≤ sizeLine) (h : ∀ s', Inv X pins σ H s' → Q .none s') :
    wpAny (model X.prog X.w) A (call (.builtin I) (.ref a :: us)) Q E s := by
  obtain ⟨nm, q, Ns, bs, bm, sn, sub, ab, col, dd, k0, k1, k2, k3, k5, hC, hbm⟩ := O.cls
  obtain ⟨t1, ho⟩ := exo_at J.hok e
  obtain ⟨hp, g, d, t, os⟩ := s
  refine wpAny_call (PySem.HandSPX.init_base FB.base (fun Y => own_contains Y bm hbm) (J.kIn _ _ hC) ho hl fun h' t2 k hx => ?_)
  have J2 := J.write (t' := t) (x := a) (e := a) (o := exo a C none) (by rw [e]; exact True.intro) (.inl rfl) k ⟨_, hx⟩ (exo_ok hx)
  have eu : upd H a (exo a C none) = H := by
    funext b
    by_cases hb : b = a
    · rw [hb, upd_same, e]
    · rw [upd_ne hb]
  rw [eu] at J2
  exact h _ J2
end
/-- T.__init__(self, ..) -/
def tBI (K : PySem.W.Frag) (N : String) (tl : List Value) (ta : TA) : TE := fun σ H Q => ta σ H fun vs H1 => ∃ (a C : Addr) (ws : List V), vs = .ref a :: ws ∧ ws.length ≤ 1000 ∧ OxC K N tl C ∧ H1 a = some (exo a C none) ∧ Q .non H1
/-- self.f = e, the first field -/
def tOf1 (K : PySem.W.Frag) (N : String) (tl : List Value) (f : Str) (to te : TE) : TS := fun D σ H => te σ H fun y H1 => to σ H1 fun x H2 => ∃ a C : Addr, x = .ref a ∧ OxC K N tl C ∧ PySem.W.findIn K (.ref C) f = some none ∧
  H2 a = some (exo a C none) ∧ ∀ dx, H2 dx = none → dx ≠ a → D.nx σ (upd (upd H2 dx (exd dx [(f, y)])) a (exo a C (some dx)))
section
variable {X : Cx} {o e : Expr} {es : List Expr} {to te : TE} {ta : TA} {f : Str} {p p' p1 p2 pos : Pos} {T N I : String} {tl : List Value}
theorem pe_binit (FB : ExB T N I tl) {pl : Sem Bool} {x : Str} (hg : Gl X x) (hm : X.mg x = none) (hv : bootBuiltins x = some (.type T)) (hn : x ≠ "__name__" := by decide) (hdb : (x == ("__debug__" : Str)) = false := by decide) (vV : PySem.W.findCls X.K (.type T) (.type "type") "__init__" = some (.val (.builtin I))) (hhb : handedIn (Value.builtin I) = true := by decide +kernel) (hst : Manifest.isStub T = false := by decide +kernel) (ha : PA X (e :: es) ta)
    (hc : eval (.Call (.Attribute (.Name x p1) "__init__" p2) (e :: es) [] pos) X.env = (do
      let ov ← eval (.Name x p1) X.env
      standAt p2.atName
      let (f, first) ← holding [ov] (getMethod ov "__init__" pl)
      callWith pos f first (backTo pos (starEach (e :: es) X.env)) (backToKw pos (keywordEach [] X.env))) := by rfl)
    (he : starEach (e :: es) X.env = (false, eval e X.env) :: starEach es X.env := by rfl) (hpl : (backTo pos (starEach es X.env)).any (·.1) = false := by rfl) :
    PE X (.Call (.Attribute (.Name x p1) "__init__" p2) (e :: es) [] pos) (tBI X.K N tl ta) := by
  refine ⟨fun pins s σ H Q J h => ?_⟩
  refine PySem.W.methodCall_KW (ld_blt J hg hm hv ?_ hn hdb) hc
  obtain ⟨m, fr⟩ := J.fr
  refine PySem.W.method_type fr J.ok.mod.kin FB.ty hst vV hhb ?_
  show wpAny _ _ (callWith pos (Value.builtin I) [] (backTo pos (starEach (e :: es) X.env)) []) _ _ _
  refine PyProof.Rows.callWith_method1 (thn (ha.run pos pins _ σ H _ (J.tok _) h) fun us s1 ⟨vs, H1, I1, r1, a, C, ws, ev, hl, O, ea, q⟩ => ?_) he hpl
  subst ev
  cases r1 with
  | @cons _ u0 _ ur ra rw' =>
    obtain rfl : u0 = Value.ref a := ra
    have hlen : ur.length ≤ sizeLine := by
      rw [← Paired.length rw', sizeLine_eq]
      omega
    exact binit_ok FB O I1 ea hlen fun s' J => ⟨.non, H1, J, rfl, q⟩
theorem ps_of1 (FB : ExB T N I tl) (ho : PE X o to) (he : PE X e te) (hs : swapsWith e (some (.Attribute o f p')) pos.line X.env = pure false := by rfl) : PS X (.Assign [.Attribute o f p'] e pos) (tOf1 X.K N tl f to te) := by
  refine ⟨fun pins s σ H D J h => ?_⟩
  refine plainObj_wpAny_Assign_Attribute (thn (he.run pins s σ H _ J h) fun v s1 ⟨y, H1, I1, r1, q1⟩ => thn (ho.run pins s1 σ H1 _ I1 q1) fun u s2 ⟨x, H2, I2, r2, a, C, ex, O, hno, ea, q⟩ => ?_) hs
  subst ex
  obtain rfl : u = Value.ref a := r2
  exact ost_first FB O I2 ea hno r1 fun dx s' n ne J => ⟨σ, _, J, q dx n ne⟩
theorem pmk_ox (FB : ExB T N I tl) {CX : CXT} {x : Str} {C fI : Addr} {k : Nat} {fd : FuncData} {ps : List Str} {sp : Sp} {ds : List Value} {dvs : List V} (O : OxC X.K N tl C) (iC : PySem.W.findIn X.K (.ref C) "__init__" = some (some (.ref fI))) (tI : PySem.W.typeIn X.K (.ref fI) = some (.type "function"))
    (F1 : FnOk X.prog X.w X.K X.mg X.base CX k fI fd ps sp) (hr : Room (k + 1) X.A) (hb : Binds X.K fd ps ds) (hd : Vals dvs ds) (hx : Passes CX X (fun _ _ _ => False)) (hg : Gl X x) (hm : X.mg x = some (.ref C)) (ha : PA X (e :: es) ta)
    (hdb : (x == ("__debug__" : Str)) = false := by decide) (he : starEach (e :: es) X.env = (false, eval e X.env) :: starEach es X.env := by rfl) (hpl : (backTo pos (starEach es X.env)).any (·.1) = false := by rfl) :
    PMk X (.Call (.Name x p) (e :: es) [] pos) (tMkO C sp dvs ta) := by
  intro pins s σ H Q J h
  obtain ⟨nm, q, Ns, bs, bm, sn, sub, ab, col, dd, k0, k1, k2, k3, k5, hC, hbm⟩ := O.cls
  refine wpAny_Call_Name_kw (ld_glob J hg hm ?_ hdb)
  refine PySem.W.callWith_K (h₀ := X.base) J.ok.mod.kin O.kC (thn (ha.run pos pins s σ H _ J h) fun us s1 ⟨vs, H1, I1, r1, hz, q1⟩ => ⟨I1.kIn, ?_⟩) he hpl
  show wpAny _ _ (call (.ref C) us) _ _ _
  obtain ⟨hp, g, dr, tk, os⟩ := s1
  have hsz : hp.objs.size ≤ hp.objs.size + 1 := Nat.le_succ _
  have hn : H1 (hp.objs.size + 1) = none := I1.hok.fresh hsz
  have hq := q1 (hp.objs.size + 1) hn
  have kk : ∀ b o, hp.get? b = some o → ((hp.push (PySem.W.kdv_tup us)).push (PySem.HandSPX.excO C hp.objs.size)).get? b = some o := fun b o e => Heap.get?_push_of_some _ (Heap.get?_push_of_some _ e)
  have hget : ((hp.push (PySem.W.kdv_tup us)).push (PySem.HandSPX.excO C hp.objs.size)).get? (hp.objs.size + 1) = some (PySem.HandSPX.excO C hp.objs.size) := by heap_get
  have I2 : Inv X pins σ (upd H1 (hp.objs.size + 1) (exo (hp.objs.size + 1) C none)) ⟨(hp.push (PySem.W.kdv_tup us)).push (PySem.HandSPX.excO C hp.objs.size), g, dr, tk, os⟩ :=
    I1.laid (t' := tk) (a := hp.objs.size + 1) (o := exo (hp.objs.size + 1) C none) (h' := (hp.push (PySem.W.kdv_tup us)).push (PySem.HandSPX.excO C hp.objs.size)) kk hsz (exo_ok hget)
  have r2 : Vals (V.ref (hp.objs.size + 1) :: (vs ++ dvs)) (Value.ref (hp.objs.size + 1) :: (us ++ ds)) := .cons rfl (r1.append hd)
  have hl : (Value.ref (hp.objs.size + 1) :: us ++ ds).length = ps.length := by
    have e := r2.length
    rw [F1.len _ _ _ _ hq] at e
    exact e.symm
  have hus : us.length ≤ sizeLine := by
    rw [← Paired.length r1, sizeLine_eq]
    omega
  refine wpAny_call (PySem.HandSPX.call_own FB.base (fun Y => own_contains Y bm hbm) (I1.kIn _ _ hC) (PySem.W.looks_findIn I1.kIn iC) (fun self => PySem.W.bind_fn I1.kIn self tI) hus
    (codeAny_mono (F1.run _ X.stack _ _ ⟨Value.ref (hp.objs.size + 1) :: us, []⟩ (Value.ref (hp.objs.size + 1) :: (us ++ ds)) _ _ (fun _ _ _ => False) (hr.make C us []) (I2.env0.make C us []) (hb _ (Value.ref (hp.objs.size + 1) :: us) I2.kIn hl) r2 hq) fun r s' hq' => ?_))
  cases r with
  | error er => exact hx pins σ _ _ er s' I2 hq'
  | ok fl =>
    cases fl with
    | ret u =>
      obtain ⟨v, H2, os2, bare2, un2, hok2, rv, ev, d, fs, ea, ed, hd1, q2⟩ := hq'
      subst ev
      obtain ⟨h2, g2, d2, t2, os'⟩ := s'
      exact ⟨rv, mk_end (raises_own O.exC O.tyC) I1 hsz kk un2 hok2 os2 bare2 ea ed hd1 q2⟩
    | next => exact False.elim hq'
    | brk => exact False.elim hq'
    | cont => exact False.elim hq'
end
end L3X

/-! ## L3X -/
/-! Exceptions over pure values: defs that raise, calls of them, try. -/
namespace L3
open PySem PySem.Spec PyProof.Rows L2
abbrev XN := Str → List (Str × PV) → Prop
structure PEndsX extends PEnds where
  ex : Str → List (Str × PV) → List Slt → Prop
abbrev PTSX := PEndsX → List Slt → Prop
abbrev PTEX := List Slt → (PV → Prop) → XN → Prop
abbrev ConX := List PV → (PV → Prop) → XN → Prop
variable {X : Cx} {F : Fam} {m n j : Nat} {Wx : WX}
/-- an exception that leaves: its class, its fields -/
structure Gone (F : Fam) (n : Nat) (W0 : Wd) (H0 : Hp) (W : Wd) (H : Hp) (d : Addr) (fs : List (Str × V)) (ps : List (Str × PV)) : Prop where
  ext : Ext (F.at n) W0 H0 W H
  at_ : H d = some (.xd fs)
  nD : W.D d = none
  nM : ¬ W.M d
  n0 : H0 d = none
  dat : DatF F.K W fs ps
theorem Gone.after {W0 W1 W : Wd} {H0 H1 H : Hp} {d : Addr} {fs : List (Str × V)} {ps : List (Str × PV)} (l1 : m ≤ j) (l2 : j ≤ n) (h0 : Holds (F.at m) W0 H0) (e : Ext (F.at j) W0 H0 W1 H1) (g : Gone F n W1 H1 W H d fs ps) : Gone F n W0 H0 W H d fs ps :=
  ⟨e.thenq l1 l2 h0 g.ext, g.at_, g.nD, g.nM, e.nonE (h0.upq l1) g.n0, g.dat⟩
theorem Gone.up {W0 W : Wd} {H0 H : Hp} {d : Addr} {fs : List (Str × V)} {ps : List (Str × PV)} (l : m ≤ n) (g : Gone F m W0 H0 W H d fs ps) : Gone F n W0 H0 W H d fs ps := ⟨g.ext.upq l, g.at_, g.nD, g.nM, g.n0, g.dat⟩
def XOk (F : Fam) (n : Nat) (W0 : Wd) (H0 : Hp) (Wb : Wd) (Hb : Hp) (x : Str → List (Str × PV) → List Slt → Prop) (Wx : WX) : Prop :=
  ∀ W H σ ρ c d fs ps, Gone F n W0 H0 W H d fs ps → Lt Wb Hb W H → Slots (F.at n) W H0 H σ ρ → x c ps ρ → Wx (.ref (He.ga F.K c)) (some d) σ H
theorem XOk.dn {W0 Wb : Wd} {H0 Hb : Hp} {x : Str → List (Str × PV) → List Slt → Prop} (l : m ≤ n) (h : XOk F n W0 H0 Wb Hb x Wx) : XOk F m W0 H0 Wb Hb x Wx := fun W H σ ρ c d fs ps g le S t => h W H σ ρ c d fs ps (g.up l) le S.toq t
theorem XOk.upb {W0 Wb W1 : Wd} {H0 Hb H1 : Hp} {x : Str → List (Str × PV) → List Slt → Prop} (h : XOk F n W0 H0 Wb Hb x Wx) (l : Lt Wb Hb W1 H1) : XOk F n W0 H0 W1 H1 x Wx := fun W H σ ρ c d fs ps g le S t => h W H σ ρ c d fs ps g (l.trans le) S t
def liftSX (F : Fam) (m n : Nat) (Wx : WX) (t : PTSX) : TS := fun D σ H => ∃ W0 H0 W ρ E, Holds (F.at m) W0 H0 ∧ Ext (F.at m) W0 H0 W H ∧ Slots (F.at m) W H0 H σ ρ ∧ t E ρ ∧ EndsOk (F.at n) W0 H0 W H E.toPEnds D ∧ XOk F n W0 H0 W H E.ex Wx
def liftX (F : Fam) (m n : Nat) (Wx : WX) (t : PTEX) : TE := fun σ H Q => ∃ W H0 ρ Qp Xp, Holds (F.at m) W H ∧ Slots (F.at m) W H0 H σ ρ ∧ t ρ Qp Xp ∧ (∀ W' H' v p, Ext (F.at n) W H W' H' → Dat F.K W' v p → Qp p → Q v H') ∧
  ∀ W' H' c d fs ps, Gone F n W H W' H' d fs ps → Xp c ps → Wx (.ref (He.ga F.K c)) (some d) σ H'
def liftTX (F : Fam) (m n : Nat) (Wx : WX) (t : List Slt → (Bool → Prop) → XN → Prop) : TT := fun σ H Q => ∃ W H0 ρ Qp Xp, Holds (F.at m) W H ∧ Slots (F.at m) W H0 H σ ρ ∧ t ρ Qp Xp ∧ (∀ W' H' b, Ext (F.at n) W H W' H' → Qp b → Q b H') ∧
  ∀ W' H' c d fs ps, Gone F n W H W' H' d fs ps → Xp c ps → Wx (.ref (He.ga F.K c)) (some d) σ H'
def xOf (t : PTS) : PTSX := fun E ρ => t E.toPEnds ρ
def xOfE (t : PTE) : PTEX := fun ρ Q _ => t ρ Q
theorem PS.nox {s : Stmt} {t : TS} (h : PS X.nox s t) : PS X s t := ⟨fun pins s' σ H D I hw =>
  wpAny_mono (h.run pins s' σ H D (I.wish _) hw) (fun _ _ q => SP.unwish q) fun _ _ z => False.elim z⟩
theorem xs0 {s : Stmt} {t : PTS} (h : PS X s (liftS2 F m n t)) : PS X s (liftSX F m n Wx (xOf t)) :=
  PSw h fun D σ H ⟨W0, H0, W, ρ, E, h0, e, S, t, D1, _⟩ => ⟨W0, H0, W, ρ, E.toPEnds, h0, e, S, t, D1⟩
theorem xe0 {e : Expr} {t : PTE} (h : PE X e (lift2 F m n t)) : PE X e (liftX F m n Wx (xOfE t)) :=
  PEw h fun σ H Q ⟨W, H0, ρ, Qp, Xp, hh, S, t, q, _⟩ => ⟨W, H0, ρ, Qp, hh, S, t, q⟩
def xSeq (t u : PTSX) : PTSX := fun E ρ => t { E with nx := u E } ρ
theorem xss_cons {st : Stmt} {rest : List Stmt} {t u : PTSX} (h1 : PS X st (liftSX F m j Wx t)) (h2 : PSs X rest (liftSX F j n Wx u)) (l1 : m ≤ j := by omega) (l2 : j ≤ n := by omega) : PSs X (st :: rest) (liftSX F m n Wx (xSeq t u)) :=
  PSsw (pss_cons h1 h2) fun D σ H ⟨W0, H0, W, ρ, E, h0, e, S, t, D1, X1⟩ =>
    ⟨W0, H0, W, ρ, { E with nx := u E }, h0, e, S, t, ⟨fun W' H' σ' ρ' e' le S' t' => ⟨W0, H0, W', ρ', E, h0.upq l1, e', S', t', D1.up le, X1.upb le⟩, (D1.dnq l2).rt, (D1.dnq l2).bk, (D1.dnq l2).ct⟩, X1.dn l2⟩
theorem xss_one {st : Stmt} {t : PTSX} (h1 : PS X st (liftSX F m n Wx t)) : PSs X [st] (liftSX F m n Wx t) := pss_one h1
def xNext : PTSX := fun E ρ => E.nx ρ
theorem xss_nil : PSs X [] (liftSX F m m Wx xNext) := PSsw pss_nil fun D σ H ⟨W0, H0, W, ρ, E, h0, e, S, t, D1, _⟩ => D1.nx W H σ ρ e (.refl W H) S t
/-! ### statements with an expression that may raise -/
def xAsg (te : PTEX) (g : PTG) : PTSX := fun E ρ => te ρ (fun p => g p ρ E.nx) fun c ps => E.ex c ps ρ
def xRet (te : PTEX) : PTSX := fun E ρ => te ρ E.rt fun c ps => E.ex c ps ρ
def xDrop (te : PTEX) : PTSX := fun E ρ => te ρ (fun _ => E.nx ρ) fun c ps => E.ex c ps ρ
def xIfS (c : List Slt → (Bool → Prop) → XN → Prop) (t u : PTSX) : PTSX := fun E ρ => c ρ (fun b => match b with
  | true => t E ρ
  | false => u E ρ) fun c ps => E.ex c ps ρ
theorem XOk.thru {W0 W : Wd} {H0 H : Hp} {σ : L2.St} {ρ : List Slt} {x : Str → List (Str × PV) → List Slt → Prop} (l : m ≤ n) (h0 : Holds (F.at m) W0 H0) (e : Ext (F.at m) W0 H0 W H) (S : Slots (F.at m) W H0 H σ ρ) (X1 : XOk F n W0 H0 W H x Wx) :
    ∀ W' H' c d fs ps, Gone F n W H W' H' d fs ps → x c ps ρ → Wx (.ref (He.ga F.K c)) (some d) σ H' := fun W' H' c d fs ps g t =>
  X1 W' H' σ ρ c d fs ps (g.after (Nat.le_refl m) l h0 e) g.ext.lt ((S.toq (n := n)).ext g.ext) t
theorem xs_set {i : Nat} {x : Str} {e : Expr} {te : PTEX} {pos' pos : Pos} (hN : X.N.Nodup) (he : PE X e (liftX F m n Wx te)) (l : m ≤ n := by omega) (hi : X.N[i]? = some x := by rfl) (hx : Loc X.env.scope x := by first | exact .inl rfl | exact .inr rfl) (hs : swapsWith e (some (.Name x pos')) pos.line X.env = pure false := by rfl)
    (hf : X.fn x = true ∨ X.env.scope.names.lookup x = some .local := by first | exact .inl rfl | exact .inr rfl) :
    PS X (.Assign [.Name x pos'] e pos) (liftSX F m n Wx (xAsg te (gNm i))) := PSw (ps_set hN hi hx he hs hf) fun D σ H ⟨W0, H0, W, ρ, E, h0, e, S, t, D1, X1⟩ =>
  ⟨W, H0, ρ, _, _, e.holds, S, t, fun W1 H1 v p e1 d1 t1 => D1.nx W1 H1 _ _ (e.thenq (Nat.le_refl m) l h0 e1) e1.lt (((S.toq (n := n)).ext e1).setVal i d1) t1, X1.thru l h0 e S⟩
theorem xs_asg {tg e : Expr} {te : PTEX} {ws : List Nat} {g : PTG} {pos : Pos} (he : PE X e (liftX F m n Wx te)) (hg : PG X tg (liftG (F.at n) ws g)) (l : m ≤ n := by omega) (hs : swapsWithSole [tg] e pos.line X.env = pure false := by rfl) (hw : swappedStores [tg] e X.env = pure none := by rfl) (h1 : List.map (fun x => x.snd) (assignEach [tg] X.env) = [assign tg X.env] := by rfl) :
    PS X (.Assign [tg] e pos) (liftSX F m n Wx (xAsg te g)) := PSw (ps_asg he hg hs hw h1) fun D σ H ⟨W0, H0, W, ρ, E, h0, e, S, t, D1, X1⟩ =>
  ⟨W, H0, ρ, _, _, e.holds, S, t, fun W1 H1 v p e1 d1 t1 => ⟨W1, H0, ρ, p, _, e1.holds, (S.toq (n := n)).ext e1, d1, t1, fun σ' ρ' o S' t' => D1.nx W1 H1 σ' ρ' (e.thenq (Nat.le_refl m) l h0 e1) e1.lt S' t'⟩, X1.thru l h0 e S⟩
theorem xs_ret {e : Expr} {te : PTEX} {pos : Pos} (he : PE X e (liftX F m n Wx te)) (l : m ≤ n := by omega) : PS X (.Return (some e) pos) (liftSX F m n Wx (xRet te)) :=
  PSw (ps_ret he) fun D σ H ⟨W0, H0, W, ρ, E, h0, e, S, t, D1, X1⟩ =>
    ⟨W, H0, ρ, _, _, e.holds, S, t, fun W1 H1 v p e1 d1 t1 => D1.rt W1 H1 v p (e.thenq (Nat.le_refl m) l h0 e1) d1 t1, X1.thru l h0 e S⟩
theorem xs_expr {e : Expr} {te : PTEX} {pos : Pos} (he : PE X e (liftX F m n Wx te)) (l : m ≤ n := by omega) (hs : swapsWith e none pos.line X.env = pure false := by rfl) : PS X (.Expr e pos) (liftSX F m n Wx (xDrop te)) :=
  PSw (ps_expr he hs) fun D σ H ⟨W0, H0, W, ρ, E, h0, e, S, t, D1, X1⟩ =>
    ⟨W, H0, ρ, _, _, e.holds, S, t, fun W1 H1 v p e1 d1 t1 => D1.nx W1 H1 σ ρ (e.thenq (Nat.le_refl m) l h0 e1) e1.lt ((S.toq (n := n)).ext e1) t1, X1.thru l h0 e S⟩
theorem xs_if {c : Expr} {a b : List Stmt} {tc : List Slt → (Bool → Prop) → XN → Prop} {t u : PTSX} {pos : Pos} (hc : PT X c (liftTX F m j Wx tc)) (ha : PSs X a (liftSX F j n Wx t)) (hb : PSs X b (liftSX F j n Wx u)) (l1 : m ≤ j := by omega) (l2 : j ≤ n := by omega) : PS X (.If c a b pos) (liftSX F m n Wx (xIfS tc t u)) :=
  PSw (ps_if hc ha hb) fun D σ H ⟨W0, H0, W, ρ, E, h0, e, S, t, D1, X1⟩ =>
    ⟨W, H0, ρ, _, _, e.holds, S, t, fun W1 H1 b e1 t1 => by
      cases b with
      | true => exact (if_pos rfl).mpr ⟨W0, H0, W1, ρ, E, h0.upq l1, e.thenq (Nat.le_refl m) l1 h0 e1, (S.toq (n := j)).ext e1, t1, D1.up e1.lt, X1.upb e1.lt⟩
      | false => exact (if_neg (by decide)).mpr ⟨W0, H0, W1, ρ, E, h0.upq l1, e.thenq (Nat.le_refl m) l1 h0 e1, (S.toq (n := j)).ext e1, t1, D1.up e1.lt, X1.upb e1.lt⟩, (X1.dn l2).thru l1 h0 e S⟩
theorem xt0 {e : Expr} {t : PTT} (h : PT X e (liftT2 F m n t)) : PT X e (liftTX F m n Wx fun ρ Q _ => t ρ Q) :=
  PTw h fun σ H Q ⟨W, H0, ρ, Qp, Xp, hh, S, t, q, _⟩ => ⟨W, H0, ρ, Qp, hh, S, t, q⟩
def xTst (t : PTEX) : List Slt → (Bool → Prop) → XN → Prop := fun ρ Q Xp => t ρ (fun p => match p with
  | .bl b => Q b
  | _ => False) Xp
theorem xt_val {e : Expr} {t : PTEX} (h : PE X e (liftX F m n Wx t)) (he : ∀ whole, isTrue e X.env whole = (do let v ← whole; standAt e.pos; holding [v] (truthy v)) := by intro _; rfl) : PT X e (liftTX F m n Wx (xTst t)) :=
  PTw (pt_val h he) fun σ H Q ⟨W, H0, ρ, Qp, Xp, hh, S, t, q, x⟩ => ⟨W, H0, ρ, _, Xp, hh, S, t, fun W1 H1 v p e1 d1 t1 => by
    cases d1 with
    | bl b => exact ⟨b, rfl, q W1 H1 b e1 t1⟩
    | _ => exact t1.elim, x⟩
/-! ### promises of defs that raise -/
def spX (F : Fam) (m n : Nat) (Φ : ConX) : Sp := fun vs H Q E => ∃ W ps Qp Xp, Holds (F.at m) W H ∧ DatL F.K W vs ps ∧ Φ ps Qp Xp ∧ (∀ W' H' v p, Ext (F.at n) W H W' H' → Dat F.K W' v p → Qp p → Q v H') ∧
  ∀ W' H' c d fs qs, Gone F n W H W' H' d fs qs → Xp c qs → E (.ref (He.ga F.K c)) (some d) H'
structure FnCX (P : Program) (w : World) (mg : Str → Option Value) (F : Fam) (m n : Nat) (x : Str) (k ar : Nat) (Φ : ConX) : Prop where
  ex : ∃ (f : Addr) (fd : FuncData) (ps : List Str), mg x = some (.ref f) ∧ PySem.W.keepIn F.K (.ref f) = true ∧ Binds F.K fd ps [] ∧ ps.length = ar ∧ ∀ base : Heap, FnOk P w F.K mg base (L2.CX P w) k f fd ps (spX F m n Φ)
def xCall (Φ : ConX) (t : PTA) : PTEX := fun ρ Q Xp => t ρ fun ps => Φ ps Q Xp
theorem qx_call {x : Str} {k i ar : Nat} {Φ : ConX} {p pos : Pos} {e : Expr} {es : List Expr} {t : PTA} (c : FnCX X.prog X.w X.mg F j n x k ar Φ) (hr : Room i X.A) (tk : Takes X Wx) (ha : PA X (e :: es) (liftA2 F m j t)) (l1 : m ≤ j := by omega) (l2 : j ≤ n := by omega) (hK : X.K = F.K := by rfl) (hj : k ≤ i := by decide) (hg : Gl X x := by rfl)
    (hdb : (x == ("__debug__" : Str)) = false := by decide) (he : starEach (e :: es) X.env = (false, eval e X.env) :: starEach es X.env := by rfl) (hpl : (backTo pos (starEach es X.env)).any (·.1) = false := by rfl) :
    PE X (.Call (.Name x p) (e :: es) [] pos) (liftX F m n Wx (xCall Φ t)) := by
  obtain ⟨K, PI, mo, up⟩ := F
  have hK : X.K = K := hK
  subst hK
  obtain ⟨f, fd, ps, hm, kp, b, hn, Fn⟩ := c.ex
  refine PEw (pe_callS (Fn X.base) (hr.mono hj) hg hm kp b (passAt tk) ha hdb he hpl) fun σ H Q ⟨W, H0, ρ, Qp, Xp, hh, S, t, q, x⟩ => ?_
  refine ⟨W, H0, ρ, _, hh, S, t, fun W1 H1 vs ps e1 d1 t1 => ?_⟩
  exact ⟨W1, ps, Qp, Xp, e1.holds, d1, t1, fun W2 H2 v p e2 d2 t2 => q W2 H2 v p (e1.thenq l1 l2 hh e2) d2 t2, fun W2 H2 c d fs qs g t2 => x W2 H2 c d fs qs (g.after l1 l2 hh e1) t2⟩
/-- where it does not raise -/
theorem takes_none : Takes X fun _ _ _ _ => False := fun u s' ⟨_, _, _, _, _, _, _, _, _, _, _, _, _, _, _, _, z⟩ => z.elim
def pCallX (Φ : ConX) (t : PTA) : PTE := fun ρ Q => t ρ fun ps => Φ ps Q fun _ _ => False
theorem q2_callX {x : Str} {k i ar : Nat} {Φ : ConX} {p pos : Pos} {e : Expr} {es : List Expr} {t : PTA} (c : FnCX X.prog X.w X.mg F j n x k ar Φ) (hr : Room i X.A) (ha : PA X (e :: es) (liftA2 F m j t)) (l1 : m ≤ j := by omega) (l2 : j ≤ n := by omega) (hK : X.K = F.K := by rfl) (hj : k ≤ i := by decide) (hg : Gl X x := by rfl)
    (hdb : (x == ("__debug__" : Str)) = false := by decide) (he : starEach (e :: es) X.env = (false, eval e X.env) :: starEach es X.env := by rfl) (hpl : (backTo pos (starEach es X.env)).any (·.1) = false := by rfl) :
    PE X (.Call (.Name x p) (e :: es) [] pos) (lift2 F m n (pCallX Φ t)) :=
  PEw (qx_call (Wx := fun _ _ _ _ => False) c hr takes_none ha l1 l2 hK hj hg hdb he hpl) fun σ H Q ⟨W, H0, ρ, Qp, hh, S, t, q⟩ => ⟨W, H0, ρ, Qp, _, hh, S, t, q, fun _ _ _ _ _ _ _ z => z⟩
theorem okX {P : Program} {w : World} {mg : Str → Option Value} {base : Heap} {x qual : Str} {params : Arguments} {body : List Stmt} {scope : Scope} {dvs : List V} {kws : List (Str × V)} {f : Addr} {fd : FuncData} {N ps : List Str} {k : Nat} {t : PTSX} {Φ : ConX}
    (Fd : FunD F.K x qual params body scope dvs kws f fd) (S : FnScope N ps scope)
    (hb : ∀ (cdv : Value) (A : Around) (outer : List Env) (s : Shared) (H : Hp) (E : XK), Room k (A.deeper (envOfC qual scope s.heap.objs.size f cdv)) → PSs (cxOf (L2.CX P w) P w F.K mg base N qual scope f cdv A outer s H E) body (liftSX F m n (fun cls d _ H => E cls d H) t))
    (hp : ∀ as Q Xp, Φ as Q Xp → as.length = ps.length ∧ t ⟨⟨fun _ => Q .non, Q, fun _ => False, fun _ => False⟩, fun c ps _ => Xp c ps⟩ (startP N as)) : FnOk P w F.K mg base (L2.CX P w) (k + 1) f fd ps (spX F m n Φ) := by
  refine Fd.ok S (fun vs H Q E ⟨W, as, Qp, Xp, hh, d, φ, q⟩ => ?_) (fun cdv A outer s H vs Q E hr ⟨W, as, Qp, Xp, hh, d, φ, q, xx⟩ => ⟨_, hb cdv A outer s H E hr, ?_⟩)
  · rw [d.length]; exact (hp as Qp Xp φ).1
  · exact ⟨W, H, W, _, _, hh, .refl hh, slots_start d, (hp as Qp Xp φ).2, ⟨fun W' H' σ' ρ' e le S' t' => q W' H' _ _ e .non t', fun W' H' v p e d' t' => q W' H' v p e d' t', fun _ _ _ _ _ _ _ z => z.elim, fun _ _ _ _ _ _ _ z => z.elim⟩, fun W' H' σ' ρ' c d' fs qs g _ _ z => xx W' H' c d' fs qs g z⟩
/-! ### raise C(e), C with one field -/
def spExc (K : PySem.W.Frag) (c f : Str) : Sp := fun vs H Q _ => ∃ a v, vs = [.ref a, v] ∧ H a = some (exo a (He.ga K c) none) ∧ ∀ dx, H dx = none → dx ≠ a → Q .non (upd (upd H dx (exd dx [(f, v)])) a (exo a (He.ga K c) (some dx)))
structure XcOk (P : Program) (w : World) (mg : Str → Option Value) (K : PySem.W.Frag) (N : String) (tl : List Value) (c f : Str) (k : Nat) : Prop where
  O : L3X.OxC K N tl (He.ga K c)
  gm : mg c = some (.ref (He.ga K c))
  ex : ∃ (fI : Addr) (fd : FuncData) (ps : List Str), PySem.W.findIn K (.ref (He.ga K c)) "__init__" = some (some (.ref fI)) ∧ PySem.W.typeIn K (.ref fI) = some (.type "function") ∧ Binds K fd ps [] ∧ ∀ base : Heap, FnOk P w K mg base CX0 k fI fd ps (spExc K c f)
def xRaise (c f : Str) (te : PTE) : PTSX := fun E ρ => te ρ fun p => E.ex c [(f, p)] ρ
theorem xs_raise1 {T N I : String} {tl : List Value} {c f : Str} {k i : Nat} {e : Expr} {te : PTE} {p pos pos' : Pos} (FB : L3X.ExB T N I tl) (C : XcOk X.prog X.w X.mg F.K N tl c f k) (hr : Room i X.A) (tk : Takes X Wx) (ha : PE X e (lift2 F m n te)) (l : m ≤ n := by omega) (hK : X.K = F.K := by rfl) (hj : k + 1 ≤ i := by decide) (hc : X.calm = true := by rfl) (hg : Gl X c := by rfl)
    (hdb : (c == ("__debug__" : Str)) = false := by decide) (h1 : starEach [e] X.env = (false, eval e X.env) :: starEach [] X.env := by rfl) (hpl : (backTo pos (starEach [] X.env)).any (·.1) = false := by rfl) :
    PS X (.Raise (some (.Call (.Name c p) [e] [] pos)) none pos') (liftSX F m n Wx (xRaise c f te)) := by
  obtain ⟨K, PI, mo, up⟩ := F
  have hK : X.K = K := hK
  subst hK
  obtain ⟨fI, fd, ps, iC, tI, b, F1⟩ := C.ex
  refine PSw (ps_raise hc tk (L3X.pmk_ox FB C.O iC tI (F1 X.base) (hr.mono hj) b .nil pass0 hg C.gm (qa2_cons ha (c0A qa_nil (Nat.le_refl n)) l (Nat.le_refl n) h1) hdb h1 hpl)) fun D σ H ⟨W0, H0, W, ρ, E, h0, e, S, t, D1, X1⟩ => ?_
  refine ⟨W, H0, ρ, fun ps => (match ps with | [p] => E.ex c [(f, p)] ρ | _ => False), e.holds, S, t, fun W1 H1 vs ps e1 d1 t1 => ?_⟩
  · cases d1 with
    | nil => exact t1.elim
    | @cons v _ _ _ d1 d2 =>
      cases d2 with
      | cons => exact t1.elim
      | nil =>
        refine ⟨by show 1 ≤ 1000; omega, fun a na => ⟨a, v, rfl, upd_same, fun dx hdx hne => ⟨rfl, dx, [(f, v)], upd_same, ?_, ?_, ?_⟩⟩⟩
        · rw [upd_ne hne, upd_same]
        · rw [upd_ne hne] at hdx; exact hdx
        · rw [upd_ne hne] at hdx
          have eh : upd (L2.del (upd (upd (upd H1 a (exo a (He.ga X.K c) none)) dx (exd dx [(f, v)])) a (exo a (He.ga X.K c) (some dx))) a) dx (.xd [(f, v)]) = upd H1 dx (.xd [(f, v)]) := by
            funext y
            by_cases h2 : y = dx
            · rw [h2, upd_same, upd_same]
            · rw [upd_ne h2, upd_ne h2]
              by_cases h3 : y = a
              · rw [h3, del_same, na]
              · rw [del_ne h3, upd_ne h3, upd_ne h2, upd_ne h3]
          rw [eh]
          have ep := Ext.put (o := .xd [(f, v)]) e1.holds hdx
          have E1 := e1.trans (e.holds.upq l) ep
          exact X1 W1 _ σ ρ c dx _ _ ⟨e.thenq (Nat.le_refl m) l h0 E1, upd_same, e1.holds.new hdx, e1.holds.newM hdx, (e.thenq (Nat.le_refl m) l h0 e1).nonE (h0.upq l) hdx, .cons d1 .nil⟩ E1.lt ((S.toq (n := n)).ext E1) t1
end L3

/-! ## L3Y -/
/-! try .. except C as e; e.f; the __init__ of a class of exceptions with one field. -/
namespace L3
open PySem PySem.Spec PyProof.Rows L2
variable {X : Cx} {F : Fam} {m n j : Nat} {Wx : WX}
theorem Slots.addXd {Z : Par} {W : Wd} {H0 H : Hp} {σ : L2.St} {ρ : List Slt} {d : Addr} {fs : List (Str × V)} (S : Slots Z W H0 H σ ρ) (hd : H d = some (.xd fs)) (nD : W.D d = none) : Slots Z (W.add d (.xd fs)) H0 H σ ρ where
  len := S.len
  val := fun i p q => let ⟨v, h1, h2⟩ := S.val i p q; ⟨v, h1, h2.mono (Wd.le_add nD)⟩
  own := fun i p q => by
    obtain ⟨a, h1, h2, h3, h4, h5⟩ := S.own i p q
    have ne : a ≠ d := fun z => by
      subst z
      cases p with
      | lst l => obtain ⟨xs, e, _⟩ := h2; rw [hd] at e; cases e
      | dic l => obtain ⟨xs, e, _⟩ := h2; rw [hd] at e; cases e
      | dct l => obtain ⟨xs, e, _⟩ := h2; rw [hd] at e; cases e
      | obj c l => obtain ⟨dx, xs, e, _⟩ := h2; rw [hd] at e; cases e
      | _ => exact h2.elim
    exact ⟨a, h1, h2.mono (Wd.le_add nD) (fun o h => h), h3, by show upd W.D d _ a = none; rw [upd_ne ne]; exact h4, h5⟩
  dst := S.dst
def xTryAs (c : Str) (i : Nat) (t : PTSX) (u : Addr → Addr → PTS) : PTS := fun E ρ => t ⟨E, fun c' ps ρ1 => c' = c ∧ ∀ a d, u a d ⟨fun ρ2 => E.nx (ρ2.set i .no), E.rt, fun ρ2 => E.bk (ρ2.set i .no), fun ρ2 => E.ct (ρ2.set i .no)⟩ (ρ1.set i (.val (.exc a d c ps)))⟩ ρ
theorem qs2_tryAs {c nm : Str} {i : Nat} {t : PTSX} {u : Addr → Addr → PTS} {body suite : List Stmt} {b₀ : Stmt} {np pos pos' : Pos} (hN : X.N.Nodup) (hc : Names X c (.ref (He.ga F.K c))) (hx : PySem.W.exmOne F.K (.ref (He.ga F.K c)) (.ref (He.ga F.K c)) = some true)
    (hb : ∀ (W : WX) (pn : List (Addr × Obj)) (xe : Value → Shared → Prop), Takes (X.tr pn xe) W → PassesOwn (model X.prog X.w) X.A X.env xe → PSs (X.tr pn xe) body (liftSX F m j W t))
    (hsu : ∀ (a d : Addr) (oe : Obj) (pn : List (Addr × Obj)), Zc (.ref (He.ga F.K c)) (some d) oe → (∃ vs, oe.data = .fields vs) → PSs (X.suite a ((a, oe) :: pn)) (b₀ :: suite) (liftS2 F j n (u a d)))
    (l1 : m ≤ j := by omega) (l2 : j ≤ n := by omega) (hK : X.K = F.K := by rfl) (hi : X.N[i]? = some nm := by rfl) (hln : X.env.kindOf nm = some .local := by rfl) (hs : X.stack = X.env :: X.outer := by rfl) (hf : X.env.frame = some X.env.locals := by rfl) :
    PS X (.Try body [.ExceptHandler (some (.Name c np)) (some nm) (b₀ :: suite) pos'] [] [] pos) (liftS2 F m n (xTryAs c i t u)) := by
  refine PSw (ps_try_as hs hf hN hi hln hc takes_none (tb := fun W => liftSX F m j W t) (ts := fun a cls d D σ H => ∃ dd, cls = .ref (He.ga F.K c) ∧ d = some dd ∧ liftS2 F j n (u a dd) D σ H) hb
    (fun a oe cls d pn hz hv => ⟨fun pins s σ H D I ⟨dd, ec, ed, q⟩ => (hsu a dd oe pn (by rw [← ec, ← ed]; exact hz) hv).run pins s σ H D I q⟩)) fun D σ H ⟨W0, H0, W, ρ, E, h0, e, S, t1, D1⟩ => ?_
  refine ⟨W0, H0, W, ρ, _, h0, e, S, t1, D1.dnq l2, fun W' H' σ' ρ' c' d fs ps g le S' ⟨hc', tt⟩ => ?_⟩
  subst hc'
  refine ⟨true, by rw [hK]; exact hx, fun _ a na => ⟨d, rfl, rfl, W0, H0, W'.add d (.xd fs), _, _, h0.upq l1, g.ext.frz g.nD g.nM g.n0 g.at_, (S'.addXd g.at_ g.nD).setVal i (.exc Wd.add_at (DatF.mono (Wd.le_add g.nD) g.dat)), tt a d, ?_⟩, fun z => by cases z⟩
  have L : Lt W H (W'.add d (.xd fs)) H' := le.trans ⟨Wd.le_add g.nD, fun _ _ _ h => h⟩
  exact ⟨fun W2 H2 σ2 ρ2 e2 le2 S2 t2 => D1.nx W2 H2 _ _ e2 (L.trans le2) (S2.setNo i) t2, D1.rt, fun W2 H2 σ2 ρ2 e2 le2 S2 t2 => D1.bk W2 H2 _ _ e2 (L.trans le2) (S2.setNo i) t2, fun W2 H2 σ2 ρ2 e2 le2 S2 t2 => D1.ct W2 H2 _ _ e2 (L.trans le2) (S2.setNo i) t2⟩
/-- e.f in the suite -/
def pXf (i : Nat) (a d : Addr) (c f : Str) : PTE := fun ρ Q => match ρ[i]? with
  | some (.val (.exc a' d' _ l)) => a' = a ∧ d' = d ∧ (match l.lookup f with
    | some p => Q p
    | none => False)
  | _ => False
theorem q_xf {Z : Par} {a d : Addr} {c f nm : Str} {i : Nat} {oe : Obj} {pn : List (Addr × Obj)} {p pos : Pos} (T : XfC X.K (He.ga Z.K c)) (hno : PySem.W.findIn X.K (.ref (He.ga Z.K c)) f = some none) (hz : Zc (.ref (He.ga Z.K c)) (some d) oe) (hf : ∃ vs, oe.data = .fields vs)
    (hi : (X.suite a ((a, oe) :: pn)).N[i]? = some nm := by rfl) (hv : Vis X.env.scope nm := by first | exact .inl rfl | exact .inr (.inl rfl) | exact .inr (.inr rfl)) (hd : (nm == ("__debug__" : Str)) = false := by decide) (hcd : (nm == ("__classdict__" : Str)) = false := by decide)
    (hb : attributeBase (.Name nm p) f X.env (eval (.Name nm p) X.env) = eval (.Name nm p) X.env := by rfl) :
    PE (X.suite a ((a, oe) :: pn)) (.Attribute (.Name nm p) f pos) (lift Z (pXf i a d c f)) :=
  PEw (pe_xf T hno hz hf (pe_var hi hv hd hcd) hb) fun σ H Q ⟨W, H0, ρ, Qp, hh, S, t, q⟩ => by
    unfold pXf at t
    split at t
    · rename_i a' d' c' l z
      obtain ⟨rfl, rfl, t⟩ := t
      split at t
      · rename_i p' el
        obtain ⟨u, h1, h2⟩ := S.val i _ z
        cases h2 with
        | exc ha r =>
          obtain ⟨v, hl, dv⟩ := r.look el
          exact ⟨_, h1, rfl, rfl, _, _, v, rfl, hh.ex ha fun z => z, hl, q W H v p' (.refl hh) dv t⟩
      · exact t.elim
    · exact t.elim
/-! ### the __init__ of a class with one field -/
theorem exinit_ok {P : Program} {w : World} {mg : Str → Option Value} {base : Heap} {K : PySem.W.Frag} {N : String} {tl : List Value} {c f x y txt : Str} {params : Arguments} {body : List Stmt} {scope : Scope} {g : Addr} {fd : FuncData} (O : L3X.OxC K N tl (He.ga K c)) (hno : PySem.W.findIn K (.ref (He.ga K c)) f = some none)
    (Fd : FunD K "__init__" x params body scope [] [] g fd) (S : FnScope ["self", y] ["self", y] scope)
    (hb : ∀ (cdv : Value) (A : Around) (outer : List Env) (s : Shared) (H : Hp) (E : XK), PSs (cxOf CX0 P w K mg base ["self", y] x scope g cdv A outer s H E).nox body
      (tSeq (tDrop (L3X.tBI K N tl (tCons (tVar 0) (tCons (tC (.str txt)) tNil)))) (L3X.tOf1 K N tl f (tVar 0) (tVar 1)))) :
    FnOk P w K mg base CX0 2 g fd ["self", y] (spExc K c f) := by
  refine Fd.ok S (fun vs H Q E ⟨a, v, e, _⟩ => by rw [e]; rfl) (fun cdv A outer s H vs Q E hr ⟨a, v, e, ha, q⟩ => ⟨_, (hb cdv A outer s H E).nox, ?_⟩)
  subst e
  exact ⟨V.ref a, rfl, a, He.ga K c, [V.str txt], rfl, by show 1 ≤ 1000; omega, O, ha, v, rfl, V.ref a, rfl, a, He.ga K c, rfl, O, hno, ha, fun dx n ne => q dx n ne⟩
end L3

/-! ## L3U -/
/-! A displayed dict with entries. -/
namespace L3
open PySem PySem.Spec PyProof.Rows L2
variable {X : Cx} {Z : Par}
def pPairs : List (PTE × PTE) → List Slt → (List (Key × PV) → Prop) → Prop
  | [], _, Q => Q []
  | t :: r, ρ, Q => t.1 ρ fun p => t.2 ρ fun q => match keyP p with
    | some k => pPairs r ρ fun kvs => Q ((k, q) :: kvs)
    | none => False
def pDisp (ts : List (PTE × PTE)) : PTE := fun ρ Q => ts.length ≤ 15 ∧ pPairs ts ρ fun kvs => Q (.dic (mergeP [] kvs))
abbrev liftP (Z : Par) (ts : List (PTE × PTE)) : List (TE × TE) := ts.map fun t => (lift Z t.1, lift Z t.2)
theorem pairs_of {σ : L2.St} {ρ : List Slt} {H0 : Hp} : ∀ (ts : List (PTE × PTE)) {W : Wd} {H : Hp} {Qp : List (Key × PV) → Prop} {Q : List (V × V) → Hp → Prop}, Holds Z W H → Slots Z W H0 H σ ρ → pPairs ts ρ Qp →
    (∀ W' H' ms kvs, Ext Z W H W' H' → DatK Z.K W' ms kvs → ms.length = ts.length → Qp kvs → Q (ms.map fun kv => (kV kv.1, kv.2)) H') → tPairs (liftP Z ts) σ H Q
  | [], W, H, Qp, Q, hh, S, t, q => q W H [] [] (.refl hh) .nil rfl t
  | t0 :: r, W, H, Qp, Q, hh, S, t, q => by
    refine ⟨W, H0, ρ, _, hh, S, t, fun W1 H1 v p e1 d1 t1 => ?_⟩
    refine ⟨W1, H0, ρ, _, e1.holds, S.ext e1, t1, fun W2 H2 u p2 e2 d2 t2 => ?_⟩
    split at t2
    · rename_i k ek
      refine pairs_of r e2.holds ((S.ext e1).ext e2) t2 fun W3 H3 ms kvs e3 d3 hl t3 => ?_
      have z := q W3 H3 ((k, u) :: ms) ((k, p2) :: kvs) ((e1.trans hh e2).trans hh e3) (.cons (d2.mono e3.le) d3) (by simp [hl]) t3
      rw [List.map_cons] at z
      rw [d1.key ek]
      exact z
    · exact t2.elim
theorem q_disp {pos : Pos} {keys : List (Option Expr)} {values : List Expr} {ts : List (PTE × PTE)} (h : PPs X pos keys values (liftP Z ts)) (hall : keys.all (·.isSome) = true := by rfl) (hl : keys.length = values.length := by rfl) (h0 : keys ≠ [] := by simp) (h15 : keys.length ≤ 15 := by decide) :
    PE X (.Dict keys values pos) (lift Z (pDisp ts)) :=
  PEw (pe_disp h hall hl h0 h15) fun σ H Q ⟨W, H0, ρ, Qp, hh, S, ⟨h15', t⟩, q⟩ => fun p np => by
    have e0 := Ext.put (o := .dK []) hh np
    refine pairs_of ts e0.holds (S.ext e0) t fun W2 H2 ms kvs e2 d2 hl2 t2 => ?_
    have E2 := e0.trans hh e2
    have hp : H2 p = some (.dK []) := e2.base p _ upd_same (hh.new np) (hh.newM np)
    have nD : W2.D p = none := by
      cases z : W2.D p with
      | none => rfl
      | some o =>
        rcases e2.fr p o z with z | z
        · rw [hh.new np] at z; cases z
        · rw [upd_same] at z; cases z
    have nM : ¬ W2.M p := fun z => by
      rcases e2.frM p z with z | z
      · exact hh.newM np z
      · rw [upd_same] at z; cases z
    refine ⟨hp, ms, rfl, by rw [hl2]; exact h15', ?_⟩
    have E3 := E2.wr (o := .dK (mergeK [] ms)) nD nM np
    exact q _ _ _ _ (E3.frz nD nM np upd_same) (.dic Wd.add_at (DatK.merge ms (d2.mono (Wd.le_add nD)) .nil)) t2
end L3

/-! ## L3V -/
/-! A tuple times a whole number of at least 1. -/
namespace L3
open PySem PySem.Spec PyProof.Rows L2
theorem tup_mul1 (l : Addr) (items : Array Value) (n : Nat) (dd : Option Addr) (sl : Array (Option Value)) (u : Tok) :
    Meets (Builtin.«tuple.__mul__» ⟨[.ref l, .int 1 u], []⟩) (fun _ R s => s.heap.get? l = some { cls := .type "tuple", dict := dd, data := .seq items n, slots := sl } ∧ R (.ok (.ret (Value.ref l))) s) :=
  .of_wp fun prog w A R s h => by
    obtain ⟨hp, g, d, tk, os⟩ := s
    obtain ⟨hl, h⟩ := h
    have f1 := AutoSeq1.idx_int
    have c0 : (decide ((1 : Int) < -(2 ^ 63)) || decide ((1 : Int) ≥ 2 ^ 63)) = false := by decide
    have c1 : (items.isEmpty || (1 : Int) == 1) = true := by rw [show ((1 : Int) == 1) = true from rfl, Bool.or_true]
    wp_walk using wpAny_loadPart' hl
    repeat (first
      | (refine wpAny_ite_false (decide_eq_false (by rw [c0]; exact Bool.false_ne_true)) ?_; wp_walk using wpAny_loadPart' hl)
      | (refine wpAny_ite_true (decide_eq_true c1) ?_; wp_walk using wpAny_loadPart' hl))
    exact ⟨_, rfl, h⟩
def rRepT1 (K : PySem.W.Frag) : R2 := fun x y H Q => ∃ l xs, x = .ref l ∧ y = .int 1 ∧ SqT K H l xs ∧ Q (.ref l) H
theorem op_repT1 {X : Cx} : OpR X (binaryOp .Mult) (rRepT1 X.K) := by
  intro pins s σ H x y v u Q I rx ry h
  obtain ⟨l, xs, rfl, rfl, hT, q⟩ := h
  cases rx
  obtain ⟨t, rfl⟩ := ry
  obtain ⟨its, r, ⟨⟨cls, dd, data, sl⟩, ho, hc, n, hd⟩, hs⟩ := I.tuple hT
  simp only at hc hd
  subst hc hd
  refine wpAny_binaryOp_repeat_ref (T := "tuple") (U := "int") (by decide) ⟨_, ho, rfl⟩ (fun s' => typeIs_int s' 1 t) noFill_tuple_mul F.fills_int_mul F.slot_int_rmul repeat_tuple F.slot_int_index.lookup
    (call_meets F.slot_int_rmul (typeIs_int s 1 t) F.entry_int_rmul (F.args_int_rmul_2 _ _) (int_rmul_tuple 1 t l its.toArray n dd sl)
      ⟨ho, rfl, ⟨_, ho, rfl⟩, call_meets F.slot_tuple_mul ⟨_, ho, rfl⟩ F.entry_tuple_mul (F.args_tuple_mul_2 _ _) (tup_mul1 l its.toArray n dd sl t) ⟨ho, ?_⟩⟩)
  exact ⟨.ref l, H, I, rfl, q⟩
variable {X : Cx} {Z : Par}
def kRepT : PK2 := fun p q Q => match p, q with
  | .tup l, .int k => l ≠ [] ∧ 1 ≤ k ∧ k ≤ 1000 ∧ l.length ≤ 1000 ∧ Q (.tup (List.replicate k.toNat l).flatten)
  | _, _ => False
theorem DatL.rep {K : PySem.W.Frag} {W : Wd} {xs : List V} {l : List PV} (h : DatL K W xs l) : ∀ k : Nat, DatL K W (List.replicate k xs).flatten (List.replicate k l).flatten
  | 0 => .nil
  | k + 1 => by
    rw [List.replicate_succ, List.replicate_succ, List.flatten_cons, List.flatten_cons]
    exact h.append (h.rep k)
theorem q_repT (hK : X.K = Z.K := by rfl) : OpP Z X (binaryOp .Mult) kRepT := ⟨_, (op_repT1).or op_repT, fun W H x y p q Q Qp hh dx dy t k => by
    unfold kRepT at t
    split at t
    · cases dy
      cases dx with
      | tup ha ra =>
        rename_i l k' a xs
        obtain ⟨h0, h1, h2, h3, t⟩ := t
        by_cases e : k' = 1
        · subst e
          refine .inl ⟨_, _, rfl, rfl, .of (hh.ex ha fun z => z), k W H _ _ (.refl hh) (.tup ha ra) ?_⟩
          have e1 : (List.replicate (1 : Int).toNat l).flatten = l := by simp
          rw [e1] at t
          exact t
        · refine .inr ⟨_, _, _, rfl, rfl, .of (hh.ex ha fun z => z), fun z => h0 (by rw [z] at ra; cases ra; rfl), by omega, h2, by rw [ra.length]; exact h3, fun p n => ?_⟩
          exact k _ _ _ _ (Ext.new hh n) (.tup Wd.add_at ((ra.rep _).mono (Wd.le_add (hh.new n)))) t
    · exact t.elim⟩
end L3

/-! ## XZ -/
/-! zip(a, b, strict=True) -/
namespace PySem
open Sem (wp)
abbrev IsZipS (h : Heap) (z TI TO : Addr) (f0 : Value) : Prop :=
  h.get? z = some { cls := .type "zip", dict := none, data := .fields #[f0, .bool false, .bool true, .ref TI, .ref TO], slots := #[] }
section
variable {prog : Program} {w : World} {A : Around} {E : Value → Shared → Prop} {s : Shared} {z TI TO i1 i2 : Addr} {fp1 fp2 : List Addr} {n1 n2 i : Nat} {P1 P2 : Nat → Value → Prop} {St1 St2 : Nat → Heap → Prop} {a1 a2 : Value}
theorem zipS_item {Q : Value → Shared → Prop} (S : ZipSep2 z TI TO i1 i2 fp1 fp2) (D1 : Draws prog w A i1 fp1 n1 P1 St1) (D2 : Draws prog w A i2 fp2 n2 P2 St2)
    (hz : IsZipS s.heap z TI TO .none) (hTI : IsTupOf2 s.heap TI (.ref i1) (.ref i2)) (hTO : IsTupOf2 s.heap TO a1 a2) (st1 : St1 i s.heap) (st2 : St2 i s.heap) (hlt1 : i < n1) (hlt2 : i < n2)
    (hQ : ∀ x1 x2 h' tk, P1 i x1 → P2 i x2 → IsZipS h' z TI TO (rawInt s.heap.objs.size) → IsTupOf2 h' TO x1 x2 → St1 (i + 1) h' → St2 (i + 1) h' → IsTupOf2 h' s.heap.objs.size x1 x2 → h'.objs.size = s.heap.objs.size + 1 →
      (∀ c o, c ≠ z → c ≠ TO → c ≠ i1 → c ≠ i2 → s.heap.get? c = some o → h'.get? c = some o) → Q (.ref s.heap.objs.size) { s with heap := h', toks := tk }) :
    wpAny (model prog w) A (Builtin.«zip.__next__» ⟨[.ref z], []⟩) (fun fin s' => ∃ v, fin = .done (.ret v) ∧ Q v s') E s := by
  obtain ⟨hp, g, d, tk0, os⟩ := s
  show wpAny _ _ (field (.ref z) 2 >>= _) _ _ _
  refine wpAny_bind (wpAny_field hz rfl (x := .bool true) rfl ?_)
  show wpAny _ _ (field (.ref z) 3 >>= _) _ _ _
  refine wpAny_bind (wpAny_field hz rfl (x := .ref TI) rfl ?_)
  refine wpAny_bind (wpAny_seqItems hTI rfl ?_)
  show wpAny _ _ (Builtin.SmallTypes.ownedTupleIsFree (.ref z) >>= _) _ _ _
  refine wpAny_bind ?_
  unfold Builtin.SmallTypes.ownedTupleIsFree
  refine wpAny_bind (wpAny_field hz rfl (x := .none) rfl (wpAny_pure ?_))
  simp only [if_true]
  refine wpAny_bind (wpAny_rule ?_)
  refine wpAny_bind (wpAny_field hz rfl (x := .ref TO) rfl ?_)
  refine wpAny_bind (wpAny_setField_rec hz (by simp) fun g0 hz0 hs0 => ?_)
  replace hz0 : IsZipS g0 z TI TO .ellipsis := hz0
  replace hs0 : Heap.SameBut z hp g0 := hs0
  refine wpAny_bind ?_
  simp only [List.zipIdx_cons, List.zipIdx_nil, List.forIn_cons, List.forIn_nil]
  refine wpAny_bind (wpAny_bind (wpAny_onRaise ?_))
  show wpAny _ _ (Builtin.SmallTypes.nextOrEnd (.ref i1)) _ _ ⟨g0, g, d, tk0, os⟩
  refine wpAny_bind (wpAny_attempt (D1.item i _ _ _ hlt1 (D1.over st1 hs0 S.zf1) fun x1 p1 tk1 hx1 sn1 hp1 => wpAny_pure ?_))
  replace hp1 : Heap.SameBut i1 g0 p1 := hp1
  have hU1 : IsTupOf2 p1 TO a1 a2 := hp1.extBut _ _ S.Ti1 (hs0.extBut _ _ S.TOz hTO)
  refine wpAny_bind (wpAny_seqItems (s := ⟨p1, g, d, tk1, os⟩) hU1 rfl ?_)
  refine wpAny_bind (updateSeq_IsTupOf2 (s := ⟨p1, g, d, tk1, os⟩) hU1 fun g1 hT1 hs1 => ?_)
  replace hT1 : IsTupOf2 g1 TO x1 a2 := hT1
  replace hs1 : Heap.SameBut TO p1 g1 := hs1
  refine wpAny_bind (wpAny_letGo (wpAny_pure ?_))
  refine wpAny_bind (wpAny_bind (wpAny_onRaise ?_))
  show wpAny _ _ (Builtin.SmallTypes.nextOrEnd (.ref i2)) _ _ ⟨g1, g, d, tk1, os⟩
  refine wpAny_bind (wpAny_attempt (D2.item i _ _ _ hlt2 (D2.over (D2.over (D2.over st2 hs0 S.zf2) hp1 S.sep1_2) hs1 S.Tf2) fun x2 p2 tk2 hx2 sn2 hp2 => wpAny_pure ?_))
  replace hp2 : Heap.SameBut i2 g1 p2 := hp2
  have hU2 : IsTupOf2 p2 TO x1 a2 := hp2.extBut _ _ S.Ti2 hT1
  refine wpAny_bind (wpAny_seqItems (s := ⟨p2, g, d, tk2, os⟩) hU2 rfl ?_)
  refine wpAny_bind (updateSeq_IsTupOf2 (s := ⟨p2, g, d, tk2, os⟩) hU2 fun g2 hT2 hs2 => ?_)
  replace hT2 : IsTupOf2 g2 TO x1 x2 := hT2
  replace hs2 : Heap.SameBut TO p2 g2 := hs2
  refine wpAny_bind (wpAny_letGo (wpAny_pure (wpAny_pure ?_)))
  refine wpAny_bind (wpAny_seqItems (s := ⟨g2, g, d, tk2, os⟩) hT2 rfl ?_)
  refine wpAny_bind (wpAny_newTuple ?_)
  have hsz : g2.objs.size = hp.objs.size := by rw [hs2.1, hp2.1, hs1.1, hp1.1, hs0.1]
  have hzz : IsZipS g2 z TI TO .ellipsis := (hs2.extBut _ _ S.TOz.symm (hp2.extBut _ _ S.zi2 (hs1.extBut _ _ S.TOz.symm (hp1.extBut _ _ S.zi1 hz0))))
  have hkk : ∀ c o, c ≠ z → c ≠ TO → c ≠ i1 → c ≠ i2 → hp.get? c = some o → g2.get? c = some o := fun c o cz cT c1 c2 e =>
    (hs2.extBut _ _ cT (hp2.extBut _ _ c2 (hs1.extBut _ _ cT (hp1.extBut _ _ c1 (hs0.extBut _ _ cz e)))))
  have hj1 : St1 (i + 1) g2 := (D1.over (D1.over (D1.over sn1 hs1 S.Tf1) hp2 S.sep2_1) hs2 S.Tf1)
  have hj2 : St2 (i + 1) g2 := (D2.over sn2 hs2 S.Tf2)
  have hzlt : z < g2.objs.size := Heap.lt_size hzz
  show wpAny _ _ (Builtin.SmallTypes.ownedTupleHandOut (.ref z) (.ref g2.objs.size) >>= _) _ _ ⟨g2.push { cls := .type "tuple", data := .seq #[x1, x2] }, g, d, tk2, os⟩
  refine wpAny_bind ?_
  unfold Builtin.SmallTypes.ownedTupleHandOut
  have hz₆ : IsZipS (g2.push { cls := .type "tuple", data := .seq #[x1, x2] }) z TI TO .ellipsis := Heap.get?_push_of_some _ hzz
  refine wpAny_bind (wpAny_setField_rec hz₆ (by simp) fun h₇ hz₇ hs₇ => ?_)
  replace hz₇ : IsZipS h₇ z TI TO (rawInt g2.objs.size) := hz₇
  refine wpAny_setField_rec hz₇ (by simp) fun h₈ hz₈ hs₈ => ?_
  replace hz₈ : IsZipS h₈ z TI TO (rawInt g2.objs.size) := hz₈
  replace hs₇ : Heap.SameBut z (g2.push { cls := .type "tuple", data := .seq #[x1, x2] }) h₇ := hs₇
  replace hs₈ : Heap.SameBut z h₇ h₈ := hs₈
  have up : ∀ c o, c ≠ z → g2.get? c = some o → h₈.get? c = some o := fun c o c1 e => hs₈.extBut _ _ c1 (hs₇.extBut _ _ c1 (Heap.get?_push_of_some _ e))
  have hT₈ : IsTupOf2 h₈ g2.objs.size x1 x2 := hs₈.extBut _ _ (Nat.ne_of_gt hzlt) (hs₇.extBut _ _ (Nat.ne_of_gt hzlt) (Heap.get?_push_size _ rfl))
  have hz8 : h₈.objs.size = g2.objs.size + 1 := by rw [hs₈.1, hs₇.1, Heap.size_push]
  rw [hsz] at hz₈ hT₈ hz8
  refine wpAny_pure ⟨_, rfl, ?_⟩
  show Q (.ref g2.objs.size) ⟨h₈, g, d, tk2, os⟩
  rw [hsz]
  exact hQ x1 x2 h₈ tk2 hx1 hx2 hz₈ (up _ _ S.TOz hT2) (D1.frame _ _ _ hj1 fun b hb o e => up b o (fun q => S.zf1 (q ▸ hb)) e) (D2.frame _ _ _ hj2 fun b hb o e => up b o (fun q => S.zf2 (q ▸ hb)) e) hT₈ hz8 fun c o cz cT c1 c2 e => up c o cz (hkk c o cz cT c1 c2 e)

end
end PySem

/-! ## XZ2 -/
namespace PySem
open Sem (wp)
section
variable {prog : Program} {w : World} {A : Around} {E : Value → Shared → Prop} {s : Shared} {z TI TO i1 i2 : Addr} {fp1 fp2 : List Addr} {n i : Nat} {P1 P2 : Nat → Value → Prop} {St1 St2 : Nat → Heap → Prop} {a1 a2 : Value}
/-- an iterator that is done, asked softly -/
theorem nextOrEnd_done {it : Addr} {fp : List Addr} {P : Nat → Value → Prop} {St : Nat → Heap → Prop} (D : Draws prog w A it fp n P St) (st : St n s.heap) {Q : Option Value → Shared → Prop}
    (h : ∀ h', Heap.ExtBut it s.heap h' → Q none { s with heap := h' }) : wpAny (model prog w) A (Builtin.SmallTypes.nextOrEnd (.ref it)) Q E s := by
  unfold Builtin.SmallTypes.nextOrEnd
  refine wpAny_bind (wpAny_attempt (D.done s _ _ st fun h' e hx he => ?_))
  obtain ⟨o, ho, hc⟩ := he
  refine wpAny_bind (wpAny_isInstance (T := "StopIteration") (b := true) ⟨o, ho, hc⟩ isSubtype_stop ?_)
  exact wpAny_pure (h h' hx)
theorem stop_new {α : Type} {Q : α → Shared → Prop} (hh : A.handled = none) (h : ∀ h' e, (∀ c o, s.heap.get? c = some o → h'.get? c = some o) → (∃ o, h'.get? e = some o ∧ o.cls = .type "StopIteration") → E (.ref e) { s with heap := h' }) :
    wpAny (model prog w) A (Builtin.SmallTypes.stopIteration : Sem α) Q E s := by
  unfold Builtin.SmallTypes.stopIteration
  refine wpAny_bind ?_
  simp only [newExc, newTuple]
  refine wpAny_bind (wpAny_newObj_type ?_ (by size_fits))
  refine wpAny_bind (m := firstArgMember _ _) (wpAny_of_eq (a := Value.none) (by first | rfl | (simp only [firstArgMember]; rfl)) ?_)
  refine wpAny_newObj_type ?_ (by size_fits)
  simp only [raiseNew]
  refine wpAny_bind (wpAny_handled ?_)
  first | rw [show A.in1.handled = none from hh] | rw [hh]
  refine wpAny_bind (wpAny_pure (wpAny_throw ?_))
  exact h _ _ (fun c o q => Heap.get?_push_of_some _ (Heap.get?_push_of_some _ q)) ⟨_, Heap.get?_push_size _ rfl, rfl⟩
theorem zipS_end {Q : Fin → Shared → Prop} (hh : A.handled = none) (S : ZipSep2 z TI TO i1 i2 fp1 fp2) (D1 : Draws prog w A i1 fp1 n P1 St1) (D2 : Draws prog w A i2 fp2 n P2 St2)
    (hz : IsZipS s.heap z TI TO .none) (hTI : IsTupOf2 s.heap TI (.ref i1) (.ref i2)) (hTO : IsTupOf2 s.heap TO a1 a2) (st1 : St1 n s.heap) (st2 : St2 n s.heap)
    (hE : ∀ h' tk e, (∀ c o, c ≠ z → c ≠ TO → c ≠ i1 → c ≠ i2 → s.heap.get? c = some o → h'.get? c = some o) → (∃ o, h'.get? e = some o ∧ o.cls = .type "StopIteration") → E (.ref e) { s with heap := h', toks := tk }) :
    wpAny (model prog w) A (Builtin.«zip.__next__» ⟨[.ref z], []⟩) Q E s := by
  obtain ⟨hp, g, d, tk0, os⟩ := s
  show wpAny _ _ (field (.ref z) 2 >>= _) _ _ _
  refine wpAny_bind (wpAny_field hz rfl (x := .bool true) rfl ?_)
  show wpAny _ _ (field (.ref z) 3 >>= _) _ _ _
  refine wpAny_bind (wpAny_field hz rfl (x := .ref TI) rfl ?_)
  refine wpAny_bind (wpAny_seqItems hTI rfl ?_)
  show wpAny _ _ (Builtin.SmallTypes.ownedTupleIsFree (.ref z) >>= _) _ _ _
  refine wpAny_bind ?_
  unfold Builtin.SmallTypes.ownedTupleIsFree
  refine wpAny_bind (wpAny_field hz rfl (x := .none) rfl (wpAny_pure ?_))
  simp only [if_true]
  refine wpAny_bind (wpAny_rule ?_)
  refine wpAny_bind (wpAny_field hz rfl (x := .ref TO) rfl ?_)
  refine wpAny_bind (wpAny_setField_rec hz (by simp) fun g0 hz0 hs0 => ?_)
  replace hz0 : IsZipS g0 z TI TO .ellipsis := hz0
  replace hs0 : Heap.SameBut z hp g0 := hs0
  refine wpAny_bind ?_
  simp only [List.zipIdx_cons, List.zipIdx_nil, List.forIn_cons, List.forIn_nil]
  refine wpAny_bind (wpAny_bind (wpAny_onRaise ?_))
  show wpAny _ _ (Builtin.SmallTypes.nextOrEnd (.ref i1)) _ _ ⟨g0, g, d, tk0, os⟩
  refine nextOrEnd_done D1 (D1.over st1 hs0 S.zf1) fun g1 hx1 => ?_
  replace hx1 : Heap.ExtBut i1 g0 g1 := hx1
  have hz1 : IsZipS g1 z TI TO .ellipsis := hx1 _ _ S.zi1 hz0
  refine wpAny_bind (wpAny_setField_rec (s := ⟨g1, g, d, tk0, os⟩) hz1 (by simp) fun g2 hz2 hs2 => ?_)
  replace hs2 : Heap.SameBut z g1 g2 := hs2
  have st2' : St2 n g2 := D2.over (D2.frame _ _ _ (D2.over st2 hs0 S.zf2) fun b hb o e => hx1 b o (fun q => S.sep1_2 (q ▸ hb)) e) hs2 S.zf2
  refine wpAny_bind ?_
  show wpAny _ _ (forIn [(Value.ref i2, 1)] PUnit.unit _ >>= _) _ _ _
  refine wpAny_bind ?_
  simp only [List.forIn_cons, List.forIn_nil]
  refine wpAny_bind (wpAny_bind (nextOrEnd_done (s := ⟨g2, g, d, tk0, os⟩) D2 st2' fun g3 hx3 => ?_))
  replace hx3 : Heap.ExtBut i2 g2 g3 := hx3
  simp only [Option.isSome_none, Bool.false_eq_true, if_false]
  refine wpAny_pure (wpAny_pure ?_)
  refine wpAny_bind (wpAny_rule ?_)
  refine stop_new (s := ⟨g3, g, d, tk0, os⟩) hh fun h' e k he => ?_
  exact hE h' tk0 e (fun c o cz cT c1 c2 x => k _ _ (hx3 _ _ c2 (hs2.extBut _ _ cz (hx1 _ _ c1 (hs0.extBut _ _ cz x))))) he
theorem pyNext_zipS_item {i : Nat} {Q : Option Value → Shared → Prop} (S : ZipSep2 z TI TO i1 i2 fp1 fp2) (D1 : Draws prog w A.in1 i1 fp1 n P1 St1) (D2 : Draws prog w A.in1 i2 fp2 n P2 St2)
    (hz : IsZipS s.heap z TI TO .none) (hTI : IsTupOf2 s.heap TI (.ref i1) (.ref i2)) (hTO : IsTupOf2 s.heap TO a1 a2) (st1 : St1 i s.heap) (st2 : St2 i s.heap) (hlt : i < n)
    (hQ : ∀ x1 x2 h' tk, P1 i x1 → P2 i x2 → IsZipS h' z TI TO (rawInt s.heap.objs.size) → IsTupOf2 h' TO x1 x2 → St1 (i + 1) h' → St2 (i + 1) h' → IsTupOf2 h' s.heap.objs.size x1 x2 → h'.objs.size = s.heap.objs.size + 1 →
      (∀ c o, c ≠ z → c ≠ TO → c ≠ i1 → c ≠ i2 → s.heap.get? c = some o → h'.get? c = some o) → Q (some (.ref s.heap.objs.size)) { s with heap := h', toks := tk }) :
    wpAny (model prog w) A (pyNext (.ref z)) Q E s := by
  have hT : s.TypeIs (.ref z) "zip" := ⟨_, hz, rfl⟩
  unfold pyNext
  exact wpAny_bind (wpAny_attempt (wpAny_callSpecial?_slot (name := Str.ofString "__next__") hT F.slot_zip_next
    (wpAny_call_entry F.slot_zip_next hT F.entry_zip_next (zipS_item S D1 D2 hz hTI hTO st1 st2 hlt hlt fun x1 x2 h' tk b1 b2 b3 b4 b5 b6 b7 b8 b9 => wpAny_pure (hQ x1 x2 h' tk b1 b2 b3 b4 b5 b6 b7 b8 b9)) (F.args_zip_next_1 _))))
theorem pyNext_zipS_end {Q : Option Value → Shared → Prop} (hh : A.handled = none) (S : ZipSep2 z TI TO i1 i2 fp1 fp2) (D1 : Draws prog w A.in1 i1 fp1 n P1 St1) (D2 : Draws prog w A.in1 i2 fp2 n P2 St2)
    (hz : IsZipS s.heap z TI TO .none) (hTI : IsTupOf2 s.heap TI (.ref i1) (.ref i2)) (hTO : IsTupOf2 s.heap TO a1 a2) (st1 : St1 n s.heap) (st2 : St2 n s.heap)
    (hQ : ∀ h' tk, (∀ c o, c ≠ z → c ≠ TO → c ≠ i1 → c ≠ i2 → s.heap.get? c = some o → h'.get? c = some o) → Q none { s with heap := h', toks := tk }) : wpAny (model prog w) A (pyNext (.ref z)) Q E s := by
  have hT : s.TypeIs (.ref z) "zip" := ⟨_, hz, rfl⟩
  unfold pyNext
  refine wpAny_bind (wpAny_attempt (wpAny_callSpecial?_slot (name := Str.ofString "__next__") hT F.slot_zip_next
    (wpAny_call_entry F.slot_zip_next hT F.entry_zip_next (zipS_end hh S D1 D2 hz hTI hTO st1 st2 fun h' tk e hk he => ?_) (F.args_zip_next_1 _))))
  obtain ⟨o, ho, hc⟩ := he
  refine wpAny_bind (wpAny_isInstance (T := "StopIteration") (b := true) ⟨o, ho, hc⟩ isSubtype_stop ?_)
  exact wpAny_pure (hQ _ tk hk)
theorem letGo_zipS {elts : List Expr} {x1} {pos : Pos} {T : Addr} {Q : Unit → Shared → Prop} (hz : IsZipS s.heap z TI TO (rawInt T))
    (hQ : ∀ h', IsZipS h' z TI TO .none → Heap.SameBut z s.heap h' → Q () { s with heap := h' }) :
    wpAny (model prog w) A (letOwnedTupleGo (.Tuple elts x1 pos) (.ref z) (.ref T)) Q E s := by
  unfold letOwnedTupleGo
  refine wpAny_bind (wpAny_load hz ?_)
  show wpAny _ _ (if (["enumerate", "zip", "dict_itemiterator", "dict_reverseitemiterator", "odict_iterator", "itertools.zip_longest", "itertools.pairwise"].contains "zip" && (#[rawInt T, .bool false, .bool true, .ref TI, .ref TO] : Array Value)[0]? == some (rawInt T)) = true then _ else _) Q E s
  rw [if_pos (by simp)]
  refine wpAny_bind (wpAny_rule ?_)
  show wpAny _ _ (setField (.ref z) 0 .none) Q E s
  exact wpAny_setField_rec hz (by simp) fun h' hz' hs' => hQ h' hz' hs'
theorem pyIter_zipS {f0 : Value} {Q : Value → Shared → Prop} (hz : IsZipS s.heap z TI TO f0) (h : Q (.ref z) s) : wpAny (model prog w) A (pyIter (.ref z)) Q E s := by
  have hT : s.TypeIs (.ref z) "zip" := ⟨_, hz, rfl⟩
  refine wpAny_pyIter_slot hT F.slot_zip_iter (wpAny_call_entry F.slot_zip_iter hT F.entry_zip_iter ?_ (F.args_zip_iter_1 _))
  show wpAny _ _ (ret (.ref z)) _ _ s
  exact wpAny_pure ⟨_, rfl, "zip", _, hT, F.slot_zip_next.lookup, h⟩
end
end PySem

/-! ## XZ3 -/
/-! zip(a, b, strict=True): its making, its turns, over lists and tuples. -/
namespace PySem
open Sem (wp)
namespace F
theorem zips_call (a b c : Value) : checkTypeCall "zip" ⟨[a, b], [(Str.ofString "strict", c)]⟩ = pure () := by kernel_rfl
theorem zips_new (a b c : Value) : checkBuiltinCall "zip.__new__" ⟨[.type "zip", a, b], [(Str.ofString "strict", c)]⟩ = pure () := by kernel_rfl
theorem zips_init (o a b c : Value) : argsOk "object.__init__" ⟨[o, a, b], [(Str.ofString "strict", c)]⟩ := by unfold argsOk; kernel_rfl
end F
abbrev zsH (h : Heap) (o1 o2 : Obj) : Heap := (gzO2 h o1 o2).push { cls := .type "zip", data := .fields #[.none, .bool false, .bool true, .ref ((h.push o1).push o2).objs.size, .ref (gzT2 h o1 o2).objs.size] }
theorem meets_zips {v1 v2 : Value} {o1 o2 : Obj} {H1 H2 : Heap → Prop} (B1 : Begins v1 o1 H1) (B2 : Begins v2 o2 H2) :
    Meets (Builtin.«zip.__new__» ⟨[.type "zip", v1, v2], [(Str.ofString "strict", .bool true)]⟩) (fun _ R s => (H1 s.heap ∧ H2 s.heap) ∧
      R (.ok (.ret (.ref (gzO2 s.heap o1 o2).objs.size))) { s with heap := zsH s.heap o1 o2 }) :=
  .of_wp fun prog w A R s h => by
    obtain ⟨hp, g, d, tk, os⟩ := s
    obtain ⟨⟨k1, k2⟩, h⟩ := h
    have hsub := sub_zip
    have e1 : (Str.ofString "strict" != ("strict" : Str)) = false := by decide +kernel
    have q1 : ∀ {A' : Around} {E : Value → Shared → Prop} {Q : Value → Shared → Prop}, Q (.ref hp.objs.size) ⟨(hp.push o1), g, d, tk, os⟩ → wpAny (model prog w) A' (pyIter v1) Q E ⟨hp, g, d, tk, os⟩ :=
      fun q => B1.iter prog w _ _ ⟨hp, g, d, tk, os⟩ _ k1 q
    have q2 : ∀ {A' : Around} {E : Value → Shared → Prop} {Q : Value → Shared → Prop}, Q (.ref (hp.push o1).objs.size) ⟨((hp.push o1).push o2), g, d, tk, os⟩ → wpAny (model prog w) A' (pyIter v2) Q E ⟨(hp.push o1), g, d, tk, os⟩ :=
      fun q => B2.iter prog w _ _ ⟨(hp.push o1), g, d, tk, os⟩ _ (B2.keeps _ _ k2 fun b o' e => Heap.get?_push_of_some _ e) q
    wp_walk using q1, q2
    exact ⟨_, rfl, h⟩
section
variable {prog : Program} {w : World} {A : Around} {E : Value → Shared → Prop} {s : Shared}
theorem call_zips {v1 v2 : Value} {o1 o2 : Obj} {H1 H2 : Heap → Prop} {Q : Value → Shared → Prop} (B1 : Begins v1 o1 H1) (B2 : Begins v2 o2 H2) (k1 : H1 s.heap) (k2 : H2 s.heap)
    (h : ∀ h', IsZipS h' (s.heap.objs.size + 4) (s.heap.objs.size + 2) (s.heap.objs.size + 3) .none → IsTupOf2 h' (s.heap.objs.size + 2) (.ref s.heap.objs.size) (.ref (s.heap.objs.size + 1)) →
      IsTupOf2 h' (s.heap.objs.size + 3) .none .none → h'.get? s.heap.objs.size = some o1 → h'.get? (s.heap.objs.size + 1) = some o2 →
      (∀ c o, s.heap.get? c = some o → h'.get? c = some o) → Q (.ref (s.heap.objs.size + 4)) { s with heap := h' }) :
    wpAny (model prog w) A (call (.type "zip") [v1, v2] [(Str.ofString "strict", .bool true)]) Q E s := by
  refine callType_newKw F.called_zip (by decide) (F.zips_call _ _ _) (F.zips_new _ _ _) (fun o => F.zips_init o _ _ _) F.entry_zip_new (meets_zips B1 B2) ⟨⟨k1, k2⟩, ?_⟩
  have n1 : (s.heap.push o1).objs.size = s.heap.objs.size + 1 := Heap.size_push ..
  have n2 : ((s.heap.push o1).push o2).objs.size = s.heap.objs.size + 2 := by rw [Heap.size_push, n1]
  have n3 : (gzT2 s.heap o1 o2).objs.size = s.heap.objs.size + 3 := by rw [Heap.size_push, n2]
  have n4 : (gzO2 s.heap o1 o2).objs.size = s.heap.objs.size + 4 := by rw [Heap.size_push, n3]
  have p5 : (zsH s.heap o1 o2).get? (gzO2 s.heap o1 o2).objs.size = some _ := Heap.get?_push_size _ rfl
  have p4 : (zsH s.heap o1 o2).get? (gzT2 s.heap o1 o2).objs.size = some _ := Heap.get?_push_of_some _ (Heap.get?_push_size _ rfl)
  have p3 : (zsH s.heap o1 o2).get? ((s.heap.push o1).push o2).objs.size = some _ := Heap.get?_push_of_some _ (Heap.get?_push_of_some _ (Heap.get?_push_size _ rfl))
  have p2 : (zsH s.heap o1 o2).get? (s.heap.push o1).objs.size = some o2 := Heap.get?_push_of_some _ (Heap.get?_push_of_some _ (Heap.get?_push_of_some _ (Heap.get?_push_size _ B2.free)))
  have p1 : (zsH s.heap o1 o2).get? s.heap.objs.size = some o1 := Heap.get?_push_of_some _ (Heap.get?_push_of_some _ (Heap.get?_push_of_some _ (Heap.get?_push_of_some _ (Heap.get?_push_size _ B1.free))))
  show _ ∧ _
  rw [n2, n3, n4] at p5
  rw [n1, n2] at p3
  rw [n3] at p4
  rw [n1] at p2
  rw [n4]
  exact ⟨⟨_, p5, rfl⟩, h _ p5 p3 p4 p1 p2 fun c o x =>
    Heap.get?_push_of_some _ (Heap.get?_push_of_some _ (Heap.get?_push_of_some _ (Heap.get?_push_of_some _ (Heap.get?_push_of_some _ x))))⟩
end
end PySem
namespace L3
open PySem PySem.Spec PyProof.Rows L2
/-- a list (false) or a tuple (true) -/
def SqB (b : Bool) (K : PySem.W.Frag) (H : Hp) (a : Addr) (xs : List V) : Prop := match b with
  | false => SqL K H a xs
  | true => SqT K H a xs
def ItB (b : Bool) (h : Heap) (it a : Addr) (i : Nat) : Prop := match b with
  | false => h.IsListIter it a i
  | true => h.IsTupleIter it a i
theorem ItB.at {b : Bool} {h h' : Heap} {it a : Addr} {i : Nat} (x : ItB b h it a i) (k : ∀ o, h.get? it = some o → h'.get? it = some o) : ItB b h' it a i := by
  cases b
  · exact Heap.IsListIter.at x k
  · exact Heap.IsTupleIter.at x k
theorem ItB.obj {b : Bool} {h : Heap} {it a : Addr} {i : Nat} (x : ItB b h it a i) : ∃ o, h.get? it = some o ∧ ∀ v, o.data ≠ .cell v := by
  cases b
  · obtain ⟨o, e, _, d⟩ := x
    exact ⟨o, e, fun v q => by rw [d] at q; cases q⟩
  · obtain ⟨o, e, _, d⟩ := x
    exact ⟨o, e, fun v q => by rw [d] at q; cases q⟩
section
variable {X : Cx} {pins : List (Addr × Obj)} {σ : L2.St} {H : Hp} {s : Shared}
/-- what an iterator over it draws -/
theorem SqB.draws {b : Bool} {a : Addr} {xs : List V} (I : Inv X pins σ H s) (h : SqB b X.K H a xs) : ∃ (its : List Value) (C : Heap → Prop), Vals xs its ∧ C s.heap ∧ a < s.heap.objs.size ∧
    ∀ (A : Around) (it : Addr), A.handled = none → a ≠ it → Draws X.prog X.w A it [it, a] xs.length (fun i v => its[i]? = some v) (fun i h => ItB b h it a i ∧ C h) ∧
      ∀ n, xs.length ≤ n → Draws X.prog X.w A it [it, a] n (fun _ _ => False) (fun j h => j = n ∧ ItB b h it a n ∧ C h) := by
  cases b
  · obtain ⟨its, rv, p, _⟩ := I.list h
    refine ⟨its, fun h => h.IsList a its.toArray, rv, p.isList, p.lt, fun A it hh ne => ?_⟩
    have D := Draws.list (prog := X.prog) (w := X.w) hh it a ne its.toArray
    have l := rv.length
    rw [List.size_toArray, ← l] at D
    refine ⟨by simpa [ItB] using D, fun n hn => ⟨fun i h st => D.live _ _ st.2, fun i h h' st hk => ⟨st.1, st.2.1.at fun o e => hk it (by simp) o e, st.2.2.at fun o e => hk a (by simp) o e⟩, fun i s Q E hi st hQ => absurd st.1 (Nat.ne_of_lt hi), fun s Q E st hE => wpAny_nextOf_list_end hh st.2.1 st.2.2 (by simp; omega) hE⟩⟩
  · obtain ⟨its, rv, p, _⟩ := I.tuple h
    obtain ⟨o, ho, _⟩ := id p
    refine ⟨its, fun h => h.IsTuple a its.toArray, rv, p, Heap.lt_size ho, fun A it hh ne => ?_⟩
    have D := Draws.tuple (prog := X.prog) (w := X.w) hh it a ne its.toArray
    have l := rv.length
    rw [List.size_toArray, ← l] at D
    refine ⟨by simpa [ItB] using D, fun n hn => ⟨fun i h st => D.live _ _ st.2, fun i h h' st hk => ⟨st.1, st.2.1.at fun o e => hk it (by simp) o e, st.2.2.at fun o e => hk a (by simp) o e⟩, fun i s Q E hi st hQ => absurd st.1 (Nat.ne_of_lt hi), fun s Q E st hE => wpAny_nextOf_tuple_end hh st.2.1 st.2.2 (by simp; omega) hE⟩⟩
theorem SqB.inj {b : Bool} {a : Addr} {xs ys : List V} (I : Inv X pins σ H s) (h : SqB b X.K H a xs) (h' : SqB b X.K H a ys) : xs = ys := by
  cases b
  · exact I.list_inj h h'
  · exact I.tuple_inj h h'
end
def ItzS (K : PySem.W.Frag) (b1 b2 : Bool) (a b : Addr) : It :=
  ⟨fun i H => ∃ (xs ys : List V) (x y : V), SqB b1 K H a xs ∧ SqB b2 K H b ys ∧ xs.length = ys.length ∧ xs[i]? = some x ∧ ys[i]? = some y,
    fun i H v H' => ∃ T x y, v = .ref T ∧ H T = none ∧ H' = upd H T (.tup [x, y]) ∧ (∀ xs, SqB b1 K H a xs → xs[i]? = some x) ∧ ∀ ys, SqB b2 K H b ys → ys[i]? = some y,
    fun i H => ∃ xs ys : List V, SqB b1 K H a xs ∧ SqB b2 K H b ys ∧ xs.length = ys.length ∧ xs.length ≤ i⟩
theorem zsep {z TI TO i1 i2 a b : Addr} (D : ZipApart z TI TO i1 i2 a b) : ZipSep2 z TI TO i1 i2 [i1, a] [i2, b] where
  TIz := D.TIz
  TOz := D.TOz
  TITO := D.TITO
  TIi1 := D.TIi1
  mem1 := by simp
  zf1 := by simp [D.i1z.symm, D.l1z.symm]
  Tf1 := by simp [D.TOi1, D.l1TO.symm]
  TIi2 := D.TIi2
  mem2 := by simp
  zf2 := by simp [D.i2z.symm, D.l2z.symm]
  Tf2 := by simp [D.TOi2, D.l2TO.symm]
  sep1_2 := by simp [D.i12, D.l2i1.symm]
  sep2_1 := by simp [D.i12.symm, D.l1i2.symm]
theorem turn_zipS {P : Program} {w : World} {K : PySem.W.Frag} {elts : List Expr} {kk : Nat} {tpos : Pos} {b1 b2 : Bool} {a b z TI TO i1 i2 : Addr} (D : ZipApart z TI TO i1 i2 a b) :
    Turn P w K (.Tuple elts kk tpos) (ItzS K b1 b2 a b) [z, TI, TO, i1, i2] z (fun i h => IsZipS h z TI TO .none ∧ IsTupOf2 h TI (.ref i1) (.ref i2) ∧ (∃ x y, IsTupOf2 h TO x y) ∧ ItB b1 h i1 a i ∧ ItB b2 h i2 b i) where
  mem := by simp
  obj := fun i h st c hc => by
    obtain ⟨hz, hTI, ⟨x, y, hTO⟩, h1, h2⟩ := st
    have e' : c = z ∨ c = TI ∨ c = TO ∨ c = i1 ∨ c = i2 := by simpa using hc
    rcases e' with q | q | q | q | q
    · rw [q]; exact ⟨_, hz, fun v q => nomatch q⟩
    · rw [q]; exact ⟨_, hTI, fun v q => nomatch q⟩
    · rw [q]; exact ⟨_, hTO, fun v q => nomatch q⟩
    · rw [q]; exact h1.obj
    · rw [q]; exact h2.obj
  keep := fun i h h' st k => by
    obtain ⟨hz, hTI, ⟨x, y, hTO⟩, h1, h2⟩ := st
    exact ⟨k z (by simp) _ hz, k TI (by simp) _ hTI, ⟨x, y, k TO (by simp) _ hTO⟩, h1.at fun o q => k i1 (by simp) o q, h2.at fun o q => k i2 (by simp) o q⟩
  item := by
    intro X hP hw hK hc i pins s σ H E I hf st hg
    subst hP hw hK
    obtain ⟨hz, hTI, ⟨x0, y0, hTO⟩, h1, h2⟩ := st
    obtain ⟨xs, ys, x, y, hqx, hqy, hl, hx, hy⟩ := hg
    obtain ⟨its, C1, rv, c1, la, dr1⟩ := SqB.draws I hqx
    obtain ⟨its2, C2, rv2, c2, lb, dr2⟩ := SqB.draws I hqy
    have hh : X.A.handled = none := I.ok.hd hc
    have D1 := (dr1 X.A.in1 i1 hh D.l1i1).1
    have D2 := (dr2 X.A.in1 i2 hh D.l2i2).1
    rw [hl] at D1
    obtain ⟨u, hu, ru⟩ := rv.get hx
    obtain ⟨u2, hu2, ru2⟩ := rv2.get hy
    have hzl : z < s.heap.objs.size := Heap.lt_size hz
    refine pyNext_zipS_item (zsep D) D1 D2 hz hTI hTO ⟨h1, c1⟩ ⟨h2, c2⟩ (List.getElem?_eq_some_iff.mp hy).1 fun x1 x2 h' tk p1 p2 z' TO' st1 st2 hT hsz hk => ?_
    have p1 : its[i]? = some x1 := p1
    have p2 : its2[i]? = some x2 := p2
    rw [hu] at p1
    rw [hu2] at p2
    cases p1
    cases p2
    refine ⟨_, rfl, letGo_zipS (s := { s with heap := h', toks := tk }) z' fun h'' z'' sb => ?_⟩
    have hT2 : h''.get? s.heap.objs.size = some { cls := .type "tuple", data := .seq #[u, u2] } := (sb.2 _ (Nat.ne_of_gt hzl)).trans hT
    have new : ObjOk X.prog X.w (upd H s.heap.objs.size (.tup [x, y])) h'' s.heap.objs.size (.tup [x, y]) :=
      ⟨by show 2 ≤ sizeLine; decide, [u, u2], .cons ru (.cons ru2 .nil), ⟨_, hT2, rfl, _, rfl⟩⟩
    have I1 : Inv X pins σ (upd H s.heap.objs.size (.tup [x, y])) { s with heap := h'', toks := tk } :=
      I.turnedNew (t' := tk) (ch := [z, TI, TO, i1, i2]) (fun c o hb q => (sb.2 c (fun q' => hb (by simp [q']))).trans (hk c o (fun q' => hb (by simp [q'])) (fun q' => hb (by simp [q'])) (fun q' => hb (by simp [q'])) (fun q' => hb (by simp [q'])) q)) hf (Nat.le_refl _) new
    refine ⟨.ref s.heap.objs.size, _, I1, rfl, ⟨_, x, y, rfl, I.hok.fresh (Nat.le_refl _), rfl, fun l hl => by rw [SqB.inj I hl hqx]; exact hx, fun l hl => by rw [SqB.inj I hl hqy]; exact hy⟩, ⟨z'', ?_, ⟨u, u2, ?_⟩, ?_, ?_⟩, fun c hcm => ?_⟩
    · exact (sb.2 _ D.TIz).trans (hk _ _ D.TIz D.TITO D.TIi1 D.TIi2 hTI)
    · exact (sb.2 _ D.TOz).trans TO'
    · exact st1.1.at fun o q => (sb.2 _ D.i1z).trans q
    · exact st2.1.at fun o q => (sb.2 _ D.i2z).trans q
    · have hlt : c < s.heap.objs.size := by
        have e' : c = z ∨ c = TI ∨ c = TO ∨ c = i1 ∨ c = i2 := by simpa using hcm
        rcases e' with q | q | q | q | q
        · rw [q]; exact hzl
        · rw [q]; exact Heap.lt_size hTI
        · rw [q]; exact Heap.lt_size hTO
        · rw [q]; obtain ⟨_, e1, _⟩ := h1.obj; exact Heap.lt_size e1
        · rw [q]; obtain ⟨_, e2, _⟩ := h2.obj; exact Heap.lt_size e2
      rw [upd_ne (Nat.ne_of_lt hlt)]
      exact (hf c hcm).1
  done := by
    intro X hP hw hK hc i pins s σ H E I hf st hg
    subst hP hw hK
    obtain ⟨hz, hTI, ⟨x0, y0, hTO⟩, h1, h2⟩ := st
    obtain ⟨xs, ys, hqx, hqy, hl, hi⟩ := hg
    obtain ⟨its, C1, rv, c1, la, dr1⟩ := SqB.draws I hqx
    obtain ⟨its2, C2, rv2, c2, lb, dr2⟩ := SqB.draws I hqy
    have hh : X.A.handled = none := I.ok.hd hc
    have D1 := (dr1 X.A.in1 i1 hh D.l1i1).2 i hi
    have D2 := (dr2 X.A.in1 i2 hh D.l2i2).2 i (by rw [← hl]; exact hi)
    exact pyNext_zipS_end hh (zsep D) D1 D2 hz hTI hTO ⟨rfl, h1, c1⟩ ⟨rfl, h2, c2⟩ fun h' tk hk => ⟨rfl, I.turnedL (t' := tk) (ch := [z, TI, TO, i1, i2]) (fun c o hb q =>
      hk c o (fun q' => hb (by simp [q'])) (fun q' => hb (by simp [q'])) (fun q' => hb (by simp [q'])) (fun q' => hb (by simp [q'])) q) hf⟩
  self := fun A i s Q E st h => pyIter_zipS st.1 h
def iZipS (K : PySem.W.Frag) (ta : TA) : TI := fun σ H R => ta σ H fun vs H1 => ∃ a b xs ys b1 b2, vs = [.ref a, .ref b] ∧ SqB b1 K H1 a xs ∧ SqB b2 K H1 b ys ∧ R (ItzS K b1 b2 a b) H1
theorem SqB.begins {X : Cx} {pins : List (Addr × Obj)} {σ : L2.St} {H : Hp} {s : Shared} {b : Bool} {a : Addr} {xs : List V} (I : Inv X pins σ H s) (h : SqB b X.K H a xs) : ∃ (o : Obj) (C : Heap → Prop), Begins (.ref a) o C ∧ C s.heap ∧ a < s.heap.objs.size ∧ ∀ (h' : Heap) (it : Addr), h'.get? it = some o → ItB b h' it a 0 := by
  cases b
  · obtain ⟨its, rv, p, _⟩ := I.list h
    exact ⟨_, _, begins_list a its.toArray, p.isList, p.lt, fun h' it e => ⟨_, e, rfl, rfl⟩⟩
  · obtain ⟨its, rv, p, _⟩ := I.tuple h
    obtain ⟨o, ho, _⟩ := id p
    exact ⟨_, _, begins_tuple a its.toArray, p, Heap.lt_size ho, fun h' it e => ⟨_, e, rfl, rfl⟩⟩
theorem pi_zips {X : Cx} {e e2 : Expr} {ta : TA} {j : Nat} {p pos kp cp tpos : Pos} {elts : List Expr} {kk : Nat} (hm : X.mg "zip" = none) (ha : PA X [e, e2] ta) (hg : Gl X "zip" := by rfl)
    (hs : starEach [e, e2] X.env = (false, eval e X.env) :: starEach [e2] X.env := by rfl)
    (he : backTo pos (starEach [e, e2] X.env) = (false, eval e X.env) :: backTo pos (starEach [e2] X.env) := by rfl)
    (hpl : (backTo pos (starEach [e, e2] X.env)).any (·.1) = false := by rfl)
    (ht : eval (.Call (.Name "zip" p) [e, e2] [⟨some "strict", .Constant (.bool true) j cp, kp⟩] pos) X.env = (do
      let fv ← eval (.Name "zip" p) X.env
      callWith pos fv [] (backTo pos (starEach [e, e2] X.env)) (backToKw pos (keywordEach [⟨some "strict", .Constant (.bool true) j cp, kp⟩] X.env))) := by rfl) :
    PI X (.Tuple elts kk tpos) (.Call (.Name "zip" p) [e, e2] [⟨some "strict", .Constant (.bool true) j cp, kp⟩] pos) (iZipS X.K ta) := by
  refine ⟨fun pins s σ H R I h => ?_⟩
  rw [ht]
  refine wpAny_bind (ld_blt I hg hm PyProof.Rows.boot_zip (callWith_typeK (thn (ha.run pos pins s σ H _ I h) fun us s1 ⟨vs, H1, I1, r1, q1⟩ => ?_) he hpl))
  refine kws_cons (Constant_bool (kws_nil ?_))
  obtain ⟨a, b, xs, ys, b1, b2, ex, hqx, hqy, q⟩ := q1
  subst ex
  cases r1 with
  | cons r rr =>
    cases rr with
    | cons r' rr =>
      cases rr
      cases r
      cases r'
      obtain ⟨o1, C1, B1, c1, la, i1⟩ := SqB.begins I1 hqx
      obtain ⟨o2, C2, B2, c2, lb, i2⟩ := SqB.begins I1 hqy
      refine call_zips B1 B2 c1 c2 fun h' hz hTI hTO h1 h2 hk => pyIter_zipS hz ?_
      have I2 : Inv X pins σ H1 { s1 with heap := h' } := I1.kept (t' := s1.toks) hk
      refine ⟨s1.heap.objs.size + 4, [s1.heap.objs.size + 4, s1.heap.objs.size + 2, s1.heap.objs.size + 3, s1.heap.objs.size, s1.heap.objs.size + 1], _, _, H1, rfl, I2, turn_zipS (PySem.W.ktu_apart s1.heap.objs.size a b la lb), ⟨hz, hTI, ⟨_, _, hTO⟩, i1 _ _ h1, i2 _ _ h2⟩, fun c hcm => ?_, q⟩
      have hle : s1.heap.objs.size ≤ c := by
        have e' : c = s1.heap.objs.size + 4 ∨ c = s1.heap.objs.size + 2 ∨ c = s1.heap.objs.size + 3 ∨ c = s1.heap.objs.size ∨ c = s1.heap.objs.size + 1 := by simpa using hcm
        rcases e' with z | z | z | z | z <;> rw [z] <;> first | exact Nat.le_refl _ | exact Nat.le_add_right _ _
      exact I1.fpOk hle (I1.hok.fresh hle)
/-- lists and tuples -/
def seqP : PV → Option (List PV)
  | .lst l => some l
  | .tup l => some l
  | .frz l => some l
  | _ => none
def pZipS (ta : PTA) : PTI := fun ρ Q => ta ρ fun ps => match ps with
  | [p, q] => match seqP p, seqP q with
    | some l, some m => l.length = m.length ∧ Q (zipP l m)
    | _, _ => False
  | _ => False
section
variable {X : Cx} {Z : Par}
theorem seqB_of {W : Wd} {v : V} {p : PV} {l : List PV} (d : Dat Z.K W v p) (e : seqP p = some l) : ∃ a b xs, v = .ref a ∧ DatL Z.K W xs l ∧ ∀ W1 H1, W.le W1 → Holds Z W1 H1 → SqB b Z.K H1 a xs := by
  cases d with
  | tup h r => cases e; exact ⟨_, true, _, rfl, r, fun W1 H1 le h1 => .of (h1.ex (le.d _ _ h) fun z => z)⟩
  | lst h r => cases e; exact ⟨_, false, _, rfl, r, fun W1 H1 le h1 => .of (h1.ex (le.d _ _ h) fun z => z)⟩
  | frz h r => cases e; exact ⟨_, false, _, rfl, r, fun W1 H1 le h1 => SqL.holds h1 (SqL.monoD le.d h)⟩
  | _ => cases e
theorem serves_zips {W : Wd} {H : Hp} {b1 b2 : Bool} {a b : Addr} {xs ys : List V} {l m : List PV} (ha : ∀ W1 H1, W.le W1 → Holds Z W1 H1 → SqB b1 Z.K H1 a xs) (hb : ∀ W1 H1, W.le W1 → Holds Z W1 H1 → SqB b2 Z.K H1 b ys) (hl : l.length = m.length)
    (da : DatL Z.K W xs l) (db : DatL Z.K W ys m) : Serves Z W H (ItzS Z.K b1 b2 a b) (zipP l m) := fun W1 H1 le h1 => by
  have ka := ha W1 H1 le.le h1
  have kb := hb W1 H1 le.le h1
  have lx := da.length
  have ly := db.length
  refine ⟨fun i hi => ?_, fun i p hp => ?_⟩
  · rw [zipP_length] at hi
    exact ⟨xs, ys, ka, kb, by rw [lx, ly, hl], by rw [lx]; omega⟩
  · obtain ⟨p1, p2, h2, h3, rfl⟩ := zipP_get hp
    obtain ⟨v1, hv1, d1⟩ := da.getP h2
    obtain ⟨v2, hv2, d2⟩ := db.getP h3
    refine ⟨⟨xs, ys, v1, v2, ka, kb, by rw [lx, ly, hl], hv1, hv2⟩, fun x H2 ⟨T, x1, y1, e1, n, e2, g1, g2⟩ => ?_⟩
    subst e1 e2
    have z1 := g1 xs ka
    have z2 := g2 ys kb
    rw [hv1] at z1
    rw [hv2] at z2
    cases z1
    cases z2
    have e := Ext.new (o := .tup [v1, v2]) h1 n
    exact ⟨_, e, .tup Wd.add_at (.cons ((d1.mono le.le).mono e.le) (.cons ((d2.mono le.le).mono e.le) .nil))⟩
theorem qi_zips {e e2 : Expr} {ta : PTA} {j : Nat} {p pos kp cp tpos : Pos} {elts : List Expr} {kk : Nat} (hm : X.mg "zip" = none) (ha : PA X [e, e2] (liftA Z ta)) (hK : X.K = Z.K := by rfl) (hg : Gl X "zip" := by rfl)
    (hs : starEach [e, e2] X.env = (false, eval e X.env) :: starEach [e2] X.env := by rfl)
    (he : backTo pos (starEach [e, e2] X.env) = (false, eval e X.env) :: backTo pos (starEach [e2] X.env) := by rfl)
    (hpl : (backTo pos (starEach [e, e2] X.env)).any (·.1) = false := by rfl)
    (ht : eval (.Call (.Name "zip" p) [e, e2] [⟨some "strict", .Constant (.bool true) j cp, kp⟩] pos) X.env = (do
      let fv ← eval (.Name "zip" p) X.env
      callWith pos fv [] (backTo pos (starEach [e, e2] X.env)) (backToKw pos (keywordEach [⟨some "strict", .Constant (.bool true) j cp, kp⟩] X.env))) := by rfl) :
    PI X (.Tuple elts kk tpos) (.Call (.Name "zip" p) [e, e2] [⟨some "strict", .Constant (.bool true) j cp, kp⟩] pos) (liftI Z (pZipS ta)) := by
  obtain ⟨K, PI, mo⟩ := Z
  have hK : X.K = K := hK
  subst hK
  exact PIw (pi_zips hm ha hg hs he hpl ht) fun σ H R ⟨W, H0, ρ, Qp, hh, S, t, q⟩ => by
    refine ⟨W, H0, ρ, _, hh, S, t, fun W1 H1 vs ps e1 d1 t1 => ?_⟩
    split at t1
    · split at t1
      · rename_i p1 p2 l m s1 s2
        cases d1 with
        | cons d1 d2 => cases d2 with
          | cons d2 d3 => cases d3 with
            | nil =>
              obtain ⟨a, b1, xs, rfl, r1, k1⟩ := seqB_of d1 s1
              obtain ⟨b, b2, ys, rfl, r2, k2⟩ := seqB_of d2 s2
              exact ⟨a, b, xs, ys, b1, b2, rfl, k1 W1 H1 (.refl W1) e1.holds, k2 W1 H1 (.refl W1) e1.holds, q W1 H1 _ _ e1 (serves_zips k1 k2 t1.1 r1 r2) t1.2⟩
      · exact t1.elim
    · exact t1.elim
end
end L3

/-! ## L3W -/
/-! Counted draws, more; calls that leave defaults. -/
namespace L3
open PySem PySem.Spec PyProof.Rows L2
variable {X : Cx} {F : Fam} {m n j : Nat}
theorem up2 {e : Expr} {t : PTE} (h : PE X e (lift2 F m j t)) (l : j ≤ n := by omega) : PE X e (lift2 F m n t) :=
  PEw h fun σ H Q ⟨W, H0, ρ, Qp, hh, S, t, q⟩ => ⟨W, H0, ρ, Qp, hh, S, t, fun W' H' v p e d t => q W' H' v p (e.upq l) d t⟩
theorem upS2 {s : List Stmt} {t : PTS} (h : PSs X s (liftS2 F m j t)) (l : j ≤ n := by omega) : PSs X s (liftS2 F m n t) :=
  PSsw h fun D σ H ⟨W0, H0, W, ρ, E, h0, e, S, t, D1⟩ => ⟨W0, H0, W, ρ, E, h0, e, S, t, D1.dnq l⟩
theorem up1 {s : Stmt} {t : PTS} (h : PS X s (liftS2 F m j t)) (l : j ≤ n := by omega) : PS X s (liftS2 F m n t) :=
  PSw h fun D σ H ⟨W0, H0, W, ρ, E, h0, e, S, t, D1⟩ => ⟨W0, H0, W, ρ, E, h0, e, S, t, D1.dnq l⟩
theorem qt2_not {a : Expr} {pos : Pos} {t : PTT} (ha : PT X a (liftT2 F m n t)) : PT X (.UnaryOp .Not a pos) (liftT2 F m n (pNotT t)) :=
  PTw (pt_not ha) fun σ H Q ⟨W, H0, ρ, Qp, hh, S, t, q⟩ => ⟨W, H0, ρ, _, hh, S, t, fun W1 H1 c e1 t1 => q W1 H1 _ e1 t1⟩
theorem liftS2_succ {s : List Stmt} {t : PTS} {k b : Nat} (h : PSs X s (liftS2 F (j + k * b) (j + k * b + b) t)) : PSs X s (liftS2 F (j + k * b) (j + (k + 1) * b) t) := by
  have e : j + (k + 1) * b = j + k * b + b := by rw [Nat.add_mul, Nat.one_mul, Nat.add_assoc]
  rw [e]
  exact h
theorem names_of {c : Str} {v : Value} (h : X.mg c = some v) (hg : Gl X c := by rfl) (hd : (c == ("__debug__" : Str)) = false := by decide) : Names X c v := ⟨hg, hd, .inl h⟩
/-- a def with defaults, called without them -/
structure FnCD (P : Program) (w : World) (mg : Str → Option Value) (Z : Par) (x : Str) (k ar : Nat) (is : List Int) (Φ : Con) : Prop where
  ex : ∃ (f : Addr) (fd : FuncData) (ps : List Str) (ds : List Value), mg x = some (.ref f) ∧ PySem.W.keepIn Z.K (.ref f) = true ∧ Vals (is.map V.int) ds ∧ Binds Z.K fd ps ds ∧ ps.length = ar + is.length ∧ ∀ base : Heap, FnOk P w Z.K mg base CX0 k f fd ps (spP Z Φ)
def pCallD (is : List Int) (Φ : Con) (t : PTA) : PTE := fun ρ Q => t ρ fun ps => Φ (ps ++ is.map PV.int) Q
theorem q_callD {Z : Par} {x : Str} {k j n : Nat} {is : List Int} {Φ : Con} {p pos : Pos} {e : Expr} {es : List Expr} {t : PTA} (c : FnCD X.prog X.w X.mg Z x k n is Φ) (hr : Room j X.A) (ha : PA X (e :: es) (liftA Z t)) (hK : X.K = Z.K := by rfl) (hj : k ≤ j := by decide) (hg : Gl X x := by rfl)
    (hdb : (x == ("__debug__" : Str)) = false := by decide) (he : starEach (e :: es) X.env = (false, eval e X.env) :: starEach es X.env := by rfl) (hpl : (backTo pos (starEach es X.env)).any (·.1) = false := by rfl) :
    PE X (.Call (.Name x p) (e :: es) [] pos) (lift Z (pCallD is Φ t)) := by
  obtain ⟨K, PI, mo⟩ := Z
  have hK : X.K = K := hK
  subst hK
  obtain ⟨f, fd, ps, ds, hm, kp, hv, b, hn, F⟩ := c.ex
  refine PEw (pe_call (F X.base) (hr.mono hj) hg hm kp b hv pass0 ha hdb he hpl) fun σ H Q ⟨W, H0, ρ, Qp, hh, S, t, q⟩ => ?_
  refine ⟨W, H0, ρ, _, hh, S, t, fun W1 H1 vs ps e1 d1 t1 => ?_⟩
  exact ⟨W1, _, Qp, e1.holds, d1.append (DatL.ofInts is), t1, fun W2 H2 v p e2 d2 t2 => q W2 H2 v p (e1.trans hh e2) d2 t2⟩
/-- a list times a whole number -/
def kRepL : PK2 := fun p q Q => match p, q with
  | .lst l, .int k => -(2 ^ 63) ≤ k ∧ k < 2 ^ 63 ∧ l.length * k.toNat ≤ sizeLine ∧ Q (.lst (List.replicate k.toNat l).flatten)
  | _, _ => False
theorem q_repL {Z : Par} : OpP Z X (binaryOp .Mult) kRepL := ⟨_, op_rep, fun W H x y p q Q Qp hh dx dy t k => by
  unfold kRepL at t
  split at t
  · cases dy
    cases dx with
    | lst ha ra =>
      obtain ⟨h1, h2, h3, t⟩ := t
      refine ⟨_, _, _, rfl, rfl, hh.ex ha fun z => z, h1, h2, by rw [ra.length]; exact h3, fun p n => ?_⟩
      exact k _ _ _ _ (Ext.new hh n) (.lst Wd.add_at ((ra.rep _).mono (Wd.le_add (hh.new n)))) t
  · exact t.elim⟩
def kIsNotB : PK2 := fun p q Q => match p, q with
  | .bl a, .bl b => Q (.bl (!decide (a = b)))
  | _, _ => False
theorem q_isnotB {Z : Par} : OpP Z X (compareOp .IsNot) kIsNotB := ⟨_, op_isnot_bl, fun W H x y p q Q Qp hh dx dy t k => by
  unfold kIsNotB at t
  split at t
  · cases dx
    cases dy
    exact ⟨_, _, rfl, rfl, k _ _ _ _ (.refl hh) (.bl _) t⟩
  · exact t.elim⟩
abbrev xTl (b : String) : List Value := [.type b, .type "Exception", .type "BaseException", .type "object"]
end L3

/-! ## HY -/
/-! The head's facts: as HX, with keyword-only defaults and own classes of exceptions. -/
namespace HY
open PySem PySem.Spec PyProof.Rows L2
inductive Lc where
  | g (x : Str)
  | m (c x : Str)
  | p (c f : Str)
def pg (K : PySem.W.Frag) (c f : Str) : Addr := match PySem.W.recIn K (He.ma K (He.ga K c) f) "property" with
  | some (.ref g :: _) => g
  | _ => 0
def lad (K : PySem.W.Frag) : Lc → Addr
  | .g x => He.ga K x
  | .m c x => He.ma K (He.ga K c) x
  | .p c f => pg K c f
structure DefE where
  at_ : Lc
  name : Str
  qual : Str
  params : Arguments
  body : List Stmt
  scope : Scope
  dvs : List V
  kws : List (Str × V)
def fnA (K : PySem.W.Frag) (a : Addr) : He.FnW := match K.lookup a with
  | some ⟨_, _, .func fd, _⟩ => some (fd.name, fd.qualname, fd.params, fd.body, fd.scope, fd.globals, fd.closure, fd.builtins)
  | _ => none
def okA (K : PySem.W.Frag) (a : Addr) (qual : Str) (dvs : List V) (kws : List (Str × V)) : Bool := PySem.W.keepIn K (.ref a) && (match K.lookup a with
  | some ⟨_, _, .func fd, _⟩ => PySem.W.codeIn K fd.code qual && (He.dflB K fd.defaults dvs && He.kwdB K fd.kwdefaults kws)
  | _ => false)
def DefE.val (d : DefE) : He.FnW := some (d.name, d.qual, d.params, .stmts d.body, d.scope, mainGlobals, [], builtinsNs)
theorem funA {K : PySem.W.Frag} {a : Addr} {d : DefE} (h1 : fnA K a = d.val) (h2 : okA K a d.qual d.dvs d.kws = true) : ∃ fd, FunD K d.name d.qual d.params d.body d.scope d.dvs d.kws a fd := by
  unfold okA at h2
  rw [Bool.and_eq_true] at h2
  obtain ⟨k1, k2⟩ := h2
  unfold fnA DefE.val at h1
  split at k2
  · rename_i oc od fd osl e
    rw [e] at h1
    rw [Bool.and_eq_true, Bool.and_eq_true] at k2
    simp only [Option.some.injEq, Prod.mk.injEq] at h1
    obtain ⟨e1, e2, e3, e4, e5, e6, e7, e8⟩ := h1
    refine ⟨fd, ⟨oc, od, fd.defaults, fd.kwdefaults, fd.doc, fd.pyModule, fd.annotations, fd.code, fd.closureTuple, osl, ?_, e, k2.1, He.dflB_ok k2.2.1, He.kwdB_ok k2.2.2⟩, k1⟩
    cases fd
    simp only at e1 e2 e3 e4 e5 e6 e7 e8
    subst e1 e2 e3 e4 e5 e6 e7 e8
    rfl
  · cases k2
def prOk (K : PySem.W.Frag) (q : Str × Str) : Bool :=
  He.eqO (PySem.W.findIn K (.ref (He.ga K q.1)) q.2) (some (some (.ref (He.ma K (He.ga K q.1) q.2)))) && (He.eqO (PySem.W.specialIn K (.ref (He.ma K (He.ga K q.1) q.2)) (Str.ofString "__get__")) (some (some (.builtin "property.__get__"))) &&
    (decide (PySem.W.takesIn K (.ref (He.ma K (He.ga K q.1) q.2)) = some true) && (match PySem.W.recIn K (He.ma K (He.ga K q.1) q.2) "property" with
      | some (.ref _ :: _) => true
      | _ => false)))
theorem propOk {K : PySem.W.Frag} {c f : Str} (h : prOk K (c, f) = true) : PropOf K (He.ga K c) f (He.ma K (He.ga K c) f) (pg K c f) := by
  unfold prOk at h
  simp only [Bool.and_eq_true, decide_eq_true_eq, He.eqO] at h
  obtain ⟨h1, h2, h3, h4⟩ := h
  refine ⟨h1, h2, h3, ?_⟩
  unfold pg
  split at h4
  · rename_i g r e
    rw [e]
    exact ⟨r, rfl⟩
  · cases h4
/-! own classes of exceptions -/
def oxB (K : PySem.W.Frag) (C : Addr) (Nw : String) (tl : List Value) : Bool := (match K.lookup C with
    | some ⟨.type "type", _, .cls cd, sl⟩ => (match cd.mro, sl.toList with
      | .ref C' :: bm, [_, _, _, _, some (.builtin n), _] => C' == C && (n == Nw && (!cd.hasDel && (cd.hasDict && L3X.ownThen tl bm)))
      | _, _ => false)
    | _ => false) && (He.eqO (PySem.W.findIn K (.ref C) "__setattr__") (some (some (.builtin "object.__setattr__"))) && (decide (PySem.W.subIn K (.ref C) (.type "BaseException") = some true) && (decide (PySem.W.typeIn K (.ref C) = some (.type "type")) && PySem.W.keepIn K (.ref C))))
theorem oxB_ok {K : PySem.W.Frag} {C : Addr} {Nw : String} {tl : List Value} (h : oxB K C Nw tl = true) : L3X.OxC K Nw tl C := by
  unfold oxB at h
  simp only [Bool.and_eq_true, decide_eq_true_eq, He.eqO] at h
  obtain ⟨h1, h2, h3, h4, h5⟩ := h
  refine ⟨?_, h2, h3, h4, h5⟩
  split at h1
  · rename_i dd cd sl ho
    split at h1
    · rename_i C' bm k0 k1 k2 k3 n k5 hm hs
      simp only [Bool.and_eq_true, beq_iff_eq, Bool.not_eq_true'] at h1
      obtain ⟨rfl, rfl, hdel, hdic, ht⟩ := h1
      obtain ⟨nm, bs, mro, ns, qn, hd, sn, sub, ab, col, del⟩ := cd
      dsimp only at hm hdel hdic
      subst hm hdel hdic
      have hsl : sl = #[k0, k1, k2, k3, some (.builtin n), k5] := by
        obtain ⟨l⟩ := sl
        simp only at hs
        rw [hs]
      subst hsl
      exact ⟨nm, qn, ns, bs, bm, sn, sub, ab, col, dd, k0, k1, k2, k3, k5, ho, ht⟩
    · cases h1
  · cases h1
/-- an own class of exceptions: its name, its base's maker, the classes behind it -/
structure XcE where
  c : Str
  nw : String
  tl : List Value
def XcE.ok (K : PySem.W.Frag) (x : XcE) : Bool := oxB K (He.ga K x.c) x.nw x.tl && (xfB K (He.ga K x.c) && (decide (PySem.W.exmOne K (.ref (He.ga K x.c)) (.ref (He.ga K x.c)) = some true) &&
  (He.eqO (PySem.W.findIn K (.ref (He.ga K x.c)) "__init__") (some (some (.ref (He.ma K (He.ga K x.c) "__init__")))) && decide (PySem.W.typeIn K (.ref (He.ma K (He.ga K x.c) "__init__")) = some (.type "function")))))
theorem XcE.ox {K : PySem.W.Frag} {x : XcE} (h : x.ok K = true) : L3X.OxC K x.nw x.tl (He.ga K x.c) := by
  unfold XcE.ok at h
  rw [Bool.and_eq_true] at h
  exact oxB_ok h.1
theorem XcE.xf {K : PySem.W.Frag} {x : XcE} (h : x.ok K = true) : XfC K (He.ga K x.c) := by
  unfold XcE.ok at h
  simp only [Bool.and_eq_true] at h
  exact xfB_ok h.2.1
theorem XcE.xm {K : PySem.W.Frag} {x : XcE} (h : x.ok K = true) : PySem.W.exmOne K (.ref (He.ga K x.c)) (.ref (He.ga K x.c)) = some true := by
  unfold XcE.ok at h
  simp only [Bool.and_eq_true, decide_eq_true_eq] at h
  exact h.2.2.1
theorem XcE.ini {K : PySem.W.Frag} {x : XcE} (h : x.ok K = true) : PySem.W.findIn K (.ref (He.ga K x.c)) "__init__" = some (some (.ref (He.ma K (He.ga K x.c) "__init__"))) ∧ PySem.W.typeIn K (.ref (He.ma K (He.ga K x.c) "__init__")) = some (.type "function") := by
  unfold XcE.ok at h
  simp only [Bool.and_eq_true, decide_eq_true_eq, He.eqO] at h
  exact h.2.2.2
abbrev Ob := Bool × List He.FnW
def obs (fa : List He.Fa) (pr : List (Str × Str)) (xc : List XcE) (fn : List DefE) (K : PySem.W.Frag) : Ob := ((fa.all fun f => He.Fa.ok K f) && (pr.all (prOk K) && (xc.all (XcE.ok K) && fn.all fun d => okA K (lad K d.at_) d.qual d.dvs d.kws)), fn.map fun d => fnA K (lad K d.at_))
def val (fn : List DefE) : Ob := (true, fn.map DefE.val)
def Says (fa : List He.Fa) (pr : List (Str × Str)) (xc : List XcE) (fn : List DefE) (K : PySem.W.Frag) : Prop := obs fa pr xc fn K = val fn
theorem Says.fact {fa : List He.Fa} {pr : List (Str × Str)} {xc : List XcE} {fn : List DefE} {K : PySem.W.Frag} (h : Says fa pr xc fn K) (i : Nat) {f : He.Fa} (e : fa[i]? = some f) : He.Fa.ok K f = true := by
  have h1 := congrArg Prod.fst h
  simp only [obs, val, Bool.and_eq_true] at h1
  exact List.all_eq_true.mp h1.1 f (List.mem_of_getElem? e)
theorem Says.prop {fa : List He.Fa} {pr : List (Str × Str)} {xc : List XcE} {fn : List DefE} {K : PySem.W.Frag} (h : Says fa pr xc fn K) (i : Nat) {q : Str × Str} (e : pr[i]? = some q) : prOk K q = true := by
  have h1 := congrArg Prod.fst h
  simp only [obs, val, Bool.and_eq_true] at h1
  exact List.all_eq_true.mp h1.2.1 q (List.mem_of_getElem? e)
theorem Says.def_ {fa : List He.Fa} {pr : List (Str × Str)} {xc : List XcE} {fn : List DefE} {K : PySem.W.Frag} (h : Says fa pr xc fn K) (i : Nat) {d : DefE} (e : fn[i]? = some d) : ∃ fd, FunD K d.name d.qual d.params d.body d.scope d.dvs d.kws (lad K d.at_) fd := by
  have h1 := congrArg Prod.fst h
  have h2 := congrArg Prod.snd h
  simp only [obs, val, Bool.and_eq_true] at h1 h2
  refine funA (d := d) ?_ (List.all_eq_true.mp h1.2.2.2 d (List.mem_of_getElem? e))
  have h3 := congrArg (fun l => l[i]?) h2
  simp only [List.getElem?_map, e, Option.map_some, Option.some.injEq] at h3
  exact h3
theorem Says.xc {fa : List He.Fa} {pr : List (Str × Str)} {xc : List XcE} {fn : List DefE} {K : PySem.W.Frag} (h : Says fa pr xc fn K) (i : Nat) {x : XcE} (e : xc[i]? = some x) : x.ok K = true := by
  have h1 := congrArg Prod.fst h
  simp only [obs, val, Bool.and_eq_true] at h1
  exact List.all_eq_true.mp h1.2.2.1 x (List.mem_of_getElem? e)
theorem frG_in {g : Addr → Option Obj} {h : Heap} (e : ∀ a, g a = h.get? a) (as : List Addr) : (He.frG g as).In h := by
  intro a o hl
  rw [← e]
  unfold He.frG at hl
  induction as with
  | nil => cases hl
  | cons b r ih =>
    rw [List.filterMap_cons] at hl
    cases q : g b with
    | none => rw [q] at hl; exact ih hl
    | some u =>
      rw [q] at hl
      simp only [Option.map_some] at hl
      rw [List.lookup_cons] at hl
      cases c : a == b with
      | true =>
        rw [c] at hl
        cases hl
        rw [eq_of_beq c]; exact q
      | false => rw [c] at hl; exact ih hl
def obsG (n : Nat) (fa : List He.Fa) (pr : List (Str × Str)) (xc : List XcE) (fn : List DefE) (g : Addr → Option Obj) : Ob := obs fa pr xc fn (He.frG g (He.asD g n))
def hook (n : Nat) (fa : List He.Fa) (pr : List (Str × Str)) (xc : List XcE) (fn : List DefE) : PySem.W.Hook where
  α := Ob
  obs := fun s => obsG n fa pr xc fn s.heap.get?
  val := fun _ => val fn
  says := fun _ h => ∃ K : PySem.W.Frag, K.In h ∧ Says fa pr xc fn K
  of := fun w s e => ⟨_, frG_in (fun _ => rfl) _, e⟩
  keeps := fun w h h' ⟨K, k1, k2⟩ k => ⟨K, fun a o e => k a o (k1 a o e), k2⟩
theorem obsG_eq {n : Nat} {fa : List He.Fa} {pr : List (Str × Str)} {xc : List XcE} {fn : List DefE} {g : Addr → Option Obj} {s : Shared} (h : ∀ a, g a = s.heap.get? a) : obsG n fa pr xc fn g = (hook n fa pr xc fn).obs s := by
  have : g = s.heap.get? := funext h
  subst this
  rfl
end HY

/-! ## MR -/
/-! Plain facts of fractions: sizes, what ratio() computes. -/
namespace MR
def bits (n : Nat) : Nat := n.log2 + 1
def sz (q : Rat) : Nat := max (bits q.num.natAbs) (bits q.den)
theorem bits_le {n k : Nat} (hk : 0 < k) : bits n ≤ k ↔ n < 2 ^ k := by
  unfold bits
  by_cases h : n = 0
  · subst h
    simp only [Nat.log2_zero]
    constructor
    · intro _; exact Nat.pos_of_ne_zero (by simp)
    · intro _; omega
  · rw [← Nat.log2_lt h]; omega
theorem lt_bits (n : Nat) : n < 2 ^ bits n := Nat.lt_log2_self
theorem bits_pos (n : Nat) : 0 < bits n := Nat.succ_pos _
theorem sz_pos (q : Rat) : 0 < sz q := Nat.lt_of_lt_of_le (bits_pos _) (Nat.le_max_left _ _)
theorem sz_le {q : Rat} {k : Nat} (hk : 0 < k) (h1 : q.num.natAbs < 2 ^ k) (h2 : q.den < 2 ^ k) : sz q ≤ k :=
  Nat.max_le.mpr ⟨(bits_le hk).mpr h1, (bits_le hk).mpr h2⟩
theorem num_lt (q : Rat) : q.num.natAbs < 2 ^ sz q := Nat.lt_of_lt_of_le (lt_bits _) (Nat.pow_le_pow_right (by decide) (Nat.le_max_left _ _))
theorem den_lt (q : Rat) : q.den < 2 ^ sz q := Nat.lt_of_lt_of_le (lt_bits _) (Nat.pow_le_pow_right (by decide) (Nat.le_max_right _ _))
theorem log2_num (q : Rat) : q.num.natAbs.log2 < sz q := Nat.lt_of_lt_of_le (Nat.lt_succ_self _) (Nat.le_max_left _ _)
theorem log2_den (q : Rat) : q.den.log2 < sz q := Nat.lt_of_lt_of_le (Nat.lt_succ_self _) (Nat.le_max_right _ _)
theorem log2_lt_of {n k : Nat} (hk : 0 < k) (h : n < 2 ^ k) : n.log2 < k := by
  by_cases z : n = 0
  · subst z; simpa using hk
  · exact (Nat.log2_lt z).mpr h
theorem num_divInt_le (n d : Int) : (Rat.divInt n d).num.natAbs ≤ n.natAbs := by
  rw [Rat.num_divInt, Int.natAbs_ediv_of_dvd (Int.dvd_mul_of_dvd_right (Int.gcd_dvd_right ..))]
  refine Nat.le_trans (Nat.div_le_self _ _) ?_
  rw [Int.natAbs_mul]
  by_cases h : d = 0
  · subst h; simp
  · have : d.sign.natAbs = 1 := Int.natAbs_sign_of_ne_zero h
    rw [this, Nat.one_mul]; exact Nat.le_refl _
theorem den_divInt_le {n d : Int} (h : d ≠ 0) : (Rat.divInt n d).den ≤ d.natAbs := by
  rw [Rat.den_divInt, if_neg h]
  exact Nat.div_le_self _ _
theorem sz_divInt {n d : Int} {k : Nat} (hk : 0 < k) (hd : d ≠ 0) (h1 : n.natAbs < 2 ^ k) (h2 : d.natAbs < 2 ^ k) : sz (Rat.divInt n d) ≤ k :=
  sz_le hk (Nat.lt_of_le_of_lt (num_divInt_le n d) h1) (Nat.lt_of_le_of_lt (den_divInt_le hd) h2)
theorem lt_mul {a b j k : Nat} (h1 : a < 2 ^ j) (h2 : b < 2 ^ k) : a * b < 2 ^ (j + k) := by
  rw [Nat.pow_add]
  by_cases z : b = 0
  · subst z; rw [Nat.mul_zero]; exact Nat.mul_pos (Nat.pos_of_ne_zero (by simp)) (Nat.pos_of_ne_zero (by simp))
  · exact Nat.mul_lt_mul_of_lt_of_le h1 (Nat.le_of_lt h2) (Nat.pos_of_ne_zero (by simp))
theorem denI (q : Rat) : (q.den : Int) ≠ 0 := by exact_mod_cast q.den_nz
theorem add_eq (a b : Rat) : a + b = Rat.divInt (a.num * b.den + b.num * a.den) (a.den * b.den) := by
  conv => lhs; rw [← Rat.num_divInt_den a, ← Rat.num_divInt_den b]
  rw [Rat.divInt_add_divInt _ _ (denI a) (denI b)]
theorem sub_eq (a b : Rat) : a - b = Rat.divInt (a.num * b.den - b.num * a.den) (a.den * b.den) := by
  conv => lhs; rw [← Rat.num_divInt_den a, ← Rat.num_divInt_den b]
  rw [Rat.divInt_sub_divInt _ _ (denI a) (denI b)]
theorem mul_eq (a b : Rat) : a * b = Rat.divInt (a.num * b.num) (a.den * b.den) := by
  conv => lhs; rw [← Rat.num_divInt_den a, ← Rat.num_divInt_den b]
  rw [Rat.divInt_mul_divInt]
theorem div_eq (a b : Rat) : a / b = Rat.divInt (a.num * b.den) (a.den * b.num) := by
  rw [Rat.div_def, Rat.inv_def]
  conv => lhs; rw [← Rat.num_divInt_den a]
  rw [Rat.divInt_mul_divInt]
theorem den_mul_ne (a b : Rat) : ((a.den : Int) * (b.den : Int)) ≠ 0 := Int.mul_ne_zero (denI a) (denI b)
theorem num_ne {b : Rat} (h : b ≠ 0) : b.num ≠ 0 := fun e => h (Rat.num_eq_zero.mp e)
theorem natAbs_add_lt {x y : Int} {k : Nat} (h1 : x.natAbs < 2 ^ k) (h2 : y.natAbs < 2 ^ k) : (x + y).natAbs < 2 ^ (k + 1) := by
  have := Int.natAbs_add_le x y
  rw [Nat.pow_succ]; omega
theorem nd_lt (a b : Rat) : (a.num * (b.den : Int)).natAbs < 2 ^ (sz a + sz b) := by
  rw [Int.natAbs_mul, Int.natAbs_natCast]; exact lt_mul (num_lt a) (den_lt b)
theorem dd_lt (a b : Rat) : ((a.den : Int) * (b.den : Int)).natAbs < 2 ^ (sz a + sz b) := by
  rw [Int.natAbs_mul, Int.natAbs_natCast, Int.natAbs_natCast]; exact lt_mul (den_lt a) (den_lt b)
theorem nn_lt (a b : Rat) : (a.num * b.num).natAbs < 2 ^ (sz a + sz b) := by
  rw [Int.natAbs_mul]; exact lt_mul (num_lt a) (num_lt b)
theorem dn_lt (a b : Rat) : ((a.den : Int) * b.num).natAbs < 2 ^ (sz a + sz b) := by
  rw [Int.natAbs_mul, Int.natAbs_natCast]; exact lt_mul (den_lt a) (num_lt b)
theorem up {n j : Nat} (h : n < 2 ^ j) (k : Nat) : n < 2 ^ (j + k) := Nat.lt_of_lt_of_le h (Nat.pow_le_pow_right (by decide) (Nat.le_add_right _ _))
theorem sz_add (a b : Rat) : sz (a + b) ≤ sz a + sz b + 1 := by
  rw [add_eq]
  refine sz_divInt (Nat.succ_pos _) (den_mul_ne a b) ?_ (up (dd_lt a b) 1)
  have h2 := nd_lt b a
  rw [Nat.add_comm] at h2
  exact natAbs_add_lt (nd_lt a b) h2
theorem sz_sub (a b : Rat) : sz (a - b) ≤ sz a + sz b + 1 := by
  rw [sub_eq]
  refine sz_divInt (Nat.succ_pos _) (den_mul_ne a b) ?_ (up (dd_lt a b) 1)
  have h2 := nd_lt b a
  rw [Nat.add_comm, ← Int.natAbs_neg] at h2
  exact natAbs_add_lt (nd_lt a b) h2
theorem sz_mul (a b : Rat) : sz (a * b) ≤ sz a + sz b := by
  rw [mul_eq]
  exact sz_divInt (by have := sz_pos a; omega) (den_mul_ne a b) (nn_lt a b) (dd_lt a b)
theorem sz_div (a : Rat) {b : Rat} (h : b ≠ 0) : sz (a / b) ≤ sz a + sz b := by
  rw [div_eq]
  exact sz_divInt (by have := sz_pos a; omega) (Int.mul_ne_zero (denI a) (num_ne h)) (nd_lt a b) (dn_lt a b)
theorem sz_int (i : Int) : sz (i : Rat) = bits i.natAbs := by
  unfold sz
  rw [show (i : Rat).num = i from rfl, show (i : Rat).den = 1 from rfl]
  have : bits 1 = 1 := rfl
  rw [this]
  exact Nat.max_eq_left (bits_pos _)
theorem sz_int_le {i : Int} {k : Nat} (hk : 0 < k) (h : i.natAbs < 2 ^ k) : sz (i : Rat) ≤ k := by rw [sz_int]; exact (bits_le hk).mpr h
theorem floor_abs (q : Rat) : q.floor.natAbs ≤ q.num.natAbs := by
  rw [Rat.floor_def]
  have hd : (1 : Int) ≤ (q.den : Int) := by have := q.den_pos; omega
  by_cases h : 0 ≤ q.num
  · have h1 : 0 ≤ q.num / (q.den : Int) := Int.ediv_nonneg h (by omega)
    have h2 : q.num / (q.den : Int) ≤ q.num := Int.ediv_le_self _ h
    omega
  · have h1 : q.num / (q.den : Int) < 0 := Int.ediv_neg_of_neg_of_pos (by omega) (by omega)
    have h2 : q.num ≤ q.num / (q.den : Int) := by
      rw [Int.le_ediv_iff_mul_le (by omega)]
      have := Int.mul_le_mul_of_nonpos_left (a := q.num) (b := (q.den : Int)) (c := 1) (by omega) hd
      simpa using this
    omega
theorem sz_floor (q : Rat) : sz (q.floor : Rat) ≤ sz q := sz_int_le (sz_pos q) (Nat.lt_of_le_of_lt (floor_abs q) (num_lt q))
/-- what ratio() hands back -/
theorem ratio_num {n d : Int} (h : d ≠ 0) : n.fdiv ((Int.gcd n d : Int) * (if 0 < d then 1 else -1)) = (Rat.divInt n d).num := by
  rw [Rat.num_divInt, Int.gcd_comm d n]
  have hg : (Int.gcd n d : Int) ∣ n := Int.gcd_dvd_left ..
  have g0 : (Int.gcd n d : Int) ≠ 0 := by
    have := Int.gcd_pos_of_ne_zero_right n h
    omega
  obtain ⟨m, hm⟩ := hg
  generalize hG : (Int.gcd n d : Int) = G at *
  by_cases p : 0 < d
  · rw [if_pos p, Int.sign_eq_one_of_pos p, Int.mul_one, Int.one_mul, hm, Int.mul_fdiv_cancel_left _ g0, Int.mul_ediv_cancel_left _ g0]
  · have hn : d < 0 := by omega
    rw [if_neg p, Int.sign_eq_neg_one_of_neg hn, hm]
    have e1 : G * m = (G * -1) * (-m) := by grind
    rw [e1, Int.mul_fdiv_cancel_left _ (by omega)]
    have e2 : -1 * (G * -1 * -m) = G * (-m) := by grind
    rw [e2, Int.mul_ediv_cancel_left _ g0]
theorem ratio_den {n d : Int} (h : d ≠ 0) : d.fdiv ((Int.gcd n d : Int) * (if 0 < d then 1 else -1)) = ((Rat.divInt n d).den : Int) := by
  rw [Rat.den_divInt, if_neg h, Int.gcd_comm d n]
  have hg : (Int.gcd n d : Int) ∣ d := Int.gcd_dvd_right ..
  have gp := Int.gcd_pos_of_ne_zero_right n h
  have g0 : (Int.gcd n d : Int) ≠ 0 := by omega
  obtain ⟨m, hm⟩ := hg
  have hd : d.natAbs = Int.gcd n d * m.natAbs := by
    conv => lhs; rw [hm]
    rw [Int.natAbs_mul, Int.natAbs_natCast]
  rw [hd, Nat.mul_div_cancel_left _ gp]
  generalize hG : (Int.gcd n d : Int) = G at *
  have G0 : 0 < G := by omega
  by_cases p : 0 < d
  · rw [if_pos p, Int.mul_one, hm, Int.mul_fdiv_cancel_left _ g0]
    have : 0 < m := by
      rcases Int.lt_trichotomy m 0 with q | q | q
      · have := Int.mul_neg_of_pos_of_neg G0 q; omega
      · subst q; omega
      · exact q
    omega
  · have hn : d < 0 := by omega
    rw [if_neg p, hm]
    have e1 : G * m = (G * -1) * (-m) := by grind
    rw [e1, Int.mul_fdiv_cancel_left _ (by omega)]
    have : m < 0 := by
      rcases Int.lt_trichotomy m 0 with q | q | q
      · exact q
      · subst q; omega
      · have := Int.mul_pos G0 q; omega
    omega
theorem num_pos {q : Rat} : 0 < q.num ↔ 0 < q := by
  have h : 0 ≤ (-q).num ↔ 0 ≤ -q := Rat.num_nonneg
  rw [Rat.neg_num] at h
  constructor
  · intro a
    have : ¬ 0 ≤ -q := fun z => by have := h.mpr z; omega
    grind
  · intro a
    have : ¬ 0 ≤ -q.num := fun z => by have := h.mp z; grind
    omega
theorem num_neg {q : Rat} : q.num < 0 ↔ q < 0 := by
  have h : 0 ≤ q.num ↔ 0 ≤ q := Rat.num_nonneg
  constructor
  · intro a
    have : ¬ 0 ≤ q := fun z => by have := h.mpr z; omega
    grind
  · intro a
    have : ¬ 0 ≤ q.num := fun z => by have := h.mp z; grind
    omega
theorem fmod_lt (x : Int) {y : Int} (h : y ≠ 0) : (x.fmod y).natAbs < y.natAbs := by
  rw [Int.fmod_eq_emod]
  have h1 := Int.emod_nonneg x h
  have h2 := Int.emod_lt x h
  split
  · omega
  · rename_i c
    have h3 : x % y ≠ 0 := fun e => c (.inr (Int.dvd_of_emod_eq_zero e))
    have h4 : ¬ 0 ≤ y := fun e => c (.inl e)
    omega
theorem fdiv_den (q : Rat) : q.num.fdiv (q.den : Int) = q.floor := by
  rw [Rat.floor_def, Int.fdiv_eq_ediv_of_nonneg _ (by omega)]
end MR

/-! ## MC -/
/-! Rising lists; what adds up over cuts. -/
namespace G
/-- two rising lists of the same members are one -/
theorem rising_eq : ∀ {l m : List Rat}, l.Pairwise (· < ·) → m.Pairwise (· < ·) → (∀ x, x ∈ l ↔ x ∈ m) → l = m
  | [], [], _, _, _ => rfl
  | [], b :: m, _, _, h => by have := (h b).mpr (List.mem_cons_self ..); cases this
  | a :: l, [], _, _, h => by have := (h a).mp (List.mem_cons_self ..); cases this
  | a :: l, b :: m, hl, hm, h => by
    obtain ⟨l1, l2⟩ := List.pairwise_cons.mp hl
    obtain ⟨m1, m2⟩ := List.pairwise_cons.mp hm
    have ab : a = b := by
      rcases List.mem_cons.mp ((h a).mp (List.mem_cons_self ..)) with e | h1
      · exact e
      · rcases List.mem_cons.mp ((h b).mpr (List.mem_cons_self ..)) with e | h2
        · exact e.symm
        · have := l1 b h2; have := m1 a h1; grind
    subst ab
    rw [rising_eq l2 m2 fun x => ?_]
    constructor
    · intro hx
      rcases List.mem_cons.mp ((h x).mp (List.mem_cons_of_mem _ hx)) with e | h1
      · subst e; have := l1 x hx; grind
      · exact h1
    · intro hx
      rcases List.mem_cons.mp ((h x).mpr (List.mem_cons_of_mem _ hx)) with e | h1
      · subst e; have := m1 x hx; grind
      · exact h1
end G
namespace G
def insR (x : Rat) : List Rat → List Rat
  | [] => [x]
  | y :: r => if x < y then x :: y :: r else if x = y then y :: r else y :: insR x r
def riseL : List Rat → List Rat
  | [] => []
  | x :: r => insR x (riseL r)
theorem insR_mem {x z : Rat} : ∀ {l : List Rat}, z ∈ insR x l ↔ z = x ∨ z ∈ l
  | [] => by simp [insR]
  | y :: r => by
    unfold insR
    split
    · simp
    · split
      · rename_i h; subst h; simp
      · rw [List.mem_cons, insR_mem (l := r), List.mem_cons]
        constructor
        · rintro (h | h | h)
          · exact .inr (.inl h)
          · exact .inl h
          · exact .inr (.inr h)
        · rintro (h | h | h)
          · exact .inr (.inl h)
          · exact .inl h
          · exact .inr (.inr h)
theorem insR_pw {x : Rat} : ∀ {l : List Rat}, l.Pairwise (· < ·) → (insR x l).Pairwise (· < ·)
  | [], _ => by simp [insR]
  | y :: r, h => by
    obtain ⟨h1, h2⟩ := List.pairwise_cons.mp h
    unfold insR
    split
    · rename_i c
      refine List.pairwise_cons.mpr ⟨fun z hz => ?_, h⟩
      rcases List.mem_cons.mp hz with rfl | hz
      · exact c
      · have := h1 z hz; grind
    · split
      · exact h
      · rename_i c1 c2
        refine List.pairwise_cons.mpr ⟨fun z hz => ?_, insR_pw h2⟩
        rcases insR_mem.mp hz with rfl | hz
        · grind
        · exact h1 z hz
theorem riseL_mem {z : Rat} : ∀ {l : List Rat}, z ∈ riseL l ↔ z ∈ l
  | [] => by simp [riseL]
  | x :: r => by rw [riseL, insR_mem, riseL_mem (l := r), List.mem_cons]
theorem riseL_pw : ∀ (l : List Rat), (riseL l).Pairwise (· < ·)
  | [] => by simp [riseL]
  | x :: r => by rw [riseL]; exact insR_pw (riseL_pw r)
theorem rise_eq {rs l : List Rat} (h : rs.Pairwise (· < ·)) (m : ∀ x, x ∈ rs ↔ x ∈ l) : rs = riseL l :=
  rising_eq h (riseL_pw l) fun x => by rw [m x, riseL_mem]
/-! folds over what stands side by side -/
section
variable {M : Type} (op : M → M → M) (e : M) (f : Rat → Rat → M)
def Sm : List Rat → M
  | x :: y :: r => op (f x y) (Sm (y :: r))
  | _ => e
structure Mon : Prop where
  as : ∀ a b c, op (op a b) c = op a (op b c)
  l : ∀ a, op e a = a
  r : ∀ a, op a e = a
variable {op e f}
theorem Sm_split (m : Mon op e) (b : Rat) (l2 : List Rat) : ∀ l1 : List Rat, Sm op e f (l1 ++ b :: l2) = op (Sm op e f (l1 ++ [b])) (Sm op e f (b :: l2))
  | [] => by
    show _ = op e _
    rw [m.l]; rfl
  | [x] => by
    show op (f x b) _ = op (op (f x b) e) _
    rw [m.r]
  | x :: y :: r => by
    have ih := Sm_split m b l2 (y :: r)
    show op (f x y) (Sm op e f (y :: r ++ b :: l2)) = op (op (f x y) (Sm op e f (y :: r ++ [b]))) _
    rw [ih, m.as]
/-- no change inside -/
def St (ch : List Rat) (x z : Rat) : Prop := ∀ t ∈ ch, ¬ (x < t ∧ t < z)
theorem St.sub {ch : List Rat} {x z x' z' : Rat} (h : St ch x z) (a : x ≤ x') (b : z' ≤ z) : St ch x' z' := fun t ht c => h t ht ⟨by grind, by grind⟩
def cutR (ch : List Rat) (a b : Rat) : List Rat := riseL (a :: b :: ch.filter fun t => decide (a < t ∧ t < b))
theorem cutR_mem {ch : List Rat} {a b x : Rat} : x ∈ cutR ch a b ↔ x = a ∨ x = b ∨ (x ∈ ch ∧ a < x ∧ x < b) := by
  unfold cutR
  rw [riseL_mem]
  simp
theorem cutR_pw {ch : List Rat} {a b : Rat} : (cutR ch a b).Pairwise (· < ·) := riseL_pw _
theorem cutR_eq {ch rs : List Rat} {a b : Rat} (h : rs.Pairwise (· < ·)) (m : ∀ x, x ∈ rs ↔ x = a ∨ x = b ∨ (x ∈ ch ∧ a < x ∧ x < b)) : rs = cutR ch a b :=
  rising_eq h cutR_pw fun x => by rw [m x, cutR_mem]
theorem cutR_same {ch : List Rat} {a : Rat} : cutR ch a a = [a] := (cutR_eq (List.pairwise_singleton _ _) fun x => by
  rw [List.mem_singleton]
  constructor
  · exact .inl
  · rintro (h | h | ⟨_, h, h2⟩)
    · exact h
    · exact h
    · grind).symm
theorem cutR_st {ch : List Rat} {a b : Rat} (ab : a < b) (s : St ch a b) : cutR ch a b = [a, b] := (cutR_eq (by simp [ab]) fun x => by
  simp only [List.mem_cons, List.not_mem_nil, or_false]
  constructor
  · rintro (h | h)
    · exact .inl h
    · exact .inr (.inl h)
  · rintro (h | h | ⟨h, h2⟩)
    · exact .inl h
    · exact .inr h
    · exact absurd h2 (s x h)).symm
variable (op e f)
def Tot (ch : List Rat) (a b : Rat) : M := Sm op e f (cutR ch a b)
variable {op e f}
theorem Tot_same {ch : List Rat} {a : Rat} : Tot op e f ch a a = e := by unfold Tot; rw [cutR_same]; rfl
theorem Tot_st (m : Mon op e) {ch : List Rat} {a b : Rat} (ab : a < b) (s : St ch a b) : Tot op e f ch a b = f a b := by
  unfold Tot; rw [cutR_st ab s]
  show op (f a b) e = _
  exact m.r _
theorem Tot_add (m : Mon op e) {ch : List Rat} {lo a b c : Rat} (ha : lo ≤ a) (ab : a ≤ b) (bc : b ≤ c)
    (hf : ∀ x y z, lo ≤ x → x < y → y < z → St ch x z → op (f x y) (f y z) = f x z) : Tot op e f ch a c = op (Tot op e f ch a b) (Tot op e f ch b c) := by
  by_cases e1 : a = b
  · subst e1; rw [Tot_same, m.l]
  by_cases e2 : b = c
  · subst e2; rw [Tot_same, m.r]
  have ab : a < b := by grind
  have bc : b < c := by grind
  generalize hL : riseL (a :: b :: c :: ch.filter fun t => decide (a < t ∧ t < c)) = L
  have inL : ∀ x, x ∈ L ↔ x = a ∨ x = b ∨ x = c ∨ (x ∈ ch ∧ a < x ∧ x < c) := fun x => by rw [← hL, riseL_mem]; simp
  have pL : L.Pairwise (· < ·) := by rw [← hL]; exact riseL_pw _
  obtain ⟨l1, l2, eL⟩ := List.append_of_mem ((inL b).mpr (.inr (.inl rfl)))
  rw [eL] at inL pL
  obtain ⟨p1, p2, p3⟩ := List.pairwise_append.mp pL
  obtain ⟨p4, p5⟩ := List.pairwise_cons.mp p2
  have lt1 : ∀ x ∈ l1, x < b := fun x h => p3 x h b (List.mem_cons_self ..)
  have q1 : l1 ++ [b] = cutR ch a b := cutR_eq (by
    rw [List.pairwise_append]
    exact ⟨p1, List.pairwise_singleton _ _, fun x h y h' => by rw [List.mem_singleton] at h'; subst h'; exact lt1 x h⟩) fun x => by
      have i := inL x
      simp only [List.mem_append, List.mem_cons, List.not_mem_nil, or_false] at i ⊢
      constructor
      · rintro (h | h)
        · have := lt1 x h
          rcases i.mp (.inl h) with h | h | h | h
          · exact .inl h
          · exact .inr (.inl h)
          · grind
          · exact .inr (.inr ⟨h.1, h.2.1, this⟩)
        · exact .inr (.inl h)
      · rintro (h | h | h)
        · rcases i.mpr (.inl h) with h' | h' | h'
          · exact .inl h'
          · grind
          · have := p4 x h'; grind
        · exact .inr h
        · rcases i.mpr (.inr (.inr (.inr ⟨h.1, h.2.1, by grind⟩))) with h' | h' | h'
          · exact .inl h'
          · grind
          · have := p4 x h'; grind
  have q2 : b :: l2 = cutR ch b c := cutR_eq p2 fun x => by
      have i := inL x
      simp only [List.mem_append, List.mem_cons, List.not_mem_nil, or_false] at i ⊢
      constructor
      · rintro (h | h)
        · exact .inl h
        · have := p4 x h
          rcases i.mp (.inr (.inr h)) with h | h | h | h
          · grind
          · exact .inl h
          · exact .inr (.inl h)
          · exact .inr (.inr ⟨h.1, this, h.2.2⟩)
      · rintro (h | h | h)
        · exact .inl h
        · rcases i.mpr (.inr (.inr (.inl h))) with h' | h' | h'
          · have := lt1 x h'; grind
          · exact .inl h'
          · exact .inr h'
        · rcases i.mpr (.inr (.inr (.inr ⟨h.1, by grind, h.2.2⟩))) with h' | h' | h'
          · have := lt1 x h'; grind
          · exact .inl h'
          · exact .inr h'
  have sp : Sm op e f (l1 ++ b :: l2) = op (Tot op e f ch a b) (Tot op e f ch b c) := by
    unfold Tot
    rw [← q1, ← q2]
    exact Sm_split (f := f) m b l2 l1
  rw [← sp]
  show Sm op e f (cutR ch a c) = _
  by_cases hb : b ∈ ch
  · rw [cutR_eq (ch := ch) (a := a) (b := c) pL fun x => by
      rw [inL x]
      constructor
      · rintro (h | h | h | h)
        · exact .inl h
        · subst h; exact .inr (.inr ⟨hb, ab, bc⟩)
        · exact .inr (.inl h)
        · exact .inr (.inr h)
      · rintro (h | h | h)
        · exact .inl h
        · exact .inr (.inr (.inl h))
        · exact .inr (.inr (.inr h))]
  · have q3 : l1 ++ l2 = cutR ch a c := cutR_eq (by
      rw [List.pairwise_append]
      exact ⟨p1, p5, fun x h y h' => p3 x h y (List.mem_cons_of_mem _ h')⟩) fun x => by
        have i := inL x
        simp only [List.mem_append, List.mem_cons] at i ⊢
        have nb : x ∈ l1 ∨ x ∈ l2 → x ≠ b := by
          rintro (h | h) e
          · have := lt1 x h; grind
          · have := p4 x h; grind
        constructor
        · intro h
          have n := nb h
          rcases i.mp (by rcases h with h | h; exact .inl h; exact .inr (.inr h)) with h | h | h | h
          · exact .inl h
          · exact absurd h n
          · exact .inr (.inl h)
          · exact .inr (.inr h)
        · intro h
          have n : x ≠ b := by
            rintro rfl
            rcases h with h | h | h
            · grind
            · grind
            · exact hb h.1
          rcases i.mpr (by rcases h with h | h | h; exact .inl h; exact .inr (.inr (.inl h)); exact .inr (.inr (.inr h))) with h' | h' | h'
          · exact .inl h'
          · exact absurd h' n
          · exact .inr h'
    have a1 : a ∈ l1 := by
      have := (inL a).mpr (.inl rfl)
      simp only [List.mem_append, List.mem_cons] at this
      rcases this with h | h | h
      · exact h
      · grind
      · have := p4 a h; grind
    have c2 : c ∈ l2 := by
      have := (inL c).mpr (.inr (.inr (.inl rfl)))
      simp only [List.mem_append, List.mem_cons] at this
      rcases this with h | h | h
      · have := lt1 c h; grind
      · grind
      · exact h
    obtain ⟨l1', x, rfl⟩ : ∃ l x, l1 = l ++ [x] := ⟨l1.dropLast, l1.getLast (List.ne_nil_of_mem a1), (List.dropLast_concat_getLast _).symm⟩
    obtain ⟨z, l2', rfl⟩ : ∃ z l, l2 = z :: l := by
      cases l2 with
      | nil => cases c2
      | cons z l => exact ⟨z, l, rfl⟩
    have xb : x < b := lt1 x (by simp)
    have bz : b < z := p4 z (by simp)
    have lx : lo ≤ x := by
      have : a ≤ x := by
        rcases (inL x).mp (by simp) with h | h | h | h <;> grind
      grind
    have st : St ch x z := fun t ht h => by
      have tb : t ≠ b := fun e => hb (e ▸ ht)
      have xa : a ≤ x := by
        rcases (inL x).mp (by simp) with h | h | h | h <;> grind
      have zc : z ≤ c := by
        rcases (inL z).mp (by simp) with h | h | h | h <;> grind
      have := (inL t).mpr (.inr (.inr (.inr ⟨ht, by grind, by grind⟩)))
      simp only [List.append_assoc, List.cons_append, List.nil_append, List.mem_append, List.mem_cons] at this
      rcases this with h' | h' | h' | h' | h'
      · have := (List.pairwise_append.mp p1).2.2 t h' x (by simp)
        grind
      · grind
      · exact tb h'
      · grind
      · have := (List.pairwise_cons.mp p5).1 t h'
        grind
    have e3 := Sm_split (f := f) m x (b :: z :: l2') l1'
    have e4 := Sm_split (f := f) m x (z :: l2') l1'
    rw [← q3]
    simp only [List.append_assoc, List.cons_append, List.nil_append]
    rw [e3, e4]
    congr 1
    show op (f x z) (Sm op e f (z :: l2')) = op (f x b) (op (f b z) (Sm op e f (z :: l2')))
    rw [← hf x b z lx xb bz st, m.as]
/-- two ways of counting that add up and agree where nothing changes -/
theorem add_ext {F G : Rat → Rat → M} {lo : Rat} (hF : ∀ a b c, lo ≤ a → a ≤ b → b ≤ c → F a c = op (F a b) (F b c)) (hG : ∀ a b c, lo ≤ a → a ≤ b → b ≤ c → G a c = op (G a b) (G b c)) (ch : List Rat)
    (h : ∀ a b, lo ≤ a → a ≤ b → St ch a b → F a b = G a b) {a b : Rat} (la : lo ≤ a) (ab : a ≤ b) : F a b = G a b := by
  generalize hn : (ch.filter fun t => decide (a < t ∧ t < b)).length = n
  induction n using Nat.strongRecOn generalizing a b with
  | ind n ih =>
    by_cases st : St ch a b
    · exact h a b la ab st
    · obtain ⟨t, ht, h1, h2⟩ : ∃ t ∈ ch, a < t ∧ t < b := by
        refine Classical.byContradiction fun c => st fun t ht hh => c ⟨t, ht, hh⟩
      have sub : ∀ a' b', a ≤ a' → b' ≤ b → (¬ (a' < t ∧ t < b')) → (ch.filter fun t => decide (a' < t ∧ t < b')).length < n := fun a' b' ha hb hno => by
        rw [← hn]
        have e1 : (ch.filter fun t => decide (a' < t ∧ t < b')) = (ch.filter fun t => decide (a < t ∧ t < b)).filter fun t => decide (a' < t ∧ t < b') := by
          rw [List.filter_filter]
          congr 1
          funext u
          rw [Bool.eq_iff_iff]
          simp only [Bool.and_eq_true, decide_eq_true_eq]
          constructor
          · intro h; exact ⟨h, by grind, by grind⟩
          · exact fun h => h.1
        rw [e1]
        rcases Nat.lt_or_ge ((ch.filter fun t => decide (a < t ∧ t < b)).filter fun t => decide (a' < t ∧ t < b')).length (ch.filter fun t => decide (a < t ∧ t < b)).length with c | c
        · exact c
        · exfalso
          have e2 := List.length_filter_le (fun t => decide (a' < t ∧ t < b')) (ch.filter fun t => decide (a < t ∧ t < b))
          have e3 := List.length_filter_eq_length_iff.mp (Nat.le_antisymm e2 c) t (List.mem_filter.mpr ⟨ht, by simp [h1, h2]⟩)
          exact hno (by simpa using e3)
      rw [hF a t b la (Rat.le_of_lt h1) (Rat.le_of_lt h2), hG a t b la (Rat.le_of_lt h1) (Rat.le_of_lt h2)]
      rw [ih _ (sub a t Rat.le_refl (Rat.le_of_lt h2) (by grind)) la (Rat.le_of_lt h1) rfl, ih _ (sub t b (Rat.le_of_lt h1) Rat.le_refl (by grind)) (by grind) (Rat.le_of_lt h2) rfl]
end
end G

/-! ## Ph -/
/-! Contracts of the ratios' defs. -/
namespace G
open PySem PySem.Spec PyProof.Rows L2 L3 MR
def rat (q : Rat) : PV := .tup [.int q.num, .int (q.den : Int)]
def NumP (p : PV) (q : Rat) : Prop := (∃ i : Int, p = .int i ∧ q = (i : Rat)) ∨ p = rat q
def isI : PV → Bool
  | .int _ => true
  | _ => false
def cmpI (a b : Rat) : Int := if a < b then -1 else if b < a then 1 else 0
def rem (a b : Rat) : Rat := a - b * ((a / b).floor : Rat)
def Ph_is_integer : Con := fun as Q => ∃ v, as = [v] ∧ (tyP v).isSome = true ∧ Q (.bl (isI v))
def Ph_common_divisor : Con := fun as Q => ∃ a b : Int, as = [.int a, .int b] ∧ Q (.int (Int.gcd a b : Nat))
def Ph_is_ratio : Con := fun as Q => ∃ v q, as = [v] ∧ NumP v q ∧ Q (.bl (!isI v))
def Ph_is_number : Con := fun as Q => ∃ v q, as = [v] ∧ NumP v q ∧ Q (.bl true)
def Ph_ratio : Con := fun as Q => ∃ n d : Int, as = [.int n, .int d] ∧ d ≠ 0 ∧ d.natAbs.log2 < 8999 ∧ Q (rat (Rat.divInt n d))
def Ph_as_ratio : Con := fun as Q => ∃ v q, as = [v] ∧ NumP v q ∧ Q (rat q)
def Ph_plus : Con := fun as Q => ∃ v w a b, as = [v, w] ∧ NumP v a ∧ NumP w b ∧ sz a + sz b ≤ 8000 ∧ Q (rat (a + b))
def Ph_minus : Con := fun as Q => ∃ v w a b, as = [v, w] ∧ NumP v a ∧ NumP w b ∧ sz a + sz b ≤ 8000 ∧ Q (rat (a - b))
def Ph_times : Con := fun as Q => ∃ v w a b, as = [v, w] ∧ NumP v a ∧ NumP w b ∧ sz a + sz b ≤ 8000 ∧ Q (rat (a * b))
def Ph_divided : Con := fun as Q => ∃ v w a b, as = [v, w] ∧ NumP v a ∧ NumP w b ∧ b ≠ 0 ∧ sz a + sz b ≤ 8000 ∧ Q (rat (a / b))
def Ph_compare : Con := fun as Q => ∃ v w a b, as = [v, w] ∧ NumP v a ∧ NumP w b ∧ sz a + sz b ≤ 8000 ∧ Q (.int (cmpI a b))
def Ph_floor_of : Con := fun as Q => ∃ v q, as = [v] ∧ NumP v q ∧ sz q ≤ 8000 ∧ Q (.int q.floor)
def Ph_remainder : Con := fun as Q => ∃ v w a b, as = [v, w] ∧ NumP v a ∧ NumP w b ∧ 0 < b ∧ sz a + sz b ≤ 3900 ∧ Q (rat (rem a b))
def Ph_in_order : Con := fun as Q => ∃ L : List (PV × Rat), ∃ C : Nat, as = [.lst (L.map (·.1))] ∧ (∀ x ∈ L, NumP x.1 x.2) ∧ 0 < C ∧ (∀ x ∈ L, x.2.den ∣ C ∧ bits C + sz x.2 ≤ 8000) ∧ L.length < 4000 ∧ bits C ≤ 8000 ∧
  ∀ rs : List Rat, rs.Pairwise (· < ·) → (∀ x, x ∈ rs ↔ x ∈ L.map (·.2)) → Q (.lst (rs.map rat))
/-! words -/
theorem kI0_int {g : Int → Int → PV} {i j : Int} {Q : PV → Prop} : kI0 g (.int i) (.int j) Q = Q (g i j) := rfl
theorem kII_int {C : Int → Int → Prop} {g : Int → Int → PV} {i j : Int} {Q : PV → Prop} : kII C g (.int i) (.int j) Q = (C i j ∧ Q (g i j)) := rfl
theorem kBB_bl {a b : Bool} {Q : PV → Prop} : kBB (.bl a) (.bl b) Q = Q (.int (b2i a - b2i b)) := rfl
theorem eqP_int {i j : Int} : eqP (.int i) (.int j) = some (decide (i = j)) := rfl
theorem kEq_int {i j : Int} {Q : PV → Prop} : kEq (.int i) (.int j) Q = Q (.bl (decide (i = j))) := rfl
theorem kNe_int {i j : Int} {Q : PV → Prop} : kNe (.int i) (.int j) Q = Q (.bl (!decide (i = j))) := rfl
theorem kIx_rat0 {q : Rat} {Q : PV → Prop} : kIx (rat q) (.int 0) Q = Q (.int q.num) := rfl
theorem kIx_rat1 {q : Rat} {Q : PV → Prop} : kIx (rat q) (.int 1) Q = Q (.int (q.den : Int)) := rfl
theorem kIx_2a {p q : PV} {Q : PV → Prop} : kIx (.tup [p, q]) (.int 0) Q = Q p := rfl
theorem kIx_2b {p q : PV} {Q : PV → Prop} : kIx (.tup [p, q]) (.int 1) Q = Q q := rfl
theorem kIsi_of {p : PV} {m n : String} {b : Bool} (h1 : tyP p = some m) (h2 : kitB m n = some b) {Q : PV → Prop} : kIsi [p, .ty n] Q = Q (.bl b) := by
  simp only [kIsi, h1, h2]
theorem kLen_tup {l : List PV} {Q : PV → Prop} : kLen [.tup l] Q = Q (.int l.length) := rfl
theorem kLen_lst {l : List PV} {Q : PV → Prop} : kLen [.lst l] Q = Q (.int l.length) := rfl
theorem kAbs_int {i : Int} {Q : PV → Prop} : kAbs [.int i] Q = Q (.int (if i < 0 then -i else i)) := rfl
theorem NumP.int (i : Int) : NumP (.int i) (i : Rat) := .inl ⟨i, rfl, rfl⟩
theorem NumP.rat (q : Rat) : NumP (G.rat q) q := .inr rfl
theorem kit_ii : kitB "int" "int" = some true := by decide +kernel
theorem kit_ib : kitB "int" "bool" = some false := by decide +kernel
theorem kit_ti : kitB "tuple" "int" = some false := by decide +kernel
theorem kit_it : kitB "int" "tuple" = some false := by decide +kernel
theorem kit_tt : kitB "tuple" "tuple" = some true := by decide +kernel
theorem kit_int (m : String) (h : m ∈ ["NoneType", "bool", "int", "str", "tuple", "list", "dict"]) : kitB m "int" = some (m == "int" || m == "bool") ∧ kitB m "bool" = some (m == "bool") := by
  simp only [List.mem_cons, List.not_mem_nil, or_false] at h
  rcases h with h | h | h | h | h | h | h <;> subst h <;> exact ⟨by decide +kernel, by decide +kernel⟩
end G


/-! ## HR -/
/-! The ratios' defs keep their contracts. -/
namespace G
open PySem PySem.Spec PyProof.Rows L2 L3 MR
def t_is_integer : PTS := pRet (pAndV (pCallB kIsi (pCons (pVar 0) (pCons (pC (.ty "int")) (pNil)))) (pNotV (pCallB kIsi (pCons (pVar 0) (pCons (pC (.ty "bool")) (pNil))))))
abbrev N_is_integer : List Str := ["value"]
theorem st_is_integer (a0 : PV) : startP N_is_integer [a0] = [.val a0] := rfl
def tb_common_divisor_1 : PTS := pPar 0 1 (pCons (pVar 1) (pCons (pBin kMdI (pVar 0) (pVar 1)) (pNil)))
def t_common_divisor : PTS := pSeq (pWhile (pTst (pBin kNe (pVar 1) (pC (.int 0)))) tb_common_divisor_1) (pRet (pCallB kAbs (pCons (pVar 0) (pNil))))
abbrev N_common_divisor : List Str := ["first", "second"]
theorem st_common_divisor (a0 a1 : PV) : startP N_common_divisor [a0, a1] = [.val a0, .val a1] := rfl
def t_is_ratio : PTS := pSeq (pIfS (pOrT (pNotT (pTst (pCallB kIsi (pCons (pVar 0) (pCons (pC (.ty "tuple")) (pNil)))))) (pOrT (pTst (pBin kNe (pCallB kLen (pCons (pVar 0) (pNil))) (pC (.int 2)))) (pOrT (pNotT (pTst (pCall Ph_is_integer (pCons (pBin kIx (pVar 0) (pC (.int 0))) (pNil))))) (pNotT (pTst (pCall Ph_is_integer (pCons (pBin kIx (pVar 0) (pC (.int 1))) (pNil)))))))) (pRet (pC (.bl false))) (pNext)) (pRet (pAndV (pBin kGeI (pBin kIx (pVar 0) (pC (.int 1))) (pC (.int 1))) (pBin kEq (pCall Ph_common_divisor (pCons (pBin kIx (pVar 0) (pC (.int 0))) (pCons (pBin kIx (pVar 0) (pC (.int 1))) (pNil)))) (pC (.int 1)))))
abbrev N_is_ratio : List Str := ["value"]
theorem st_is_ratio (a0 : PV) : startP N_is_ratio [a0] = [.val a0] := rfl
def t_is_number : PTS := pRet (pOrV (pCall Ph_is_integer (pCons (pVar 0) (pNil))) (pCall Ph_is_ratio (pCons (pVar 0) (pNil))))
abbrev N_is_number : List Str := ["value"]
theorem st_is_number (a0 : PV) : startP N_is_number [a0] = [.val a0] := rfl
def t_ratio : PTS := pSeq (pIfS (pOrT (pNotT (pTst (pCall Ph_is_integer (pCons (pVar 0) (pNil))))) (pNotT (pTst (pCall Ph_is_integer (pCons (pVar 1) (pNil)))))) (pNeverS) (pNext)) (pSeq (pIfS (pTst (pBin kEq (pVar 1) (pC (.int 0)))) (pNeverS) (pNext)) (pSeq (pAsg (pBin kMulI (pCall Ph_common_divisor (pCons (pVar 0) (pCons (pVar 1) (pNil)))) (pIf (pTst (pBin kGtI (pVar 1) (pC (.int 0)))) (pC (.int 1)) (pUn kNeg (pC (.int 1))))) (gNm 2)) (pRet (pTup (pCons (pBin kFdI (pVar 0) (pVar 2)) (pCons (pBin kFdI (pVar 1) (pVar 2)) (pNil)))))))
abbrev N_ratio : List Str := ["numerator", "denominator", "common"]
theorem st_ratio (a0 a1 : PV) : startP N_ratio [a0, a1] = [.val a0, .val a1, .no] := rfl
def t_as_ratio : PTS := pSeq (pIfS (pNotT (pTst (pCall Ph_is_number (pCons (pVar 0) (pNil))))) (pNeverS) (pNext)) (pRet (pIf (pTst (pCall Ph_is_integer (pCons (pVar 0) (pNil)))) (pTup (pCons (pVar 0) (pCons (pC (.int 1)) (pNil)))) (pVar 0)))
abbrev N_as_ratio : List Str := ["value"]
theorem st_as_ratio (a0 : PV) : startP N_as_ratio [a0] = [.val a0] := rfl
def t_plus : PTS := pSeq (pPar 2 3 (pCons (pCall Ph_as_ratio (pCons (pVar 0) (pNil))) (pCons (pCall Ph_as_ratio (pCons (pVar 1) (pNil))) (pNil)))) (pRet (pCall Ph_ratio (pCons (pBin kAddI (pBin kMulI (pBin kIx (pVar 2) (pC (.int 0))) (pBin kIx (pVar 3) (pC (.int 1)))) (pBin kMulI (pBin kIx (pVar 3) (pC (.int 0))) (pBin kIx (pVar 2) (pC (.int 1))))) (pCons (pBin kMulI (pBin kIx (pVar 2) (pC (.int 1))) (pBin kIx (pVar 3) (pC (.int 1)))) (pNil)))))
abbrev N_plus : List Str := ["first", "second", "one", "two"]
theorem st_plus (a0 a1 : PV) : startP N_plus [a0, a1] = [.val a0, .val a1, .no, .no] := rfl
def t_minus : PTS := pSeq (pPar 2 3 (pCons (pCall Ph_as_ratio (pCons (pVar 0) (pNil))) (pCons (pCall Ph_as_ratio (pCons (pVar 1) (pNil))) (pNil)))) (pRet (pCall Ph_ratio (pCons (pBin kSubI (pBin kMulI (pBin kIx (pVar 2) (pC (.int 0))) (pBin kIx (pVar 3) (pC (.int 1)))) (pBin kMulI (pBin kIx (pVar 3) (pC (.int 0))) (pBin kIx (pVar 2) (pC (.int 1))))) (pCons (pBin kMulI (pBin kIx (pVar 2) (pC (.int 1))) (pBin kIx (pVar 3) (pC (.int 1)))) (pNil)))))
abbrev N_minus : List Str := ["first", "second", "one", "two"]
theorem st_minus (a0 a1 : PV) : startP N_minus [a0, a1] = [.val a0, .val a1, .no, .no] := rfl
def t_times : PTS := pSeq (pPar 2 3 (pCons (pCall Ph_as_ratio (pCons (pVar 0) (pNil))) (pCons (pCall Ph_as_ratio (pCons (pVar 1) (pNil))) (pNil)))) (pRet (pCall Ph_ratio (pCons (pBin kMulI (pBin kIx (pVar 2) (pC (.int 0))) (pBin kIx (pVar 3) (pC (.int 0)))) (pCons (pBin kMulI (pBin kIx (pVar 2) (pC (.int 1))) (pBin kIx (pVar 3) (pC (.int 1)))) (pNil)))))
abbrev N_times : List Str := ["first", "second", "one", "two"]
theorem st_times (a0 a1 : PV) : startP N_times [a0, a1] = [.val a0, .val a1, .no, .no] := rfl
def t_divided : PTS := pSeq (pPar 2 3 (pCons (pCall Ph_as_ratio (pCons (pVar 0) (pNil))) (pCons (pCall Ph_as_ratio (pCons (pVar 1) (pNil))) (pNil)))) (pRet (pCall Ph_ratio (pCons (pBin kMulI (pBin kIx (pVar 2) (pC (.int 0))) (pBin kIx (pVar 3) (pC (.int 1)))) (pCons (pBin kMulI (pBin kIx (pVar 2) (pC (.int 1))) (pBin kIx (pVar 3) (pC (.int 0)))) (pNil)))))
abbrev N_divided : List Str := ["first", "second", "one", "two"]
theorem st_divided (a0 a1 : PV) : startP N_divided [a0, a1] = [.val a0, .val a1, .no, .no] := rfl
def t_compare : PTS := pSeq (pAsg (pBin kIx (pCall Ph_minus (pCons (pVar 0) (pCons (pVar 1) (pNil)))) (pC (.int 0))) (gNm 2)) (pRet (pBin kBB (pBin kGtI (pVar 2) (pC (.int 0))) (pBin kLtI (pVar 2) (pC (.int 0)))))
abbrev N_compare : List Str := ["first", "second", "apart"]
theorem st_compare (a0 a1 : PV) : startP N_compare [a0, a1] = [.val a0, .val a1, .no] := rfl
def t_floor_of : PTS := pSeq (pAsg (pCall Ph_as_ratio (pCons (pVar 0) (pNil))) (gNm 1)) (pRet (pBin kFdI (pBin kIx (pVar 1) (pC (.int 0))) (pBin kIx (pVar 1) (pC (.int 1)))))
abbrev N_floor_of : List Str := ["value", "one"]
theorem st_floor_of (a0 : PV) : startP N_floor_of [a0] = [.val a0, .no] := rfl
def t_remainder : PTS := pSeq (pPar 2 3 (pCons (pCall Ph_as_ratio (pCons (pVar 0) (pNil))) (pCons (pCall Ph_as_ratio (pCons (pVar 1) (pNil))) (pNil)))) (pSeq (pIfS (pTst (pBin kLeI (pBin kIx (pVar 3) (pC (.int 0))) (pC (.int 0)))) (pNeverS) (pNext)) (pRet (pCall Ph_minus (pCons (pVar 2) (pCons (pCall Ph_times (pCons (pVar 3) (pCons (pCall Ph_floor_of (pCons (pCall Ph_divided (pCons (pVar 2) (pCons (pVar 3) (pNil)))) (pNil))) (pNil)))) (pNil))))))
abbrev N_remainder : List Str := ["value", "modulus", "one", "two"]
theorem st_remainder (a0 a1 : PV) : startP N_remainder [a0, a1] = [.val a0, .val a1, .no, .no] := rfl
def te_in_order_1 : PTE := pCall Ph_as_ratio (pCons (pVar 2) (pNil))
def tb_in_order_2 : PTS := pAsg (pBin kFdI (pBin kMulI (pVar 3) (pBin kIx (pVar 4) (pC (.int 1)))) (pCall Ph_common_divisor (pCons (pVar 3) (pCons (pBin kIx (pVar 4) (pC (.int 1))) (pNil))))) (gNm 3)
def te_in_order_3 : PTE := pBin kMulI (pBin kIx (pVar 4) (pC (.int 0))) (pBin kFdI (pVar 3) (pBin kIx (pVar 4) (pC (.int 1))))
def te_in_order_4 : PTE := pCall Ph_ratio (pCons (pVar 2) (pCons (pVar 3) (pNil)))
def t_in_order : PTS := pSeq (pAsg (pLc (pIL (pVar 0)) (gNm 2) pTsYes te_in_order_1 [2]) (gNm 1)) (pSeq (pAsg (pC (.int 1)) (gNm 3)) (pSeq (pFor (pIL (pVar 1)) (gNm 4) tb_in_order_2) (pSeq (pAsg (pSortSc (pIL (pVar 1)) (gNm 4) pTsYes te_in_order_3 [4]) (gNm 5)) (pRet (pLc (pIL (pVar 5)) (gNm 2) pTsYes te_in_order_4 [2])))))
abbrev N_in_order : List Str := ["values", "ratios", "value", "common", "one", "whole"]
theorem st_in_order (a0 : PV) : startP N_in_order [a0] = [.val a0, .no, .no, .no, .no, .no] := rfl

theorem hp_is_integer : ∀ as Q, Ph_is_integer as Q → as.length = 1 ∧ t_is_integer ⟨fun _ => Q .non, Q, fun _ => False, fun _ => False⟩ (startP N_is_integer as) := by
  rintro as Q ⟨v, rfl, hv, hq⟩
  refine ⟨rfl, ?_⟩
  simp only [st_is_integer, t_is_integer, pSeq, pNext, pIfS, pRet, pRetN, pAsg, pDrop, pPar, pAug, gNm, gTupP, gConsP, gNilP, pVar, pC, pBin, pChain, pUn, kNeg, pTst, pTru, pAndT, pOrT, pNotT, pAndV, pOrV, pNotV, pIf, pCons, pNil, pTup, pLst, pStar, pCallB, pCall, pMeth, pProp, pFld, pFrz, pIL, pIT, pZip, pEnum, pR1, pR2, pR3, pSlL, pSlT, pPart, pNoPart, pLc, pLc2, pDc, pSortSc, pFor, pNewL, pNewD, pApp, pExt, pDPut, pSetL, pOwnD, pIsN, pNotN, pListVals, pListValsT, pIVals, pIKeys, pIItems, onDic, pIStr, pDGet1, pTsYes, pParL, pParR, pCel, pCelSet, pNewCel, pNeverS, wipeP, List.set_cons_zero, List.set_cons_succ, List.getElem?_cons_zero, List.getElem?_cons_succ, List.length_cons, List.length_nil]
  cases v <;> first | cases hv | skip
  all_goals
    rw [kIsi_of rfl (kit_int _ (by decide)).1]
    first
    | exact hq
    | (simp only [pSeq, pNext, pIfS, pRet, pRetN, pAsg, pDrop, pPar, pAug, gNm, gTupP, gConsP, gNilP, pVar, pC, pBin, pChain, pUn, kNeg, pTst, pTru, pAndT, pOrT, pNotT, pAndV, pOrV, pNotV, pIf, pCons, pNil, pTup, pLst, pStar, pCallB, pCall, pMeth, pProp, pFld, pFrz, pIL, pIT, pZip, pEnum, pR1, pR2, pR3, pSlL, pSlT, pPart, pNoPart, pLc, pLc2, pDc, pSortSc, pFor, pNewL, pNewD, pApp, pExt, pDPut, pSetL, pOwnD, pIsN, pNotN, pListVals, pListValsT, pIVals, pIKeys, pIItems, onDic, pIStr, pDGet1, pTsYes, pParL, pParR, pCel, pCelSet, pNewCel, pNeverS, wipeP, List.set_cons_zero, List.set_cons_succ, List.getElem?_cons_zero, List.getElem?_cons_succ, List.length_cons, List.length_nil]; rw [kIsi_of rfl (kit_int _ (by decide)).2]; exact hq)
theorem hp_common_divisor : ∀ as Q, Ph_common_divisor as Q → as.length = 2 ∧ t_common_divisor ⟨fun _ => Q .non, Q, fun _ => False, fun _ => False⟩ (startP N_common_divisor as) := by
  rintro as Q ⟨a, b, rfl, hq⟩
  refine ⟨rfl, ?_⟩
  simp only [st_common_divisor, t_common_divisor, pSeq, pWhile]
  refine ⟨fun m ρ => ∃ x y : Int, ρ = [.val (.int x), .val (.int y)] ∧ m = y.natAbs ∧ Int.gcd x y = Int.gcd a b, ⟨_, a, b, rfl, rfl, rfl⟩, ?_⟩
  rintro m ρ ⟨x, y, rfl, rfl, hg⟩
  simp only [pSeq, pNext, pIfS, pRet, pRetN, pAsg, pDrop, pPar, pAug, gNm, gTupP, gConsP, gNilP, pVar, pC, pBin, pChain, pUn, kNeg, pTst, pTru, pAndT, pOrT, pNotT, pAndV, pOrV, pNotV, pIf, pCons, pNil, pTup, pLst, pStar, pCallB, pCall, pMeth, pProp, pFld, pFrz, pIL, pIT, pZip, pEnum, pR1, pR2, pR3, pSlL, pSlT, pPart, pNoPart, pLc, pLc2, pDc, pSortSc, pFor, pNewL, pNewD, pApp, pExt, pDPut, pSetL, pOwnD, pIsN, pNotN, pListVals, pListValsT, pIVals, pIKeys, pIItems, onDic, pIStr, pDGet1, pTsYes, pParL, pParR, pCel, pCelSet, pNewCel, pNeverS, wipeP, List.set_cons_zero, List.set_cons_succ, List.getElem?_cons_zero, List.getElem?_cons_succ, List.length_cons, List.length_nil, kNe_int]
  by_cases hy : y = 0
  · subst hy
    simp only [decide_true, Bool.not_true, kAbs_int]
    have e : (if x < 0 then -x else x) = ((Int.gcd a b : Nat) : Int) := by
      rw [← hg, Int.gcd_zero_right]; split <;> omega
    rw [e]; exact hq
  · simp only [decide_eq_false hy, Bool.not_false, tb_common_divisor_1, pSeq, pNext, pIfS, pRet, pRetN, pAsg, pDrop, pPar, pAug, gNm, gTupP, gConsP, gNilP, pVar, pC, pBin, pChain, pUn, kNeg, pTst, pTru, pAndT, pOrT, pNotT, pAndV, pOrV, pNotV, pIf, pCons, pNil, pTup, pLst, pStar, pCallB, pCall, pMeth, pProp, pFld, pFrz, pIL, pIT, pZip, pEnum, pR1, pR2, pR3, pSlL, pSlT, pPart, pNoPart, pLc, pLc2, pDc, pSortSc, pFor, pNewL, pNewD, pApp, pExt, pDPut, pSetL, pOwnD, pIsN, pNotN, pListVals, pListValsT, pIVals, pIKeys, pIItems, onDic, pIStr, pDGet1, pTsYes, pParL, pParR, pCel, pCelSet, pNewCel, pNeverS, wipeP, List.set_cons_zero, List.set_cons_succ, List.getElem?_cons_zero, List.getElem?_cons_succ, List.length_cons, List.length_nil, kII_int]
    refine ⟨hy, ?_⟩
    refine ⟨_, ?_, y, x.fmod y, rfl, rfl, ?_⟩
    · exact fmod_lt x hy
    · rw [← hg]
      have e : x.fmod y = x - y * x.fdiv y := by have := Int.mul_fdiv_add_fmod x y; omega
      rw [e, Int.gcd_comm x y, Int.mul_comm y, Int.gcd_sub_mul_right_right y x (x.fdiv y)]
theorem gcd_one (q : Rat) : Int.gcd q.num (q.den : Int) = 1 := by
  have := q.reduced
  rw [Int.gcd]; exact this
theorem hp_is_ratio : ∀ as Q, Ph_is_ratio as Q → as.length = 1 ∧ t_is_ratio ⟨fun _ => Q .non, Q, fun _ => False, fun _ => False⟩ (startP N_is_ratio as) := by
  rintro as Q ⟨v, q, rfl, hv, hq⟩
  refine ⟨rfl, ?_⟩
  simp only [st_is_ratio, t_is_ratio, pSeq, pNext, pIfS, pRet, pRetN, pAsg, pDrop, pPar, pAug, gNm, gTupP, gConsP, gNilP, pVar, pC, pBin, pChain, pUn, kNeg, pTst, pTru, pAndT, pOrT, pNotT, pAndV, pOrV, pNotV, pIf, pCons, pNil, pTup, pLst, pStar, pCallB, pCall, pMeth, pProp, pFld, pFrz, pIL, pIT, pZip, pEnum, pR1, pR2, pR3, pSlL, pSlT, pPart, pNoPart, pLc, pLc2, pDc, pSortSc, pFor, pNewL, pNewD, pApp, pExt, pDPut, pSetL, pOwnD, pIsN, pNotN, pListVals, pListValsT, pIVals, pIKeys, pIItems, onDic, pIStr, pDGet1, pTsYes, pParL, pParR, pCel, pCelSet, pNewCel, pNeverS, wipeP, List.set_cons_zero, List.set_cons_succ, List.getElem?_cons_zero, List.getElem?_cons_succ, List.length_cons, List.length_nil]
  rcases hv with ⟨i, rfl, rfl⟩ | rfl
  · rw [kIsi_of rfl kit_it]; exact hq
  · rw [show rat q = .tup [.int q.num, .int (q.den : Int)] from rfl, kIsi_of rfl kit_tt]
    simp only [pSeq, pNext, pIfS, pRet, pRetN, pAsg, pDrop, pPar, pAug, gNm, gTupP, gConsP, gNilP, pVar, pC, pBin, pChain, pUn, kNeg, pTst, pTru, pAndT, pOrT, pNotT, pAndV, pOrV, pNotV, pIf, pCons, pNil, pTup, pLst, pStar, pCallB, pCall, pMeth, pProp, pFld, pFrz, pIL, pIT, pZip, pEnum, pR1, pR2, pR3, pSlL, pSlT, pPart, pNoPart, pLc, pLc2, pDc, pSortSc, pFor, pNewL, pNewD, pApp, pExt, pDPut, pSetL, pOwnD, pIsN, pNotN, pListVals, pListValsT, pIVals, pIKeys, pIItems, onDic, pIStr, pDGet1, pTsYes, pParL, pParR, pCel, pCelSet, pNewCel, pNeverS, wipeP, List.set_cons_zero, List.set_cons_succ, List.getElem?_cons_zero, List.getElem?_cons_succ, List.length_cons, List.length_nil, kLen_tup, kNe_int, kIx_2a, kIx_2b, Bool.not_true]
    refine ⟨_, rfl, rfl, ?_⟩
    simp only [isI, pSeq, pNext, pIfS, pRet, pRetN, pAsg, pDrop, pPar, pAug, gNm, gTupP, gConsP, gNilP, pVar, pC, pBin, pChain, pUn, kNeg, pTst, pTru, pAndT, pOrT, pNotT, pAndV, pOrV, pNotV, pIf, pCons, pNil, pTup, pLst, pStar, pCallB, pCall, pMeth, pProp, pFld, pFrz, pIL, pIT, pZip, pEnum, pR1, pR2, pR3, pSlL, pSlT, pPart, pNoPart, pLc, pLc2, pDc, pSortSc, pFor, pNewL, pNewD, pApp, pExt, pDPut, pSetL, pOwnD, pIsN, pNotN, pListVals, pListValsT, pIVals, pIKeys, pIItems, onDic, pIStr, pDGet1, pTsYes, pParL, pParR, pCel, pCelSet, pNewCel, pNeverS, wipeP, List.set_cons_zero, List.set_cons_succ, List.getElem?_cons_zero, List.getElem?_cons_succ, List.length_cons, List.length_nil, kIx_2a, kIx_2b, Bool.not_true]
    refine ⟨_, rfl, rfl, ?_⟩
    simp only [isI, pSeq, pNext, pIfS, pRet, pRetN, pAsg, pDrop, pPar, pAug, gNm, gTupP, gConsP, gNilP, pVar, pC, pBin, pChain, pUn, kNeg, pTst, pTru, pAndT, pOrT, pNotT, pAndV, pOrV, pNotV, pIf, pCons, pNil, pTup, pLst, pStar, pCallB, pCall, pMeth, pProp, pFld, pFrz, pIL, pIT, pZip, pEnum, pR1, pR2, pR3, pSlL, pSlT, pPart, pNoPart, pLc, pLc2, pDc, pSortSc, pFor, pNewL, pNewD, pApp, pExt, pDPut, pSetL, pOwnD, pIsN, pNotN, pListVals, pListValsT, pIVals, pIKeys, pIItems, onDic, pIStr, pDGet1, pTsYes, pParL, pParR, pCel, pCelSet, pNewCel, pNeverS, wipeP, List.set_cons_zero, List.set_cons_succ, List.getElem?_cons_zero, List.getElem?_cons_succ, List.length_cons, List.length_nil, kIx_2a, kIx_2b, Bool.not_true, kI0_int]
    have hd : (1 : Int) ≤ (q.den : Int) := by have := q.den_pos; omega
    simp only [decide_eq_true hd]
    refine ⟨_, _, rfl, ?_⟩
    rw [gcd_one]
    exact hq
theorem hp_is_number : ∀ as Q, Ph_is_number as Q → as.length = 1 ∧ t_is_number ⟨fun _ => Q .non, Q, fun _ => False, fun _ => False⟩ (startP N_is_number as) := by
  rintro as Q ⟨v, q, rfl, hv, hq⟩
  refine ⟨rfl, ?_⟩
  simp only [st_is_number, t_is_number, pSeq, pNext, pIfS, pRet, pRetN, pAsg, pDrop, pPar, pAug, gNm, gTupP, gConsP, gNilP, pVar, pC, pBin, pChain, pUn, kNeg, pTst, pTru, pAndT, pOrT, pNotT, pAndV, pOrV, pNotV, pIf, pCons, pNil, pTup, pLst, pStar, pCallB, pCall, pMeth, pProp, pFld, pFrz, pIL, pIT, pZip, pEnum, pR1, pR2, pR3, pSlL, pSlT, pPart, pNoPart, pLc, pLc2, pDc, pSortSc, pFor, pNewL, pNewD, pApp, pExt, pDPut, pSetL, pOwnD, pIsN, pNotN, pListVals, pListValsT, pIVals, pIKeys, pIItems, onDic, pIStr, pDGet1, pTsYes, pParL, pParR, pCel, pCelSet, pNewCel, pNeverS, wipeP, List.set_cons_zero, List.set_cons_succ, List.getElem?_cons_zero, List.getElem?_cons_succ, List.length_cons, List.length_nil]
  have hv' := hv
  rcases hv with ⟨i, rfl, rfl⟩ | rfl
  · exact ⟨_, rfl, rfl, hq⟩
  · exact ⟨_, rfl, rfl, _, q, rfl, .rat q, hq⟩
theorem hp_ratio : ∀ as Q, Ph_ratio as Q → as.length = 2 ∧ t_ratio ⟨fun _ => Q .non, Q, fun _ => False, fun _ => False⟩ (startP N_ratio as) := by
  rintro as Q ⟨n, d, rfl, hd, hl, hq⟩
  refine ⟨rfl, ?_⟩
  simp only [st_ratio, t_ratio, pSeq, pNext, pIfS, pRet, pRetN, pAsg, pDrop, pPar, pAug, gNm, gTupP, gConsP, gNilP, pVar, pC, pBin, pChain, pUn, kNeg, pTst, pTru, pAndT, pOrT, pNotT, pAndV, pOrV, pNotV, pIf, pCons, pNil, pTup, pLst, pStar, pCallB, pCall, pMeth, pProp, pFld, pFrz, pIL, pIT, pZip, pEnum, pR1, pR2, pR3, pSlL, pSlT, pPart, pNoPart, pLc, pLc2, pDc, pSortSc, pFor, pNewL, pNewD, pApp, pExt, pDPut, pSetL, pOwnD, pIsN, pNotN, pListVals, pListValsT, pIVals, pIKeys, pIItems, onDic, pIStr, pDGet1, pTsYes, pParL, pParR, pCel, pCelSet, pNewCel, pNeverS, wipeP, List.set_cons_zero, List.set_cons_succ, List.getElem?_cons_zero, List.getElem?_cons_succ, List.length_cons, List.length_nil]
  refine ⟨_, rfl, rfl, ?_⟩
  simp only [isI, pSeq, pNext, pIfS, pRet, pRetN, pAsg, pDrop, pPar, pAug, gNm, gTupP, gConsP, gNilP, pVar, pC, pBin, pChain, pUn, kNeg, pTst, pTru, pAndT, pOrT, pNotT, pAndV, pOrV, pNotV, pIf, pCons, pNil, pTup, pLst, pStar, pCallB, pCall, pMeth, pProp, pFld, pFrz, pIL, pIT, pZip, pEnum, pR1, pR2, pR3, pSlL, pSlT, pPart, pNoPart, pLc, pLc2, pDc, pSortSc, pFor, pNewL, pNewD, pApp, pExt, pDPut, pSetL, pOwnD, pIsN, pNotN, pListVals, pListValsT, pIVals, pIKeys, pIItems, onDic, pIStr, pDGet1, pTsYes, pParL, pParR, pCel, pCelSet, pNewCel, pNeverS, wipeP, List.set_cons_zero, List.set_cons_succ, List.getElem?_cons_zero, List.getElem?_cons_succ, List.length_cons, List.length_nil, Bool.not_true]
  refine ⟨_, rfl, rfl, ?_⟩
  simp only [isI, pSeq, pNext, pIfS, pRet, pRetN, pAsg, pDrop, pPar, pAug, gNm, gTupP, gConsP, gNilP, pVar, pC, pBin, pChain, pUn, kNeg, pTst, pTru, pAndT, pOrT, pNotT, pAndV, pOrV, pNotV, pIf, pCons, pNil, pTup, pLst, pStar, pCallB, pCall, pMeth, pProp, pFld, pFrz, pIL, pIT, pZip, pEnum, pR1, pR2, pR3, pSlL, pSlT, pPart, pNoPart, pLc, pLc2, pDc, pSortSc, pFor, pNewL, pNewD, pApp, pExt, pDPut, pSetL, pOwnD, pIsN, pNotN, pListVals, pListValsT, pIVals, pIKeys, pIItems, onDic, pIStr, pDGet1, pTsYes, pParL, pParR, pCel, pCelSet, pNewCel, pNeverS, wipeP, List.set_cons_zero, List.set_cons_succ, List.getElem?_cons_zero, List.getElem?_cons_succ, List.length_cons, List.length_nil, Bool.not_true, kEq_int, decide_eq_false hd]
  refine ⟨n, d, rfl, ?_⟩
  have gp := Int.gcd_pos_of_ne_zero_right n hd
  have gl : (Int.gcd n d).log2 < 9000 := by
    refine log2_lt_of (by decide) ?_
    have h1 : Int.gcd n d ≤ d.natAbs := Int.gcd_le_natAbs_right n hd
    have h2 : d.natAbs < 2 ^ 9000 := (Nat.log2_lt (by omega)).mp (by omega)
    omega
  have hgA : ((Int.gcd n d : Int)).natAbs = Int.gcd n d := Int.natAbs_natCast _
  have fin : ∀ s : Int, s = (if 0 < d then 1 else -1) → kMulI (.int (Int.gcd n d : Nat)) (.int s) fun p => kFdI (.int n) p fun a => kFdI (.int d) p fun b => ([a, b].length ≤ sizeLine ∧ Q (.tup [a, b])) := fun s hs => by
    have sa : s.natAbs = 1 := by rw [hs]; split <;> rfl
    have cA : ((Int.gcd n d : Int) * s).natAbs = Int.gcd n d := by rw [Int.natAbs_mul, sa, Nat.mul_one, hgA]
    have dv : ∀ m : Int, DivOk m ((Int.gcd n d : Int) * s) := fun m => ⟨fun z => by rw [z] at cA; simp at cA; omega, by rw [cA]; exact gl⟩
    refine ⟨?_, dv _, dv _, ?_, ?_⟩
    · show ((Int.gcd n d : Int)).natAbs.log2 + s.natAbs.log2 < 1000000
      rw [hgA, sa]
      have : (1 : Nat).log2 = 0 := rfl
      omega
    · rw [sizeLine_eq]; exact Nat.le_of_ble_eq_true rfl
    · show Q (.tup [.int (n.fdiv ((Int.gcd n d : Int) * s)), .int (d.fdiv ((Int.gcd n d : Int) * s))])
      rw [hs, ratio_num hd, ratio_den hd]; exact hq
  by_cases p : 0 < d
  · simp only [kI0_int, decide_eq_true p]
    exact fin 1 (by rw [if_pos p])
  · simp only [kI0_int, decide_eq_false p]
    exact fin (-1) (by rw [if_neg p])
theorem hp_as_ratio : ∀ as Q, Ph_as_ratio as Q → as.length = 1 ∧ t_as_ratio ⟨fun _ => Q .non, Q, fun _ => False, fun _ => False⟩ (startP N_as_ratio as) := by
  rintro as Q ⟨v, q, rfl, hv, hq⟩
  refine ⟨rfl, ?_⟩
  simp only [st_as_ratio, t_as_ratio, pSeq, pNext, pIfS, pRet, pRetN, pAsg, pDrop, pPar, pAug, gNm, gTupP, gConsP, gNilP, pVar, pC, pBin, pChain, pUn, kNeg, pTst, pTru, pAndT, pOrT, pNotT, pAndV, pOrV, pNotV, pIf, pCons, pNil, pTup, pLst, pStar, pCallB, pCall, pMeth, pProp, pFld, pFrz, pIL, pIT, pZip, pEnum, pR1, pR2, pR3, pSlL, pSlT, pPart, pNoPart, pLc, pLc2, pDc, pSortSc, pFor, pNewL, pNewD, pApp, pExt, pDPut, pSetL, pOwnD, pIsN, pNotN, pListVals, pListValsT, pIVals, pIKeys, pIItems, onDic, pIStr, pDGet1, pTsYes, pParL, pParR, pCel, pCelSet, pNewCel, pNeverS, wipeP, List.set_cons_zero, List.set_cons_succ, List.getElem?_cons_zero, List.getElem?_cons_succ, List.length_cons, List.length_nil]
  refine ⟨_, q, rfl, hv, ?_⟩
  simp only [Bool.not_true, pSeq, pNext, pIfS, pRet, pRetN, pAsg, pDrop, pPar, pAug, gNm, gTupP, gConsP, gNilP, pVar, pC, pBin, pChain, pUn, kNeg, pTst, pTru, pAndT, pOrT, pNotT, pAndV, pOrV, pNotV, pIf, pCons, pNil, pTup, pLst, pStar, pCallB, pCall, pMeth, pProp, pFld, pFrz, pIL, pIT, pZip, pEnum, pR1, pR2, pR3, pSlL, pSlT, pPart, pNoPart, pLc, pLc2, pDc, pSortSc, pFor, pNewL, pNewD, pApp, pExt, pDPut, pSetL, pOwnD, pIsN, pNotN, pListVals, pListValsT, pIVals, pIKeys, pIItems, onDic, pIStr, pDGet1, pTsYes, pParL, pParR, pCel, pCelSet, pNewCel, pNeverS, wipeP, List.set_cons_zero, List.set_cons_succ, List.getElem?_cons_zero, List.getElem?_cons_succ, List.length_cons, List.length_nil]
  rcases hv with ⟨i, rfl, rfl⟩ | rfl
  · refine ⟨_, rfl, rfl, ?_⟩
    simp only [isI, pSeq, pNext, pIfS, pRet, pRetN, pAsg, pDrop, pPar, pAug, gNm, gTupP, gConsP, gNilP, pVar, pC, pBin, pChain, pUn, kNeg, pTst, pTru, pAndT, pOrT, pNotT, pAndV, pOrV, pNotV, pIf, pCons, pNil, pTup, pLst, pStar, pCallB, pCall, pMeth, pProp, pFld, pFrz, pIL, pIT, pZip, pEnum, pR1, pR2, pR3, pSlL, pSlT, pPart, pNoPart, pLc, pLc2, pDc, pSortSc, pFor, pNewL, pNewD, pApp, pExt, pDPut, pSetL, pOwnD, pIsN, pNotN, pListVals, pListValsT, pIVals, pIKeys, pIItems, onDic, pIStr, pDGet1, pTsYes, pParL, pParR, pCel, pCelSet, pNewCel, pNeverS, wipeP, List.set_cons_zero, List.set_cons_succ, List.getElem?_cons_zero, List.getElem?_cons_succ, List.length_cons, List.length_nil]
    exact ⟨by rw [sizeLine_eq]; exact Nat.le_of_ble_eq_true rfl, hq⟩
  · exact ⟨_, rfl, rfl, hq⟩
theorem mul_ok {x y : Int} {j k : Nat} (h1 : x.natAbs.log2 < j) (h2 : y.natAbs.log2 < k) (h : j + k ≤ 999999 := by omega) : MulOk x y := by
  show x.natAbs.log2 + y.natAbs.log2 < 1000000
  omega
theorem lg_num (q : Rat) : q.num.natAbs.log2 < sz q := log2_num q
theorem lg_den (q : Rat) : ((q.den : Int)).natAbs.log2 < sz q := by rw [Int.natAbs_natCast]; exact log2_den q
theorem lg_dd {a b : Rat} (h : sz a + sz b ≤ 8000) : ((a.den : Int) * (b.den : Int)).natAbs.log2 < 8999 := by
  have := dd_lt a b
  exact Nat.lt_of_lt_of_le (log2_lt_of (by have := sz_pos a; omega) this) (by omega)
theorem lg_dn {a b : Rat} (h : sz a + sz b ≤ 8000) : ((a.den : Int) * b.num).natAbs.log2 < 8999 := by
  have := dn_lt a b
  exact Nat.lt_of_lt_of_le (log2_lt_of (by have := sz_pos a; omega) this) (by omega)
theorem hp_plus : ∀ as Q, Ph_plus as Q → as.length = 2 ∧ t_plus ⟨fun _ => Q .non, Q, fun _ => False, fun _ => False⟩ (startP N_plus as) := by
  rintro as Q ⟨v, w, a, b, rfl, hv, hw, hs, hq⟩
  refine ⟨rfl, ?_⟩
  simp only [st_plus, t_plus, pSeq, pNext, pIfS, pRet, pRetN, pAsg, pDrop, pPar, pAug, gNm, gTupP, gConsP, gNilP, pVar, pC, pBin, pChain, pUn, kNeg, pTst, pTru, pAndT, pOrT, pNotT, pAndV, pOrV, pNotV, pIf, pCons, pNil, pTup, pLst, pStar, pCallB, pCall, pMeth, pProp, pFld, pFrz, pIL, pIT, pZip, pEnum, pR1, pR2, pR3, pSlL, pSlT, pPart, pNoPart, pLc, pLc2, pDc, pSortSc, pFor, pNewL, pNewD, pApp, pExt, pDPut, pSetL, pOwnD, pIsN, pNotN, pListVals, pListValsT, pIVals, pIKeys, pIItems, onDic, pIStr, pDGet1, pTsYes, pParL, pParR, pCel, pCelSet, pNewCel, pNeverS, wipeP, List.set_cons_zero, List.set_cons_succ, List.getElem?_cons_zero, List.getElem?_cons_succ, List.length_cons, List.length_nil]
  refine ⟨v, a, rfl, hv, w, b, rfl, hw, ?_⟩
  simp only [kIx_rat0, kIx_rat1, pSeq, pNext, pIfS, pRet, pRetN, pAsg, pDrop, pPar, pAug, gNm, gTupP, gConsP, gNilP, pVar, pC, pBin, pChain, pUn, kNeg, pTst, pTru, pAndT, pOrT, pNotT, pAndV, pOrV, pNotV, pIf, pCons, pNil, pTup, pLst, pStar, pCallB, pCall, pMeth, pProp, pFld, pFrz, pIL, pIT, pZip, pEnum, pR1, pR2, pR3, pSlL, pSlT, pPart, pNoPart, pLc, pLc2, pDc, pSortSc, pFor, pNewL, pNewD, pApp, pExt, pDPut, pSetL, pOwnD, pIsN, pNotN, pListVals, pListValsT, pIVals, pIKeys, pIItems, onDic, pIStr, pDGet1, pTsYes, pParL, pParR, pCel, pCelSet, pNewCel, pNeverS, wipeP, List.set_cons_zero, List.set_cons_succ, List.getElem?_cons_zero, List.getElem?_cons_succ, List.length_cons, List.length_nil, kII_int, kI0_int]
  refine ⟨mul_ok (lg_num a) (lg_den b), mul_ok (lg_num b) (lg_den a), mul_ok (lg_den a) (lg_den b), _, _, rfl, den_mul_ne a b, lg_dd hs, ?_⟩
  rw [← add_eq]; exact hq
theorem hp_minus : ∀ as Q, Ph_minus as Q → as.length = 2 ∧ t_minus ⟨fun _ => Q .non, Q, fun _ => False, fun _ => False⟩ (startP N_minus as) := by
  rintro as Q ⟨v, w, a, b, rfl, hv, hw, hs, hq⟩
  refine ⟨rfl, ?_⟩
  simp only [st_minus, t_minus, pSeq, pNext, pIfS, pRet, pRetN, pAsg, pDrop, pPar, pAug, gNm, gTupP, gConsP, gNilP, pVar, pC, pBin, pChain, pUn, kNeg, pTst, pTru, pAndT, pOrT, pNotT, pAndV, pOrV, pNotV, pIf, pCons, pNil, pTup, pLst, pStar, pCallB, pCall, pMeth, pProp, pFld, pFrz, pIL, pIT, pZip, pEnum, pR1, pR2, pR3, pSlL, pSlT, pPart, pNoPart, pLc, pLc2, pDc, pSortSc, pFor, pNewL, pNewD, pApp, pExt, pDPut, pSetL, pOwnD, pIsN, pNotN, pListVals, pListValsT, pIVals, pIKeys, pIItems, onDic, pIStr, pDGet1, pTsYes, pParL, pParR, pCel, pCelSet, pNewCel, pNeverS, wipeP, List.set_cons_zero, List.set_cons_succ, List.getElem?_cons_zero, List.getElem?_cons_succ, List.length_cons, List.length_nil]
  refine ⟨v, a, rfl, hv, w, b, rfl, hw, ?_⟩
  simp only [kIx_rat0, kIx_rat1, pSeq, pNext, pIfS, pRet, pRetN, pAsg, pDrop, pPar, pAug, gNm, gTupP, gConsP, gNilP, pVar, pC, pBin, pChain, pUn, kNeg, pTst, pTru, pAndT, pOrT, pNotT, pAndV, pOrV, pNotV, pIf, pCons, pNil, pTup, pLst, pStar, pCallB, pCall, pMeth, pProp, pFld, pFrz, pIL, pIT, pZip, pEnum, pR1, pR2, pR3, pSlL, pSlT, pPart, pNoPart, pLc, pLc2, pDc, pSortSc, pFor, pNewL, pNewD, pApp, pExt, pDPut, pSetL, pOwnD, pIsN, pNotN, pListVals, pListValsT, pIVals, pIKeys, pIItems, onDic, pIStr, pDGet1, pTsYes, pParL, pParR, pCel, pCelSet, pNewCel, pNeverS, wipeP, List.set_cons_zero, List.set_cons_succ, List.getElem?_cons_zero, List.getElem?_cons_succ, List.length_cons, List.length_nil, kII_int, kI0_int]
  refine ⟨mul_ok (lg_num a) (lg_den b), mul_ok (lg_num b) (lg_den a), mul_ok (lg_den a) (lg_den b), _, _, rfl, den_mul_ne a b, lg_dd hs, ?_⟩
  rw [← sub_eq]; exact hq
theorem hp_times : ∀ as Q, Ph_times as Q → as.length = 2 ∧ t_times ⟨fun _ => Q .non, Q, fun _ => False, fun _ => False⟩ (startP N_times as) := by
  rintro as Q ⟨v, w, a, b, rfl, hv, hw, hs, hq⟩
  refine ⟨rfl, ?_⟩
  simp only [st_times, t_times, pSeq, pNext, pIfS, pRet, pRetN, pAsg, pDrop, pPar, pAug, gNm, gTupP, gConsP, gNilP, pVar, pC, pBin, pChain, pUn, kNeg, pTst, pTru, pAndT, pOrT, pNotT, pAndV, pOrV, pNotV, pIf, pCons, pNil, pTup, pLst, pStar, pCallB, pCall, pMeth, pProp, pFld, pFrz, pIL, pIT, pZip, pEnum, pR1, pR2, pR3, pSlL, pSlT, pPart, pNoPart, pLc, pLc2, pDc, pSortSc, pFor, pNewL, pNewD, pApp, pExt, pDPut, pSetL, pOwnD, pIsN, pNotN, pListVals, pListValsT, pIVals, pIKeys, pIItems, onDic, pIStr, pDGet1, pTsYes, pParL, pParR, pCel, pCelSet, pNewCel, pNeverS, wipeP, List.set_cons_zero, List.set_cons_succ, List.getElem?_cons_zero, List.getElem?_cons_succ, List.length_cons, List.length_nil]
  refine ⟨v, a, rfl, hv, w, b, rfl, hw, ?_⟩
  simp only [kIx_rat0, kIx_rat1, pSeq, pNext, pIfS, pRet, pRetN, pAsg, pDrop, pPar, pAug, gNm, gTupP, gConsP, gNilP, pVar, pC, pBin, pChain, pUn, kNeg, pTst, pTru, pAndT, pOrT, pNotT, pAndV, pOrV, pNotV, pIf, pCons, pNil, pTup, pLst, pStar, pCallB, pCall, pMeth, pProp, pFld, pFrz, pIL, pIT, pZip, pEnum, pR1, pR2, pR3, pSlL, pSlT, pPart, pNoPart, pLc, pLc2, pDc, pSortSc, pFor, pNewL, pNewD, pApp, pExt, pDPut, pSetL, pOwnD, pIsN, pNotN, pListVals, pListValsT, pIVals, pIKeys, pIItems, onDic, pIStr, pDGet1, pTsYes, pParL, pParR, pCel, pCelSet, pNewCel, pNeverS, wipeP, List.set_cons_zero, List.set_cons_succ, List.getElem?_cons_zero, List.getElem?_cons_succ, List.length_cons, List.length_nil, kII_int, kI0_int]
  refine ⟨mul_ok (lg_num a) (lg_num b), mul_ok (lg_den a) (lg_den b), _, _, rfl, den_mul_ne a b, lg_dd hs, ?_⟩
  rw [← mul_eq]; exact hq
theorem hp_divided : ∀ as Q, Ph_divided as Q → as.length = 2 ∧ t_divided ⟨fun _ => Q .non, Q, fun _ => False, fun _ => False⟩ (startP N_divided as) := by
  rintro as Q ⟨v, w, a, b, rfl, hv, hw, hb, hs, hq⟩
  refine ⟨rfl, ?_⟩
  simp only [st_divided, t_divided, pSeq, pNext, pIfS, pRet, pRetN, pAsg, pDrop, pPar, pAug, gNm, gTupP, gConsP, gNilP, pVar, pC, pBin, pChain, pUn, kNeg, pTst, pTru, pAndT, pOrT, pNotT, pAndV, pOrV, pNotV, pIf, pCons, pNil, pTup, pLst, pStar, pCallB, pCall, pMeth, pProp, pFld, pFrz, pIL, pIT, pZip, pEnum, pR1, pR2, pR3, pSlL, pSlT, pPart, pNoPart, pLc, pLc2, pDc, pSortSc, pFor, pNewL, pNewD, pApp, pExt, pDPut, pSetL, pOwnD, pIsN, pNotN, pListVals, pListValsT, pIVals, pIKeys, pIItems, onDic, pIStr, pDGet1, pTsYes, pParL, pParR, pCel, pCelSet, pNewCel, pNeverS, wipeP, List.set_cons_zero, List.set_cons_succ, List.getElem?_cons_zero, List.getElem?_cons_succ, List.length_cons, List.length_nil]
  refine ⟨v, a, rfl, hv, w, b, rfl, hw, ?_⟩
  simp only [kIx_rat0, kIx_rat1, pSeq, pNext, pIfS, pRet, pRetN, pAsg, pDrop, pPar, pAug, gNm, gTupP, gConsP, gNilP, pVar, pC, pBin, pChain, pUn, kNeg, pTst, pTru, pAndT, pOrT, pNotT, pAndV, pOrV, pNotV, pIf, pCons, pNil, pTup, pLst, pStar, pCallB, pCall, pMeth, pProp, pFld, pFrz, pIL, pIT, pZip, pEnum, pR1, pR2, pR3, pSlL, pSlT, pPart, pNoPart, pLc, pLc2, pDc, pSortSc, pFor, pNewL, pNewD, pApp, pExt, pDPut, pSetL, pOwnD, pIsN, pNotN, pListVals, pListValsT, pIVals, pIKeys, pIItems, onDic, pIStr, pDGet1, pTsYes, pParL, pParR, pCel, pCelSet, pNewCel, pNeverS, wipeP, List.set_cons_zero, List.set_cons_succ, List.getElem?_cons_zero, List.getElem?_cons_succ, List.length_cons, List.length_nil, kII_int, kI0_int]
  refine ⟨mul_ok (lg_num a) (lg_den b), mul_ok (lg_den a) (lg_num b), _, _, rfl, Int.mul_ne_zero (denI a) (num_ne hb), lg_dn hs, ?_⟩
  rw [← div_eq]; exact hq
theorem sub_pos_iff {a b : Rat} : 0 < (a - b).num ↔ b < a := by
  rw [MR.num_pos]
  constructor <;> intro h <;> grind
theorem sub_neg_iff {a b : Rat} : (a - b).num < 0 ↔ a < b := by
  rw [MR.num_neg]
  constructor <;> intro h <;> grind
theorem hp_compare : ∀ as Q, Ph_compare as Q → as.length = 2 ∧ t_compare ⟨fun _ => Q .non, Q, fun _ => False, fun _ => False⟩ (startP N_compare as) := by
  rintro as Q ⟨v, w, a, b, rfl, hv, hw, hs, hq⟩
  refine ⟨rfl, ?_⟩
  simp only [st_compare, t_compare, pSeq, pNext, pIfS, pRet, pRetN, pAsg, pDrop, pPar, pAug, gNm, gTupP, gConsP, gNilP, pVar, pC, pBin, pChain, pUn, kNeg, pTst, pTru, pAndT, pOrT, pNotT, pAndV, pOrV, pNotV, pIf, pCons, pNil, pTup, pLst, pStar, pCallB, pCall, pMeth, pProp, pFld, pFrz, pIL, pIT, pZip, pEnum, pR1, pR2, pR3, pSlL, pSlT, pPart, pNoPart, pLc, pLc2, pDc, pSortSc, pFor, pNewL, pNewD, pApp, pExt, pDPut, pSetL, pOwnD, pIsN, pNotN, pListVals, pListValsT, pIVals, pIKeys, pIItems, onDic, pIStr, pDGet1, pTsYes, pParL, pParR, pCel, pCelSet, pNewCel, pNeverS, wipeP, List.set_cons_zero, List.set_cons_succ, List.getElem?_cons_zero, List.getElem?_cons_succ, List.length_cons, List.length_nil]
  refine ⟨v, w, a, b, rfl, hv, hw, hs, ?_⟩
  simp only [kIx_rat0, kIx_rat1, pSeq, pNext, pIfS, pRet, pRetN, pAsg, pDrop, pPar, pAug, gNm, gTupP, gConsP, gNilP, pVar, pC, pBin, pChain, pUn, kNeg, pTst, pTru, pAndT, pOrT, pNotT, pAndV, pOrV, pNotV, pIf, pCons, pNil, pTup, pLst, pStar, pCallB, pCall, pMeth, pProp, pFld, pFrz, pIL, pIT, pZip, pEnum, pR1, pR2, pR3, pSlL, pSlT, pPart, pNoPart, pLc, pLc2, pDc, pSortSc, pFor, pNewL, pNewD, pApp, pExt, pDPut, pSetL, pOwnD, pIsN, pNotN, pListVals, pListValsT, pIVals, pIKeys, pIItems, onDic, pIStr, pDGet1, pTsYes, pParL, pParR, pCel, pCelSet, pNewCel, pNeverS, wipeP, List.set_cons_zero, List.set_cons_succ, List.getElem?_cons_zero, List.getElem?_cons_succ, List.length_cons, List.length_nil, kI0_int, kBB_bl]
  have e : b2i (decide (0 < (a - b).num)) - b2i (decide ((a - b).num < 0)) = cmpI a b := by
    unfold cmpI
    simp only [sub_pos_iff, sub_neg_iff]
    by_cases h1 : a < b
    · have h2 : ¬ b < a := by grind
      simp [h1, h2, b2i]
    · by_cases h2 : b < a <;> simp [h1, h2, b2i]
  rw [e]; exact hq
theorem hp_floor_of : ∀ as Q, Ph_floor_of as Q → as.length = 1 ∧ t_floor_of ⟨fun _ => Q .non, Q, fun _ => False, fun _ => False⟩ (startP N_floor_of as) := by
  rintro as Q ⟨v, q, rfl, hv, hs, hq⟩
  refine ⟨rfl, ?_⟩
  simp only [st_floor_of, t_floor_of, pSeq, pNext, pIfS, pRet, pRetN, pAsg, pDrop, pPar, pAug, gNm, gTupP, gConsP, gNilP, pVar, pC, pBin, pChain, pUn, kNeg, pTst, pTru, pAndT, pOrT, pNotT, pAndV, pOrV, pNotV, pIf, pCons, pNil, pTup, pLst, pStar, pCallB, pCall, pMeth, pProp, pFld, pFrz, pIL, pIT, pZip, pEnum, pR1, pR2, pR3, pSlL, pSlT, pPart, pNoPart, pLc, pLc2, pDc, pSortSc, pFor, pNewL, pNewD, pApp, pExt, pDPut, pSetL, pOwnD, pIsN, pNotN, pListVals, pListValsT, pIVals, pIKeys, pIItems, onDic, pIStr, pDGet1, pTsYes, pParL, pParR, pCel, pCelSet, pNewCel, pNeverS, wipeP, List.set_cons_zero, List.set_cons_succ, List.getElem?_cons_zero, List.getElem?_cons_succ, List.length_cons, List.length_nil]
  refine ⟨v, q, rfl, hv, ?_⟩
  simp only [kIx_rat0, kIx_rat1, pSeq, pNext, pIfS, pRet, pRetN, pAsg, pDrop, pPar, pAug, gNm, gTupP, gConsP, gNilP, pVar, pC, pBin, pChain, pUn, kNeg, pTst, pTru, pAndT, pOrT, pNotT, pAndV, pOrV, pNotV, pIf, pCons, pNil, pTup, pLst, pStar, pCallB, pCall, pMeth, pProp, pFld, pFrz, pIL, pIT, pZip, pEnum, pR1, pR2, pR3, pSlL, pSlT, pPart, pNoPart, pLc, pLc2, pDc, pSortSc, pFor, pNewL, pNewD, pApp, pExt, pDPut, pSetL, pOwnD, pIsN, pNotN, pListVals, pListValsT, pIVals, pIKeys, pIItems, onDic, pIStr, pDGet1, pTsYes, pParL, pParR, pCel, pCelSet, pNewCel, pNeverS, wipeP, List.set_cons_zero, List.set_cons_succ, List.getElem?_cons_zero, List.getElem?_cons_succ, List.length_cons, List.length_nil, kII_int]
  refine ⟨⟨denI q, Nat.lt_of_lt_of_le (lg_den q) (by omega)⟩, ?_⟩
  rw [fdiv_den]; exact hq
theorem hp_remainder : ∀ as Q, Ph_remainder as Q → as.length = 2 ∧ t_remainder ⟨fun _ => Q .non, Q, fun _ => False, fun _ => False⟩ (startP N_remainder as) := by
  rintro as Q ⟨v, w, a, b, rfl, hv, hw, hb, hs, hq⟩
  refine ⟨rfl, ?_⟩
  simp only [st_remainder, t_remainder, pSeq, pNext, pIfS, pRet, pRetN, pAsg, pDrop, pPar, pAug, gNm, gTupP, gConsP, gNilP, pVar, pC, pBin, pChain, pUn, kNeg, pTst, pTru, pAndT, pOrT, pNotT, pAndV, pOrV, pNotV, pIf, pCons, pNil, pTup, pLst, pStar, pCallB, pCall, pMeth, pProp, pFld, pFrz, pIL, pIT, pZip, pEnum, pR1, pR2, pR3, pSlL, pSlT, pPart, pNoPart, pLc, pLc2, pDc, pSortSc, pFor, pNewL, pNewD, pApp, pExt, pDPut, pSetL, pOwnD, pIsN, pNotN, pListVals, pListValsT, pIVals, pIKeys, pIItems, onDic, pIStr, pDGet1, pTsYes, pParL, pParR, pCel, pCelSet, pNewCel, pNeverS, wipeP, List.set_cons_zero, List.set_cons_succ, List.getElem?_cons_zero, List.getElem?_cons_succ, List.length_cons, List.length_nil]
  refine ⟨v, a, rfl, hv, w, b, rfl, hw, ?_⟩
  have hn : ¬ b.num ≤ 0 := by
    have := (MR.num_pos (q := b)).mpr hb
    omega
  simp only [kIx_rat0, kIx_rat1, pSeq, pNext, pIfS, pRet, pRetN, pAsg, pDrop, pPar, pAug, gNm, gTupP, gConsP, gNilP, pVar, pC, pBin, pChain, pUn, kNeg, pTst, pTru, pAndT, pOrT, pNotT, pAndV, pOrV, pNotV, pIf, pCons, pNil, pTup, pLst, pStar, pCallB, pCall, pMeth, pProp, pFld, pFrz, pIL, pIT, pZip, pEnum, pR1, pR2, pR3, pSlL, pSlT, pPart, pNoPart, pLc, pLc2, pDc, pSortSc, pFor, pNewL, pNewD, pApp, pExt, pDPut, pSetL, pOwnD, pIsN, pNotN, pListVals, pListValsT, pIVals, pIKeys, pIItems, onDic, pIStr, pDGet1, pTsYes, pParL, pParR, pCel, pCelSet, pNewCel, pNeverS, wipeP, List.set_cons_zero, List.set_cons_succ, List.getElem?_cons_zero, List.getElem?_cons_succ, List.length_cons, List.length_nil, kI0_int, decide_eq_false hn]
  have b0 : b ≠ 0 := fun e => by subst e; exact absurd hb (by decide)
  have s1 := sz_div a b0
  have s2 := sz_floor (a / b)
  have s3 := sz_mul b ((a / b).floor : Rat)
  refine ⟨_, _, a, b, rfl, .rat a, .rat b, b0, by omega, _, _, rfl, .rat _, by omega, _, _, b, _, rfl, .rat b, .int _, by omega, _, _, a, _, rfl, .rat a, .rat _, by omega, hq⟩
theorem hp_in_order : ∀ as Q, Ph_in_order as Q → as.length = 1 ∧ t_in_order ⟨fun _ => Q .non, Q, fun _ => False, fun _ => False⟩ (startP N_in_order as) := by
  rintro as Q ⟨L, C, rfl, hn, hC, hd, hl, hb, hq⟩
  refine ⟨rfl, ?_⟩
  simp only [st_in_order, t_in_order, pSeq, pNext, pIfS, pRet, pRetN, pAsg, pDrop, pPar, pAug, gNm, gTupP, gConsP, gNilP, pVar, pC, pBin, pChain, pUn, kNeg, pTst, pTru, pAndT, pOrT, pNotT, pAndV, pOrV, pNotV, pIf, pCons, pNil, pTup, pLst, pStar, pCallB, pCall, pMeth, pProp, pFld, pFrz, pIL, pIT, pZip, pEnum, pR1, pR2, pR3, pSlL, pSlT, pPart, pNoPart, pLc, pLc2, pDc, pSortSc, pFor, pNewL, pNewD, pApp, pExt, pDPut, pSetL, pOwnD, pIsN, pNotN, pListVals, pListValsT, pIVals, pIKeys, pIItems, onDic, pIStr, pDGet1, pTsYes, pParL, pParR, pCel, pCelSet, pNewCel, pNeverS, wipeP, List.set_cons_zero, List.set_cons_succ, List.getElem?_cons_zero, List.getElem?_cons_succ, List.length_cons, List.length_nil]
  have lsz : L.length ≤ sizeLine := size_le (by omega)
  refine lcL_map (·.1) (fun x : PV × Rat => rat x.2) L (fun x hx T t => ?_) lsz ?_
  · simp only [te_in_order_1, pSeq, pNext, pIfS, pRet, pRetN, pAsg, pDrop, pPar, pAug, gNm, gTupP, gConsP, gNilP, pVar, pC, pBin, pChain, pUn, kNeg, pTst, pTru, pAndT, pOrT, pNotT, pAndV, pOrV, pNotV, pIf, pCons, pNil, pTup, pLst, pStar, pCallB, pCall, pMeth, pProp, pFld, pFrz, pIL, pIT, pZip, pEnum, pR1, pR2, pR3, pSlL, pSlT, pPart, pNoPart, pLc, pLc2, pDc, pSortSc, pFor, pNewL, pNewD, pApp, pExt, pDPut, pSetL, pOwnD, pIsN, pNotN, pListVals, pListValsT, pIVals, pIKeys, pIItems, onDic, pIStr, pDGet1, pTsYes, pParL, pParR, pCel, pCelSet, pNewCel, pNeverS, wipeP, List.set_cons_zero, List.set_cons_succ, List.getElem?_cons_zero, List.getElem?_cons_succ, List.length_cons, List.length_nil]
    exact ⟨_, x.2, rfl, hn x hx, t⟩
  · try simp only [pSeq, pNext, pIfS, pRet, pRetN, pAsg, pDrop, pPar, pAug, gNm, gTupP, gConsP, gNilP, pVar, pC, pBin, pChain, pUn, kNeg, pTst, pTru, pAndT, pOrT, pNotT, pAndV, pOrV, pNotV, pIf, pCons, pNil, pTup, pLst, pStar, pCallB, pCall, pMeth, pProp, pFld, pFrz, pIL, pIT, pZip, pEnum, pR1, pR2, pR3, pSlL, pSlT, pPart, pNoPart, pLc, pLc2, pDc, pSortSc, pFor, pNewL, pNewD, pApp, pExt, pDPut, pSetL, pOwnD, pIsN, pNotN, pListVals, pListValsT, pIVals, pIKeys, pIItems, onDic, pIStr, pDGet1, pTsYes, pParL, pParR, pCel, pCelSet, pNewCel, pNeverS, wipeP, List.set_cons_zero, List.set_cons_succ, List.getElem?_cons_zero, List.getElem?_cons_succ, List.length_cons, List.length_nil]
    refine forL_of (fun x : PV × Rat => rat x.2) (fun rest ρ => ∃ (c : Nat) (s : Slt), ρ = [.val (.lst (L.map (·.1))), .val (.lst (L.map fun x => rat x.2)), .no, .val (.int c), s, .no] ∧ 0 < c ∧ c ∣ C ∧ (∀ x ∈ rest, x ∈ L) ∧ ∀ x ∈ L, x ∈ rest ∨ x.2.den ∣ c) ?_ ?_ L _ ⟨1, .no, rfl, by decide, Nat.one_dvd _, fun _ h => h, fun _ h => .inl h⟩
    · rintro x rest ρ ⟨c, s, rfl, c0, cC, hr, hx⟩ N hN
      have hxL := hr x (List.mem_cons_self ..)
      obtain ⟨h1, h2⟩ := hd x hxL
      simp only [tb_in_order_2, pSeq, pNext, pIfS, pRet, pRetN, pAsg, pDrop, pPar, pAug, gNm, gTupP, gConsP, gNilP, pVar, pC, pBin, pChain, pUn, kNeg, pTst, pTru, pAndT, pOrT, pNotT, pAndV, pOrV, pNotV, pIf, pCons, pNil, pTup, pLst, pStar, pCallB, pCall, pMeth, pProp, pFld, pFrz, pIL, pIT, pZip, pEnum, pR1, pR2, pR3, pSlL, pSlT, pPart, pNoPart, pLc, pLc2, pDc, pSortSc, pFor, pNewL, pNewD, pApp, pExt, pDPut, pSetL, pOwnD, pIsN, pNotN, pListVals, pListValsT, pIVals, pIKeys, pIItems, onDic, pIStr, pDGet1, pTsYes, pParL, pParR, pCel, pCelSet, pNewCel, pNeverS, wipeP, List.set_cons_zero, List.set_cons_succ, List.getElem?_cons_zero, List.getElem?_cons_succ, List.length_cons, List.length_nil, kIx_rat1, kII_int]
      have cl : c < 2 ^ bits C := Nat.lt_of_le_of_lt (Nat.le_of_dvd hC cC) (lt_bits C)
      have dl := den_lt x.2
      refine ⟨mul_ok (j := bits C) (k := sz x.2) ?_ (lg_den _), c, x.2.den, rfl, ⟨?_, ?_⟩, ?_⟩
      · rw [Int.natAbs_natCast]; exact log2_lt_of (bits_pos _) cl
      · have := Nat.gcd_pos_of_pos_left x.2.den c0
        intro z
        have : (Nat.gcd c x.2.den : Int) = 0 := z
        omega
      · have g1 : Nat.gcd c x.2.den ≤ x.2.den := Nat.gcd_le_right _ x.2.den_pos
        show (Nat.gcd c x.2.den).log2 < 9000
        exact Nat.lt_of_lt_of_le (log2_lt_of (k := sz x.2) (sz_pos _) (by omega)) (by omega)
      · refine hN _ ⟨Nat.lcm c x.2.den, .val (rat x.2), ?_, Nat.lcm_pos c0 x.2.den_pos, Nat.lcm_dvd cC h1, fun y hy => hr y (List.mem_cons_of_mem _ hy), fun y hy => ?_⟩
        · have e : ((c : Int) * (x.2.den : Int)).fdiv (Nat.gcd c x.2.den : Nat) = ((Nat.lcm c x.2.den : Nat) : Int) := by
            rw [Int.fdiv_eq_ediv_of_nonneg _ (by omega)]
            rfl
          have e2 : Int.gcd (c : Int) (x.2.den : Int) = Nat.gcd c x.2.den := rfl
          simp only [e2, e]
        · rcases hx y hy with h | h
          · rcases List.mem_cons.mp h with rfl | h
            · exact .inr (Nat.dvd_lcm_right _ _)
            · exact .inl h
          · exact .inr (Nat.dvd_trans h (Nat.dvd_lcm_left _ _))
    · rintro ρ ⟨c, s, rfl, c0, cC, _, hx⟩
      have hx : ∀ x ∈ L, x.2.den ∣ c := fun x h => (hx x h).resolve_left (by simp)
      have cl : c < 2 ^ bits C := Nat.lt_of_le_of_lt (Nat.le_of_dvd hC cC) (lt_bits C)
      have cl2 : c.log2 < bits C := log2_lt_of (bits_pos _) cl
      try simp only [pSeq, pNext, pIfS, pRet, pRetN, pAsg, pDrop, pPar, pAug, gNm, gTupP, gConsP, gNilP, pVar, pC, pBin, pChain, pUn, kNeg, pTst, pTru, pAndT, pOrT, pNotT, pAndV, pOrV, pNotV, pIf, pCons, pNil, pTup, pLst, pStar, pCallB, pCall, pMeth, pProp, pFld, pFrz, pIL, pIT, pZip, pEnum, pR1, pR2, pR3, pSlL, pSlT, pPart, pNoPart, pLc, pLc2, pDc, pSortSc, pFor, pNewL, pNewD, pApp, pExt, pDPut, pSetL, pOwnD, pIsN, pNotN, pListVals, pListValsT, pIVals, pIKeys, pIItems, onDic, pIStr, pDGet1, pTsYes, pParL, pParR, pCel, pCelSet, pNewCel, pNeverS, wipeP, List.set_cons_zero, List.set_cons_succ, List.getElem?_cons_zero, List.getElem?_cons_succ, List.length_cons, List.length_nil]
      refine scL_of (fun x : PV × Rat => rat x.2) (fun x => x.2.num * ((c / x.2.den : Nat) : Int)) L [] (fun x hxL T t => ?_) (by simp; omega) ?_
      · obtain ⟨h1, h2⟩ := hd x hxL
        simp only [te_in_order_3, pSeq, pNext, pIfS, pRet, pRetN, pAsg, pDrop, pPar, pAug, gNm, gTupP, gConsP, gNilP, pVar, pC, pBin, pChain, pUn, kNeg, pTst, pTru, pAndT, pOrT, pNotT, pAndV, pOrV, pNotV, pIf, pCons, pNil, pTup, pLst, pStar, pCallB, pCall, pMeth, pProp, pFld, pFrz, pIL, pIT, pZip, pEnum, pR1, pR2, pR3, pSlL, pSlT, pPart, pNoPart, pLc, pLc2, pDc, pSortSc, pFor, pNewL, pNewD, pApp, pExt, pDPut, pSetL, pOwnD, pIsN, pNotN, pListVals, pListValsT, pIVals, pIKeys, pIItems, onDic, pIStr, pDGet1, pTsYes, pParL, pParR, pCel, pCelSet, pNewCel, pNeverS, wipeP, List.set_cons_zero, List.set_cons_succ, List.getElem?_cons_zero, List.getElem?_cons_succ, List.length_cons, List.length_nil, kIx_rat0, kIx_rat1, kII_int]
        have e : ((c : Int)).fdiv (x.2.den : Int) = ((c / x.2.den : Nat) : Int) := by
          rw [Int.fdiv_eq_ediv_of_nonneg _ (by omega)]; rfl
        rw [e]
        refine ⟨⟨denI _, Nat.lt_of_lt_of_le (lg_den _) (by omega)⟩, mul_ok (j := sz x.2) (k := bits C) (lg_num _) ?_, t⟩
        rw [Int.natAbs_natCast]
        exact log2_lt_of (bits_pos _) (Nat.lt_of_le_of_lt (Nat.div_le_self _ _) cl)
      · intro ns hs hm
        try simp only [pSeq, pNext, pIfS, pRet, pRetN, pAsg, pDrop, pPar, pAug, gNm, gTupP, gConsP, gNilP, pVar, pC, pBin, pChain, pUn, kNeg, pTst, pTru, pAndT, pOrT, pNotT, pAndV, pOrV, pNotV, pIf, pCons, pNil, pTup, pLst, pStar, pCallB, pCall, pMeth, pProp, pFld, pFrz, pIL, pIT, pZip, pEnum, pR1, pR2, pR3, pSlL, pSlT, pPart, pNoPart, pLc, pLc2, pDc, pSortSc, pFor, pNewL, pNewD, pApp, pExt, pDPut, pSetL, pOwnD, pIsN, pNotN, pListVals, pListValsT, pIVals, pIKeys, pIItems, onDic, pIStr, pDGet1, pTsYes, pParL, pParR, pCel, pCelSet, pNewCel, pNeverS, wipeP, List.set_cons_zero, List.set_cons_succ, List.getElem?_cons_zero, List.getElem?_cons_succ, List.length_cons, List.length_nil]
        have c0' : (c : Int) ≠ 0 := by omega
        have nl : ns.length ≤ sizeLine := by
          have := List.Nodup.length_le_of_subset (List.Pairwise.imp (fun h => Int.ne_of_lt h) hs) fun k hk => (hm k).mp hk
          exact size_le (by simp at this; omega)
        refine lcL_map PV.int (fun n => rat (Rat.divInt n c)) ns (fun n hn T t => ?_) nl ?_
        · simp only [te_in_order_4, pSeq, pNext, pIfS, pRet, pRetN, pAsg, pDrop, pPar, pAug, gNm, gTupP, gConsP, gNilP, pVar, pC, pBin, pChain, pUn, kNeg, pTst, pTru, pAndT, pOrT, pNotT, pAndV, pOrV, pNotV, pIf, pCons, pNil, pTup, pLst, pStar, pCallB, pCall, pMeth, pProp, pFld, pFrz, pIL, pIT, pZip, pEnum, pR1, pR2, pR3, pSlL, pSlT, pPart, pNoPart, pLc, pLc2, pDc, pSortSc, pFor, pNewL, pNewD, pApp, pExt, pDPut, pSetL, pOwnD, pIsN, pNotN, pListVals, pListValsT, pIVals, pIKeys, pIItems, onDic, pIStr, pDGet1, pTsYes, pParL, pParR, pCel, pCelSet, pNewCel, pNeverS, wipeP, List.set_cons_zero, List.set_cons_succ, List.getElem?_cons_zero, List.getElem?_cons_succ, List.length_cons, List.length_nil]
          exact ⟨n, c, rfl, c0', by rw [Int.natAbs_natCast]; omega, t⟩
        · have hq' := hq (ns.map fun n => Rat.divInt n c) ?_ ?_
          · rw [List.map_map] at hq'; exact hq'
          · rw [List.pairwise_map]
            refine hs.imp fun {a b} h => ?_
            rw [Rat.divInt_eq_div, Rat.divInt_eq_div]
            have hc : (0 : Rat) < ((c : Int) : Rat) := by exact_mod_cast (show (0 : Int) < c by omega)
            rw [Rat.div_def, Rat.div_def]
            exact Rat.mul_lt_mul_of_pos_right (by exact_mod_cast h) (Rat.inv_pos.mpr hc)
          · intro q
            simp only [List.nil_append] at hm
            constructor
            · intro h
              obtain ⟨n, hn', rfl⟩ := List.mem_map.mp h
              obtain ⟨x, hxL, rfl⟩ := List.mem_map.mp ((hm n).mp hn')
              refine List.mem_map.mpr ⟨x, hxL, ?_⟩
              obtain ⟨m, hm'⟩ := hx x hxL
              rw [hm', Nat.mul_div_cancel_left _ x.2.den_pos]
              have m0 : m ≠ 0 := fun z => by subst z; omega
              conv => lhs; rw [← Rat.num_divInt_den x.2]
              have := Rat.divInt_mul_right (n := x.2.num) (d := (x.2.den : Int)) (a := (m : Int)) (by omega)
              rw [← this]
              push_cast
              rfl
            · intro h
              obtain ⟨x, hxL, rfl⟩ := List.mem_map.mp h
              refine List.mem_map.mpr ⟨x.2.num * ((c / x.2.den : Nat) : Int), (hm _).mpr (List.mem_map.mpr ⟨x, hxL, rfl⟩), ?_⟩
              obtain ⟨m, hm'⟩ := hx x hxL
              rw [hm', Nat.mul_div_cancel_left _ x.2.den_pos]
              have m0 : m ≠ 0 := fun z => by subst z; omega
              conv => rhs; rw [← Rat.num_divInt_den x.2]
              have := Rat.divInt_mul_right (n := x.2.num) (d := (x.2.den : Int)) (a := (m : Int)) (by omega)
              rw [← this]
              push_cast
              rfl
end G


/-! ## PR -/
/-! Races: their mirror, contracts. -/
namespace G
open PySem PySem.Spec PyProof.Rows L2 L3 MR
def inS (x y : Str) : Bool := !(Builtin.Str.occurrences y x 0 y.length 1).isEmpty
def okName (s : Str) : Bool := decide (1 ≤ s.length) && decide (s.length ≤ 8) && (match s.cps.toList with
  | c :: _ => inS ⟨#[c]⟩ "abcdefghijklmnopqrstuvwxyz"
  | [] => false) && (s.cps.toList.all fun c => inS ⟨#[c]⟩ "abcdefghijklmnopqrstuvwxyz0123456789")
/-- a piece as given -/
structure RP where
  tv : PV
  sv : PV
  t : Rat
  s : Rat
def RP.pv (x : RP) : PV := .tup [x.tv, x.sv]
structure RP.Ok (x : RP) : Prop where
  t : NumP x.tv x.t
  s : NumP x.sv x.s
  z : sz x.t ≤ 1900
  p : 0 ≤ x.t
structure POk (ps : List RP) : Prop where
  lo : 1 ≤ ps.length
  hi : ps.length ≤ 20
  ok : ∀ x ∈ ps, x.Ok
  hd : ∃ x r, ps = x :: r ∧ x.t = 0
  up : ps.Pairwise (·.t < ·.t)
structure RR where
  name : Str
  sv : PV
  s : Rat
  ps : List RP
def RR.pv (r : RR) : PV := .tup [r.sv, .lst (r.ps.map RP.pv)]
structure RR.Ok (r : RR) : Prop where
  n : okName r.name = true
  s : NumP r.sv r.s
  z : sz r.s ≤ 1900
  p : POk r.ps
/-- a runner, a race -/
structure Rn where
  name : Str
  start : Rat
  pieces : List (Rat × Rat)
structure RaceM where
  len : Rat
  rs : List Rn
def pcPV (x : Rat × Rat) : PV := .tup [rat x.1, rat x.2]
def Rn.pv (r : Rn) : PV := .tup [rat r.start, .lst (r.pieces.map pcPV)]
def RaceM.dic (R : RaceM) : List (Key × PV) := R.rs.map fun r => (Sum.inr r.name, r.pv)
def RaceM.fs (R : RaceM) : List (Str × PV) := [("own_length", rat R.len), ("own_runners", .dic R.dic), ("own_parts", .tup [rat R.len, .dic R.dic])]
def RaceM.pv (R : RaceM) : PV := .obj "Race" R.fs
def RR.norm (len : Rat) (r : RR) : Rn := ⟨r.name, rem r.s len, r.ps.map fun x => (x.t, x.s)⟩
/-- what a runner's pieces are -/
structure Rn.Ok (r : Rn) : Prop where
  lo : 1 ≤ r.pieces.length
  hi : r.pieces.length ≤ 20
  hd : ∃ x q, r.pieces = x :: q ∧ x.1 = 0
  up : r.pieces.Pairwise (·.1 < ·.1)
structure RaceM.Ok (R : RaceM) : Prop where
  len : 0 < R.len
  lo : 1 ≤ R.rs.length
  hi : R.rs.length ≤ 12
  nd : R.rs.Pairwise fun a b => a.name ≠ b.name
  rn : ∀ r ∈ R.rs, r.Ok
  st : ∀ r ∈ R.rs, 0 ≤ r.start ∧ r.start < R.len
/-- where a runner is -/
def walkP : List (Rat × Rat) → Rat → Rat → Rat
  | [], _, f => f
  | [(b, s)], t, f => if b < t then f + s * (t - b) else f
  | (b, s) :: (b', s') :: r, t, f => walkP ((b', s') :: r) t (let e := if b' < t then b' else t; if b < e then f + s * (e - b) else f)
def Rn.pos (r : Rn) (t : Rat) : Rat := walkP r.pieces t r.start
def RaceM.place (R : RaceM) (r : Rn) (t : Rat) : Rat := rem (r.pos t) R.len
def RaceM.laps (R : RaceM) (r : Rn) (t : Rat) : Int := (r.pos t / R.len).floor
def speedP : List (Rat × Rat) → Rat → Rat → Rat
  | [], _, d => d
  | (b, s) :: r, t, d => speedP r t (if b ≤ t then s else d)
def Rn.speed (r : Rn) (t : Rat) : Rat := speedP r.pieces t 0
def P0 : Nat := 640
/-- a time at which all is of moderate size -/
structure RaceM.At (R : RaceM) (t : Rat) : Prop where
  t0 : 0 ≤ t
  z : sz t ≤ P0
  p : ∀ r ∈ R.rs, sz (r.pos t) ≤ P0
  q : ∀ r ∈ R.rs, sz (R.place r t) ≤ P0
/-- a race of moderate sizes -/
structure RaceM.G (R : RaceM) : Prop where
  ok : R.Ok
  len : sz R.len ≤ P0
  st : ∀ r ∈ R.rs, sz r.start ≤ P0
  sp : ∀ r ∈ R.rs, ∀ x ∈ r.pieces, sz x.2 ≤ P0
  ch : ∀ r ∈ R.rs, ∀ x ∈ r.pieces, R.At x.1
  cd : ∃ C : Nat, 0 < C ∧ bits C ≤ 2000 ∧ ∀ r ∈ R.rs, ∀ x ∈ r.pieces, x.1.den ∣ C
def chs (os : List Rn) : List Rat := os.flatMap fun r => r.pieces.map (·.1)
def Ph_is_name : Con := fun as Q => ∃ s, as = [.str s] ∧ okName s = true ∧ Q (.bl true)
def Ph_as_time : Con := fun as Q => ∃ v q, as = [v] ∧ NumP v q ∧ 0 ≤ q ∧ sz q ≤ 7900 ∧ Q (rat q)
def Ph_is_piece : Con := fun as Q => ∃ x : RP, as = [x.pv] ∧ x.Ok ∧ Q (.bl true)
def Ph_are_pieces : Con := fun as Q => ∃ ps : List RP, as = [.lst (ps.map RP.pv)] ∧ POk ps ∧ Q (.bl true)
def Ph_is_runner : Con := fun as Q => ∃ r : RR, as = [r.pv] ∧ r.Ok ∧ Q (.bl true)
def Ph_Race : Con := fun as Q => ∃ (lv : PV) (len : Rat) (rs : List RR), as = [lv, .dic (rs.map fun r => (Sum.inr r.name, r.pv))] ∧ NumP lv len ∧ 0 < len ∧ sz len ≤ 1900 ∧ 1 ≤ rs.length ∧ rs.length ≤ 12 ∧ (rs.Pairwise fun a b => a.name ≠ b.name) ∧ (∀ r ∈ rs, r.Ok) ∧
  ∀ rs' : List RR, rs'.Perm rs → sortedS (rs'.map RR.name) = true → Q (RaceM.pv ⟨len, rs'.map (RR.norm len)⟩)
def Ph_Race_length : Con := fun as Q => ∃ R : RaceM, as = [R.pv] ∧ Q (rat R.len)
def Ph_Race_names : Con := fun as Q => ∃ R : RaceM, as = [R.pv] ∧ Q (.lst (R.rs.map fun r => .str r.name))
def Ph_Race_contains : Con := fun as Q => ∃ (R : RaceM) (n : Str), as = [R.pv, .str n] ∧ Q (.bl (R.rs.any fun r => decide (r.name = n)))
def Ph_Race_runner : Con := fun as Q => ∃ (R : RaceM) (r : Rn), as = [R.pv, .str r.name] ∧ R.Ok ∧ r ∈ R.rs ∧ Q r.pv
def Ph_Race_validate_names : Con := fun as Q => ∃ (R : RaceM) (r r' : Rn), as = [R.pv, .str r.name, .str r'.name] ∧ R.Ok ∧ r ∈ R.rs ∧ r' ∈ R.rs ∧ Q .non
def Ph_Race_start : Con := fun as Q => ∃ (R : RaceM) (r : Rn), as = [R.pv, .str r.name] ∧ R.Ok ∧ r ∈ R.rs ∧ Q (rat r.start)
def Ph_Race_pieces : Con := fun as Q => ∃ (R : RaceM) (r : Rn), as = [R.pv, .str r.name] ∧ R.Ok ∧ r ∈ R.rs ∧ Q (.lst (r.pieces.map pcPV))
def Ph_Race_position : Con := fun as Q => ∃ (R : RaceM) (r : Rn) (v : PV) (t : Rat), as = [R.pv, .str r.name, v] ∧ R.G ∧ r ∈ R.rs ∧ NumP v t ∧ R.At t ∧ Q (rat (r.pos t))
def Ph_Race_place : Con := fun as Q => ∃ (R : RaceM) (r : Rn) (v : PV) (t : Rat), as = [R.pv, .str r.name, v] ∧ R.G ∧ r ∈ R.rs ∧ NumP v t ∧ R.At t ∧ Q (rat (R.place r t))
def Ph_Race_laps : Con := fun as Q => ∃ (R : RaceM) (r : Rn) (v : PV) (t : Rat), as = [R.pv, .str r.name, v] ∧ R.G ∧ r ∈ R.rs ∧ NumP v t ∧ R.At t ∧ Q (.int (R.laps r t))
def Ph_Race_speed : Con := fun as Q => ∃ (R : RaceM) (r : Rn) (v : PV) (t : Rat), as = [R.pv, .str r.name, v] ∧ R.G ∧ r ∈ R.rs ∧ NumP v t ∧ 0 ≤ t ∧ sz t ≤ P0 ∧ Q (rat (r.speed t))
def Ph_as_window : Con := fun as Q => ∃ (v w : PV) (a b : Rat), as = [v, w] ∧ NumP v a ∧ NumP w b ∧ 0 ≤ a ∧ a ≤ b ∧ sz a ≤ P0 ∧ sz b ≤ P0 ∧ Q (.tup [rat a, rat b])
def Ph_cut_times : Con := fun as Q => ∃ (R : RaceM) (ns : List Rn) (a b : Rat), as = [R.pv, .lst (ns.map fun r => .str r.name), rat a, rat b] ∧ R.G ∧ (∀ r ∈ ns, r ∈ R.rs) ∧ ns.length ≤ 12 ∧ sz a ≤ P0 ∧ sz b ≤ P0 ∧ Q (.lst ((cutR (chs ns) a b).map rat))
def Ph_Race_change_times : Con := fun as Q => ∃ R : RaceM, as = [R.pv] ∧ R.G ∧ Q (.lst ((riseL (chs R.rs |>.filter fun t => decide (0 < t))).map rat))
end G


/-! ## HA -/
/-! The races' defs keep their contracts. -/
namespace G
open PySem PySem.Spec PyProof.Rows L2 L3 MR
def te_is_name_1 : PTE := pBin (kInS false) (pVar 1) (pC (.str "abcdefghijklmnopqrstuvwxyz0123456789"))
def t_is_name : PTS := pSeq (pIfS (pOrT (pNotT (pTst (pCallB kIsi (pCons (pVar 0) (pCons (pC (.ty "str")) (pNil)))))) (pNotT (pTst (pChain kLeI kLeI (pC (.int 1)) (pCallB kLen (pCons (pVar 0) (pNil))) (pC (.int 8)))))) (pRet (pC (.bl false))) (pNext)) (pRet (pAndV (pBin (kInS false) (pBin kIx (pVar 0) (pC (.int 0))) (pC (.str "abcdefghijklmnopqrstuvwxyz"))) (pCallB kAll (pCons (pLc (pIStr (pVar 0)) (gNm 1) pTsYes te_is_name_1 [1]) (pNil)))))
abbrev N_is_name : List Str := ["value", "sign"]
theorem st_is_name (a0 : PV) : startP N_is_name [a0] = [.val a0, .no] := rfl
def t_as_time : PTS := pSeq (pIfS (pOrT (pNotT (pTst (pCall Ph_is_number (pCons (pVar 0) (pNil))))) (pTst (pBin kLtI (pCall Ph_compare (pCons (pVar 0) (pCons (pC (.int 0)) (pNil)))) (pC (.int 0))))) (pNeverS) (pNext)) (pRet (pCall Ph_as_ratio (pCons (pVar 0) (pNil))))
abbrev N_as_time : List Str := ["value"]
theorem st_as_time (a0 : PV) : startP N_as_time [a0] = [.val a0] := rfl
def t_is_piece : PTS := pSeq (pIfS (pOrT (pNotT (pTst (pCallB kIsi (pCons (pVar 0) (pCons (pC (.ty "tuple")) (pNil)))))) (pTst (pBin kNe (pCallB kLen (pCons (pVar 0) (pNil))) (pC (.int 2))))) (pRet (pC (.bl false))) (pNext)) (pRet (pAndV (pCall Ph_is_number (pCons (pBin kIx (pVar 0) (pC (.int 0))) (pNil))) (pAndV (pCall Ph_is_number (pCons (pBin kIx (pVar 0) (pC (.int 1))) (pNil))) (pBin kGeI (pCall Ph_compare (pCons (pBin kIx (pVar 0) (pC (.int 0))) (pCons (pC (.int 0)) (pNil)))) (pC (.int 0))))))
abbrev N_is_piece : List Str := ["value"]
theorem st_is_piece (a0 : PV) : startP N_is_piece [a0] = [.val a0] := rfl
def te_are_pieces_1 : PTE := pCall Ph_is_piece (pCons (pVar 1) (pNil))
def te_are_pieces_2 : PTE := pBin kLtI (pCall Ph_compare (pCons (pBin kIx (pBin kIx (pVar 0) (pVar 2)) (pC (.int 0))) (pCons (pBin kIx (pBin kIx (pVar 0) (pBin kAddI (pVar 2) (pC (.int 1)))) (pC (.int 0))) (pNil)))) (pC (.int 0))
def t_are_pieces : PTS := pSeq (pIfS (pOrT (pNotT (pTst (pCallB kIsi2 (pCons (pVar 0) (pCons (pTup (pCons (pC (.ty "list")) (pCons (pC (.ty "tuple")) (pNil)))) (pNil)))))) (pNotT (pTst (pChain kLeI kLeI (pC (.int 1)) (pCallB kLen (pCons (pVar 0) (pNil))) (pC (.int 20)))))) (pRet (pC (.bl false))) (pNext)) (pSeq (pIfS (pOrT (pNotT (pTst (pCallB kAll (pCons (pLc (pIL (pVar 0)) (gNm 1) pTsYes te_are_pieces_1 [1]) (pNil))))) (pTst (pBin kNe (pCall Ph_compare (pCons (pBin kIx (pBin kIx (pVar 0) (pC (.int 0))) (pC (.int 0))) (pCons (pC (.int 0)) (pNil)))) (pC (.int 0))))) (pRet (pC (.bl false))) (pNext)) (pRet (pCallB kAll (pCons (pLc (pR1 (pCons (pBin kSubI (pCallB kLen (pCons (pVar 0) (pNil))) (pC (.int 1))) (pNil))) (gNm 2) pTsYes te_are_pieces_2 [2]) (pNil)))))
abbrev N_are_pieces : List Str := ["value", "piece", "at"]
theorem st_are_pieces (a0 : PV) : startP N_are_pieces [a0] = [.val a0, .no, .no] := rfl
def t_is_runner : PTS := pRet (pAndV (pCallB kIsi (pCons (pVar 0) (pCons (pC (.ty "tuple")) (pNil)))) (pAndV (pBin kEq (pCallB kLen (pCons (pVar 0) (pNil))) (pC (.int 2))) (pAndV (pCall Ph_is_number (pCons (pBin kIx (pVar 0) (pC (.int 0))) (pNil))) (pCall Ph_are_pieces (pCons (pBin kIx (pVar 0) (pC (.int 1))) (pNil))))))
abbrev N_is_runner : List Str := ["value"]
theorem st_is_runner (a0 : PV) : startP N_is_runner [a0] = [.val a0] := rfl
def tb_Race_init_1 : PTS := pIfS (pOrT (pNotT (pTst (pCall Ph_is_name (pCons (pVar 3) (pNil))))) (pNotT (pTst (pCall Ph_is_runner (pCons (pVar 4) (pNil)))))) (pNeverS) (pNext)
def te_Race_init_2 : PTE := pTup (pCons (pCall Ph_as_ratio (pCons (pVar 8) (pNil))) (pCons (pCall Ph_as_ratio (pCons (pVar 9) (pNil))) (pNil)))
def tb_Race_init_3 : ITS := iSeq (iOf (pAsg (pBin kDGet (pVar 2) (pVar 3)) (gTupP 2 (gConsP (gNm 6) (gConsP (gNm 7) (gNilP)))))) (iSeq (iOf (pAsg (pLc (pIL (pVar 7)) (gTupP 2 (gConsP (gNm 8) (gConsP (gNm 9) (gNilP)))) pTsYes te_Race_init_2 [8, 9]) (gNm 5))) (iPut "own_runners" (pVar 3) (pTup (pCons (pCall Ph_remainder (pCons (pVar 6) (pCons (pVar 1) (pNil)))) (pCons (pVar 5) (pNil))))))
def t_Race_init : ITS := iSeq (iOf (pIfS (pOrT (pNotT (pTst (pCall Ph_is_number (pCons (pVar 1) (pNil))))) (pTst (pBin kLeI (pCall Ph_compare (pCons (pVar 1) (pCons (pC (.int 0)) (pNil)))) (pC (.int 0))))) (pNeverS) (pNext))) (iSeq (iOf (pIfS (pOrT (pNotT (pTst (pCallB kIsi (pCons (pVar 2) (pCons (pC (.ty "dict")) (pNil)))))) (pNotT (pTst (pChain kLeI kLeI (pC (.int 1)) (pCallB kLenD (pCons (pVar 2) (pNil))) (pC (.int 12)))))) (pNeverS) (pNext))) (iSeq (iOf (pFor (pIItems (pVar 2)) (gTupP 2 (gConsP (gNm 3) (gConsP (gNm 4) (gNilP)))) tb_Race_init_1)) (iSeq (iSetF "own_length" (pCall Ph_as_ratio (pCons (pVar 1) (pNil)))) (iSeq (iNewD "own_runners") (iSeq (iFor (pIL (pCallB kSortD (pCons (pVar 2) (pNil)))) (gNm 3) tb_Race_init_3) (iParts "own_parts" "own_length" "own_runners"))))))
abbrev N_Race_init : List Str := ["self", "length", "runners", "name", "runner", "rows", "start", "pieces", "time", "speed"]
theorem st_Race_init (a0 a1 a2 : PV) : startP N_Race_init [a0, a1, a2] = [.val a0, .val a1, .val a2, .no, .no, .no, .no, .no, .no, .no] := rfl
def t_Race_length : PTS := pRet (pFld "Race" "own_length" (pVar 0))
abbrev N_Race_length : List Str := ["self"]
theorem st_Race_length (a0 : PV) : startP N_Race_length [a0] = [.val a0] := rfl
def t_Race_names : PTS := pRet (pCallB kListD (pCons (pFld "Race" "own_runners" (pVar 0)) (pNil)))
abbrev N_Race_names : List Str := ["self"]
theorem st_Race_names (a0 : PV) : startP N_Race_names [a0] = [.val a0] := rfl
def t_Race_contains : PTS := pRet (pAndV (pCallB kIsi (pCons (pVar 1) (pCons (pC (.ty "str")) (pNil)))) (pBin (kDIn false) (pVar 1) (pFld "Race" "own_runners" (pVar 0))))
abbrev N_Race_contains : List Str := ["self", "name"]
theorem st_Race_contains (a0 a1 : PV) : startP N_Race_contains [a0, a1] = [.val a0, .val a1] := rfl
def t_Race_runner : PTS := pSeq (pIfS (pTst (pBin (kOwnIn "Race" Ph_Race_contains true) (pVar 1) (pVar 0))) (pNeverS) (pNext)) (pRet (pBin kDGet (pFld "Race" "own_runners" (pVar 0)) (pVar 1)))
abbrev N_Race_runner : List Str := ["self", "name"]
theorem st_Race_runner (a0 a1 : PV) : startP N_Race_runner [a0, a1] = [.val a0, .val a1] := rfl
def t_Race_validate_names : PTS := pSeq (pDrop (pMeth "Race" "runner" Ph_Race_runner (pVar 0) (pCons (pVar 1) (pNil)))) (pDrop (pMeth "Race" "runner" Ph_Race_runner (pVar 0) (pCons (pVar 2) (pNil))))
abbrev N_Race_validate_names : List Str := ["self", "first", "second"]
theorem st_Race_validate_names (a0 a1 a2 : PV) : startP N_Race_validate_names [a0, a1, a2] = [.val a0, .val a1, .val a2] := rfl
def t_Race_start : PTS := pRet (pBin kIx (pMeth "Race" "runner" Ph_Race_runner (pVar 0) (pCons (pVar 1) (pNil))) (pC (.int 0)))
abbrev N_Race_start : List Str := ["self", "name"]
theorem st_Race_start (a0 a1 : PV) : startP N_Race_start [a0, a1] = [.val a0, .val a1] := rfl
def t_Race_pieces : PTS := pRet (pCallB kList (pCons (pBin kIx (pMeth "Race" "runner" Ph_Race_runner (pVar 0) (pCons (pVar 1) (pNil))) (pC (.int 1))) (pNil)))
abbrev N_Race_pieces : List Str := ["self", "name"]
theorem st_Race_pieces (a0 a1 : PV) : startP N_Race_pieces [a0, a1] = [.val a0, .val a1] := rfl
def tb_Race_position_1 : PTS := pSeq (pAsg (pVar 5) (gNm 8)) (pSeq (pIfS (pAndT (pTst (pBin kLtI (pBin kAddI (pVar 7) (pC (.int 1))) (pCallB kLen (pCons (pVar 4) (pNil))))) (pTst (pBin kLtI (pCall Ph_compare (pCons (pBin kIx (pBin kIx (pVar 4) (pBin kAddI (pVar 7) (pC (.int 1)))) (pC (.int 0))) (pCons (pVar 5) (pNil)))) (pC (.int 0))))) (pAsg (pBin kIx (pBin kIx (pVar 4) (pBin kAddI (pVar 7) (pC (.int 1)))) (pC (.int 0))) (gNm 8)) (pNext)) (pIfS (pTst (pBin kLtI (pCall Ph_compare (pCons (pVar 9) (pCons (pVar 8) (pNil)))) (pC (.int 0)))) (pAsg (pCall Ph_plus (pCons (pVar 6) (pCons (pCall Ph_times (pCons (pVar 10) (pCons (pCall Ph_minus (pCons (pVar 8) (pCons (pVar 9) (pNil)))) (pNil)))) (pNil)))) (gNm 6)) (pNext)))
def t_Race_position : PTS := pSeq (pAsg (pMeth "Race" "runner" Ph_Race_runner (pVar 0) (pCons (pVar 1) (pNil))) (gTupP 2 (gConsP (gNm 3) (gConsP (gNm 4) (gNilP))))) (pSeq (pAsg (pCall Ph_as_time (pCons (pVar 2) (pNil))) (gNm 5)) (pSeq (pAsg (pVar 3) (gNm 6)) (pSeq (pFor (pEnum (pCons (pVar 4) (pNil))) (gTupP 2 (gConsP (gNm 7) (gConsP (gTupP 2 (gConsP (gNm 9) (gConsP (gNm 10) (gNilP)))) (gNilP)))) tb_Race_position_1) (pRet (pVar 6)))))
abbrev N_Race_position : List Str := ["self", "name", "time", "start", "pieces", "end", "found", "index", "stop", "begin", "speed"]
theorem st_Race_position (a0 a1 a2 : PV) : startP N_Race_position [a0, a1, a2] = [.val a0, .val a1, .val a2, .no, .no, .no, .no, .no, .no, .no, .no] := rfl
def t_Race_place : PTS := pRet (pCall Ph_remainder (pCons (pMeth "Race" "position" Ph_Race_position (pVar 0) (pCons (pVar 1) (pCons (pVar 2) (pNil)))) (pCons (pProp "Race" Ph_Race_length (pVar 0)) (pNil))))
abbrev N_Race_place : List Str := ["self", "name", "time"]
theorem st_Race_place (a0 a1 a2 : PV) : startP N_Race_place [a0, a1, a2] = [.val a0, .val a1, .val a2] := rfl
def tt_Race_speed_1 : PTT := pTst (pBin kLeI (pCall Ph_compare (pCons (pVar 5) (pCons (pVar 4) (pNil)))) (pC (.int 0)))
def te_Race_speed_2 : PTE := pVar 6
def t_Race_speed : PTS := pSeq (pAsg (pMeth "Race" "pieces" Ph_Race_pieces (pVar 0) (pCons (pVar 1) (pNil))) (gNm 3)) (pSeq (pAsg (pCall Ph_as_time (pCons (pVar 2) (pNil))) (gNm 4)) (pRet (pBin kIx (pLc (pIL (pVar 3)) (gTupP 2 (gConsP (gNm 5) (gConsP (gNm 6) (gNilP)))) tt_Race_speed_1 te_Race_speed_2 [5, 6]) (pUn kNeg (pC (.int 1))))))
abbrev N_Race_speed : List Str := ["self", "name", "time", "pieces", "moment", "begin", "speed"]
theorem st_Race_speed (a0 a1 a2 : PV) : startP N_Race_speed [a0, a1, a2] = [.val a0, .val a1, .val a2, .no, .no, .no, .no] := rfl
def ti_Race_change_times_1 : PTI := pIL (pSlL (pMeth "Race" "pieces" Ph_Race_pieces (pVar 0) (pCons (pVar 1) (pNil))) (pPart (pC (.int 1))) (pNoPart))
def te_Race_change_times_2 : PTE := pVar 2
def t_Race_change_times : PTS := pRet (pCall Ph_in_order (pCons (pLc2 (pIL (pMeth "Race" "names" Ph_Race_names (pVar 0) pNil)) (gNm 1) pTsYes ti_Race_change_times_1 (gTupP 2 (gConsP (gNm 2) (gConsP (gNm 3) (gNilP)))) pTsYes te_Race_change_times_2 [1, 2, 3] [2, 3]) (pNil)))
abbrev N_Race_change_times : List Str := ["self", "name", "time", "speed"]
theorem st_Race_change_times (a0 : PV) : startP N_Race_change_times [a0] = [.val a0, .no, .no, .no] := rfl
def t_as_window : PTS := pSeq (pPar 2 3 (pCons (pCall Ph_as_time (pCons (pVar 0) (pNil))) (pCons (pCall Ph_as_time (pCons (pVar 1) (pNil))) (pNil)))) (pSeq (pIfS (pTst (pBin kGtI (pCall Ph_compare (pCons (pVar 2) (pCons (pVar 3) (pNil)))) (pC (.int 0)))) (pNeverS) (pNext)) (pRet (pTup (pCons (pVar 2) (pCons (pVar 3) (pNil))))))
abbrev N_as_window : List Str := ["start", "end", "begin", "stop"]
theorem st_as_window (a0 a1 : PV) : startP N_as_window [a0, a1] = [.val a0, .val a1, .no, .no] := rfl
def ti_cut_times_1 : PTI := pIL (pMeth "Race" "pieces" Ph_Race_pieces (pVar 0) (pCons (pVar 5) (pNil)))
def te_cut_times_2 : PTE := pVar 6
def tt_cut_times_3 : PTT := pAndT (pTst (pBin kLtI (pCall Ph_compare (pCons (pVar 2) (pCons (pVar 6) (pNil)))) (pC (.int 0)))) (pTst (pBin kLtI (pCall Ph_compare (pCons (pVar 6) (pCons (pVar 3) (pNil)))) (pC (.int 0))))
def te_cut_times_4 : PTE := pVar 6
def t_cut_times : PTS := pSeq (pAsg (pLc2 (pIL (pVar 1)) (gNm 5) pTsYes ti_cut_times_1 (gTupP 2 (gConsP (gNm 6) (gConsP (gNm 7) (gNilP)))) pTsYes te_cut_times_2 [5, 6, 7] [6, 7]) (gNm 4)) (pSeq (pAsg (pLc (pIL (pVar 4)) (gNm 6) tt_cut_times_3 te_cut_times_4 [6]) (gNm 8)) (pRet (pCall Ph_in_order (pCons (pLst (pCons (pVar 2) (pStar (pVar 8) (pCons (pVar 3) (pNil))))) (pNil)))))
abbrev N_cut_times : List Str := ["race", "names", "begin", "stop", "changes", "name", "time", "speed", "inner"]
theorem st_cut_times (a0 a1 a2 a3 : PV) : startP N_cut_times [a0, a1, a2, a3] = [.val a0, .val a1, .val a2, .val a3, .no, .no, .no, .no, .no] := rfl

def t_Race_laps : PTS := pRet (pCall Ph_floor_of (pCons (pCall Ph_divided (pCons (pMeth "Race" "position" Ph_Race_position (pVar 0) (pCons (pVar 1) (pCons (pVar 2) (pNil)))) (pCons (pProp "Race" Ph_Race_length (pVar 0)) (pNil)))) (pNil)))
abbrev N_Race_laps : List Str := ["self", "name", "time"]
theorem st_Race_laps (a0 a1 a2 : PV) : startP N_Race_laps [a0, a1, a2] = [.val a0, .val a1, .val a2] := rfl

theorem sz0 : sz 0 = 1 := by rfl
theorem num0 : NumP (.int 0) 0 := .inl ⟨0, rfl, rfl⟩
theorem kit_ss : kitB "str" "str" = some true := by decide +kernel
theorem kit_tup2 : kitB "list" "list" = some true := by decide +kernel
theorem kit_lt : kitB "list" "tuple" = some false := by decide +kernel
theorem kit_dd : kitB "dict" "dict" = some true := by decide +kernel
theorem blsP_map {α : Type} (f : α → Bool) : ∀ l : List α, blsP (l.map fun x => PV.bl (f x)) = some (l.map f)
  | [] => rfl
  | a :: r => by simp [blsP, blsP_map f r]
theorem hp_is_name : ∀ as Q, Ph_is_name as Q → as.length = 1 ∧ t_is_name ⟨fun _ => Q .non, Q, fun _ => False, fun _ => False⟩ (startP N_is_name as) := by
  rintro as Q ⟨s, rfl, hs, hq⟩
  refine ⟨rfl, ?_⟩
  unfold okName at hs
  simp only [Bool.and_eq_true, decide_eq_true_eq] at hs
  obtain ⟨⟨⟨h1, h8⟩, hc⟩, ha⟩ := hs
  simp only [st_is_name, t_is_name, pSeq, pNext, pIfS, pRet, pRetN, pAsg, pDrop, pPar, pAug, gNm, gTupP, gConsP, gNilP, pVar, pC, pBin, pChain, pUn, kNeg, pTst, pTru, pAndT, pOrT, pNotT, pAndV, pOrV, pNotV, pIf, pCons, pNil, pTup, pLst, pStar, pCallB, pCall, pMeth, pProp, pFld, pFrz, pIL, pIT, pZip, pEnum, pR1, pR2, pR3, pSlL, pSlT, pPart, pNoPart, pLc, pLc2, pDc, pSortSc, pFor, pNewL, pNewD, pApp, pExt, pDPut, pSetL, pOwnD, pIsN, pNotN, pListVals, pListValsT, pIVals, pIKeys, pIItems, onDic, pIStr, pDGet1, pTsYes, pParL, pParR, pCel, pCelSet, pNewCel, pNeverS, wipeP, List.set_cons_zero, List.set_cons_succ, List.getElem?_cons_zero, List.getElem?_cons_succ, List.length_cons, List.length_nil]
  rw [kIsi_of rfl kit_ss]
  have hz : s.length ≤ sizeLine := size_le (by omega)
  have e1 : (1 : Int) ≤ (s.length : Int) := by omega
  have e2 : (s.length : Int) ≤ 8 := by omega
  simp only [kLen, kI0_int, decide_eq_true e1, decide_eq_true e2, Bool.not_true, pSeq, pNext, pIfS, pRet, pRetN, pAsg, pDrop, pPar, pAug, gNm, gTupP, gConsP, gNilP, pVar, pC, pBin, pChain, pUn, kNeg, pTst, pTru, pAndT, pOrT, pNotT, pAndV, pOrV, pNotV, pIf, pCons, pNil, pTup, pLst, pStar, pCallB, pCall, pMeth, pProp, pFld, pFrz, pIL, pIT, pZip, pEnum, pR1, pR2, pR3, pSlL, pSlT, pPart, pNoPart, pLc, pLc2, pDc, pSortSc, pFor, pNewL, pNewD, pApp, pExt, pDPut, pSetL, pOwnD, pIsN, pNotN, pListVals, pListValsT, pIVals, pIKeys, pIItems, onDic, pIStr, pDGet1, pTsYes, pParL, pParR, pCel, pCelSet, pNewCel, pNeverS, wipeP, List.set_cons_zero, List.set_cons_succ, List.getElem?_cons_zero, List.getElem?_cons_succ, List.length_cons, List.length_nil]
  refine ⟨hz, ?_⟩
  cases hl : s.cps.toList with
  | nil => rw [hl] at hc; cases hc
  | cons c r =>
    rw [hl] at hc
    simp only [kIx, atI, hl, ixN]
    refine ⟨hz, ?_⟩
    have : (0 : Int) < ((c :: r).length : Nat) := by simp
    simp only [this, if_true, Option.bind_some, Int.toNat_zero, List.getElem?_cons_zero, Int.le_refl, kInS]
    rw [show (!(Builtin.Str.occurrences "abcdefghijklmnopqrstuvwxyz" ⟨#[c]⟩ 0 (Str.length "abcdefghijklmnopqrstuvwxyz") 1).isEmpty) = true from hc]
    simp only [Bool.false_eq_true, if_false]
    rw [← hl]
    refine lcL_map (fun c => PV.str ⟨#[c]⟩) (fun c => PV.bl (inS ⟨#[c]⟩ "abcdefghijklmnopqrstuvwxyz0123456789")) s.cps.toList (fun c hc T t => ?_) ?_ ?_
    · simp only [te_is_name_1, pSeq, pNext, pIfS, pRet, pRetN, pAsg, pDrop, pPar, pAug, gNm, gTupP, gConsP, gNilP, pVar, pC, pBin, pChain, pUn, kNeg, pTst, pTru, pAndT, pOrT, pNotT, pAndV, pOrV, pNotV, pIf, pCons, pNil, pTup, pLst, pStar, pCallB, pCall, pMeth, pProp, pFld, pFrz, pIL, pIT, pZip, pEnum, pR1, pR2, pR3, pSlL, pSlT, pPart, pNoPart, pLc, pLc2, pDc, pSortSc, pFor, pNewL, pNewD, pApp, pExt, pDPut, pSetL, pOwnD, pIsN, pNotN, pListVals, pListValsT, pIVals, pIKeys, pIItems, onDic, pIStr, pDGet1, pTsYes, pParL, pParR, pCel, pCelSet, pNewCel, pNeverS, wipeP, List.set_cons_zero, List.set_cons_succ, List.getElem?_cons_zero, List.getElem?_cons_succ, List.length_cons, List.length_nil, kInS, Bool.false_eq_true, if_false]
      exact t
    · have : s.cps.toList.length = s.length := rfl
      omega
    · simp only [kAll, blsP_map, List.all_map]
      rw [show (s.cps.toList.all (id ∘ fun c => inS ⟨#[c]⟩ "abcdefghijklmnopqrstuvwxyz0123456789")) = true from ha]
      exact hq
theorem cmp_ge0 {q : Rat} (h : 0 ≤ q) : ¬ cmpI q 0 < 0 := by
  unfold cmpI
  rw [if_neg (by grind)]
  split <;> omega
theorem hp_as_time : ∀ as Q, Ph_as_time as Q → as.length = 1 ∧ t_as_time ⟨fun _ => Q .non, Q, fun _ => False, fun _ => False⟩ (startP N_as_time as) := by
  rintro as Q ⟨v, q, rfl, hv, h0, hs, hq⟩
  refine ⟨rfl, ?_⟩
  simp only [st_as_time, t_as_time, pSeq, pNext, pIfS, pRet, pRetN, pAsg, pDrop, pPar, pAug, gNm, gTupP, gConsP, gNilP, pVar, pC, pBin, pChain, pUn, kNeg, pTst, pTru, pAndT, pOrT, pNotT, pAndV, pOrV, pNotV, pIf, pCons, pNil, pTup, pLst, pStar, pCallB, pCall, pMeth, pProp, pFld, pFrz, pIL, pIT, pZip, pEnum, pR1, pR2, pR3, pSlL, pSlT, pPart, pNoPart, pLc, pLc2, pDc, pSortSc, pFor, pNewL, pNewD, pApp, pExt, pDPut, pSetL, pOwnD, pIsN, pNotN, pListVals, pListValsT, pIVals, pIKeys, pIItems, onDic, pIStr, pDGet1, pTsYes, pParL, pParR, pCel, pCelSet, pNewCel, pNeverS, wipeP, List.set_cons_zero, List.set_cons_succ, List.getElem?_cons_zero, List.getElem?_cons_succ, List.length_cons, List.length_nil]
  refine ⟨v, q, rfl, hv, ?_⟩
  simp only [Bool.not_true]
  refine ⟨v, _, q, 0, rfl, hv, num0, by rw [sz0]; omega, ?_⟩
  simp only [kI0_int, decide_eq_false (cmp_ge0 h0)]
  exact ⟨v, q, rfl, hv, hq⟩
theorem hp_is_piece : ∀ as Q, Ph_is_piece as Q → as.length = 1 ∧ t_is_piece ⟨fun _ => Q .non, Q, fun _ => False, fun _ => False⟩ (startP N_is_piece as) := by
  rintro as Q ⟨x, rfl, ⟨ht, hs, hz, hp⟩, hq⟩
  refine ⟨rfl, ?_⟩
  simp only [st_is_piece, t_is_piece, RP.pv, pSeq, pNext, pIfS, pRet, pRetN, pAsg, pDrop, pPar, pAug, gNm, gTupP, gConsP, gNilP, pVar, pC, pBin, pChain, pUn, kNeg, pTst, pTru, pAndT, pOrT, pNotT, pAndV, pOrV, pNotV, pIf, pCons, pNil, pTup, pLst, pStar, pCallB, pCall, pMeth, pProp, pFld, pFrz, pIL, pIT, pZip, pEnum, pR1, pR2, pR3, pSlL, pSlT, pPart, pNoPart, pLc, pLc2, pDc, pSortSc, pFor, pNewL, pNewD, pApp, pExt, pDPut, pSetL, pOwnD, pIsN, pNotN, pListVals, pListValsT, pIVals, pIKeys, pIItems, onDic, pIStr, pDGet1, pTsYes, pParL, pParR, pCel, pCelSet, pNewCel, pNeverS, wipeP, List.set_cons_zero, List.set_cons_succ, List.getElem?_cons_zero, List.getElem?_cons_succ, List.length_cons, List.length_nil]
  rw [kIsi_of rfl kit_tt]
  simp only [Bool.not_true, kLen_tup, kNe_int, pSeq, pNext, pIfS, pRet, pRetN, pAsg, pDrop, pPar, pAug, gNm, gTupP, gConsP, gNilP, pVar, pC, pBin, pChain, pUn, kNeg, pTst, pTru, pAndT, pOrT, pNotT, pAndV, pOrV, pNotV, pIf, pCons, pNil, pTup, pLst, pStar, pCallB, pCall, pMeth, pProp, pFld, pFrz, pIL, pIT, pZip, pEnum, pR1, pR2, pR3, pSlL, pSlT, pPart, pNoPart, pLc, pLc2, pDc, pSortSc, pFor, pNewL, pNewD, pApp, pExt, pDPut, pSetL, pOwnD, pIsN, pNotN, pListVals, pListValsT, pIVals, pIKeys, pIItems, onDic, pIStr, pDGet1, pTsYes, pParL, pParR, pCel, pCelSet, pNewCel, pNeverS, wipeP, List.set_cons_zero, List.set_cons_succ, List.getElem?_cons_zero, List.getElem?_cons_succ, List.length_cons, List.length_nil, kIx_2a, kIx_2b]
  refine ⟨_, x.t, rfl, ht, _, x.s, rfl, hs, _, _, x.t, 0, rfl, ht, num0, by rw [sz0]; omega, ?_⟩
  have : 0 ≤ cmpI x.t 0 := by have := cmp_ge0 hp; omega
  simp only [kI0_int, decide_eq_true this]
  exact hq
theorem kIsi2_list {l : List PV} {Q : PV → Prop} : kIsi2 [.lst l, .tup [.ty "list", .ty "tuple"]] Q = Q (.bl true) := by
  simp only [kIsi2, tyP, kit_tup2, kit_lt, Bool.true_or]
theorem atI_nat {l : List PV} {i : Nat} (h : i < l.length) : atI l (i : Int) = some l[i] := by
  unfold atI ixN
  rw [if_pos (Int.natCast_nonneg i), if_pos (by exact_mod_cast h)]
  simp [h]
theorem kIx_nat {l : List PV} {i : Nat} {j : Int} (e : j = (i : Int)) (h : i < l.length) {Q : PV → Prop} : kIx (.lst l) (.int j) Q = Q l[i] := by
  subst e
  simp only [kIx, atI_nat h]
theorem hp_are_pieces : ∀ as Q, Ph_are_pieces as Q → as.length = 1 ∧ t_are_pieces ⟨fun _ => Q .non, Q, fun _ => False, fun _ => False⟩ (startP N_are_pieces as) := by
  rintro as Q ⟨ps, rfl, ⟨h1, h20, ok, ⟨x0, r0, e0, z0⟩, up⟩, hq⟩
  refine ⟨rfl, ?_⟩
  simp only [st_are_pieces, t_are_pieces, pSeq, pNext, pIfS, pRet, pRetN, pAsg, pDrop, pPar, pAug, gNm, gTupP, gConsP, gNilP, pVar, pC, pBin, pChain, pUn, kNeg, pTst, pTru, pAndT, pOrT, pNotT, pAndV, pOrV, pNotV, pIf, pCons, pNil, pTup, pLst, pStar, pCallB, pCall, pMeth, pProp, pFld, pFrz, pIL, pIT, pZip, pEnum, pR1, pR2, pR3, pSlL, pSlT, pPart, pNoPart, pLc, pLc2, pDc, pSortSc, pFor, pNewL, pNewD, pApp, pExt, pDPut, pSetL, pOwnD, pIsN, pNotN, pListVals, pListValsT, pIVals, pIKeys, pIItems, onDic, pIStr, pDGet1, pTsYes, pParL, pParR, pCel, pCelSet, pNewCel, pNeverS, wipeP, List.set_cons_zero, List.set_cons_succ, List.getElem?_cons_zero, List.getElem?_cons_succ, List.length_cons, List.length_nil]
  have l0 : (ps.map RP.pv).length = ps.length := List.length_map _
  have e1 : (1 : Int) ≤ (ps.length : Int) := by omega
  have e2 : (ps.length : Int) ≤ 20 := by omega
  refine ⟨by exact size_le (by decide), ?_⟩
  simp only [kIsi2_list, Bool.not_true, kLen_lst, kI0_int, l0, decide_eq_true e1, decide_eq_true e2, pSeq, pNext, pIfS, pRet, pRetN, pAsg, pDrop, pPar, pAug, gNm, gTupP, gConsP, gNilP, pVar, pC, pBin, pChain, pUn, kNeg, pTst, pTru, pAndT, pOrT, pNotT, pAndV, pOrV, pNotV, pIf, pCons, pNil, pTup, pLst, pStar, pCallB, pCall, pMeth, pProp, pFld, pFrz, pIL, pIT, pZip, pEnum, pR1, pR2, pR3, pSlL, pSlT, pPart, pNoPart, pLc, pLc2, pDc, pSortSc, pFor, pNewL, pNewD, pApp, pExt, pDPut, pSetL, pOwnD, pIsN, pNotN, pListVals, pListValsT, pIVals, pIKeys, pIItems, onDic, pIStr, pDGet1, pTsYes, pParL, pParR, pCel, pCelSet, pNewCel, pNeverS, wipeP, List.set_cons_zero, List.set_cons_succ, List.getElem?_cons_zero, List.getElem?_cons_succ, List.length_cons, List.length_nil]
  have lsz : ps.length ≤ sizeLine := size_le (by omega)
  refine lcL_map RP.pv (fun _ => PV.bl true) ps (fun x hx T t => ?_) lsz ?_
  · simp only [te_are_pieces_1, pSeq, pNext, pIfS, pRet, pRetN, pAsg, pDrop, pPar, pAug, gNm, gTupP, gConsP, gNilP, pVar, pC, pBin, pChain, pUn, kNeg, pTst, pTru, pAndT, pOrT, pNotT, pAndV, pOrV, pNotV, pIf, pCons, pNil, pTup, pLst, pStar, pCallB, pCall, pMeth, pProp, pFld, pFrz, pIL, pIT, pZip, pEnum, pR1, pR2, pR3, pSlL, pSlT, pPart, pNoPart, pLc, pLc2, pDc, pSortSc, pFor, pNewL, pNewD, pApp, pExt, pDPut, pSetL, pOwnD, pIsN, pNotN, pListVals, pListValsT, pIVals, pIKeys, pIItems, onDic, pIStr, pDGet1, pTsYes, pParL, pParR, pCel, pCelSet, pNewCel, pNeverS, wipeP, List.set_cons_zero, List.set_cons_succ, List.getElem?_cons_zero, List.getElem?_cons_succ, List.length_cons, List.length_nil]
    exact ⟨x, rfl, ok x hx, t⟩
  have ball : ∀ {α : Type} (l : List α), blsP (l.map fun _ => PV.bl true) = some (l.map fun _ => true) := fun l => blsP_map (fun _ => true) l
  have tall : ∀ {α : Type} (l : List α), ((l.map fun _ => true).all id) = true := fun l => by simp
  simp only [kAll, ball, tall, Bool.not_true]
  have hl0 : 0 < (ps.map RP.pv).length := by omega
  have g0 : (ps.map RP.pv)[0] = x0.pv := by subst e0; rfl
  simp only [kIx_nat (i := 0) (j := 0) rfl hl0, g0]
  simp only [RP.pv, kIx_2a]
  have ox := ok x0 (by rw [e0]; exact List.mem_cons_self ..)
  refine ⟨_, _, x0.t, 0, rfl, ox.t, num0, by have := ox.z; rw [sz0]; omega, ?_⟩
  have c0 : cmpI x0.t 0 = 0 := by rw [z0]; rfl
  simp only [c0, kNe_int, decide_true, Bool.not_true]
  refine ⟨by omega, by omega, ?_⟩
  have er : ((ps.length : Int) - 1).toNat = ps.length - 1 := by omega
  rw [er]
  refine lcL_map (fun i : Nat => PV.int (0 + (i : Int))) (fun _ => PV.bl true) (List.range (ps.length - 1)) (fun i hi T t => ?_) (by simp; omega) ?_
  · have hi' : i < ps.length - 1 := List.mem_range.mp hi
    have a1 : i < (ps.map RP.pv).length := by omega
    have a2 : i + 1 < (ps.map RP.pv).length := by omega
    simp only [te_are_pieces_2, pSeq, pNext, pIfS, pRet, pRetN, pAsg, pDrop, pPar, pAug, gNm, gTupP, gConsP, gNilP, pVar, pC, pBin, pChain, pUn, kNeg, pTst, pTru, pAndT, pOrT, pNotT, pAndV, pOrV, pNotV, pIf, pCons, pNil, pTup, pLst, pStar, pCallB, pCall, pMeth, pProp, pFld, pFrz, pIL, pIT, pZip, pEnum, pR1, pR2, pR3, pSlL, pSlT, pPart, pNoPart, pLc, pLc2, pDc, pSortSc, pFor, pNewL, pNewD, pApp, pExt, pDPut, pSetL, pOwnD, pIsN, pNotN, pListVals, pListValsT, pIVals, pIKeys, pIItems, onDic, pIStr, pDGet1, pTsYes, pParL, pParR, pCel, pCelSet, pNewCel, pNeverS, wipeP, List.set_cons_zero, List.set_cons_succ, List.getElem?_cons_zero, List.getElem?_cons_succ, List.length_cons, List.length_nil, kI0_int]
    rw [kIx_nat (i := i) (by omega) a1]
    simp only [kIx_nat (i := i + 1) (show (0 + (i : Int) + 1) = ((i + 1 : Nat) : Int) by omega) a2, List.getElem_map, RP.pv, kIx_2a]
    have q1 := ok ps[i] (List.getElem_mem _)
    have q2 := ok ps[i + 1] (List.getElem_mem _)
    refine ⟨_, _, _, _, rfl, q1.t, q2.t, by have := q1.z; have := q2.z; omega, ?_⟩
    have lt := List.pairwise_iff_getElem.mp up i (i + 1) (by omega) (by omega) (by omega)
    have : cmpI ps[i].t ps[i + 1].t < 0 := by unfold cmpI; rw [if_pos lt]; decide
    show T (.bl (decide (cmpI ps[i].t ps[i + 1].t < 0)))
    rw [decide_eq_true this]
    exact t
  · simp only [ball, tall]
    exact hq
theorem hp_is_runner : ∀ as Q, Ph_is_runner as Q → as.length = 1 ∧ t_is_runner ⟨fun _ => Q .non, Q, fun _ => False, fun _ => False⟩ (startP N_is_runner as) := by
  rintro as Q ⟨r, rfl, ⟨hn, hs, hz, hp⟩, hq⟩
  refine ⟨rfl, ?_⟩
  simp only [st_is_runner, t_is_runner, RR.pv, pSeq, pNext, pIfS, pRet, pRetN, pAsg, pDrop, pPar, pAug, gNm, gTupP, gConsP, gNilP, pVar, pC, pBin, pChain, pUn, kNeg, pTst, pTru, pAndT, pOrT, pNotT, pAndV, pOrV, pNotV, pIf, pCons, pNil, pTup, pLst, pStar, pCallB, pCall, pMeth, pProp, pFld, pFrz, pIL, pIT, pZip, pEnum, pR1, pR2, pR3, pSlL, pSlT, pPart, pNoPart, pLc, pLc2, pDc, pSortSc, pFor, pNewL, pNewD, pApp, pExt, pDPut, pSetL, pOwnD, pIsN, pNotN, pListVals, pListValsT, pIVals, pIKeys, pIItems, onDic, pIStr, pDGet1, pTsYes, pParL, pParR, pCel, pCelSet, pNewCel, pNeverS, wipeP, List.set_cons_zero, List.set_cons_succ, List.getElem?_cons_zero, List.getElem?_cons_succ, List.length_cons, List.length_nil]
  rw [kIsi_of rfl kit_tt]
  simp only [kLen_tup, kEq_int, pSeq, pNext, pIfS, pRet, pRetN, pAsg, pDrop, pPar, pAug, gNm, gTupP, gConsP, gNilP, pVar, pC, pBin, pChain, pUn, kNeg, pTst, pTru, pAndT, pOrT, pNotT, pAndV, pOrV, pNotV, pIf, pCons, pNil, pTup, pLst, pStar, pCallB, pCall, pMeth, pProp, pFld, pFrz, pIL, pIT, pZip, pEnum, pR1, pR2, pR3, pSlL, pSlT, pPart, pNoPart, pLc, pLc2, pDc, pSortSc, pFor, pNewL, pNewD, pApp, pExt, pDPut, pSetL, pOwnD, pIsN, pNotN, pListVals, pListValsT, pIVals, pIKeys, pIItems, onDic, pIStr, pDGet1, pTsYes, pParL, pParR, pCel, pCelSet, pNewCel, pNeverS, wipeP, List.set_cons_zero, List.set_cons_succ, List.getElem?_cons_zero, List.getElem?_cons_succ, List.length_cons, List.length_nil, kIx_2a, kIx_2b]
  exact ⟨_, r.s, rfl, hs, r.ps, rfl, hp, hq⟩
theorem hp_Race_length : ∀ as Q, Ph_Race_length as Q → as.length = 1 ∧ t_Race_length ⟨fun _ => Q .non, Q, fun _ => False, fun _ => False⟩ (startP N_Race_length as) := by
  rintro as Q ⟨R, rfl, hq⟩
  exact ⟨rfl, rfl, hq⟩
theorem hp_Race_names : ∀ as Q, Ph_Race_names as Q → as.length = 1 ∧ t_Race_names ⟨fun _ => Q .non, Q, fun _ => False, fun _ => False⟩ (startP N_Race_names as) := by
  rintro as Q ⟨R, rfl, hq⟩
  refine ⟨rfl, rfl, ?_⟩
  show Q (.lst (R.dic.map fun kv => keyPV kv.1))
  unfold RaceM.dic
  rw [List.map_map]
  exact hq
theorem kDIn_dic {l : List (Key × PV)} {n : Str} {Q : PV → Prop} : kDIn false (.str n) (.dic l) Q = Q (.bl (valA l (Sum.inr n)).isSome) := rfl
theorem valA_dic (n : Str) : ∀ rs : List Rn, (valA (rs.map fun r => ((Sum.inr r.name : Key), r.pv)) (Sum.inr n)).isSome = rs.any fun r => decide (r.name = n)
  | [] => rfl
  | r :: rs => by
    rw [List.map_cons, valA_cons, List.any_cons]
    by_cases h : r.name = n
    · subst h; simp
    · rw [if_neg (by simpa using h), valA_dic n rs, decide_eq_false h, Bool.false_or]
theorem valA_mem : ∀ {rs : List Rn} {r : Rn}, (rs.Pairwise fun a b => a.name ≠ b.name) → r ∈ rs → valA (rs.map fun r => ((Sum.inr r.name : Key), r.pv)) (Sum.inr r.name) = some r.pv
  | [], r, _, h => by cases h
  | a :: rs, r, hp, h => by
    obtain ⟨h1, h2⟩ := List.pairwise_cons.mp hp
    rw [List.map_cons, valA_cons]
    rcases List.mem_cons.mp h with rfl | h
    · simp
    · have := h1 r h
      rw [if_neg (by simpa using this), valA_mem h2 h]
theorem hp_Race_contains : ∀ as Q, Ph_Race_contains as Q → as.length = 2 ∧ t_Race_contains ⟨fun _ => Q .non, Q, fun _ => False, fun _ => False⟩ (startP N_Race_contains as) := by
  rintro as Q ⟨R, n, rfl, hq⟩
  refine ⟨rfl, ?_⟩
  simp only [st_Race_contains, t_Race_contains, pSeq, pNext, pIfS, pRet, pRetN, pAsg, pDrop, pPar, pAug, gNm, gTupP, gConsP, gNilP, pVar, pC, pBin, pChain, pUn, kNeg, pTst, pTru, pAndT, pOrT, pNotT, pAndV, pOrV, pNotV, pIf, pCons, pNil, pTup, pLst, pStar, pCallB, pCall, pMeth, pProp, pFld, pFrz, pIL, pIT, pZip, pEnum, pR1, pR2, pR3, pSlL, pSlT, pPart, pNoPart, pLc, pLc2, pDc, pSortSc, pFor, pNewL, pNewD, pApp, pExt, pDPut, pSetL, pOwnD, pIsN, pNotN, pListVals, pListValsT, pIVals, pIKeys, pIItems, onDic, pIStr, pDGet1, pTsYes, pParL, pParR, pCel, pCelSet, pNewCel, pNeverS, wipeP, List.set_cons_zero, List.set_cons_succ, List.getElem?_cons_zero, List.getElem?_cons_succ, List.length_cons, List.length_nil]
  rw [kIsi_of rfl kit_ss]
  refine ⟨rfl, ?_⟩
  show Q (.bl (valA R.dic (Sum.inr n)).isSome)
  unfold RaceM.dic
  rw [valA_dic]
  exact hq
theorem any_mem {rs : List Rn} {r : Rn} (h : r ∈ rs) : (rs.any fun x => decide (x.name = r.name)) = true := List.any_eq_true.mpr ⟨r, h, by simp⟩
theorem hp_Race_runner : ∀ as Q, Ph_Race_runner as Q → as.length = 2 ∧ t_Race_runner ⟨fun _ => Q .non, Q, fun _ => False, fun _ => False⟩ (startP N_Race_runner as) := by
  rintro as Q ⟨R, r, rfl, ok, hr, hq⟩
  refine ⟨rfl, ?_⟩
  simp only [st_Race_runner, t_Race_runner, pSeq, pNext, pIfS, pRet, pRetN, pAsg, pDrop, pPar, pAug, gNm, gTupP, gConsP, gNilP, pVar, pC, pBin, pChain, pUn, kNeg, pTst, pTru, pAndT, pOrT, pNotT, pAndV, pOrV, pNotV, pIf, pCons, pNil, pTup, pLst, pStar, pCallB, pCall, pMeth, pProp, pFld, pFrz, pIL, pIT, pZip, pEnum, pR1, pR2, pR3, pSlL, pSlT, pPart, pNoPart, pLc, pLc2, pDc, pSortSc, pFor, pNewL, pNewD, pApp, pExt, pDPut, pSetL, pOwnD, pIsN, pNotN, pListVals, pListValsT, pIVals, pIKeys, pIItems, onDic, pIStr, pDGet1, pTsYes, pParL, pParR, pCel, pCelSet, pNewCel, pNeverS, wipeP, List.set_cons_zero, List.set_cons_succ, List.getElem?_cons_zero, List.getElem?_cons_succ, List.length_cons, List.length_nil, kOwnIn, RaceM.pv]
  refine ⟨by trivial, R, r.name, rfl, ?_⟩
  rw [any_mem hr]
  refine ⟨by trivial, ?_⟩
  show (match valA R.dic (Sum.inr r.name) with | some r => Q r | none => False)
  unfold RaceM.dic
  rw [valA_mem ok.nd hr]
  exact hq
theorem hp_Race_validate_names : ∀ as Q, Ph_Race_validate_names as Q → as.length = 3 ∧ t_Race_validate_names ⟨fun _ => Q .non, Q, fun _ => False, fun _ => False⟩ (startP N_Race_validate_names as) := by
  rintro as Q ⟨R, r, r', rfl, ok, hr, hr', hq⟩
  refine ⟨rfl, rfl, rfl, R, r, rfl, ok, hr, rfl, rfl, R, r', rfl, ok, hr', hq⟩
theorem hp_Race_start : ∀ as Q, Ph_Race_start as Q → as.length = 2 ∧ t_Race_start ⟨fun _ => Q .non, Q, fun _ => False, fun _ => False⟩ (startP N_Race_start as) := by
  rintro as Q ⟨R, r, rfl, ok, hr, hq⟩
  exact ⟨rfl, rfl, rfl, R, r, rfl, ok, hr, hq⟩
theorem hp_Race_pieces : ∀ as Q, Ph_Race_pieces as Q → as.length = 2 ∧ t_Race_pieces ⟨fun _ => Q .non, Q, fun _ => False, fun _ => False⟩ (startP N_Race_pieces as) := by
  rintro as Q ⟨R, r, rfl, ok, hr, hq⟩
  exact ⟨rfl, rfl, rfl, R, r, rfl, ok, hr, hq⟩
end G


/-! ## HA2 -/
/-! Races made; positions. -/
namespace G
open PySem PySem.Spec PyProof.Rows L2 L3 MR
theorem kLenD_dic {l : List (Key × PV)} {Q : PV → Prop} : kLenD [.dic l] Q = Q (.int l.length) := rfl
theorem hp_Race_init : ∀ as Q, Ph_Race as Q → as.length + 1 = 3 ∧ ∀ x, t_Race_init (fun _ fs dd => dd = none ∧ Q (.obj "Race" fs)) (startP N_Race_init (.raw x :: as)) [] none := by
  rintro as Q ⟨lv, len, rs, rfl, hl, l0, lz, h1, h12, nd, ok, hq⟩
  refine ⟨rfl, fun x => ?_⟩
  simp only [st_Race_init, t_Race_init, iOf, iSeq, iFor, iPut, iNewD, iParts, iSetF, pSeq, pNext, pIfS, pRet, pRetN, pAsg, pDrop, pPar, pAug, gNm, gTupP, gConsP, gNilP, pVar, pC, pBin, pChain, pUn, kNeg, pTst, pTru, pAndT, pOrT, pNotT, pAndV, pOrV, pNotV, pIf, pCons, pNil, pTup, pLst, pStar, pCallB, pCall, pMeth, pProp, pFld, pFrz, pIL, pIT, pZip, pEnum, pR1, pR2, pR3, pSlL, pSlT, pPart, pNoPart, pLc, pLc2, pDc, pSortSc, pFor, pNewL, pNewD, pApp, pExt, pDPut, pSetL, pOwnD, pIsN, pNotN, pListVals, pListValsT, pIVals, pIKeys, pIItems, onDic, pIStr, pDGet1, pTsYes, pParL, pParR, pCel, pCelSet, pNewCel, pNeverS, wipeP, List.set_cons_zero, List.set_cons_succ, List.getElem?_cons_zero, List.getElem?_cons_succ, List.length_cons, List.length_nil]
  refine ⟨lv, len, rfl, hl, ?_⟩
  simp only [Bool.not_true]
  refine ⟨lv, _, len, 0, rfl, hl, num0, by rw [sz0]; omega, ?_⟩
  have c1 : ¬ cmpI len 0 ≤ 0 := by
    unfold cmpI
    rw [if_neg (by grind), if_pos l0]
    decide
  simp only [kI0_int, decide_eq_false c1]
  refine ⟨by trivial, ?_⟩
  rw [kIsi_of rfl kit_dd]
  have e1 : (1 : Int) ≤ (rs.length : Int) := by omega
  have e2 : (rs.length : Int) ≤ 12 := by omega
  simp only [kLenD_dic, List.length_map, kI0_int, decide_eq_true e1, decide_eq_true e2, Bool.not_true]
  refine ⟨by trivial, ?_⟩
  rw [List.map_map]
  refine forL_of (fun r : RR => PV.tup [.str r.name, r.pv]) (fun rest ρ => (∀ r ∈ rest, r ∈ rs) ∧ ∃ s3 s4 s5 s6 s7 s8 s9, ρ = [.val (.raw x), .val lv, .val (.dic (rs.map fun r => ((Sum.inr r.name : Key), r.pv))), s3, s4, s5, s6, s7, s8, s9]) ?_ ?_ rs _ ⟨fun _ h => h, _, _, _, _, _, _, _, rfl⟩
  · rintro r rest ρ ⟨hr, s3, s4, s5, s6, s7, s8, s9, rfl⟩ N hN
    simp only [tb_Race_init_1, pSeq, pNext, pIfS, pRet, pRetN, pAsg, pDrop, pPar, pAug, gNm, gTupP, gConsP, gNilP, pVar, pC, pBin, pChain, pUn, kNeg, pTst, pTru, pAndT, pOrT, pNotT, pAndV, pOrV, pNotV, pIf, pCons, pNil, pTup, pLst, pStar, pCallB, pCall, pMeth, pProp, pFld, pFrz, pIL, pIT, pZip, pEnum, pR1, pR2, pR3, pSlL, pSlT, pPart, pNoPart, pLc, pLc2, pDc, pSortSc, pFor, pNewL, pNewD, pApp, pExt, pDPut, pSetL, pOwnD, pIsN, pNotN, pListVals, pListValsT, pIVals, pIKeys, pIItems, onDic, pIStr, pDGet1, pTsYes, pParL, pParR, pCel, pCelSet, pNewCel, pNeverS, wipeP, List.set_cons_zero, List.set_cons_succ, List.getElem?_cons_zero, List.getElem?_cons_succ, List.length_cons, List.length_nil]
    have or' := ok r (hr r (List.mem_cons_self ..))
    refine ⟨by trivial, r.name, rfl, or'.n, ?_⟩
    simp only [Bool.not_true]
    refine ⟨r, rfl, or', ?_⟩
    simp only [Bool.not_true]
    exact hN _ ⟨fun y hy => hr y (List.mem_cons_of_mem _ hy), _, _, _, _, _, _, _, rfl⟩
  · rintro ρ ⟨_, s3, s4, s5, s6, s7, s8, s9, rfl⟩
    refine ⟨by trivial, by trivial, by trivial, by simp, ?_⟩
    try simp only [pSeq, pNext, pIfS, pRet, pRetN, pAsg, pDrop, pPar, pAug, gNm, gTupP, gConsP, gNilP, pVar, pC, pBin, pChain, pUn, kNeg, pTst, pTru, pAndT, pOrT, pNotT, pAndV, pOrV, pNotV, pIf, pCons, pNil, pTup, pLst, pStar, pCallB, pCall, pMeth, pProp, pFld, pFrz, pIL, pIT, pZip, pEnum, pR1, pR2, pR3, pSlL, pSlT, pPart, pNoPart, pLc, pLc2, pDc, pSortSc, pFor, pNewL, pNewD, pApp, pExt, pDPut, pSetL, pOwnD, pIsN, pNotN, pListVals, pListValsT, pIVals, pIKeys, pIItems, onDic, pIStr, pDGet1, pTsYes, pParL, pParR, pCel, pCelSet, pNewCel, pNeverS, wipeP, List.set_cons_zero, List.set_cons_succ, List.getElem?_cons_zero, List.getElem?_cons_succ, List.length_cons, List.length_nil]
    refine ⟨lv, len, rfl, hl, by trivial, by rfl, by simp, ?_⟩
    simp only [kSortD, keysS_map RR.name RR.pv, List.length_map]
    refine ⟨by omega, fun ys hp hs => ?_⟩
    obtain ⟨rs', hp', rfl⟩ := perm_map RR.name ys rs hp
    have hf := hq rs' hp' hs
    have nd' : rs'.Pairwise fun a b => a.name ≠ b.name := hp'.symm.pairwise nd fun {a b} h e => h e.symm
    have len' : rs'.length = rs.length := hp'.length_eq
    rw [List.map_map]
    refine iforL_of (fun r : RR => PV.str r.name) (fun rest ρ fs dd => ∃ done : List RR, done ++ rest = rs' ∧ fs = [(("own_length" : Str), rat len)] ∧ dd = some (("own_runners" : Str), done.map fun r => ((Sum.inr r.name : Key), (RR.norm len r).pv)) ∧ ∃ s3 s4 s5 s6 s7 s8 s9, ρ = [.val (.raw x), .val lv, .val (.dic (rs.map fun r => ((Sum.inr r.name : Key), r.pv))), s3, s4, s5, s6, s7, s8, s9]) ?_ ?_ rs' _ _ _ ⟨[], rfl, rfl, rfl, _, _, _, _, _, _, _, rfl⟩
    · rintro r rest ρ fs dd ⟨done, hd, rfl, rfl, s3, s4, s5, s6, s7, s8, s9, rfl⟩ N hN
      have hr' : r ∈ rs' := by rw [← hd]; simp
      have hr : r ∈ rs := hp'.mem_iff.mp hr'
      have or' := ok r hr
      simp only [tb_Race_init_3, iOf, iSeq, iFor, iPut, iNewD, iParts, iSetF, pSeq, pNext, pIfS, pRet, pRetN, pAsg, pDrop, pPar, pAug, gNm, gTupP, gConsP, gNilP, pVar, pC, pBin, pChain, pUn, kNeg, pTst, pTru, pAndT, pOrT, pNotT, pAndV, pOrV, pNotV, pIf, pCons, pNil, pTup, pLst, pStar, pCallB, pCall, pMeth, pProp, pFld, pFrz, pIL, pIT, pZip, pEnum, pR1, pR2, pR3, pSlL, pSlT, pPart, pNoPart, pLc, pLc2, pDc, pSortSc, pFor, pNewL, pNewD, pApp, pExt, pDPut, pSetL, pOwnD, pIsN, pNotN, pListVals, pListValsT, pIVals, pIKeys, pIItems, onDic, pIStr, pDGet1, pTsYes, pParL, pParR, pCel, pCelSet, pNewCel, pNeverS, wipeP, List.set_cons_zero, List.set_cons_succ, List.getElem?_cons_zero, List.getElem?_cons_succ, List.length_cons, List.length_nil]
      refine ⟨by trivial, ?_⟩
      show (match valA (rs.map fun r => ((Sum.inr r.name : Key), r.pv)) (Sum.inr r.name) with | some r => _ | none => False)
      rw [valA_map RR.name RR.pv nd hr]
      simp only [RR.pv, pSeq, pNext, pIfS, pRet, pRetN, pAsg, pDrop, pPar, pAug, gNm, gTupP, gConsP, gNilP, pVar, pC, pBin, pChain, pUn, kNeg, pTst, pTru, pAndT, pOrT, pNotT, pAndV, pOrV, pNotV, pIf, pCons, pNil, pTup, pLst, pStar, pCallB, pCall, pMeth, pProp, pFld, pFrz, pIL, pIT, pZip, pEnum, pR1, pR2, pR3, pSlL, pSlT, pPart, pNoPart, pLc, pLc2, pDc, pSortSc, pFor, pNewL, pNewD, pApp, pExt, pDPut, pSetL, pOwnD, pIsN, pNotN, pListVals, pListValsT, pIVals, pIKeys, pIItems, onDic, pIStr, pDGet1, pTsYes, pParL, pParR, pCel, pCelSet, pNewCel, pNeverS, wipeP, List.set_cons_zero, List.set_cons_succ, List.getElem?_cons_zero, List.getElem?_cons_succ, List.length_cons, List.length_nil]
      refine ⟨by trivial, by trivial, ?_⟩
      have p20 := or'.p.hi
      refine lcL_map RP.pv (fun x => pcPV (x.t, x.s)) r.ps (fun y hy T t => ?_) (size_le (by omega)) ?_
      · have oy := or'.p.ok y hy
        simp only [te_Race_init_2, RP.pv, pSeq, pNext, pIfS, pRet, pRetN, pAsg, pDrop, pPar, pAug, gNm, gTupP, gConsP, gNilP, pVar, pC, pBin, pChain, pUn, kNeg, pTst, pTru, pAndT, pOrT, pNotT, pAndV, pOrV, pNotV, pIf, pCons, pNil, pTup, pLst, pStar, pCallB, pCall, pMeth, pProp, pFld, pFrz, pIL, pIT, pZip, pEnum, pR1, pR2, pR3, pSlL, pSlT, pPart, pNoPart, pLc, pLc2, pDc, pSortSc, pFor, pNewL, pNewD, pApp, pExt, pDPut, pSetL, pOwnD, pIsN, pNotN, pListVals, pListValsT, pIVals, pIKeys, pIItems, onDic, pIStr, pDGet1, pTsYes, pParL, pParR, pCel, pCelSet, pNewCel, pNeverS, wipeP, List.set_cons_zero, List.set_cons_succ, List.getElem?_cons_zero, List.getElem?_cons_succ, List.length_cons, List.length_nil]
        exact ⟨by trivial, _, y.t, rfl, oy.t, _, y.s, rfl, oy.s, size_le (by decide), t⟩
      · refine ⟨by trivial, _, rfl, _, _, r.s, len, rfl, or'.s, hl, l0, by have := or'.z; omega, size_le (by decide), ?_⟩
        simp only [keyP]
        have ln : done.length ≤ 12 := by
          have := congrArg List.length hd
          simp at this
          omega
        refine ⟨Nat.lt_of_lt_of_le (by rw [List.length_map]; omega) (size_le (n := 13) (by decide)), hN _ _ _ ⟨done ++ [r], by rw [List.append_assoc]; exact hd, rfl, ?_, _, _, _, _, _, _, _, rfl⟩⟩
        rw [putA_new, List.map_append]
        · simp only [List.map_cons, List.map_nil, RR.norm, Rn.pv, List.map_map]
          rfl
        · intro p hp
          obtain ⟨q, hq1, rfl⟩ := List.mem_map.mp hp
          have : q.name ≠ r.name := by
            rw [← hd, List.pairwise_append] at nd'
            exact nd'.2.2 q hq1 r (List.mem_cons_self ..)
          simpa using this
    · rintro ρ fs dd ⟨done, hd, rfl, rfl, s3, s4, s5, s6, s7, s8, s9, rfl⟩
      rw [List.append_nil] at hd
      subst hd
      refine ⟨_, rat len, rfl, by rfl, by rfl, by decide, by simp, by trivial, ?_⟩
      have e : RaceM.dic ⟨len, done.map (RR.norm len)⟩ = done.map fun r => (Sum.inr r.name, (RR.norm len r).pv) := by
        unfold RaceM.dic
        rw [List.map_map]
        rfl
      unfold RaceM.pv RaceM.fs at hf
      rw [e] at hf
      exact hf
end G


/-! ## MA -/
/-! Plain: ways, remainders. -/
namespace G
open PySem PySem.Spec PyProof.Rows L2 L3 MR
theorem walk_last {b s : Rat} {t f : Rat} : walkP [(b, s)] t f = if b < t then f + s * (t - b) else f := rfl
theorem walk_more {b s b' s' : Rat} {r : List (Rat × Rat)} {t f : Rat} : walkP ((b, s) :: (b', s') :: r) t f = walkP ((b', s') :: r) t (if b < (if b' < t then b' else t) then f + s * ((if b' < t then b' else t) - b) else f) := rfl
theorem sz_step {f s e b : Rat} {F B T : Nat} (hf : sz f ≤ F) (hs : sz s ≤ B) (he : sz e ≤ T) (hb : sz b ≤ B) : sz (f + s * (e - b)) ≤ F + (2 * B + T + 2) := by
  have h1 := sz_sub e b
  have h2 := sz_mul s (e - b)
  have h3 := sz_add f (s * (e - b))
  omega
theorem walk_sz {B : Nat} : ∀ (ps : List (Rat × Rat)) (t f : Rat), (∀ x ∈ ps, sz x.1 ≤ B ∧ sz x.2 ≤ B) → sz (walkP ps t f) ≤ sz f + ps.length * (3 * B + sz t + 4)
  | [], t, f, _ => by simp [walkP]
  | [(b, s)], t, f, h => by
    have := h (b, s) (List.mem_cons_self ..)
    have h1 : sz b ≤ B := this.1
    have h2 : sz s ≤ B := this.2
    rw [walk_last]
    split
    · have := sz_step (F := sz f) (B := B) (T := sz t) (f := f) (s := s) (e := t) (b := b) (by omega) h2 (by omega) h1
      simp; omega
    · simp
  | (b, s) :: (b', s') :: r, t, f, h => by
    have h0 := h (b, s) (List.mem_cons_self ..)
    have h1 : sz b ≤ B := h0.1
    have h2 : sz s ≤ B := h0.2
    have h0' := h (b', s') (by simp)
    have h1' : sz b' ≤ B := h0'.1
    rw [walk_more]
    have ih := walk_sz ((b', s') :: r) t (if b < (if b' < t then b' else t) then f + s * ((if b' < t then b' else t) - b) else f) (fun x hx => h x (List.mem_cons_of_mem _ hx))
    have he : sz (if b' < t then b' else t) ≤ B + sz t := by split <;> omega
    generalize (if b' < t then b' else t) = e at *
    have hz : sz (if b < e then f + s * (e - b) else f) ≤ sz f + (3 * B + sz t + 4) := by
      split
      · have := sz_step (F := sz f) (f := f) (s := s) (b := b) (by omega) h2 he h1
        omega
      · omega
    have el : ((b, s) :: (b', s') :: r).length * (3 * B + sz t + 4) = ((b', s') :: r).length * (3 * B + sz t + 4) + (3 * B + sz t + 4) := by
      rw [List.length_cons (a := (b, s)), Nat.add_mul, Nat.one_mul]
    omega
theorem walk_after : ∀ (ps : List (Rat × Rat)) (t f : Rat), (∀ p ∈ ps, t ≤ p.1) → walkP ps t f = f
  | [], t, f, _ => rfl
  | [(b, s)], t, f, h => by
    have : t ≤ b := h (b, s) (List.mem_cons_self ..)
    rw [walk_last, if_neg (by grind)]
  | (b, s) :: (b', s') :: r, t, f, h => by
    have h1 : t ≤ b := h (b, s) (List.mem_cons_self ..)
    have h2 : t ≤ b' := h (b', s') (by simp)
    rw [walk_more, if_neg (show ¬ b' < t by grind), if_neg (show ¬ b < t by grind)]
    exact walk_after _ t f fun p hp => h p (List.mem_cons_of_mem _ hp)
theorem speed_after : ∀ (ps : List (Rat × Rat)) (t d : Rat), (∀ p ∈ ps, t < p.1) → speedP ps t d = d
  | [], t, d, _ => rfl
  | (b, s) :: r, t, d, h => by
    have h1 : t < b := h (b, s) (List.mem_cons_self ..)
    unfold speedP
    rw [if_neg (by grind)]
    exact speed_after r t d fun p hp => h p (List.mem_cons_of_mem _ hp)
theorem walk_line : ∀ (ps : List (Rat × Rat)) (b s : Rat) (x y f d : Rat), ((b, s) :: ps).Pairwise (·.1 < ·.1) → b ≤ x → x ≤ y → (∀ p ∈ ps, ¬ (x < p.1 ∧ p.1 < y)) → walkP ((b, s) :: ps) y f = walkP ((b, s) :: ps) x f + speedP ((b, s) :: ps) x d * (y - x)
  | [], b, s, x, y, f, d, _, hb, hxy, _ => by
    rw [walk_last, walk_last]
    unfold speedP speedP
    rw [if_pos hb]
    split <;> split <;> grind
  | (b', s') :: r, b, s, x, y, f, d, up, hb, hxy, hc => by
    obtain ⟨u1, u2⟩ := List.pairwise_cons.mp up
    have hbb : b < b' := u1 (b', s') (List.mem_cons_self ..)
    rw [walk_more, walk_more]
    by_cases h : b' ≤ x
    · have e1 : (if b' < y then b' else y) = b' := by split <;> grind
      have e2 : (if b' < x then b' else x) = b' := by split <;> grind
      rw [e1, e2]
      have ih := walk_line r b' s' x y (if b < b' then f + s * (b' - b) else f) (if b ≤ x then s else d) u2 h hxy fun p hp => hc p (List.mem_cons_of_mem _ hp)
      exact ih
    · have hy : y ≤ b' := by
        have := hc (b', s') (List.mem_cons_self ..)
        grind
      have hr : ∀ p ∈ (b', s') :: r, b' ≤ p.1 := fun p hp => by
        rcases List.mem_cons.mp hp with rfl | hp
        · exact Rat.le_refl
        · have := (List.pairwise_cons.mp u2).1 p hp
          grind
      rw [if_neg (show ¬ b' < y by grind), if_neg (show ¬ b' < x by grind)]
      rw [walk_after _ y _ fun p hp => by have := hr p hp; grind, walk_after _ x _ fun p hp => by have := hr p hp; grind]
      have es : speedP ((b, s) :: (b', s') :: r) x d = s := by
        show speedP ((b', s') :: r) x (if b ≤ x then s else d) = s
        rw [if_pos hb]
        exact speed_after _ _ _ fun p hp => by have := hr p hp; grind
      rw [es]
      split <;> split <;> grind
theorem Rn.line {r : Rn} (ok : r.Ok) {x y : Rat} (hx : 0 ≤ x) (hxy : x ≤ y) (hc : ∀ p ∈ r.pieces, ¬ (x < p.1 ∧ p.1 < y)) : r.pos y = r.pos x + r.speed x * (y - x) := by
  obtain ⟨⟨b, s⟩, q, e, z⟩ := ok.hd
  have z : b = 0 := z
  unfold Rn.pos Rn.speed
  have up := ok.up
  rw [e] at up hc ⊢
  exact walk_line q b s x y r.start 0 up (by rw [z]; exact hx) hxy fun p hp => hc p (List.mem_cons_of_mem _ hp)
/-! remainders -/
theorem floor_iff {q : Rat} {n : Int} : q.floor = n ↔ (n : Rat) ≤ q ∧ q < (n : Rat) + 1 := by
  have h1 := Rat.floor_le q
  have h2 := Rat.lt_floor_add_one q
  rw [Rat.intCast_add] at h2
  constructor
  · rintro rfl
    exact ⟨h1, h2⟩
  · rintro ⟨h3, h4⟩
    have h5 : n ≤ q.floor := Rat.le_floor_iff.mpr h3
    have h6 : ¬ n + 1 ≤ q.floor := fun z => by
      have := Rat.le_floor_iff.mp z
      rw [Rat.intCast_add] at this
      grind
    omega
theorem rem_nonneg {a b : Rat} (hb : 0 < b) : 0 ≤ rem a b := by
  unfold rem
  have h1 := Rat.floor_le (a / b)
  have h2 := Rat.mul_le_mul_of_nonneg_left h1 (Rat.le_of_lt hb)
  have h3 : b * (a / b) = a := by rw [Rat.mul_comm]; exact Rat.div_mul_cancel (by grind)
  grind
theorem rem_lt {a b : Rat} (hb : 0 < b) : rem a b < b := by
  unfold rem
  have h1 := Rat.lt_floor_add_one (a / b)
  rw [Rat.intCast_add] at h1
  have h2 := Rat.mul_lt_mul_of_pos_right h1 hb
  have h3 : (a / b) * b = a := Rat.div_mul_cancel (by grind)
  rw [h3, Rat.add_mul] at h2
  rw [Rat.mul_comm b]
  have : ((1 : Int) : Rat) * b = b := by rw [show ((1 : Int) : Rat) = 1 from rfl, Rat.one_mul]
  grind
theorem int_divInt (n : Int) : (n : Rat) = Rat.divInt n 1 := by rw [Rat.divInt_eq_div]; simp [Rat.div_def]; grind
theorem sub_mul_gen {p d q e : Int} (n : Int) (hd : d ≠ 0) (he : e ≠ 0) : Rat.divInt p d - Rat.divInt q e * (n : Rat) = Rat.divInt (p * e - (q * n) * d) (d * e) := by
  rw [int_divInt n, Rat.divInt_mul_divInt, Int.mul_one, Rat.divInt_sub_divInt _ _ hd he]
theorem mul_back {q d e : Int} (he : e ≠ 0) : Rat.divInt q e * ((d * e : Int) : Rat) = ((q * d : Int) : Rat) := by
  have he' : ((e : Int) : Rat) ≠ 0 := by exact_mod_cast he
  rw [Rat.divInt_eq_div, Rat.intCast_mul, Rat.intCast_mul, Rat.mul_comm (d : Rat), ← Rat.mul_assoc, Rat.div_mul_cancel he']
theorem rem_sz (a : Rat) {b : Rat} (hb : 0 < b) : sz (rem a b) ≤ sz a + sz b := by
  have h0 := rem_nonneg (a := a) hb
  have h1 := rem_lt (a := a) hb
  have e : rem a b = Rat.divInt (a.num * b.den - (b.num * (a / b).floor) * a.den) (a.den * b.den) := by
    unfold rem
    have := sub_mul_gen (p := a.num) (q := b.num) (a / b).floor (denI a) (denI b)
    rw [Rat.num_divInt_den, Rat.num_divInt_den] at this
    exact this
  generalize hN : a.num * b.den - (b.num * (a / b).floor) * a.den = N at e
  have dp : (0 : Int) < (a.den : Int) * (b.den : Int) := by
    have := a.den_pos; have := b.den_pos
    exact Int.mul_pos (by omega) (by omega)
  have dq : (0 : Rat) < (((a.den : Int) * (b.den : Int) : Int) : Rat) := by exact_mod_cast dp
  rw [e, Rat.divInt_eq_div] at h0 h1
  have n0 : 0 ≤ N := by
    rcases Int.lt_or_le N 0 with c | c
    · have : ((N : Rat)) / (((a.den : Int) * (b.den : Int) : Int) : Rat) < 0 := by
        rw [Rat.div_lt_iff dq, Rat.zero_mul]
        exact_mod_cast c
      grind
    · exact c
  have n1 : N < b.num * a.den := by
    rw [Rat.div_lt_iff dq] at h1
    have e2 : b * (((a.den : Int) * (b.den : Int) : Int) : Rat) = ((b.num * a.den : Int) : Rat) := by
      have := mul_back (q := b.num) (d := a.den) (denI b)
      rw [Rat.num_divInt_den] at this
      exact this
    rw [e2] at h1
    exact_mod_cast h1
  rw [e]
  refine sz_divInt (by have := sz_pos a; omega) (by omega) ?_ (dd_lt a b)
  have h3 := nd_lt b a
  rw [Nat.add_comm] at h3
  have h4 : N.natAbs < (b.num * (a.den : Int)).natAbs := by omega
  rw [Int.natAbs_mul, Int.natAbs_natCast] at h4
  have h5 : b.num.natAbs * a.den < 2 ^ (sz b + sz a) := lt_mul (num_lt b) (den_lt a)
  rw [Nat.add_comm] at h5
  omega
theorem rem_unique {a b r : Rat} {n : Int} (hb : 0 < b) (h0 : 0 ≤ r) (h1 : r < b) (e : a = r + b * (n : Rat)) : rem a b = r := by
  have b0 : b ≠ 0 := by grind
  have hf : (a / b).floor = n := by
    rw [floor_iff]
    have e2 : a / b = r / b + n := by
      rw [e, Rat.div_def, Rat.add_mul, ← Rat.div_def]
      congr 1
      rw [Rat.mul_comm b, Rat.mul_assoc, Rat.mul_inv_cancel b b0, Rat.mul_one]
    have p1 : 0 ≤ r / b := by
      rw [Rat.div_def]; exact Rat.mul_nonneg h0 (Rat.le_of_lt (Rat.inv_pos.mpr hb))
    have p2 : r / b < 1 := (Rat.div_lt_iff hb).mpr (by rw [Rat.one_mul]; exact h1)
    rw [e2]
    constructor <;> grind
  unfold rem
  rw [hf, e]
  grind
theorem rem_self {a b : Rat} (h0 : 0 ≤ a) (h1 : a < b) : rem a b = a := rem_unique (n := 0) (by grind) h0 h1 (by rw [show ((0 : Int) : Rat) = 0 from rfl, Rat.mul_zero, Rat.add_zero])
theorem rem_eq (a b : Rat) : a = rem a b + b * ((a / b).floor : Rat) := by unfold rem; grind
theorem rem_zero {a b : Rat} (hb : 0 < b) (h : rem a b = 0) : a / b = ((a / b).floor : Rat) := by
  have h1 := rem_eq a b
  rw [h, Rat.zero_add] at h1
  have b0 : b ≠ 0 := by grind
  have h2 : a / b = (b * ((a / b).floor : Rat)) / b := by rw [← h1]
  rw [Rat.mul_comm, Rat.mul_div_cancel b0] at h2
  exact h2
theorem rem_zero_of {a b : Rat} {n : Int} (hb : 0 < b) (h : a / b = (n : Rat)) : rem a b = 0 := by
  have b0 : b ≠ 0 := by grind
  refine rem_unique (n := n) hb (Rat.le_refl) hb ?_
  rw [← h, Rat.zero_add, Rat.mul_comm]
  exact (Rat.div_mul_cancel b0).symm
theorem floor_neg {q : Rat} (h : q ≠ (q.floor : Rat)) : (-q).floor = -q.floor - 1 := by
  rw [floor_iff]
  have h1 := Rat.floor_le q
  have h2 := Rat.lt_floor_add_one q
  rw [Rat.intCast_add] at h2
  rw [Rat.intCast_sub, Rat.intCast_neg]
  have h3 : (q.floor : Rat) < q := by grind
  have e1 : ((1 : Int) : Rat) = 1 := rfl
  rw [e1] at *
  constructor <;> grind
end G


/-! ## HA3 -/
/-! Positions. -/
namespace G
open PySem PySem.Spec PyProof.Rows L2 L3 MR
theorem cmp_lt {a b : Rat} : decide (cmpI a b < 0) = decide (a < b) := by
  unfold cmpI
  by_cases h : a < b
  · simp [h]
  · by_cases h2 : b < a <;> simp [h, h2]
theorem cmp_le {a b : Rat} : decide (cmpI a b ≤ 0) = decide (a ≤ b) := by
  unfold cmpI
  by_cases h : a < b
  · have : a ≤ b := by grind
    simp [h, this]
  · by_cases h2 : b < a
    · have : ¬ a ≤ b := by grind
      simp [h, h2, this]
    · have : a ≤ b := by grind
      simp [h, h2, this]
theorem cmp_gt {a b : Rat} : decide (0 < cmpI a b) = decide (b < a) := by
  unfold cmpI
  by_cases h : a < b
  · have : ¬ b < a := by grind
    simp [h, this]
  · by_cases h2 : b < a <;> simp [h, h2]
theorem cmp_ge {a b : Rat} : decide (0 ≤ cmpI a b) = decide (b ≤ a) := by
  unfold cmpI
  by_cases h : a < b
  · have : ¬ b ≤ a := by grind
    simp [h, this]
  · have : b ≤ a := by grind
    by_cases h2 : b < a <;> simp [h, h2, this]
theorem enumP_map {α : Type} (f : α → PV) (l : List α) : enumP (l.map f) = l.zipIdx.map fun p => PV.tup [.int (p.2 : Nat), f p.1] := by
  unfold enumP
  rw [List.zipIdx_map, List.map_map]
  rfl
theorem drop_zip {α : Type} {l : List α} {k : Nat} {x : α × Nat} {rest : List (α × Nat)} (h : x :: rest = l.zipIdx.drop k) : ∃ hk : k < l.length, x = (l[k], k) ∧ rest = l.zipIdx.drop (k + 1) ∧ l.drop k = l[k] :: l.drop (k + 1) := by
  have hk : k < l.length := by
    rcases Nat.lt_or_ge k l.length with c | c
    · exact c
    · rw [List.drop_of_length_le (by simpa using c)] at h; cases h
  have hz : k < l.zipIdx.length := by simpa using hk
  rw [List.drop_eq_getElem_cons hz] at h
  injection h with h1 h2
  refine ⟨hk, ?_, h2, List.drop_eq_getElem_cons hk⟩
  rw [h1, List.getElem_zipIdx]
  simp
theorem P0_eq : P0 = 640 := rfl
/-- the way up to a piece's begin -/
theorem walk_at : ∀ (ps : List (Rat × Rat)) (b s f : Rat), ((b, s) :: ps).Pairwise (·.1 < ·.1) → walkP ((b, s) :: ps) b f = f := fun ps b s f up => by
  refine walk_after _ _ _ fun p hp => ?_
  rcases List.mem_cons.mp hp with rfl | hp
  · exact Rat.le_refl
  · exact Rat.le_of_lt ((List.pairwise_cons.mp up).1 p hp)
theorem hp_Race_position : ∀ as Q, Ph_Race_position as Q → as.length = 3 ∧ t_Race_position ⟨fun _ => Q .non, Q, fun _ => False, fun _ => False⟩ (startP N_Race_position as) := by
  rintro as Q ⟨R, r, v, t, rfl, g, hr, hv, at', hq⟩
  refine ⟨rfl, ?_⟩
  simp only [st_Race_position, t_Race_position, RaceM.pv, pSeq, pNext, pIfS, pRet, pRetN, pAsg, pDrop, pPar, pAug, gNm, gTupP, gConsP, gNilP, pVar, pC, pBin, pChain, pUn, kNeg, pTst, pTru, pAndT, pOrT, pNotT, pAndV, pOrV, pNotV, pIf, pCons, pNil, pTup, pLst, pStar, pCallB, pCall, pMeth, pProp, pFld, pFrz, pIL, pIT, pZip, pEnum, pR1, pR2, pR3, pSlL, pSlT, pPart, pNoPart, pLc, pLc2, pDc, pSortSc, pFor, pNewL, pNewD, pApp, pExt, pDPut, pSetL, pOwnD, pIsN, pNotN, pListVals, pListValsT, pIVals, pIKeys, pIItems, onDic, pIStr, pDGet1, pTsYes, pParL, pParR, pCel, pCelSet, pNewCel, pNeverS, wipeP, List.set_cons_zero, List.set_cons_succ, List.getElem?_cons_zero, List.getElem?_cons_succ, List.length_cons, List.length_nil]
  have or' := g.ok.rn r hr
  have p20 := or'.hi
  have tz := at'.z
  have pe := P0_eq
  have sp := g.sp r hr
  have ch := g.ch r hr
  refine ⟨by trivial, by rfl, R, r, rfl, g.ok, hr, ?_⟩
  simp only [Rn.pv, pSeq, pNext, pIfS, pRet, pRetN, pAsg, pDrop, pPar, pAug, gNm, gTupP, gConsP, gNilP, pVar, pC, pBin, pChain, pUn, kNeg, pTst, pTru, pAndT, pOrT, pNotT, pAndV, pOrV, pNotV, pIf, pCons, pNil, pTup, pLst, pStar, pCallB, pCall, pMeth, pProp, pFld, pFrz, pIL, pIT, pZip, pEnum, pR1, pR2, pR3, pSlL, pSlT, pPart, pNoPart, pLc, pLc2, pDc, pSortSc, pFor, pNewL, pNewD, pApp, pExt, pDPut, pSetL, pOwnD, pIsN, pNotN, pListVals, pListValsT, pIVals, pIKeys, pIItems, onDic, pIStr, pDGet1, pTsYes, pParL, pParR, pCel, pCelSet, pNewCel, pNeverS, wipeP, List.set_cons_zero, List.set_cons_succ, List.getElem?_cons_zero, List.getElem?_cons_succ, List.length_cons, List.length_nil]
  refine ⟨by trivial, v, t, rfl, hv, at'.t0, by omega, ?_⟩
  rw [enumP_map]
  refine forL_of (fun p : (Rat × Rat) × Nat => PV.tup [.int (p.2 : Nat), pcPV p.1]) (fun rest ρ => ∃ (k : Nat) (f : Rat) (s7 s8 s9 s10 : Slt), k ≤ r.pieces.length ∧ rest = r.pieces.zipIdx.drop k ∧ sz f ≤ P0 ∧ walkP (r.pieces.drop k) t f = r.pos t ∧
      (∀ (h : k < r.pieces.length), r.pieces[k].1 ≤ t → ∀ t', r.pieces[k].1 ≤ t' → walkP (r.pieces.drop k) t' f = r.pos t') ∧
      ρ = [.val (.obj "Race" R.fs), .val (.str r.name), .val v, .val (rat r.start), .val (.lst (r.pieces.map pcPV)), .val (rat t), .val (rat f), s7, s8, s9, s10]) ?_ ?_ r.pieces.zipIdx _ ⟨0, r.start, _, _, _, _, Nat.zero_le _, rfl, g.st r hr, rfl, fun _ _ _ _ => rfl, rfl⟩
  · rintro x rest ρ ⟨k, f, s7, s8, s9, s10, hk, hd, hf, hw, ha, rfl⟩ N hN
    obtain ⟨hk', rfl, hrest, hdrop⟩ := drop_zip hd
    have ha := ha hk'
    have up2 : (r.pieces.drop k).Pairwise (·.1 < ·.1) := or'.up.sublist (List.drop_sublist _ _)
    obtain ⟨⟨b, s⟩, hp⟩ : ∃ x, r.pieces[k] = x := ⟨_, rfl⟩
    rw [hp] at hdrop ha
    have ha : b ≤ t → ∀ t', b ≤ t' → walkP (r.pieces.drop k) t' f = r.pos t' := ha
    have bp1 : R.At b := by have := ch r.pieces[k] (List.getElem_mem _); rw [hp] at this; exact this
    have bp2 : sz s ≤ P0 := by have := sp r.pieces[k] (List.getElem_mem _); rw [hp] at this; exact this
    have bz := bp1.z
    -- the piece's own end
    have fin : ∀ e : Rat, sz e ≤ P0 → (∀ f', f' = (if b < e then f + s * (e - b) else f) → sz f' ≤ P0 ∧ walkP (r.pieces.drop (k + 1)) t f' = r.pos t ∧
        (∀ (h : k + 1 < r.pieces.length), r.pieces[k + 1].1 ≤ t → ∀ t', r.pieces[k + 1].1 ≤ t' → walkP (r.pieces.drop (k + 1)) t' f' = r.pos t')) → ∀ s8 : Slt,
        Ph_compare [rat b, rat e] fun q => kLtI q (.int 0) fun q => match q with
          | .bl c => match c with
            | true => Ph_minus [rat e, rat b] fun p => Ph_times [rat s, p] fun q => Ph_plus [rat f, q] fun q => N [.val (.obj "Race" R.fs), .val (.str r.name), .val v, .val (rat r.start), .val (.lst (r.pieces.map pcPV)), .val (rat t), .val q, .val (.int (k : Nat)), .val (rat e), .val (rat b), .val (rat s)]
            | false => N [.val (.obj "Race" R.fs), .val (.str r.name), .val v, .val (rat r.start), .val (.lst (r.pieces.map pcPV)), .val (rat t), .val (rat f), .val (.int (k : Nat)), .val (rat e), .val (rat b), .val (rat s)]
          | _ => False := by
      intro e he hwe s8
      obtain ⟨w1, w2, w3⟩ := hwe _ rfl
      refine ⟨_, _, b, e, rfl, .rat b, .rat e, by omega, ?_⟩
      simp only [kI0_int, cmp_lt]
      by_cases hbe : b < e
      · simp only [decide_eq_true hbe]
        rw [if_pos hbe] at w1 w2 w3
        have z1 := sz_sub e b
        have z2 := sz_mul s (e - b)
        exact ⟨_, _, e, b, rfl, .rat e, .rat b, by omega, _, _, s, _, rfl, .rat s, .rat _, by omega, _, _, f, _, rfl, .rat f, .rat _, by omega,
          hN _ ⟨k + 1, _, _, _, _, _, hk', hrest, w1, w2, w3, rfl⟩⟩
      · simp only [decide_eq_false hbe]
        rw [if_neg hbe] at w1 w2 w3
        exact hN _ ⟨k + 1, f, _, _, _, _, hk', hrest, w1, w2, w3, rfl⟩
    have lm : (r.pieces.map pcPV).length = r.pieces.length := List.length_map _
    simp only [pcPV, hp, tb_Race_position_1, pSeq, pNext, pIfS, pRet, pRetN, pAsg, pDrop, pPar, pAug, gNm, gTupP, gConsP, gNilP, pVar, pC, pBin, pChain, pUn, kNeg, pTst, pTru, pAndT, pOrT, pNotT, pAndV, pOrV, pNotV, pIf, pCons, pNil, pTup, pLst, pStar, pCallB, pCall, pMeth, pProp, pFld, pFrz, pIL, pIT, pZip, pEnum, pR1, pR2, pR3, pSlL, pSlT, pPart, pNoPart, pLc, pLc2, pDc, pSortSc, pFor, pNewL, pNewD, pApp, pExt, pDPut, pSetL, pOwnD, pIsN, pNotN, pListVals, pListValsT, pIVals, pIKeys, pIItems, onDic, pIStr, pDGet1, pTsYes, pParL, pParR, pCel, pCelSet, pNewCel, pNeverS, wipeP, List.set_cons_zero, List.set_cons_succ, List.getElem?_cons_zero, List.getElem?_cons_succ, List.length_cons, List.length_nil, kLen_lst, kI0_int, lm]
    refine ⟨by trivial, by trivial, ?_⟩
    by_cases hl : k + 1 < r.pieces.length
    · have c1 : ((k : Nat) : Int) + 1 < (r.pieces.length : Nat) := by omega
      simp only [decide_eq_true c1, pSeq, pNext, pIfS, pRet, pRetN, pAsg, pDrop, pPar, pAug, gNm, gTupP, gConsP, gNilP, pVar, pC, pBin, pChain, pUn, kNeg, pTst, pTru, pAndT, pOrT, pNotT, pAndV, pOrV, pNotV, pIf, pCons, pNil, pTup, pLst, pStar, pCallB, pCall, pMeth, pProp, pFld, pFrz, pIL, pIT, pZip, pEnum, pR1, pR2, pR3, pSlL, pSlT, pPart, pNoPart, pLc, pLc2, pDc, pSortSc, pFor, pNewL, pNewD, pApp, pExt, pDPut, pSetL, pOwnD, pIsN, pNotN, pListVals, pListValsT, pIVals, pIKeys, pIItems, onDic, pIStr, pDGet1, pTsYes, pParL, pParR, pCel, pCelSet, pNewCel, pNeverS, wipeP, List.set_cons_zero, List.set_cons_succ, List.getElem?_cons_zero, List.getElem?_cons_succ, List.length_cons, List.length_nil, kI0_int]
      have a2 : k + 1 < (r.pieces.map pcPV).length := by omega
      obtain ⟨⟨b', s'⟩, hp'⟩ : ∃ x, r.pieces[k + 1] = x := ⟨_, rfl⟩
      have bp1' : R.At b' := by have := ch r.pieces[k + 1] (List.getElem_mem _); rw [hp'] at this; exact this
      have bz' := bp1'.z
      have g1 : ∀ Q : PV → Prop, kIx (.lst (r.pieces.map pcPV)) (.int ((k : Nat) + 1)) Q = Q (.tup [rat b', rat s']) := fun Q => by
        rw [kIx_nat (i := k + 1) (by omega) a2, List.getElem_map, hp']
        rfl
      have hd2 : r.pieces.drop (k + 1) = (b', s') :: r.pieces.drop (k + 2) := by
        rw [← hp']; exact List.drop_eq_getElem_cons hl
      rw [hdrop, hd2] at up2
      obtain ⟨u1, u2⟩ := List.pairwise_cons.mp up2
      have bb : b < b' := u1 (b', s') (List.mem_cons_self ..)
      have aft : ∀ p ∈ r.pieces.drop (k + 1), b' ≤ p.1 := fun p hp => by
        rw [hd2] at hp
        rcases List.mem_cons.mp hp with rfl | hp
        · exact Rat.le_refl
        · exact Rat.le_of_lt ((List.pairwise_cons.mp u2).1 p hp)
      simp only [g1, kIx_2a]
      refine ⟨_, _, b', t, rfl, .rat b', .rat t, by omega, ?_⟩
      rw [hdrop, hd2] at ha
      rw [hdrop, hd2, walk_more, ← hd2] at hw
      simp only [kI0_int, cmp_lt]
      -- up to the next begin
      have nxt : b' ≤ t → ∀ f', f' = (if b < b' then f + s * (b' - b) else f) → sz f' ≤ P0 ∧ walkP (r.pieces.drop (k + 1)) t f' = r.pos t ∧
        (∀ (h : k + 1 < r.pieces.length), r.pieces[k + 1].1 ≤ t → ∀ t', r.pieces[k + 1].1 ≤ t' → walkP (r.pieces.drop (k + 1)) t' f' = r.pos t') := fun hbt f' ef => by
        have all : ∀ t', b' ≤ t' → walkP (r.pieces.drop (k + 1)) t' f' = r.pos t' := fun t' h' => by
          have := ha (by grind) t' (by grind)
          rw [walk_more, ← hd2] at this
          have e1 : (if b' < t' then b' else t') = b' := by split <;> grind
          rw [e1, ← ef] at this
          exact this
        refine ⟨?_, all t hbt, fun _ _ t' h' => all t' (by rw [hp'] at h'; exact h')⟩
        have h2 := all b' Rat.le_refl
        rw [walk_after _ _ _ aft] at h2
        rw [h2]
        exact bp1'.p r hr
      by_cases h1 : b' < t
      · simp only [decide_eq_true h1, g1, kIx_2a]
        exact fin b' (by omega) (nxt (Rat.le_of_lt h1)) .no
      · simp only [decide_eq_false h1]
        by_cases h2 : b' = t
        · subst h2
          exact fin b' (by omega) (nxt Rat.le_refl) .no
        · refine fin t (by omega) (fun f' ef => ?_) .no
          rw [if_neg h1, ← ef] at hw
          refine ⟨?_, hw, fun _ h' => by rw [hp'] at h'; have h' : b' ≤ t := h'; grind⟩
          rw [walk_after _ _ _ fun p hp => by have := aft p hp; grind] at hw
          rw [hw]
          exact at'.p r hr
    · have c1 : ¬ (((k : Nat) : Int) + 1 < (r.pieces.length : Nat)) := by omega
      simp only [decide_eq_false c1]
      have hd2 : r.pieces.drop (k + 1) = [] := List.drop_of_length_le (by omega)
      rw [hdrop, hd2, walk_last] at hw
      refine fin t (by omega) (fun f' ef => ?_) .no
      rw [← ef] at hw
      rw [hd2]
      exact ⟨by rw [hw]; exact at'.p r hr, hw, fun h => absurd h hl⟩
  · rintro ρ ⟨k, f, s7, s8, s9, s10, hk, hd, hf, hw, ha, rfl⟩
    have hkl : k = r.pieces.length := by
      have := congrArg List.length hd
      simp at this
      omega
    subst hkl
    rw [List.drop_length] at hw
    simp only [pSeq, pNext, pIfS, pRet, pRetN, pAsg, pDrop, pPar, pAug, gNm, gTupP, gConsP, gNilP, pVar, pC, pBin, pChain, pUn, kNeg, pTst, pTru, pAndT, pOrT, pNotT, pAndV, pOrV, pNotV, pIf, pCons, pNil, pTup, pLst, pStar, pCallB, pCall, pMeth, pProp, pFld, pFrz, pIL, pIT, pZip, pEnum, pR1, pR2, pR3, pSlL, pSlT, pPart, pNoPart, pLc, pLc2, pDc, pSortSc, pFor, pNewL, pNewD, pApp, pExt, pDPut, pSetL, pOwnD, pIsN, pNotN, pListVals, pListValsT, pIVals, pIKeys, pIItems, onDic, pIStr, pDGet1, pTsYes, pParL, pParR, pCel, pCelSet, pNewCel, pNeverS, wipeP, List.set_cons_zero, List.set_cons_succ, List.getElem?_cons_zero, List.getElem?_cons_succ, List.length_cons, List.length_nil]
    have : f = r.pos t := hw
    rw [this]
    exact hq
end G


/-! ## HA4 -/
/-! Places, speeds, windows, cuts. -/
namespace G
open PySem PySem.Spec PyProof.Rows L2 L3 MR
theorem hp_Race_place : ∀ as Q, Ph_Race_place as Q → as.length = 3 ∧ t_Race_place ⟨fun _ => Q .non, Q, fun _ => False, fun _ => False⟩ (startP N_Race_place as) := by
  rintro as Q ⟨R, r, v, t, rfl, g, hr, hv, a, hq⟩
  refine ⟨rfl, ?_⟩
  simp only [st_Race_place, t_Race_place, RaceM.pv, pSeq, pNext, pIfS, pRet, pRetN, pAsg, pDrop, pPar, pAug, gNm, gTupP, gConsP, gNilP, pVar, pC, pBin, pChain, pUn, kNeg, pTst, pTru, pAndT, pOrT, pNotT, pAndV, pOrV, pNotV, pIf, pCons, pNil, pTup, pLst, pStar, pCallB, pCall, pMeth, pProp, pFld, pFrz, pIL, pIT, pZip, pEnum, pR1, pR2, pR3, pSlL, pSlT, pPart, pNoPart, pLc, pLc2, pDc, pSortSc, pFor, pNewL, pNewD, pApp, pExt, pDPut, pSetL, pOwnD, pIsN, pNotN, pListVals, pListValsT, pIVals, pIKeys, pIItems, onDic, pIStr, pDGet1, pTsYes, pParL, pParR, pCel, pCelSet, pNewCel, pNeverS, wipeP, List.set_cons_zero, List.set_cons_succ, List.getElem?_cons_zero, List.getElem?_cons_succ, List.length_cons, List.length_nil]
  have h1 := a.p r hr
  have h2 := g.len
  have pe := P0_eq
  exact ⟨by trivial, by rfl, R, r, v, t, rfl, g, hr, hv, a, by trivial, R, rfl, _, _, r.pos t, R.len, rfl, .rat _, .rat _, g.ok.len, by omega, hq⟩
theorem len_ne {R : RaceM} (g : R.G) : R.len ≠ 0 := fun e => by have := g.ok.len; rw [e] at this; exact absurd this (by decide)
theorem hp_Race_laps : ∀ as Q, Ph_Race_laps as Q → as.length = 3 ∧ t_Race_laps ⟨fun _ => Q .non, Q, fun _ => False, fun _ => False⟩ (startP N_Race_laps as) := by
  rintro as Q ⟨R, r, v, t, rfl, g, hr, hv, a, hq⟩
  refine ⟨rfl, ?_⟩
  simp only [st_Race_laps, t_Race_laps, RaceM.pv, pSeq, pNext, pIfS, pRet, pRetN, pAsg, pDrop, pPar, pAug, gNm, gTupP, gConsP, gNilP, pVar, pC, pBin, pChain, pUn, kNeg, pTst, pTru, pAndT, pOrT, pNotT, pAndV, pOrV, pNotV, pIf, pCons, pNil, pTup, pLst, pStar, pCallB, pCall, pMeth, pProp, pFld, pFrz, pIL, pIT, pZip, pEnum, pR1, pR2, pR3, pSlL, pSlT, pPart, pNoPart, pLc, pLc2, pDc, pSortSc, pFor, pNewL, pNewD, pApp, pExt, pDPut, pSetL, pOwnD, pIsN, pNotN, pListVals, pListValsT, pIVals, pIKeys, pIItems, onDic, pIStr, pDGet1, pTsYes, pParL, pParR, pCel, pCelSet, pNewCel, pNeverS, wipeP, List.set_cons_zero, List.set_cons_succ, List.getElem?_cons_zero, List.getElem?_cons_succ, List.length_cons, List.length_nil]
  have h1 := a.p r hr
  have h2 := g.len
  have pe := P0_eq
  have h4 := sz_div (r.pos t) (len_ne g)
  exact ⟨by trivial, by rfl, R, r, v, t, rfl, g, hr, hv, a, by trivial, R, rfl, _, _, r.pos t, R.len, rfl, .rat _, .rat _, len_ne g, by omega, _, _, rfl, .rat _, by omega, hq⟩
theorem hp_as_window : ∀ as Q, Ph_as_window as Q → as.length = 2 ∧ t_as_window ⟨fun _ => Q .non, Q, fun _ => False, fun _ => False⟩ (startP N_as_window as) := by
  rintro as Q ⟨v, w, a, b, rfl, hv, hw, a0, ab, za, zb, hq⟩
  refine ⟨rfl, ?_⟩
  have pe := P0_eq
  simp only [st_as_window, t_as_window, pSeq, pNext, pIfS, pRet, pRetN, pAsg, pDrop, pPar, pAug, gNm, gTupP, gConsP, gNilP, pVar, pC, pBin, pChain, pUn, kNeg, pTst, pTru, pAndT, pOrT, pNotT, pAndV, pOrV, pNotV, pIf, pCons, pNil, pTup, pLst, pStar, pCallB, pCall, pMeth, pProp, pFld, pFrz, pIL, pIT, pZip, pEnum, pR1, pR2, pR3, pSlL, pSlT, pPart, pNoPart, pLc, pLc2, pDc, pSortSc, pFor, pNewL, pNewD, pApp, pExt, pDPut, pSetL, pOwnD, pIsN, pNotN, pListVals, pListValsT, pIVals, pIKeys, pIItems, onDic, pIStr, pDGet1, pTsYes, pParL, pParR, pCel, pCelSet, pNewCel, pNeverS, wipeP, List.set_cons_zero, List.set_cons_succ, List.getElem?_cons_zero, List.getElem?_cons_succ, List.length_cons, List.length_nil]
  refine ⟨v, a, rfl, hv, a0, by omega, w, b, rfl, hw, by grind, by omega, ?_⟩
  refine ⟨_, _, a, b, rfl, .rat a, .rat b, by omega, ?_⟩
  have : ¬ b < a := by grind
  simp only [kI0_int, cmp_gt, decide_eq_false this]
  exact ⟨size_le (by decide), hq⟩
/-- the last of the pieces that have begun -/
def begun (ps : List (Rat × Rat)) (t : Rat) : List (Rat × Rat) := ps.filter fun p => decide (p.1 ≤ t)
theorem speed_last : ∀ (ps : List (Rat × Rat)) (t d : Rat), speedP ps t d = ((begun ps t).getLast?.map (·.2)).getD d
  | [], t, d => rfl
  | (b, s) :: r, t, d => by
    unfold speedP begun
    rw [speed_last r t]
    by_cases h : b ≤ t
    · rw [List.filter_cons_of_pos (by simpa using h), if_pos h]
      unfold begun
      cases hr : r.filter fun p => decide (p.1 ≤ t) with
      | nil => rfl
      | cons x y => rw [List.getLast?_cons_cons]; cases hy : (x :: y).getLast? with
        | none => simp at hy
        | some z => rfl
    · rw [List.filter_cons_of_neg (by simpa using h), if_neg h]
      rfl
theorem hp_Race_speed : ∀ as Q, Ph_Race_speed as Q → as.length = 3 ∧ t_Race_speed ⟨fun _ => Q .non, Q, fun _ => False, fun _ => False⟩ (startP N_Race_speed as) := by
  rintro as Q ⟨R, r, v, t, rfl, g, hr, hv, t0, hz, hq⟩
  refine ⟨rfl, ?_⟩
  simp only [st_Race_speed, t_Race_speed, RaceM.pv, pSeq, pNext, pIfS, pRet, pRetN, pAsg, pDrop, pPar, pAug, gNm, gTupP, gConsP, gNilP, pVar, pC, pBin, pChain, pUn, kNeg, pTst, pTru, pAndT, pOrT, pNotT, pAndV, pOrV, pNotV, pIf, pCons, pNil, pTup, pLst, pStar, pCallB, pCall, pMeth, pProp, pFld, pFrz, pIL, pIT, pZip, pEnum, pR1, pR2, pR3, pSlL, pSlT, pPart, pNoPart, pLc, pLc2, pDc, pSortSc, pFor, pNewL, pNewD, pApp, pExt, pDPut, pSetL, pOwnD, pIsN, pNotN, pListVals, pListValsT, pIVals, pIKeys, pIItems, onDic, pIStr, pDGet1, pTsYes, pParL, pParR, pCel, pCelSet, pNewCel, pNeverS, wipeP, List.set_cons_zero, List.set_cons_succ, List.getElem?_cons_zero, List.getElem?_cons_succ, List.length_cons, List.length_nil]
  have ok := g.ok
  have or' := ok.rn r hr
  have pe := P0_eq
  have h20 := or'.hi
  refine ⟨by trivial, by rfl, R, r, rfl, ok, hr, v, t, rfl, hv, t0, by omega, ?_⟩
  refine lcL_of pcPV (fun x => if x.1 ≤ t then some (rat x.2) else none) r.pieces [] (fun x hx T F h => ?_) (by simp; exact size_le (by omega)) ?_
  · have bx := (g.ch r hr x hx).z
    simp only [pcPV, tt_Race_speed_1, te_Race_speed_2, pSeq, pNext, pIfS, pRet, pRetN, pAsg, pDrop, pPar, pAug, gNm, gTupP, gConsP, gNilP, pVar, pC, pBin, pChain, pUn, kNeg, pTst, pTru, pAndT, pOrT, pNotT, pAndV, pOrV, pNotV, pIf, pCons, pNil, pTup, pLst, pStar, pCallB, pCall, pMeth, pProp, pFld, pFrz, pIL, pIT, pZip, pEnum, pR1, pR2, pR3, pSlL, pSlT, pPart, pNoPart, pLc, pLc2, pDc, pSortSc, pFor, pNewL, pNewD, pApp, pExt, pDPut, pSetL, pOwnD, pIsN, pNotN, pListVals, pListValsT, pIVals, pIKeys, pIItems, onDic, pIStr, pDGet1, pTsYes, pParL, pParR, pCel, pCelSet, pNewCel, pNeverS, wipeP, List.set_cons_zero, List.set_cons_succ, List.getElem?_cons_zero, List.getElem?_cons_succ, List.length_cons, List.length_nil]
    refine ⟨by trivial, _, _, x.1, t, rfl, .rat _, .rat _, by omega, ?_⟩
    simp only [kI0_int, cmp_le]
    by_cases hb : x.1 ≤ t
    · rw [if_pos hb] at h
      rw [decide_eq_true hb]
      exact h
    · rw [if_neg hb] at h
      rw [decide_eq_false hb]
      exact h
  · have e : r.pieces.filterMap (fun x => if x.1 ≤ t then some (rat x.2) else none) = (begun r.pieces t).map fun x => rat x.2 := by
      unfold begun
      induction r.pieces with
      | nil => rfl
      | cons x l ih =>
        by_cases hb : x.1 ≤ t
        · rw [List.filterMap_cons, if_pos hb, List.filter_cons_of_pos (by simpa using hb), ih]; rfl
        · rw [List.filterMap_cons, if_neg hb, List.filter_cons_of_neg (by simpa using hb), ih]
    rw [List.nil_append, e]
    have hs := speed_last r.pieces t 0
    obtain ⟨x0, q0, e0, z0⟩ := or'.hd
    have ne : begun r.pieces t ≠ [] := by
      unfold begun
      rw [e0, List.filter_cons_of_pos (by rw [z0]; simpa using t0)]
      exact fun z => nomatch z
    generalize begun r.pieces t = L at *
    have hl : 0 < L.length := List.length_pos_iff.mpr ne
    have g : L.getLast? = some L[L.length - 1] := by
      rw [List.getLast?_eq_getElem?, List.getElem?_eq_getElem (by omega)]
    rw [g] at hs
    have at1 : atI (L.map fun x => rat x.2) (-1) = some (rat L[L.length - 1].2) := by
      unfold atI ixN
      have hi : -(((L.map fun x => rat x.2).length : Nat) : Int) ≤ -1 := by simp; omega
      rw [if_neg (by decide), if_pos hi]
      have e3 : (-1 + (((L.map fun x => rat x.2).length : Nat) : Int)).toNat = L.length - 1 := by simp; omega
      simp only [Option.bind_some, e3]
      rw [List.getElem?_map, List.getElem?_eq_getElem (by omega)]
      rfl
    simp only [kIx, at1]
    have hs' : L[L.length - 1].2 = r.speed t := hs.symm
    rw [hs']
    exact hq
/-- in_order of a short list -/
theorem prod_den : ∀ L : List (PV × Rat), ∃ C : Nat, 0 < C ∧ (∀ x ∈ L, x.2.den ∣ C) ∧ C < 2 ^ ((L.map fun x => sz x.2).sum + 1)
  | [] => ⟨1, by decide, by simp, by simp⟩
  | a :: L => by
    obtain ⟨C, h1, h2, h3⟩ := prod_den L
    refine ⟨a.2.den * C, Nat.mul_pos a.2.den_pos h1, fun x hx => ?_, ?_⟩
    · rcases List.mem_cons.mp hx with rfl | hx
      · exact Nat.dvd_mul_right _ _
      · exact Nat.dvd_trans (h2 x hx) (Nat.dvd_mul_left _ _)
    · rw [List.map_cons, List.sum_cons, Nat.add_assoc]
      exact lt_mul (den_lt a.2) h3
theorem sum_mem {L : List (PV × Rat)} {x : PV × Rat} (h : x ∈ L) : sz x.2 ≤ (L.map fun x => sz x.2).sum := by
  induction L with
  | nil => cases h
  | cons a L ih =>
    rw [List.map_cons, List.sum_cons]
    rcases List.mem_cons.mp h with rfl | h
    · omega
    · have := ih h
      omega
theorem sum_len : ∀ L : List (PV × Rat), L.length ≤ (L.map fun x => sz x.2).sum
  | [] => by simp
  | a :: L => by
    have := sum_len L
    have := sz_pos a.2
    rw [List.map_cons, List.sum_cons, List.length_cons]
    omega
theorem sz_bits {q : Rat} : bits q.den ≤ sz q := Nat.le_max_right _ _
theorem bits_mul {m n : Nat} : bits (m * n) ≤ bits m + bits n := by
  rw [bits_le (by have := bits_pos m; omega)]
  exact lt_mul (lt_bits m) (lt_bits n)
theorem bits_mono {m n : Nat} (h : m ≤ n) : bits m ≤ bits n := by
  rw [bits_le (bits_pos n)]
  have := lt_bits n
  omega
theorem in_order_ofC {L : List (PV × Rat)} {C : Nat} {Q : PV → Prop} (hn : ∀ x ∈ L, NumP x.1 x.2) (c0 : 0 < C) (cb : bits C ≤ 7300) (hd : ∀ x ∈ L, x.2.den ∣ C ∧ sz x.2 ≤ P0) (hl : L.length < 4000)
    (hq : Q (.lst ((riseL (L.map (·.2))).map rat))) : Ph_in_order [.lst (L.map (·.1))] Q :=
  ⟨L, C, rfl, hn, c0, fun x hx => ⟨(hd x hx).1, by have := (hd x hx).2; have := P0_eq; omega⟩, hl, by omega, fun rs h1 h2 => by rw [rise_eq h1 h2]; exact hq⟩
theorem in_order_of {L : List (PV × Rat)} {Q : PV → Prop} (hn : ∀ x ∈ L, NumP x.1 x.2) (hs : 2 * (L.map fun x => sz x.2).sum ≤ 7900)
    (hq : Q (.lst ((riseL (L.map (·.2))).map rat))) : Ph_in_order [.lst (L.map (·.1))] Q := by
  obtain ⟨C, h1, h2, h3⟩ := prod_den L
  have hb : bits C ≤ (L.map fun x => sz x.2).sum + 1 := (bits_le (Nat.succ_pos _)).mpr h3
  have hl := sum_len L
  exact ⟨L, C, rfl, hn, h1, fun x hx => ⟨h2 x hx, by have := sum_mem hx; omega⟩, by omega, by omega, fun rs h1 h2 => by rw [rise_eq h1 h2]; exact hq⟩
theorem sum_le {α : Type} (f : α → Nat) (c : Nat) : ∀ (L : List α), (∀ x ∈ L, f x ≤ c) → (L.map f).sum ≤ L.length * c
  | [], _ => by simp
  | a :: L, h => by
    have h1 := h a (List.mem_cons_self ..)
    have h2 := sum_le f c L fun x hx => h x (List.mem_cons_of_mem _ hx)
    rw [List.map_cons, List.sum_cons, List.length_cons, Nat.add_mul, Nat.one_mul]
    omega
theorem flat_len {α β : Type} (f : α → List β) (c : Nat) : ∀ (L : List α), (∀ x ∈ L, (f x).length ≤ c) → (L.flatMap f).length ≤ L.length * c
  | [], _ => by simp
  | a :: L, h => by
    have h1 := h a (List.mem_cons_self ..)
    have h2 := flat_len f c L fun x hx => h x (List.mem_cons_of_mem _ hx)
    rw [List.flatMap_cons, List.length_append, List.length_cons, Nat.add_mul, Nat.one_mul]
    omega
theorem fm_filter {α β : Type} (p : α → Prop) [DecidablePred p] (g : α → β) : ∀ l : List α, l.filterMap (fun x => if p x then some (g x) else none) = (l.filter fun x => decide (p x)).map g
  | [] => rfl
  | x :: l => by
    by_cases hb : p x
    · rw [List.filterMap_cons, if_pos hb, List.filter_cons_of_pos (by simpa using hb), fm_filter p g l]; rfl
    · rw [List.filterMap_cons, if_neg hb, List.filter_cons_of_neg (by simpa using hb), fm_filter p g l]
theorem cut_drop1 (l : List PV) : cutP l (some 1) none = l.drop 1 := by
  cases l with
  | nil => rfl
  | cons p r =>
    have e1 : HT.sIx (p :: r).length 0 (some 1) = 1 := by
      unfold HT.sIx
      simp
    have e2 : HT.sIx (p :: r).length (p :: r).length none = (p :: r).length := rfl
    unfold cutP
    rw [e1, e2]
    exact List.take_of_length_le (by simp)
theorem chs_mem {os : List Rn} {t : Rat} : t ∈ chs os ↔ ∃ r ∈ os, ∃ p ∈ r.pieces, t = p.1 := by
  unfold chs
  rw [List.mem_flatMap]
  constructor
  · rintro ⟨r, hr, hx⟩
    obtain ⟨p, hp, rfl⟩ := List.mem_map.mp hx
    exact ⟨r, hr, p, hp, rfl⟩
  · rintro ⟨r, hr, p, hp, rfl⟩
    exact ⟨r, hr, List.mem_map.mpr ⟨p, hp, rfl⟩⟩
theorem chs_len {R : RaceM} (ok : R.Ok) {ns : List Rn} (hns : ∀ r ∈ ns, r ∈ R.rs) : (chs ns).length ≤ ns.length * 20 := flat_len _ 20 ns fun r hr => by rw [List.length_map]; exact (ok.rn r (hns r hr)).hi
theorem hp_cut_times : ∀ as Q, Ph_cut_times as Q → as.length = 4 ∧ t_cut_times ⟨fun _ => Q .non, Q, fun _ => False, fun _ => False⟩ (startP N_cut_times as) := by
  rintro as Q ⟨R, ns, a, b, rfl, g, hns, h12, za, zb, hq⟩
  refine ⟨rfl, ?_⟩
  have ok := g.ok
  have pe := P0_eq
  simp only [st_cut_times, t_cut_times, RaceM.pv, pSeq, pNext, pIfS, pRet, pRetN, pAsg, pDrop, pPar, pAug, gNm, gTupP, gConsP, gNilP, pVar, pC, pBin, pChain, pUn, kNeg, pTst, pTru, pAndT, pOrT, pNotT, pAndV, pOrV, pNotV, pIf, pCons, pNil, pTup, pLst, pStar, pCallB, pCall, pMeth, pProp, pFld, pFrz, pIL, pIT, pZip, pEnum, pR1, pR2, pR3, pSlL, pSlT, pPart, pNoPart, pLc, pLc2, pDc, pSortSc, pFor, pNewL, pNewD, pApp, pExt, pDPut, pSetL, pOwnD, pIsN, pNotN, pListVals, pListValsT, pIVals, pIKeys, pIItems, onDic, pIStr, pDGet1, pTsYes, pParL, pParR, pCel, pCelSet, pNewCel, pNeverS, wipeP, List.set_cons_zero, List.set_cons_succ, List.getElem?_cons_zero, List.getElem?_cons_succ, List.length_cons, List.length_nil]
  have lens := chs_len ok hns
  have szs : ∀ x ∈ chs ns, sz x ≤ P0 := fun x hx => by
    obtain ⟨r, hr, p, hp, rfl⟩ := chs_mem.mp hx
    exact (g.ch r (hns r hr) p hp).z
  have efl : (ns.flatMap fun r => r.pieces.map fun p => rat p.1) = (chs ns).map rat := by
    unfold chs
    rw [List.map_flatMap]
    congr 1
    funext r
    rw [List.map_map]; rfl
  refine lc2L_of (fun r : Rn => PV.str r.name) (fun r => r.pieces.map fun p => rat p.1) ns [] (fun r hr R' acc hl h => ?_) (by rw [efl, List.length_nil, List.length_map]; exact size_le (by omega)) ?_
  · simp only [ti_cut_times_1, pSeq, pNext, pIfS, pRet, pRetN, pAsg, pDrop, pPar, pAug, gNm, gTupP, gConsP, gNilP, pVar, pC, pBin, pChain, pUn, kNeg, pTst, pTru, pAndT, pOrT, pNotT, pAndV, pOrV, pNotV, pIf, pCons, pNil, pTup, pLst, pStar, pCallB, pCall, pMeth, pProp, pFld, pFrz, pIL, pIT, pZip, pEnum, pR1, pR2, pR3, pSlL, pSlT, pPart, pNoPart, pLc, pLc2, pDc, pSortSc, pFor, pNewL, pNewD, pApp, pExt, pDPut, pSetL, pOwnD, pIsN, pNotN, pListVals, pListValsT, pIVals, pIKeys, pIItems, onDic, pIStr, pDGet1, pTsYes, pParL, pParR, pCel, pCelSet, pNewCel, pNeverS, wipeP, List.set_cons_zero, List.set_cons_succ, List.getElem?_cons_zero, List.getElem?_cons_succ, List.length_cons, List.length_nil]
    refine ⟨by trivial, by rfl, R, r, rfl, ok, hns r hr, ?_⟩
    refine lcL_of pcPV (fun p => some (rat p.1)) r.pieces acc (fun p hp T F h => ?_) (by simpa using hl) (by rw [List.filterMap_eq_map']; exact h)
    simp only [te_cut_times_2, pcPV, pSeq, pNext, pIfS, pRet, pRetN, pAsg, pDrop, pPar, pAug, gNm, gTupP, gConsP, gNilP, pVar, pC, pBin, pChain, pUn, kNeg, pTst, pTru, pAndT, pOrT, pNotT, pAndV, pOrV, pNotV, pIf, pCons, pNil, pTup, pLst, pStar, pCallB, pCall, pMeth, pProp, pFld, pFrz, pIL, pIT, pZip, pEnum, pR1, pR2, pR3, pSlL, pSlT, pPart, pNoPart, pLc, pLc2, pDc, pSortSc, pFor, pNewL, pNewD, pApp, pExt, pDPut, pSetL, pOwnD, pIsN, pNotN, pListVals, pListValsT, pIVals, pIKeys, pIItems, onDic, pIStr, pDGet1, pTsYes, pParL, pParR, pCel, pCelSet, pNewCel, pNeverS, wipeP, List.set_cons_zero, List.set_cons_succ, List.getElem?_cons_zero, List.getElem?_cons_succ, List.length_cons, List.length_nil]
    exact ⟨by trivial, h⟩
  · rw [List.nil_append, efl]
    have cdx : ∃ C : Nat, 0 < C ∧ bits C ≤ 2000 ∧ ∀ x ∈ chs ns, x.den ∣ C := by
      obtain ⟨C, c0, c1, c2⟩ := g.cd
      exact ⟨C, c0, c1, fun x hx => by
        obtain ⟨r, hr, p, hp, rfl⟩ := chs_mem.mp hx
        exact c2 r (hns r hr) p hp⟩
    unfold cutR at hq
    generalize chs ns = xs at *
    refine lcL_of rat (fun x => if a < x ∧ x < b then some (rat x) else none) xs [] (fun x hx T F h => ?_) (by simp; exact size_le (by omega)) ?_
    · have zx := szs x hx
      simp only [tt_cut_times_3, te_cut_times_4, pSeq, pNext, pIfS, pRet, pRetN, pAsg, pDrop, pPar, pAug, gNm, gTupP, gConsP, gNilP, pVar, pC, pBin, pChain, pUn, kNeg, pTst, pTru, pAndT, pOrT, pNotT, pAndV, pOrV, pNotV, pIf, pCons, pNil, pTup, pLst, pStar, pCallB, pCall, pMeth, pProp, pFld, pFrz, pIL, pIT, pZip, pEnum, pR1, pR2, pR3, pSlL, pSlT, pPart, pNoPart, pLc, pLc2, pDc, pSortSc, pFor, pNewL, pNewD, pApp, pExt, pDPut, pSetL, pOwnD, pIsN, pNotN, pListVals, pListValsT, pIVals, pIKeys, pIItems, onDic, pIStr, pDGet1, pTsYes, pParL, pParR, pCel, pCelSet, pNewCel, pNeverS, wipeP, List.set_cons_zero, List.set_cons_succ, List.getElem?_cons_zero, List.getElem?_cons_succ, List.length_cons, List.length_nil]
      refine ⟨_, _, a, x, rfl, .rat _, .rat _, by omega, ?_⟩
      simp only [kI0_int, cmp_lt]
      by_cases h1 : a < x
      · simp only [decide_eq_true h1]
        refine ⟨_, _, x, b, rfl, .rat _, .rat _, by omega, ?_⟩
        simp only [kI0_int, cmp_lt]
        by_cases h2 : x < b
        · rw [decide_eq_true h2]
          rw [if_pos ⟨h1, h2⟩] at h
          exact h
        · rw [decide_eq_false h2]
          rw [if_neg (fun z => h2 z.2)] at h
          exact h
      · rw [decide_eq_false h1]
        rw [if_neg (fun z => h1 z.1)] at h
        exact h
    · have efm : xs.filterMap (fun x => if a < x ∧ x < b then some (rat x) else none) = (xs.filter fun x => decide (a < x ∧ x < b)).map rat := by
        exact fm_filter _ _ _
      rw [List.nil_append, efm]
      have lys : (xs.filter fun x => decide (a < x ∧ x < b)).length ≤ xs.length := List.length_filter_le _ _
      have iny : ∀ x ∈ xs.filter fun x => decide (a < x ∧ x < b), x ∈ xs := fun x hx => (List.mem_filter.mp hx).1
      generalize hys : (xs.filter fun x => decide (a < x ∧ x < b)) = ys at *
      have eL : (rat a :: (ys.map rat ++ [rat b])) = (((a :: (ys ++ [b])).map fun x => (rat x, x)).map (·.1)) := by simp
      refine ⟨size_le (by simp; omega), ?_⟩
      rw [eL]
      obtain ⟨C, c0, c1, c2⟩ := cdx
      have m1 : bits (a.den * b.den * C) ≤ 3300 := by
        have h1 := bits_mul (m := a.den * b.den) (n := C)
        have h2 := bits_mul (m := a.den) (n := b.den)
        have h3 := sz_bits (q := a)
        have h4 := sz_bits (q := b)
        omega
      refine in_order_ofC (C := a.den * b.den * C) (fun x hx => ?_) (Nat.mul_pos (Nat.mul_pos a.den_pos b.den_pos) c0) (by omega) (fun x hx => ?_) (by simp; omega) ?_
      · obtain ⟨y, _, rfl⟩ := List.mem_map.mp hx
        exact .rat y
      · obtain ⟨y, hy, rfl⟩ := List.mem_map.mp hx
        show y.den ∣ _ ∧ sz y ≤ P0
        rcases List.mem_cons.mp hy with rfl | hy
        · exact ⟨Nat.dvd_mul_right_of_dvd (Nat.dvd_mul_right _ _) _, za⟩
        · rcases List.mem_append.mp hy with hy | hy
          · exact ⟨Nat.dvd_mul_left_of_dvd (c2 y (iny y hy)) _, szs y (iny y hy)⟩
          · rw [List.mem_singleton] at hy
            subst hy
            exact ⟨Nat.dvd_mul_right_of_dvd (Nat.dvd_mul_left _ _) _, zb⟩
      · have e : riseL (((a :: (ys ++ [b])).map fun x => (rat x, x)).map (·.2)) = riseL (a :: b :: ys) := by
          refine rise_eq (riseL_pw _) fun x => ?_
          rw [riseL_mem, List.map_map]
          have : ((a :: (ys ++ [b])).map ((fun x : PV × Rat => x.2) ∘ fun x => (rat x, x))) = a :: (ys ++ [b]) := List.map_id _
          rw [this]
          simp only [List.mem_cons, List.mem_append, List.not_mem_nil, or_false]
          constructor
          · rintro (h | h | h)
            · exact .inl h
            · exact .inr (.inr h)
            · exact .inr (.inl h)
          · rintro (h | h | h)
            · exact .inl h
            · exact .inr (.inr h)
            · exact .inr (.inl h)
        rw [e]
        exact hq
theorem pieces_tail {r : Rn} (ok : r.Ok) : ∀ x, (x ∈ (r.pieces.drop 1).map (·.1)) ↔ (x ∈ r.pieces.map (·.1) ∧ 0 < x) := by
  obtain ⟨p, q, e, z⟩ := ok.hd
  have up := ok.up
  rw [e] at up ⊢
  intro x
  show x ∈ q.map (·.1) ↔ _
  rw [List.map_cons, List.mem_cons]
  have h1 := (List.pairwise_cons.mp up).1
  constructor
  · intro h
    obtain ⟨y, hy, rfl⟩ := List.mem_map.mp h
    have := h1 y hy
    exact ⟨.inr h, by rw [z] at this; exact this⟩
  · rintro ⟨h | h, h0⟩
    · rw [h, z] at h0; exact absurd h0 (by decide)
    · exact h
theorem hp_Race_change_times : ∀ as Q, Ph_Race_change_times as Q → as.length = 1 ∧ t_Race_change_times ⟨fun _ => Q .non, Q, fun _ => False, fun _ => False⟩ (startP N_Race_change_times as) := by
  rintro as Q ⟨R, rfl, g, hq⟩
  refine ⟨rfl, ?_⟩
  have ok := g.ok
  have pe := P0_eq
  have hi := ok.hi
  simp only [st_Race_change_times, t_Race_change_times, RaceM.pv, pSeq, pNext, pIfS, pRet, pRetN, pAsg, pDrop, pPar, pAug, gNm, gTupP, gConsP, gNilP, pVar, pC, pBin, pChain, pUn, kNeg, pTst, pTru, pAndT, pOrT, pNotT, pAndV, pOrV, pNotV, pIf, pCons, pNil, pTup, pLst, pStar, pCallB, pCall, pMeth, pProp, pFld, pFrz, pIL, pIT, pZip, pEnum, pR1, pR2, pR3, pSlL, pSlT, pPart, pNoPart, pLc, pLc2, pDc, pSortSc, pFor, pNewL, pNewD, pApp, pExt, pDPut, pSetL, pOwnD, pIsN, pNotN, pListVals, pListValsT, pIVals, pIKeys, pIItems, onDic, pIStr, pDGet1, pTsYes, pParL, pParR, pCel, pCelSet, pNewCel, pNeverS, wipeP, List.set_cons_zero, List.set_cons_succ, List.getElem?_cons_zero, List.getElem?_cons_succ, List.length_cons, List.length_nil]
  refine ⟨by trivial, by rfl, R, rfl, ?_⟩
  generalize hxs : (R.rs.flatMap fun r => (r.pieces.drop 1).map (·.1)) = xs
  have efl : (R.rs.flatMap fun r => (r.pieces.drop 1).map fun p => rat p.1) = xs.map rat := by
    rw [← hxs, List.map_flatMap]
    congr 1
    funext r
    rw [List.map_map]; rfl
  have lens : xs.length ≤ R.rs.length * 20 := by
    rw [← hxs]
    refine flat_len _ 20 R.rs fun r hr => ?_
    rw [List.length_map, List.length_drop]
    have := (ok.rn r hr).hi
    omega
  have inx : ∀ x, x ∈ xs ↔ x ∈ (chs R.rs).filter fun t => decide (0 < t) := fun x => by
    rw [← hxs, List.mem_filter, List.mem_flatMap, chs_mem]
    simp only [decide_eq_true_eq]
    constructor
    · rintro ⟨r, hr, h⟩
      obtain ⟨h1, h2⟩ := (pieces_tail (ok.rn r hr) x).mp h
      obtain ⟨p, hp, rfl⟩ := List.mem_map.mp h1
      exact ⟨⟨r, hr, p, hp, rfl⟩, h2⟩
    · rintro ⟨⟨r, hr, p, hp, rfl⟩, h⟩
      exact ⟨r, hr, (pieces_tail (ok.rn r hr) _).mpr ⟨List.mem_map.mpr ⟨p, hp, rfl⟩, h⟩⟩
  refine lc2L_of (fun r : Rn => PV.str r.name) (fun r => (r.pieces.drop 1).map fun p => rat p.1) R.rs [] (fun r hr R' acc hl h => ?_) (by rw [efl, List.length_nil, List.length_map]; exact size_le (by omega)) ?_
  · simp only [ti_Race_change_times_1, pSeq, pNext, pIfS, pRet, pRetN, pAsg, pDrop, pPar, pAug, gNm, gTupP, gConsP, gNilP, pVar, pC, pBin, pChain, pUn, kNeg, pTst, pTru, pAndT, pOrT, pNotT, pAndV, pOrV, pNotV, pIf, pCons, pNil, pTup, pLst, pStar, pCallB, pCall, pMeth, pProp, pFld, pFrz, pIL, pIT, pZip, pEnum, pR1, pR2, pR3, pSlL, pSlT, pPart, pNoPart, pLc, pLc2, pDc, pSortSc, pFor, pNewL, pNewD, pApp, pExt, pDPut, pSetL, pOwnD, pIsN, pNotN, pListVals, pListValsT, pIVals, pIKeys, pIItems, onDic, pIStr, pDGet1, pTsYes, pParL, pParR, pCel, pCelSet, pNewCel, pNeverS, wipeP, List.set_cons_zero, List.set_cons_succ, List.getElem?_cons_zero, List.getElem?_cons_succ, List.length_cons, List.length_nil]
    refine ⟨by trivial, by rfl, R, r, rfl, ok, hr, ?_⟩
    dsimp only
    rw [cut_drop1, ← List.map_drop]
    refine lcL_of pcPV (fun p => some (rat p.1)) (r.pieces.drop 1) acc (fun p hp T F h => ?_) (by simpa using hl) (by rw [List.filterMap_eq_map']; exact h)
    simp only [te_Race_change_times_2, pcPV, pSeq, pNext, pIfS, pRet, pRetN, pAsg, pDrop, pPar, pAug, gNm, gTupP, gConsP, gNilP, pVar, pC, pBin, pChain, pUn, kNeg, pTst, pTru, pAndT, pOrT, pNotT, pAndV, pOrV, pNotV, pIf, pCons, pNil, pTup, pLst, pStar, pCallB, pCall, pMeth, pProp, pFld, pFrz, pIL, pIT, pZip, pEnum, pR1, pR2, pR3, pSlL, pSlT, pPart, pNoPart, pLc, pLc2, pDc, pSortSc, pFor, pNewL, pNewD, pApp, pExt, pDPut, pSetL, pOwnD, pIsN, pNotN, pListVals, pListValsT, pIVals, pIKeys, pIItems, onDic, pIStr, pDGet1, pTsYes, pParL, pParR, pCel, pCelSet, pNewCel, pNeverS, wipeP, List.set_cons_zero, List.set_cons_succ, List.getElem?_cons_zero, List.getElem?_cons_succ, List.length_cons, List.length_nil]
    exact ⟨by trivial, h⟩
  · rw [List.nil_append, efl]
    have eL : xs.map rat = ((xs.map fun x => (rat x, x)).map (·.1)) := by rw [List.map_map]; rfl
    rw [eL]
    obtain ⟨C, c0, c1, c2⟩ := g.cd
    refine in_order_ofC (C := C) (fun x hx => ?_) c0 (by omega) (fun x hx => ?_) (by simp; omega) ?_
    · obtain ⟨y, _, rfl⟩ := List.mem_map.mp hx
      exact .rat y
    · obtain ⟨y, hy, rfl⟩ := List.mem_map.mp hx
      obtain ⟨r, hr, p, hp, e⟩ := chs_mem.mp (List.mem_filter.mp ((inx y).mp hy)).1
      subst e
      exact ⟨c2 r hr p hp, (g.ch r hr p hp).z⟩
    · have e : riseL ((xs.map fun x => (rat x, x)).map (·.2)) = riseL ((chs R.rs).filter fun t => decide (0 < t)) := by
        refine rise_eq (riseL_pw _) fun x => ?_
        rw [riseL_mem, List.map_map]
        have : (xs.map ((fun x : PV × Rat => x.2) ∘ fun x => (rat x, x))) = xs := List.map_id _
        rw [this, inx]
      rw [e]
      exact hq
end G


/-! ## MB -/
/-! Plain: the extended divisor of two whole numbers, of a list. -/
namespace MB
open MR
/-- the loop -/
def extW (r0 s0 t0 r1 s1 t1 : Int) : Int × Int × Int :=
  if h : r1 = 0 then (r0, s0, t0) else extW r1 s1 t1 (r0 - r0.fdiv r1 * r1) (s0 - r0.fdiv r1 * s1) (t0 - r0.fdiv r1 * t1)
termination_by r1.natAbs
decreasing_by
  have e : r0 - r0.fdiv r1 * r1 = r0.fmod r1 := by have := Int.mul_fdiv_add_fmod r0 r1; rw [Int.mul_comm] at this; omega
  rw [e]; exact fmod_lt r0 h
theorem mod_eq (x y : Int) : x - x.fdiv y * y = x.fmod y := by have := Int.mul_fdiv_add_fmod x y; rw [Int.mul_comm] at this; omega
theorem extW_zero (r0 s0 t0 s1 t1 : Int) : extW r0 s0 t0 0 s1 t1 = (r0, s0, t0) := by rw [extW]; simp
theorem extW_step {r0 s0 t0 r1 s1 t1 : Int} (h : r1 ≠ 0) : extW r0 s0 t0 r1 s1 t1 = extW r1 s1 t1 (r0 - r0.fdiv r1 * r1) (s0 - r0.fdiv r1 * s1) (t0 - r0.fdiv r1 * t1) := by
  rw [extW]; simp [h]
/-- what holds of two rows and is kept by a difference of multiples holds at the end -/
theorem extW_ind {P : Int → Int → Int → Prop} (step : ∀ r0 s0 t0 r1 s1 t1 q, P r0 s0 t0 → P r1 s1 t1 → P (r0 - q * r1) (s0 - q * s1) (t0 - q * t1)) :
    ∀ (n : Nat) (r0 s0 t0 r1 s1 t1 : Int), r1.natAbs ≤ n → P r0 s0 t0 → P r1 s1 t1 → P (extW r0 s0 t0 r1 s1 t1).1 (extW r0 s0 t0 r1 s1 t1).2.1 (extW r0 s0 t0 r1 s1 t1).2.2
  | n, r0, s0, t0, r1, s1, t1, hn, h0, h1 => by
    by_cases h : r1 = 0
    · subst h; rw [extW_zero]; exact h0
    · rw [extW_step h]
      have lt := fmod_lt r0 h
      rw [← mod_eq] at lt
      cases n with
      | zero => omega
      | succ n => exact extW_ind step n _ _ _ _ _ _ (by omega) h1 (step _ _ _ _ _ _ _ h0 h1)
theorem gcd_mod (a b : Int) : Int.gcd b (a - a.fdiv b * b) = Int.gcd a b := by
  rw [Int.gcd_comm a b, Int.gcd_sub_mul_right_right b a (a.fdiv b)]
theorem extW_gcd : ∀ (n : Nat) (r0 s0 t0 r1 s1 t1 : Int), r1.natAbs ≤ n → (extW r0 s0 t0 r1 s1 t1).1.natAbs = Int.gcd r0 r1
  | n, r0, s0, t0, r1, s1, t1, hn => by
    by_cases h : r1 = 0
    · subst h; rw [extW_zero, Int.gcd_zero_right]
    · rw [extW_step h]
      have lt := fmod_lt r0 h
      rw [← mod_eq] at lt
      cases n with
      | zero => omega
      | succ n => rw [extW_gcd n _ _ _ _ _ _ (by omega), gcd_mod]
/-! the size of the factors -/
theorem fmod_sign {r0 r1 : Int} (h : r1 ≠ 0) : (0 < r1 ∧ 0 ≤ r0.fmod r1) ∨ (r1 < 0 ∧ r0.fmod r1 ≤ 0) := by
  rcases Int.lt_or_gt_of_ne h with n | n
  · refine .inr ⟨n, ?_⟩
    have := Int.fmod_nonneg_of_pos (-r0) (b := -r1) (by omega)
    rw [Int.neg_fmod_neg] at this
    omega
  · exact .inl ⟨n, Int.fmod_nonneg_of_pos r0 n⟩
/-- of one sign -/
def Same (a b : Int) : Prop := (0 ≤ a ∧ 0 ≤ b) ∨ (a ≤ 0 ∧ b ≤ 0)
theorem same_step {r0 r1 : Int} (h : r1 ≠ 0) : Same r1 (r0 - r0.fdiv r1 * r1) := by
  rw [mod_eq]
  rcases fmod_sign (r0 := r0) h with ⟨a, b⟩ | ⟨a, b⟩
  · exact .inl ⟨by omega, b⟩
  · exact .inr ⟨by omega, b⟩
theorem same_abs {r0 r1 : Int} (h : r1 ≠ 0) (p : Same r0 r1) : (r0 - r0.fdiv r1 * r1).natAbs + (r0.fdiv r1).natAbs * r1.natAbs = r0.natAbs := by
  have e := Int.mul_fdiv_add_fmod r0 r1
  rw [mod_eq, ← Int.natAbs_mul, Int.mul_comm (r0.fdiv r1)]
  rcases fmod_sign (r0 := r0) h with ⟨a, b⟩ | ⟨a, b⟩
  · have q : 0 ≤ r0.fdiv r1 := Int.fdiv_nonneg (by rcases p with p | p <;> omega) (by omega)
    have := Int.mul_nonneg (Int.le_of_lt a) q
    omega
  · have q : 0 ≤ r0.fdiv r1 := Int.fdiv_nonneg_of_nonpos_of_nonpos (by rcases p with p | p <;> omega) (by omega)
    have := Int.mul_nonneg (a := -r1) (by omega) q
    have e2 : -r1 * r0.fdiv r1 = -(r1 * r0.fdiv r1) := Int.neg_mul ..
    omega
theorem same_any {r0 r1 : Int} (h : r1 ≠ 0) : (r0.fdiv r1).natAbs * r1.natAbs ≤ r0.natAbs + r1.natAbs := by
  have e := Int.mul_fdiv_add_fmod r0 r1
  have l := fmod_lt r0 h
  rw [← Int.natAbs_mul, Int.mul_comm (r0.fdiv r1)]
  omega
/-- one column: |x0||r1| + |x1||r0| stays -/
theorem extW_bound (f : Int × Int × Int → Int) (hf : ∀ r s t r' s' t' q, f (r - q * r', s - q * s', t - q * t') = f (r, s, t) - q * f (r', s', t')) (B : Nat) :
    ∀ (n : Nat) (r0 s0 t0 r1 s1 t1 : Int), r1.natAbs ≤ n → Same r0 r1 → (f (r0, s0, t0)).natAbs ≤ B → (f (r1, s1, t1)).natAbs ≤ B → (f (r0, s0, t0)).natAbs * r1.natAbs + (f (r1, s1, t1)).natAbs * r0.natAbs ≤ B →
      (f (extW r0 s0 t0 r1 s1 t1)).natAbs ≤ B
  | n, r0, s0, t0, r1, s1, t1, hn, sg, h0, h1, hW => by
    by_cases h : r1 = 0
    · subst h; rw [extW_zero]; exact h0
    · rw [extW_step h]
      have lt := fmod_lt r0 h
      rw [← mod_eq] at lt
      have sa := same_abs h sg
      have e2 := hf r0 s0 t0 r1 s1 t1 (r0.fdiv r1)
      have tri : (f (r0, s0, t0) - r0.fdiv r1 * f (r1, s1, t1)).natAbs ≤ (f (r0, s0, t0)).natAbs + (r0.fdiv r1).natAbs * (f (r1, s1, t1)).natAbs := by
        rw [← Int.natAbs_mul]; omega
      have hW2 : (f (r1, s1, t1)).natAbs * (r0 - r0.fdiv r1 * r1).natAbs + (f (r0 - r0.fdiv r1 * r1, s0 - r0.fdiv r1 * s1, t0 - r0.fdiv r1 * t1)).natAbs * r1.natAbs ≤ B := by
        rw [e2]
        refine Nat.le_trans ?_ hW
        have k1 := Nat.mul_le_mul_right r1.natAbs tri
        have k2 := congrArg (fun z => (f (r1, s1, t1)).natAbs * z) sa
        simp only [Nat.mul_add, Nat.add_mul] at k1 k2
        have k3 : (f (r1, s1, t1)).natAbs * ((r0.fdiv r1).natAbs * r1.natAbs) = (r0.fdiv r1).natAbs * (f (r1, s1, t1)).natAbs * r1.natAbs := by
          rw [Nat.mul_comm ((r0.fdiv r1).natAbs) ((f (r1, s1, t1)).natAbs), Nat.mul_assoc]
        omega
      cases n with
      | zero => omega
      | succ n =>
        refine extW_bound f hf B n _ _ _ _ _ _ (by omega) (same_step h) h1 ?_ (by rw [Nat.add_comm] at hW2; rw [Nat.add_comm]; exact hW2)
        have : 1 ≤ r1.natAbs := by omega
        have k := Nat.mul_le_mul_left (f (r0 - r0.fdiv r1 * r1, s0 - r0.fdiv r1 * s1, t0 - r0.fdiv r1 * t1)).natAbs this
        omega
theorem extW_fac (a b : Int) : (extW a 1 0 b 0 1).2.1.natAbs ≤ max 1 b.natAbs ∧ (extW a 1 0 b 0 1).2.2.natAbs ≤ a.natAbs + 2 * b.natAbs + 1 := by
  by_cases h : b = 0
  · subst h; rw [extW_zero]; exact ⟨by simp, by simp⟩
  · rw [extW_step h]
    have sa := same_any (r0 := a) h
    have lt := fmod_lt a h
    rw [← mod_eq] at lt
    have b1 : 1 ≤ b.natAbs := by omega
    have lq : (a.fdiv b).natAbs ≤ (a.fdiv b).natAbs * b.natAbs := by
      have := Nat.mul_le_mul_left (a.fdiv b).natAbs b1; omega
    constructor
    · refine extW_bound (fun x => x.2.1) (fun _ _ _ _ _ _ _ => rfl) _ _ _ _ _ _ _ _ (Nat.le_refl _) (same_step h) ?_ ?_ ?_
      · simp
      · simp; omega
      · simp; omega
    · refine extW_bound (fun x => x.2.2) (fun _ _ _ _ _ _ _ => rfl) _ _ _ _ _ _ _ _ (Nat.le_refl _) (same_step h) ?_ ?_ ?_
      · simp
      · simp; omega
      · simp; omega
/-- what extended_divisor hands back -/
def extD (a b : Int) : Int × Int × Int := if 0 ≤ (extW a 1 0 b 0 1).1 then extW a 1 0 b 0 1 else (-(extW a 1 0 b 0 1).1, -(extW a 1 0 b 0 1).2.1, -(extW a 1 0 b 0 1).2.2)
theorem extD_gcd (a b : Int) : (extD a b).1 = (Int.gcd a b : Nat) := by
  have h := extW_gcd _ a 1 0 b 0 1 (Nat.le_refl _)
  unfold extD
  split
  · omega
  · show -(extW a 1 0 b 0 1).1 = _; omega
theorem extD_eq (a b : Int) : (extD a b).2.1 * a + (extD a b).2.2 * b = (Int.gcd a b : Nat) := by
  have h := extW_ind (P := fun r s t => s * a + t * b = r) (fun r0 s0 t0 r1 s1 t1 q h0 h1 => by
    rw [← h0, ← h1]; simp only [Int.sub_mul, Int.mul_add, Int.mul_assoc]; omega) _ a 1 0 b 0 1 (Nat.le_refl _) (by omega) (by omega)
  rw [← extD_gcd]
  unfold extD
  split
  · exact h
  · simp only [Int.neg_mul]; omega
theorem extD_fac (a b : Int) : (extD a b).2.1.natAbs ≤ max 1 b.natAbs ∧ (extD a b).2.2.natAbs ≤ a.natAbs + 2 * b.natAbs + 1 := by
  have h := extW_fac a b
  unfold extD
  split
  · exact h
  · simpa using h
/-! a list of whole numbers -/
def combS (z : Int × List Int) (n : Int) : Int × List Int := ((extD z.1 n).1, z.2.map ((extD z.1 n).2.1 * ·) ++ [(extD z.1 n).2.2])
def combW (ns : List Int) : Int × List Int := ns.foldl combS (0, [])
def dotL : List Int → List Int → Int
  | a :: r, b :: s => a * b + dotL r s
  | _, _ => 0
theorem dotL_map (c : Int) : ∀ (l m : List Int), dotL (l.map (c * ·)) m = c * dotL l m
  | [], m => by simp [dotL]
  | a :: l, [] => by simp [dotL]
  | a :: l, b :: m => by simp [dotL, dotL_map c l m, Int.mul_add, Int.mul_assoc]
theorem dotL_append : ∀ (l m l' m' : List Int), l.length = m.length → dotL (l ++ l') (m ++ m') = dotL l m + dotL l' m'
  | [], [], l', m', _ => by simp [dotL]
  | a :: l, b :: m, l', m', h => by
    have := dotL_append l m l' m' (by simpa using h)
    simp only [List.cons_append, dotL, this]; omega
/-- after the numbers ns: the divisor divides each and is made of them -/
structure CombOk (B : Nat) (ns : List Int) (z : Int × List Int) : Prop where
  len : z.2.length = ns.length
  nn : 0 ≤ z.1
  eq : dotL z.2 ns = z.1
  dvd : ∀ n ∈ ns, z.1 ∣ n
  lt : z.1.natAbs < 2 ^ B
  fac : ∀ f ∈ z.2, f.natAbs < 2 ^ (ns.length * (B + 2))
theorem comb_step {B : Nat} {ns : List Int} {z : Int × List Int} (h : CombOk B ns z) (n : Int) (hn : n.natAbs < 2 ^ B) : CombOk B (ns ++ [n]) (combS z n) := by
  obtain ⟨d, fs⟩ := z
  have hg := extD_gcd d n
  have he := extD_eq d n
  have hf := extD_fac d n
  have g1 : ((Int.gcd d n : Nat) : Int) ∣ d := Int.gcd_dvd_left ..
  have g2 : ((Int.gcd d n : Nat) : Int) ∣ n := Int.gcd_dvd_right ..
  have hd := h.lt
  have heq := h.eq
  have hlen := h.len
  simp only at hd heq hlen
  have pb : 1 ≤ 2 ^ B := Nat.one_le_two_pow
  have p2 : 2 ^ (B + 2) = 4 * 2 ^ B := by rw [Nat.pow_add]; omega
  constructor
  · simp [combS, hlen]
  · simp only [combS, hg]; omega
  · simp only [combS]
    rw [dotL_append _ _ _ _ (by simp [hlen]), dotL_map, heq]
    simp only [dotL, hg]; omega
  · intro k hk
    simp only [combS, hg]
    rcases List.mem_append.mp hk with q | q
    · exact Int.dvd_trans g1 (h.dvd k q)
    · rw [List.mem_singleton.mp q]; exact g2
  · simp only [combS, hg, Int.natAbs_natCast]
    by_cases z : d = 0
    · subst z; rw [Int.gcd_zero_left]; exact hn
    · exact Nat.lt_of_le_of_lt (Int.gcd_le_natAbs_left n z) hd
  · intro f hfm
    have e : (ns ++ [n]).length * (B + 2) = ns.length * (B + 2) + (B + 2) := by rw [List.length_append, Nat.add_mul]; simp
    rw [e]
    simp only [combS] at hfm
    rcases List.mem_append.mp hfm with q | q
    · obtain ⟨y, hy, rfl⟩ := List.mem_map.mp q
      have := h.fac y hy
      rw [Int.natAbs_mul, Nat.add_comm]
      refine lt_mul ?_ this
      have : max 1 n.natAbs < 4 * 2 ^ B := by omega
      omega
    · rw [List.mem_singleton.mp q]
      refine Nat.lt_of_lt_of_le (m := 2 ^ (B + 2)) (by omega) (Nat.pow_le_pow_right (by decide) (Nat.le_add_left _ _))
theorem comb_ok' {B : Nat} : ∀ (l ns : List Int) (z : Int × List Int), CombOk B ns z → (∀ n ∈ l, n.natAbs < 2 ^ B) → CombOk B (ns ++ l) (l.foldl combS z)
  | [], ns, z, h, _ => by rw [List.append_nil]; exact h
  | n :: l, ns, z, h, hb => by
    have := comb_ok' l (ns ++ [n]) (combS z n) (comb_step h n (hb n (List.mem_cons_self ..))) fun k hk => hb k (List.mem_cons_of_mem _ hk)
    rw [List.append_assoc] at this
    exact this
theorem comb_nil (B : Nat) : CombOk B [] (0, []) := ⟨rfl, by simp, rfl, by simp, by simpa using Nat.two_pow_pos B, by simp⟩
theorem comb_ok {B : Nat} {ns : List Int} (hb : ∀ n ∈ ns, n.natAbs < 2 ^ B) : CombOk B ns (combW ns) := comb_ok' ns [] _ (comb_nil B) hb
end MB

/-! ## SB -/
/-! The solver's extended divisor, combined: contracts and walks. -/
namespace G
open PySem PySem.Spec PyProof.Rows L2 L3 MR MB
def iL (ns : List Int) : List PV := ns.map PV.int
def Ph_extended_divisor : Con := fun as Q => ∃ a b : Int, as = [.int a, .int b] ∧ a.natAbs < 2 ^ 8000 ∧ b.natAbs < 2 ^ 8000 ∧ Q (.tup [.int (extD a b).1, .int (extD a b).2.1, .int (extD a b).2.2])
def Ph_combined : Con := fun as Q => ∃ ns : List Int, as = [.lst (iL ns)] ∧ ns.length ≤ 100 ∧ (∀ n ∈ ns, n.natAbs < 2 ^ 7900) ∧ Q (.tup [.int (combW ns).1, .lst (iL (combW ns).2)])
/-! what the loop keeps of a column -/
def ColOk (B : Nat) (r0 x0 r1 x1 : Int) : Prop := x0.natAbs ≤ B ∧ x1.natAbs ≤ B ∧ x0.natAbs * r1.natAbs + x1.natAbs * r0.natAbs ≤ B
theorem ColOk.step {B : Nat} {r0 x0 r1 x1 : Int} (h : r1 ≠ 0) (sg : Same r0 r1) (c : ColOk B r0 x0 r1 x1) : ColOk B r1 x1 (r0 - r0.fdiv r1 * r1) (x0 - r0.fdiv r1 * x1) := by
  obtain ⟨h0, h1, hW⟩ := c
  have sa := same_abs h sg
  have tri : (x0 - r0.fdiv r1 * x1).natAbs ≤ x0.natAbs + (r0.fdiv r1).natAbs * x1.natAbs := by
    rw [← Int.natAbs_mul]; omega
  have hW2 : x1.natAbs * (r0 - r0.fdiv r1 * r1).natAbs + (x0 - r0.fdiv r1 * x1).natAbs * r1.natAbs ≤ B := by
    refine Nat.le_trans ?_ hW
    have k1 := Nat.mul_le_mul_right r1.natAbs tri
    have k2 := congrArg (fun z => x1.natAbs * z) sa
    simp only [Nat.mul_add, Nat.add_mul] at k1 k2
    have k3 : x1.natAbs * ((r0.fdiv r1).natAbs * r1.natAbs) = (r0.fdiv r1).natAbs * x1.natAbs * r1.natAbs := by
      rw [Nat.mul_comm ((r0.fdiv r1).natAbs) (x1.natAbs), Nat.mul_assoc]
    omega
  refine ⟨h1, ?_, by rw [Nat.add_comm] at hW2; rw [Nat.add_comm]; exact hW2⟩
  have : 1 ≤ r1.natAbs := by omega
  have k := Nat.mul_le_mul_left (x0 - r0.fdiv r1 * x1).natAbs this
  omega
/-- the rows of the loop -/
structure RowsOk (a b r0 s0 t0 r1 s1 t1 : Int) : Prop where
  e : extW r0 s0 t0 r1 s1 t1 = extW a 1 0 b 0 1
  l0 : r0.natAbs < 2 ^ 8000
  l1 : r1.natAbs < 2 ^ 8000
  c : (r0 = a ∧ s0 = 1 ∧ t0 = 0 ∧ r1 = b ∧ s1 = 0 ∧ t1 = 1) ∨ (Same r0 r1 ∧ ColOk (2 ^ 8010) r0 s0 r1 s1 ∧ ColOk (2 ^ 8010) r0 t0 r1 t1)
theorem RowsOk.step {a b r0 s0 t0 r1 s1 t1 : Int} (R : RowsOk a b r0 s0 t0 r1 s1 t1) (h : r1 ≠ 0) : RowsOk a b r1 s1 t1 (r0 - r0.fdiv r1 * r1) (s0 - r0.fdiv r1 * s1) (t0 - r0.fdiv r1 * t1) := by
  have lt := fmod_lt r0 h
  rw [← mod_eq] at lt
  have l0 := R.l0
  have l1 := R.l1
  refine ⟨(extW_step h).symm.trans R.e, l1, by omega, .inr ⟨same_step h, ?_⟩⟩
  have p : (2 : Nat) ^ 8010 = 1024 * 2 ^ 8000 := by rw [show (8010 : Nat) = 10 + 8000 from rfl, Nat.pow_add]
  rcases R.c with ⟨rfl, rfl, rfl, rfl, rfl, rfl⟩ | ⟨sg, c1, c2⟩
  · have sa := same_any (r0 := r0) h
    have b1 : 1 ≤ r1.natAbs := by omega
    have lq : (r0.fdiv r1).natAbs ≤ (r0.fdiv r1).natAbs * r1.natAbs := by
      have := Nat.mul_le_mul_left (r0.fdiv r1).natAbs b1; omega
    generalize (2 : Nat) ^ 8010 = M at p ⊢
    generalize (2 : Nat) ^ 8000 = N at p l0 l1
    exact ⟨⟨by simp, by simp; omega, by simp; omega⟩, ⟨by simp; omega, by simp; omega, by simp; omega⟩⟩
  · exact ⟨c1.step h sg, c2.step h sg⟩
theorem RowsOk.small {a b r0 s0 t0 r1 s1 t1 : Int} (R : RowsOk a b r0 s0 t0 r1 s1 t1) : s1.natAbs < 2 ^ 8011 ∧ t1.natAbs < 2 ^ 8011 := by
  have p : (2 : Nat) ^ 8011 = 2 * 2 ^ 8010 := by rw [show (8011 : Nat) = 1 + 8010 from rfl, Nat.pow_add]
  have q := Nat.two_pow_pos 8010
  generalize (2 : Nat) ^ 8011 = M at p ⊢
  rcases R.c with ⟨_, _, _, _, rfl, rfl⟩ | ⟨_, c1, c2⟩
  · generalize (2 : Nat) ^ 8010 = N at p q
    constructor <;> simp <;> omega
  · have h1 := c1.2.1
    have h2 := c2.2.1
    generalize (2 : Nat) ^ 8010 = N at p q h1 h2
    omega
theorem lg {x : Int} {k : Nat} (hk : 0 < k) (h : x.natAbs < 2 ^ k) : x.natAbs.log2 < k := log2_lt_of hk h
theorem kIx_3a {p q r : PV} {Q : PV → Prop} : kIx (.tup [p, q, r]) (.int 0) Q = Q p := rfl
theorem kTuple_lst {l : List PV} {Q : PV → Prop} : kTuple [.lst l] Q = Q (.tup l) := rfl
def te_extended_divisor_1 : PTE := pBin kSubI (pVar 5) (pBin kMulI (pVar 4) (pVar 6))
def tb_extended_divisor_2 : PTS := pSeq (pAsg (pBin kFdI (pBin kIx (pVar 2) (pC (.int 0))) (pBin kIx (pVar 3) (pC (.int 0)))) (gNm 4)) (pPar 2 3 (pCons (pVar 3) (pCons (pCallB kTuple (pCons (pLc (pZipS (pCons (pVar 2) (pCons (pVar 3) (pNil)))) (gTupP 2 (gConsP (gNm 5) (gConsP (gNm 6) (gNilP)))) pTsYes te_extended_divisor_1 [5, 6]) (pNil))) (pNil))))
def te_extended_divisor_3 : PTE := pUn kNeg (pVar 7)
def t_extended_divisor : PTS := pSeq (pPar 2 3 (pCons (pTup (pCons (pVar 0) (pCons (pC (.int 1)) (pCons (pC (.int 0)) (pNil))))) (pCons (pTup (pCons (pVar 1) (pCons (pC (.int 0)) (pCons (pC (.int 1)) (pNil))))) (pNil)))) (pSeq (pWhile (pTst (pBin kNe (pBin kIx (pVar 3) (pC (.int 0))) (pC (.int 0)))) tb_extended_divisor_2) (pRet (pIf (pTst (pBin kGeI (pBin kIx (pVar 2) (pC (.int 0))) (pC (.int 0)))) (pVar 2) (pCallB kTuple (pCons (pLc (pIT (pVar 2)) (gNm 7) pTsYes te_extended_divisor_3 [7]) (pNil))))))
abbrev N_extended_divisor : List Str := ["first", "second", "old", "new", "factor", "before", "after", "number"]
theorem st_extended_divisor (a0 a1 : PV) : startP N_extended_divisor [a0, a1] = [.val a0, .val a1, .no, .no, .no, .no, .no, .no] := rfl
def te_combined_1 : PTE := pBin kMulI (pVar 4) (pVar 6)
def tb_combined_2 : PTS := pSeq (pAsg (pCall Ph_extended_divisor (pCons (pVar 1) (pCons (pVar 3) (pNil)))) (gTupP 3 (gConsP (gNm 1) (gConsP (gNm 4) (gConsP (gNm 5) (gNilP)))))) (pAsg (pBin kCat (pLc (pIL (pVar 2)) (gNm 6) pTsYes te_combined_1 [6]) (pLst (pCons (pVar 5) (pNil)))) (gNm 2))
def t_combined : PTS := pSeq (pPar 1 2 (pCons (pC (.int 0)) (pCons (pLst (pNil)) (pNil)))) (pSeq (pFor (pIL (pVar 0)) (gNm 3) tb_combined_2) (pRet (pTup (pCons (pVar 1) (pCons (pVar 2) (pNil))))))
abbrev N_combined : List Str := ["numbers", "divisor", "factors", "number", "old_factor", "factor", "other"]
theorem st_combined (a0 : PV) : startP N_combined [a0] = [.val a0, .no, .no, .no, .no, .no, .no] := rfl

theorem hp_extended_divisor : ∀ as Q, Ph_extended_divisor as Q → as.length = 2 ∧ t_extended_divisor ⟨fun _ => Q .non, Q, fun _ => False, fun _ => False⟩ (startP N_extended_divisor as) := by
  rintro as Q ⟨a, b, rfl, ha, hb, hq⟩
  refine ⟨rfl, ?_⟩
  simp only [st_extended_divisor, t_extended_divisor, pSeq, pNext, pIfS, pRet, pRetN, pAsg, pDrop, pPar, pAug, gNm, gTupP, gConsP, gNilP, pVar, pC, pBin, pChain, pUn, kNeg, pTst, pTru, pAndT, pOrT, pNotT, pAndV, pOrV, pNotV, pIf, pCons, pNil, pTup, pLst, pStar, pCallB, pCall, pMeth, pProp, pFld, pFrz, pIL, pIT, pZip, pEnum, pR1, pR2, pR3, pSlL, pSlT, pPart, pNoPart, pLc, pLc2, pDc, pSortSc, pFor, pNewL, pNewD, pApp, pExt, pDPut, pSetL, pOwnD, pIsN, pNotN, pListVals, pListValsT, pIVals, pIKeys, pIItems, onDic, pIStr, pDGet1, pTsYes, pParL, pParR, pCel, pCelSet, pNewCel, pNeverS, wipeP, List.set_cons_zero, List.set_cons_succ, List.getElem?_cons_zero, List.getElem?_cons_succ, List.length_cons, List.length_nil, pDisp, pPairs, pZipS, seqP, pCallD, pForR, pCallX, xSeq, xOf, xNext, xIfS, xRaise, xAsg, xDrop, xRet, xCall, xTryAs, pXf, pIncJ, pCelSetJ, pNewCelJ]
  refine ⟨size_le (by decide), size_le (by decide), fun m ρ => ∃ (r0 s0 t0 r1 s1 t1 : Int) (x4 x5 x6 x7 : Slt), ρ = [.val (.int a), .val (.int b), .val (.tup [.int r0, .int s0, .int t0]), .val (.tup [.int r1, .int s1, .int t1]), x4, x5, x6, x7] ∧ m = r1.natAbs ∧ RowsOk a b r0 s0 t0 r1 s1 t1,
    ⟨_, a, 1, 0, b, 0, 1, _, _, _, _, rfl, rfl, rfl, ha, hb, .inl ⟨rfl, rfl, rfl, rfl, rfl, rfl⟩⟩, ?_⟩
  rintro m ρ ⟨r0, s0, t0, r1, s1, t1, x4, x5, x6, x7, rfl, rfl, R⟩
  simp only [pSeq, pNext, pIfS, pRet, pRetN, pAsg, pDrop, pPar, pAug, gNm, gTupP, gConsP, gNilP, pVar, pC, pBin, pChain, pUn, kNeg, pTst, pTru, pAndT, pOrT, pNotT, pAndV, pOrV, pNotV, pIf, pCons, pNil, pTup, pLst, pStar, pCallB, pCall, pMeth, pProp, pFld, pFrz, pIL, pIT, pZip, pEnum, pR1, pR2, pR3, pSlL, pSlT, pPart, pNoPart, pLc, pLc2, pDc, pSortSc, pFor, pNewL, pNewD, pApp, pExt, pDPut, pSetL, pOwnD, pIsN, pNotN, pListVals, pListValsT, pIVals, pIKeys, pIItems, onDic, pIStr, pDGet1, pTsYes, pParL, pParR, pCel, pCelSet, pNewCel, pNeverS, wipeP, List.set_cons_zero, List.set_cons_succ, List.getElem?_cons_zero, List.getElem?_cons_succ, List.length_cons, List.length_nil, kIx_3a, kNe_int]
  by_cases h : r1 = 0
  · subst h
    have e := R.e
    rw [extW_zero] at e
    simp only [decide_true, Bool.not_true, kI0_int]
    have eD : ((extD a b).1, (extD a b).2.1, (extD a b).2.2) = if 0 ≤ r0 then (r0, s0, t0) else (-r0, -s0, -t0) := by
      show extD a b = _
      unfold extD
      rw [← e]
    by_cases p : 0 ≤ r0
    · rw [if_pos p] at eD
      simp only [decide_eq_true p]
      simp only [Prod.mk.injEq] at eD
      rw [eD.1, eD.2.1, eD.2.2] at hq
      exact hq
    · rw [if_neg p] at eD
      simp only [decide_eq_false p, wipeP]
      simp only [Prod.mk.injEq] at eD
      rw [eD.1, eD.2.1, eD.2.2] at hq
      refine lcL_map (fun x : Int => PV.int x) (fun x => PV.int (-x)) [r0, s0, t0] (fun x hx T t => ?_) (size_le (by simp)) ?_
      · simp only [te_extended_divisor_3, pSeq, pNext, pIfS, pRet, pRetN, pAsg, pDrop, pPar, pAug, gNm, gTupP, gConsP, gNilP, pVar, pC, pBin, pChain, pUn, kNeg, pTst, pTru, pAndT, pOrT, pNotT, pAndV, pOrV, pNotV, pIf, pCons, pNil, pTup, pLst, pStar, pCallB, pCall, pMeth, pProp, pFld, pFrz, pIL, pIT, pZip, pEnum, pR1, pR2, pR3, pSlL, pSlT, pPart, pNoPart, pLc, pLc2, pDc, pSortSc, pFor, pNewL, pNewD, pApp, pExt, pDPut, pSetL, pOwnD, pIsN, pNotN, pListVals, pListValsT, pIVals, pIKeys, pIItems, onDic, pIStr, pDGet1, pTsYes, pParL, pParR, pCel, pCelSet, pNewCel, pNeverS, wipeP, List.set_cons_zero, List.set_cons_succ, List.getElem?_cons_zero, List.getElem?_cons_succ, List.length_cons, List.length_nil]
        exact t
      · rw [kTuple_lst]
        exact hq
  · have l0 := lg (by decide) R.l0
    have l1 := lg (by decide) R.l1
    obtain ⟨q1, q2⟩ := R.small
    have k1 := lg (by decide) q1
    have k2 := lg (by decide) q2
    have sa := same_any (r0 := r0) h
    have lq : (r0.fdiv r1).natAbs.log2 < 8002 := by
      refine log2_lt_of (by decide) ?_
      have b1 : 1 ≤ r1.natAbs := by omega
      have := Nat.mul_le_mul_left (r0.fdiv r1).natAbs b1
      have i0 := R.l0
      have i1 := R.l1
      have p : (2 : Nat) ^ 8002 = 4 * 2 ^ 8000 := by rw [show (8002 : Nat) = 2 + 8000 from rfl, Nat.pow_add]
      generalize (2 : Nat) ^ 8002 = M at p ⊢
      generalize (2 : Nat) ^ 8000 = N at p i0 i1
      omega
    simp only [decide_eq_false h, Bool.not_false, tb_extended_divisor_2, pSeq, pNext, pIfS, pRet, pRetN, pAsg, pDrop, pPar, pAug, gNm, gTupP, gConsP, gNilP, pVar, pC, pBin, pChain, pUn, kNeg, pTst, pTru, pAndT, pOrT, pNotT, pAndV, pOrV, pNotV, pIf, pCons, pNil, pTup, pLst, pStar, pCallB, pCall, pMeth, pProp, pFld, pFrz, pIL, pIT, pZip, pEnum, pR1, pR2, pR3, pSlL, pSlT, pPart, pNoPart, pLc, pLc2, pDc, pSortSc, pFor, pNewL, pNewD, pApp, pExt, pDPut, pSetL, pOwnD, pIsN, pNotN, pListVals, pListValsT, pIVals, pIKeys, pIItems, onDic, pIStr, pDGet1, pTsYes, pParL, pParR, pCel, pCelSet, pNewCel, pNeverS, wipeP, List.set_cons_zero, List.set_cons_succ, List.getElem?_cons_zero, List.getElem?_cons_succ, List.length_cons, List.length_nil, pDisp, pPairs, pZipS, seqP, pCallD, pForR, pCallX, xSeq, xOf, xNext, xIfS, xRaise, xAsg, xDrop, xRet, xCall, xTryAs, pXf, pIncJ, pCelSetJ, pNewCelJ, kIx_3a, kII_int]
    refine ⟨⟨h, by omega⟩, ?_⟩
    refine ⟨by trivial, ?_⟩
    refine lcL_map (fun x : Int × Int => PV.tup [.int x.1, .int x.2]) (fun x => PV.int (x.1 - r0.fdiv r1 * x.2)) [(r0, r1), (s0, s1), (t0, t1)] (fun x hx T t => ?_) (size_le (by simp)) ?_
    · simp only [te_extended_divisor_1, pSeq, pNext, pIfS, pRet, pRetN, pAsg, pDrop, pPar, pAug, gNm, gTupP, gConsP, gNilP, pVar, pC, pBin, pChain, pUn, kNeg, pTst, pTru, pAndT, pOrT, pNotT, pAndV, pOrV, pNotV, pIf, pCons, pNil, pTup, pLst, pStar, pCallB, pCall, pMeth, pProp, pFld, pFrz, pIL, pIT, pZip, pEnum, pR1, pR2, pR3, pSlL, pSlT, pPart, pNoPart, pLc, pLc2, pDc, pSortSc, pFor, pNewL, pNewD, pApp, pExt, pDPut, pSetL, pOwnD, pIsN, pNotN, pListVals, pListValsT, pIVals, pIKeys, pIItems, onDic, pIStr, pDGet1, pTsYes, pParL, pParR, pCel, pCelSet, pNewCel, pNeverS, wipeP, List.set_cons_zero, List.set_cons_succ, List.getElem?_cons_zero, List.getElem?_cons_succ, List.length_cons, List.length_nil, kII_int, kI0_int]
      refine ⟨by trivial, ?_, t⟩
      have : x.2 = r1 ∨ x.2 = s1 ∨ x.2 = t1 := by
        simp only [List.mem_cons, List.not_mem_nil, or_false] at hx
        rcases hx with rfl | rfl | rfl <;> simp
      show (r0.fdiv r1).natAbs.log2 + x.2.natAbs.log2 < 1000000
      rcases this with e | e | e <;> rw [e] <;> omega
    · rw [kTuple_lst]
      refine ⟨_, ?_, r1, s1, t1, _, _, _, _, _, _, _, rfl, rfl, R.step h⟩
      rw [mod_eq]
      exact fmod_lt r0 h
theorem hp_combined : ∀ as Q, Ph_combined as Q → as.length = 1 ∧ t_combined ⟨fun _ => Q .non, Q, fun _ => False, fun _ => False⟩ (startP N_combined as) := by
  rintro as Q ⟨ns, rfl, hl, hb, hq⟩
  refine ⟨rfl, ?_⟩
  simp only [st_combined, t_combined, pSeq, pNext, pIfS, pRet, pRetN, pAsg, pDrop, pPar, pAug, gNm, gTupP, gConsP, gNilP, pVar, pC, pBin, pChain, pUn, kNeg, pTst, pTru, pAndT, pOrT, pNotT, pAndV, pOrV, pNotV, pIf, pCons, pNil, pTup, pLst, pStar, pCallB, pCall, pMeth, pProp, pFld, pFrz, pIL, pIT, pZip, pEnum, pR1, pR2, pR3, pSlL, pSlT, pPart, pNoPart, pLc, pLc2, pDc, pSortSc, pFor, pNewL, pNewD, pApp, pExt, pDPut, pSetL, pOwnD, pIsN, pNotN, pListVals, pListValsT, pIVals, pIKeys, pIItems, onDic, pIStr, pDGet1, pTsYes, pParL, pParR, pCel, pCelSet, pNewCel, pNeverS, wipeP, List.set_cons_zero, List.set_cons_succ, List.getElem?_cons_zero, List.getElem?_cons_succ, List.length_cons, List.length_nil, pDisp, pPairs, pZipS, seqP, pCallD, pForR, pCallX, xSeq, xOf, xNext, xIfS, xRaise, xAsg, xDrop, xRet, xCall, xTryAs, pXf, pIncJ, pCelSetJ, pNewCelJ, iL]
  refine ⟨size_le (by decide), ?_⟩
  have hB : ∀ n ∈ ns, n.natAbs < 2 ^ 7900 := hb
  refine forL_of PV.int (fun rest ρ => ∃ (done : List Int) (x3 x4 x5 x6 : Slt), done ++ rest = ns ∧ ρ = [.val (.lst (ns.map PV.int)), .val (.int (combW done).1), .val (.lst ((combW done).2.map PV.int)), x3, x4, x5, x6]) ?_ ?_ ns _ ⟨[], _, _, _, _, rfl, rfl⟩
  · rintro n rest ρ ⟨done, x3, x4, x5, x6, hd, rfl⟩ N hN
    have ok := comb_ok (B := 7900) (ns := done) fun k hk => hB k (by rw [← hd]; exact List.mem_append_left _ hk)
    have hn := hB n (by rw [← hd]; simp)
    have ld : done.length < 100 := by
      have := congrArg List.length hd
      simp at this; omega
    have p : (2 : Nat) ^ 7900 ≤ 2 ^ 8000 := Nat.pow_le_pow_right (by decide) (by decide)
    have e : combW (done ++ [n]) = combS (combW done) n := by unfold combW; rw [List.foldl_append]; rfl
    have fx := extD_fac (combW done).1 n
    simp only [tb_combined_2, pSeq, pNext, pIfS, pRet, pRetN, pAsg, pDrop, pPar, pAug, gNm, gTupP, gConsP, gNilP, pVar, pC, pBin, pChain, pUn, kNeg, pTst, pTru, pAndT, pOrT, pNotT, pAndV, pOrV, pNotV, pIf, pCons, pNil, pTup, pLst, pStar, pCallB, pCall, pMeth, pProp, pFld, pFrz, pIL, pIT, pZip, pEnum, pR1, pR2, pR3, pSlL, pSlT, pPart, pNoPart, pLc, pLc2, pDc, pSortSc, pFor, pNewL, pNewD, pApp, pExt, pDPut, pSetL, pOwnD, pIsN, pNotN, pListVals, pListValsT, pIVals, pIKeys, pIItems, onDic, pIStr, pDGet1, pTsYes, pParL, pParR, pCel, pCelSet, pNewCel, pNeverS, wipeP, List.set_cons_zero, List.set_cons_succ, List.getElem?_cons_zero, List.getElem?_cons_succ, List.length_cons, List.length_nil, pDisp, pPairs, pZipS, seqP, pCallD, pForR, pCallX, xSeq, xOf, xNext, xIfS, xRaise, xAsg, xDrop, xRet, xCall, xTryAs, pXf, pIncJ, pCelSetJ, pNewCelJ]
    refine ⟨_, _, rfl, Nat.lt_of_lt_of_le ok.lt p, Nat.lt_of_lt_of_le hn p, ?_⟩
    refine ⟨by trivial, ?_⟩
    have len := ok.len
    refine lcL_map PV.int (fun x => PV.int ((extD (combW done).1 n).2.1 * x)) (combW done).2 (fun x hx T t => ?_) (size_le (by omega)) ?_
    · simp only [te_combined_1, pSeq, pNext, pIfS, pRet, pRetN, pAsg, pDrop, pPar, pAug, gNm, gTupP, gConsP, gNilP, pVar, pC, pBin, pChain, pUn, kNeg, pTst, pTru, pAndT, pOrT, pNotT, pAndV, pOrV, pNotV, pIf, pCons, pNil, pTup, pLst, pStar, pCallB, pCall, pMeth, pProp, pFld, pFrz, pIL, pIT, pZip, pEnum, pR1, pR2, pR3, pSlL, pSlT, pPart, pNoPart, pLc, pLc2, pDc, pSortSc, pFor, pNewL, pNewD, pApp, pExt, pDPut, pSetL, pOwnD, pIsN, pNotN, pListVals, pListValsT, pIVals, pIKeys, pIItems, onDic, pIStr, pDGet1, pTsYes, pParL, pParR, pCel, pCelSet, pNewCel, pNeverS, wipeP, List.set_cons_zero, List.set_cons_succ, List.getElem?_cons_zero, List.getElem?_cons_succ, List.length_cons, List.length_nil, kII_int]
      refine ⟨?_, t⟩
      have hf := ok.fac x hx
      have h1 : (extD (combW done).1 n).2.1.natAbs < 2 ^ 7901 := by
        have q : (2 : Nat) ^ 7901 = 2 * 2 ^ 7900 := by rw [show (7901 : Nat) = 1 + 7900 from rfl, Nat.pow_add]
        have q1 := Nat.two_pow_pos 7900
        generalize (2 : Nat) ^ 7901 = M at q ⊢
        generalize (2 : Nat) ^ 7900 = N at q q1 hn
        omega
      have h2 : x.natAbs < 2 ^ 800000 := Nat.lt_of_lt_of_le hf (Nat.pow_le_pow_right (by decide) (by
        have := Nat.mul_le_mul_right (7900 + 2) (Nat.le_of_lt_succ (Nat.lt_succ_of_lt ld))
        omega))
      exact mul_ok (lg (by decide) h1) (lg (by decide) h2)
    · refine ⟨size_le (by decide), ?_⟩
      simp only [kCat]
      refine ⟨size_le (by simp; omega), ?_⟩
      refine hN _ ⟨done ++ [n], .val (.int n), .val (.int (extD (combW done).1 n).2.1), .val (.int (extD (combW done).1 n).2.2), x6, by rw [List.append_assoc]; exact hd, ?_⟩
      rw [e]
      simp only [combS, List.map_append, List.map_map]
      rfl
  · rintro ρ ⟨done, x3, x4, x5, x6, hd, rfl⟩
    rw [List.append_nil] at hd
    subst hd
    simp only [pSeq, pNext, pIfS, pRet, pRetN, pAsg, pDrop, pPar, pAug, gNm, gTupP, gConsP, gNilP, pVar, pC, pBin, pChain, pUn, kNeg, pTst, pTru, pAndT, pOrT, pNotT, pAndV, pOrV, pNotV, pIf, pCons, pNil, pTup, pLst, pStar, pCallB, pCall, pMeth, pProp, pFld, pFrz, pIL, pIT, pZip, pEnum, pR1, pR2, pR3, pSlL, pSlT, pPart, pNoPart, pLc, pLc2, pDc, pSortSc, pFor, pNewL, pNewD, pApp, pExt, pDPut, pSetL, pOwnD, pIsN, pNotN, pListVals, pListValsT, pIVals, pIKeys, pIItems, onDic, pIStr, pDGet1, pTsYes, pParL, pParR, pCel, pCelSet, pNewCel, pNeverS, wipeP, List.set_cons_zero, List.set_cons_succ, List.getElem?_cons_zero, List.getElem?_cons_succ, List.length_cons, List.length_nil]
    exact ⟨size_le (by decide), hq⟩
end G


/-! ## TD -/
/-! Data compared. -/
namespace G
open PySem PySem.Spec PyProof.Rows L2 L3 MR
def ratD (q : Rat) : PyData := .tuple [.int q.num, .int (q.den : Int)]
theorem toD_rat (q : Rat) : toD (rat q) = some (ratD q) := rfl
/-- things that are told by data -/
structure Told (α : Type) where
  pv : α → PV
  d : α → PyData
  h : ∀ a, toD (pv a) = some (d a)
  lay : ∀ a, PyData.canLay0 (d a) = true
  n : Nat
  dp : ∀ a, (d a).depth ≤ n
theorem toDs_told {α : Type} (T : Told α) : ∀ l : List α, toDs (l.map T.pv) = some (l.map T.d)
  | [] => rfl
  | q :: l => by simp only [List.map_cons, toDs, toDs_told T l, T.h]
theorem lay_told {α : Type} (T : Told α) : ∀ l : List α, PyData.canLayAll0 (l.map T.d) = true
  | [] => rfl
  | q :: l => by rw [List.map_cons, PyData.canLayAll0, lay_told T l, T.lay]; rfl
theorem depth_told {α : Type} (T : Told α) : ∀ l : List α, PyData.depthAll (l.map T.d) ≤ T.n
  | [] => by simp [PyData.depthAll]
  | q :: l => by
    rw [List.map_cons, PyData.depthAll]
    exact Nat.max_le.mpr ⟨T.dp q, depth_told T l⟩
def Told.list {α : Type} (T : Told α) : Told (List α) where
  pv := fun l => .lst (l.map T.pv)
  d := fun l => .list (l.map T.d)
  h := fun l => by simp only [toD, toDs_told T l, Option.map_some]
  lay := fun l => by rw [PyData.canLay0]; exact lay_told T l
  n := T.n + 1
  dp := fun l => by rw [PyData.depth]; have := depth_told T l; omega
def Told.pair {α β : Type} (T : Told α) (U : Told β) : Told (α × β) where
  pv := fun p => .tup [T.pv p.1, U.pv p.2]
  d := fun p => .tuple [T.d p.1, U.d p.2]
  h := fun p => by simp only [toD, toDs, T.h, U.h, Option.map_some]
  lay := fun p => by simp only [PyData.canLay0, PyData.canLayAll0, T.lay, U.lay]; rfl
  n := max T.n U.n + 1
  dp := fun p => by
    simp only [PyData.depth, PyData.depthAll]
    have := T.dp p.1
    have := U.dp p.2
    omega
def Told.rat : Told Rat where
  pv := G.rat
  d := ratD
  h := fun _ => rfl
  lay := fun _ => rfl
  n := 1
  dp := fun _ => Nat.le_refl _
def Told.int : Told Int where
  pv := .int
  d := .int
  h := fun _ => rfl
  lay := fun _ => rfl
  n := 0
  dp := fun _ => Nat.le_refl _
/-- texts that may be laid -/
structure Tx where
  s : Str
  ok : PyData.strOk s = true
deriving DecidableEq
def Told.str : Told Tx where
  pv := fun t => .str t.s
  d := fun t => .str t.s
  h := fun _ => rfl
  lay := fun t => by rw [PyData.canLay0]; exact t.ok
  n := 0
  dp := fun _ => Nat.le_refl _
theorem shaped_told {α : Type} (T : Told α) (h : T.n ≤ 60) (a : α) : SeqAt.shaped (T.d a) = true := by
  unfold SeqAt.shaped
  rw [Bool.and_eq_true]
  refine ⟨T.lay a, decide_eq_true ?_⟩
  have := T.dp a
  omega
theorem eqP_told {α β : Type} (T : Told α) (U : Told β) (h : T.n ≤ 60) (h' : U.n ≤ 60) (a : α) (b : β) : eqP (T.pv a) (U.pv b) = some (PyData.eqv (T.d a) (U.d b)) := by
  unfold eqP
  simp only [T.h, U.h]
  rw [if_pos ⟨shaped_told T h a, shaped_told U h' b⟩]
/-- eqv decides equality -/
structure Told.Ex {α : Type} (T : Told α) : Prop where
  e : ∀ a b, PyData.eqv (T.d a) (T.d b) = true ↔ a = b
theorem eqvAll_told {α : Type} {T : Told α} (x : T.Ex) : ∀ l m : List α, PyData.eqvAll (l.map T.d) (m.map T.d) = true ↔ l = m
  | [], [] => by simp [PyData.eqvAll]
  | [], _ :: _ => by simp [PyData.eqvAll]
  | _ :: _, [] => by simp [PyData.eqvAll]
  | a :: l, b :: m => by
    simp only [List.map_cons, PyData.eqvAll, Bool.and_eq_true, x.e, eqvAll_told x l m, List.cons.injEq]
theorem Told.Ex.list {α : Type} {T : Told α} (x : T.Ex) : T.list.Ex := ⟨fun l m => by
  show PyData.eqv (.list (l.map T.d)) (.list (m.map T.d)) = true ↔ _
  rw [PyData.eqv]
  exact eqvAll_told x l m⟩
theorem Told.Ex.pair {α β : Type} {T : Told α} {U : Told β} (x : T.Ex) (y : U.Ex) : (T.pair U).Ex := ⟨fun p q => by
  show PyData.eqv (.tuple [T.d p.1, U.d p.2]) (.tuple [T.d q.1, U.d q.2]) = true ↔ _
  simp only [PyData.eqv, PyData.eqvAll, Bool.and_true, Bool.and_eq_true, x.e, y.e]
  exact (Prod.ext_iff).symm⟩
theorem Told.Ex.int : Told.int.Ex := ⟨fun a b => by
  show PyData.eqv (.int a) (.int b) = true ↔ _
  simp [PyData.eqv]⟩
theorem Told.Ex.str : Told.str.Ex := ⟨fun a b => by
  show PyData.eqv (.str a.s) (.str b.s) = true ↔ _
  obtain ⟨s, h⟩ := a
  obtain ⟨s', h'⟩ := b
  simp [PyData.eqv]⟩
theorem Told.Ex.rat : Told.rat.Ex := ⟨fun a b => by
  show PyData.eqv (ratD a) (ratD b) = true ↔ _
  simp only [ratD, PyData.eqv, PyData.eqvAll, Bool.and_true, Bool.and_eq_true, beq_iff_eq]
  constructor
  · rintro ⟨h1, h2⟩; exact Rat.ext h1 (by exact_mod_cast h2)
  · rintro rfl; exact ⟨rfl, rfl⟩⟩
theorem kEq_told {α : Type} [DecidableEq α] {T : Told α} (x : T.Ex) (h : T.n ≤ 60) {a b : α} {Q : PV → Prop} : kEq (T.pv a) (T.pv b) Q = Q (.bl (decide (a = b))) := by
  have e : PyData.eqv (T.d a) (T.d b) = decide (a = b) := by
    rw [Bool.eq_iff_iff, x.e]; simp
  simp only [kEq, eqP_told T T h h, e]
theorem kNe_told {α : Type} [DecidableEq α] {T : Told α} (x : T.Ex) (h : T.n ≤ 60) {a b : α} {Q : PV → Prop} : kNe (T.pv a) (T.pv b) Q = Q (.bl (!decide (a = b))) := by
  have e : PyData.eqv (T.d a) (T.d b) = decide (a = b) := by
    rw [Bool.eq_iff_iff, x.e]; simp
  simp only [kNe, eqP_told T T h h, e]
theorem kIn_told {α : Type} [DecidableEq α] {T : Told α} (x : T.Ex) (h : T.n ≤ 50) {a : α} {l : List α} {neg : Bool} {Q : PV → Prop} (hq : Q (.bl (if neg then !l.contains a else l.contains a))) : kIn neg (T.pv a) (.lst (l.map T.pv)) Q := by
  have e : inP (T.pv a) (l.map T.pv) = some (l.contains a) := by
    clear hq
    unfold inP
    simp only [T.h, toDs_told T l]
    rw [if_pos]
    · congr 1
      induction l with
      | nil => rfl
      | cons b l ih =>
        rw [List.map_cons, List.any_cons, List.contains_cons, ih]
        congr 1
        rw [Bool.eq_iff_iff]
        simp only [beq_iff_eq]
        first
          | exact (x.e _ _)
          | exact (x.e _ _).trans eq_comm
          | (rw [x.e]; exact eq_comm)
    · exact ⟨shaped_told T (by omega) a, shaped_told T.list (by show T.n + 1 ≤ 60; omega) l⟩
  simp only [kIn, e]
  cases neg <;> simpa using hq
end G


/-! ## SO -/
/-! Observations: contracts and walks. -/
namespace G
open PySem PySem.Spec PyProof.Rows L2 L3 MR MB
def obP (o : Int × Int) : PV := .tup [.int o.1, .int o.2]
def obsP (os : List (Int × Int)) : PV := .lst (os.map obP)
def B1 : Nat := 1000
structure ObsIn (L : Int) (os : List (Int × Int)) : Prop where
  l1 : 1 ≤ L
  lL : L.natAbs < 2 ^ B1
  n : os.length ≤ 50
  t0 : ∀ o ∈ os, 0 ≤ o.1
  t : ∀ o ∈ os, o.1.natAbs < 2 ^ B1
  p : ∀ o ∈ os, o.2.natAbs < 2 ^ B1
def tms (os : List (Int × Int)) : List Int := os.map (·.1)
def pls (os : List (Int × Int)) : List Int := os.map (·.2)
def dv (L : Int) (os : List (Int × Int)) : Int := (combW (L :: tms os)).1
def fc (L : Int) (os : List (Int × Int)) : List Int := (combW (L :: tms os)).2.drop 1
def tot (L : Int) (os : List (Int × Int)) : Int := dotL (fc L os) (pls os)
def badO (L : Int) (os : List (Int × Int)) (o : Int × Int) : Bool := !decide ((o.1.fdiv (dv L os) * tot L os - o.2).fmod L = 0)
def refA (L : Int) (os : List (Int × Int)) : List Int := (fc L os).map fun f => L.fdiv (dv L os) * f
def refB (L : Int) (os : List (Int × Int)) (t : Int) (i : Nat) : List Int := (fc L os).zipIdx.map fun x => t.fdiv (dv L os) * x.1 - (if decide ((x.2 : Int) = (i : Int)) then 1 else 0)
def pickC (L : Int) (os : List (Int × Int)) : Option ((Int × Int) × Nat) → (Int × Int) ⊕ List Int
  | some (o, i) => .inr (refB L os o.1 i)
  | none => .inl (((tot L os).fdiv (dv L os)).fmod (L.fdiv (dv L os)), L.fdiv (dv L os))
def findC (L : Int) (os : List (Int × Int)) : (Int × Int) ⊕ List Int :=
  if (tot L os).fmod (dv L os) = 0 then pickC L os (os.zipIdx.find? fun x => badO L os x.1) else .inr (refA L os)
def fcP : (Int × Int) ⊕ List Int → PV
  | .inl (r, m) => .tup [.tup [.int r, .int m], .non]
  | .inr l => .tup [.non, .tup (iL l)]
def countC (L : Int) (os : List (Int × Int)) (lo hi : Int) : Int := match findC L os with
  | .inl (r, m) => if hi < lo then 0 else (hi - r).fdiv m - (lo - 1 - r).fdiv m
  | .inr _ => 0
def betwC (L : Int) (os : List (Int × Int)) (lo hi : Int) : List Int := match findC L os with
  | .inl (r, m) => if countC L os lo hi = 0 then [] else (List.range (countC L os lo hi).toNat).map fun i : Nat => lo + (r - lo).fmod m + (i : Int) * m
  | .inr _ => []
def Ph_validate_length : Con := fun as Q => ∃ L : Int, as = [.int L] ∧ 1 ≤ L ∧ Q .non
def Ph_is_observation : Con := fun as Q => ∃ o : Int × Int, as = [obP o] ∧ 0 ≤ o.1 ∧ Q (.bl true)
def Ph_validate_observations : Con := fun as Q => ∃ (L : Int) (os : List (Int × Int)), as = [.int L, obsP os] ∧ 1 ≤ L ∧ os.length ≤ 50 ∧ (∀ o ∈ os, 0 ≤ o.1) ∧ Q .non
def Ph_combined_times : Con := fun as Q => ∃ (L : Int) (os : List (Int × Int)), as = [.int L, obsP os] ∧ ObsIn L os ∧ Q (.tup [.int (dv L os), .lst (iL (fc L os))])
def Ph_find_class : Con := fun as Q => ∃ (L : Int) (os : List (Int × Int)), as = [.int L, obsP os] ∧ ObsIn L os ∧ Q (fcP (findC L os))
def Ph_fitting_speeds : ConX := fun as Q Xp => ∃ (L : Int) (os : List (Int × Int)), as = [.int L, obsP os] ∧ ObsIn L os ∧ match findC L os with
  | .inl (r, m) => Q (.tup [.int r, .int m])
  | .inr l => Xp "NoSpeed" [("refusal", .tup (iL l))]
def Ph_is_no_speed : Con := fun as Q => ∃ (L : Int) (os : List (Int × Int)) (vs : List Int), as = [.int L, obsP os, .tup (iL vs)] ∧ ObsIn L os ∧ vs.length = os.length ∧ (∀ v ∈ vs, v.natAbs < 2 ^ 900000) ∧
  Q (.bl (decide ((dotL vs (tms os)).fmod L = 0) && !decide ((dotL vs (pls os)).fmod L = 0)))
def Ph_validate_bounds : Con := fun as Q => ∃ lo hi : Int, as = [.int lo, .int hi] ∧ Q .non
def Ph_count_speeds : Con := fun as Q => ∃ (L : Int) (os : List (Int × Int)) (lo hi : Int), as = [.int L, obsP os, .int lo, .int hi] ∧ ObsIn L os ∧ Q (.int (countC L os lo hi))
def Ph_speeds_between : Con := fun as Q => ∃ (L : Int) (os : List (Int × Int)) (lo hi : Int), as = [.int L, obsP os, .int lo, .int hi] ∧ ObsIn L os ∧ 0 ≤ countC L os lo hi ∧ countC L os lo hi ≤ 2000 ∧ Q (.lst (iL (betwC L os lo hi)))
def Ph_next_look : Con := fun as Q => ∃ (L : Int) (os : List (Int × Int)) (lo hi : Int), as = [.int L, obsP os, .int lo, .int hi, .int 0] ∧ ObsIn L os ∧ Q (if dv L os < countC L os lo hi then .non else .int 1)
def Ph_law_divisor : Con := fun as Q => ∃ (L : Int) (os : List (Int × Int)), as = [.int L, obsP os] ∧ 1 ≤ L ∧ (∀ o ∈ os, 0 ≤ o.1) ∧ Q (.int (os.foldl (fun g o => ((Int.gcd g o.1 : Nat) : Int)) L))
def Ph_law_refusal : Con := fun as Q => ∃ (L : Int) (os : List (Int × Int)), as = [.int L, obsP os] ∧ ObsIn L os ∧ Q (match findC L os with
  | .inl _ => .non
  | .inr l => .tup (iL l))
/-! ### what is known of them -/
theorem ObsIn.comb {L : Int} {os : List (Int × Int)} (h : ObsIn L os) : CombOk B1 (L :: tms os) (combW (L :: tms os)) := by
  refine comb_ok fun n hn => ?_
  rcases List.mem_cons.mp hn with rfl | hn
  · exact h.lL
  · obtain ⟨o, ho, rfl⟩ := List.mem_map.mp hn
    exact h.t o ho
theorem ObsIn.dpos {L : Int} {os : List (Int × Int)} (h : ObsIn L os) : 1 ≤ dv L os := by
  have c := h.comb
  have d := c.dvd L (List.mem_cons_self ..)
  have l1 := h.l1
  have n0 : dv L os ≠ 0 := fun z => by
    obtain ⟨k, e⟩ := d
    have : (combW (L :: tms os)).1 = 0 := z
    rw [this] at e; omega
  have := c.nn
  show 1 ≤ (combW (L :: tms os)).1
  have : (combW (L :: tms os)).1 ≠ 0 := n0
  omega
theorem ObsIn.dlt {L : Int} {os : List (Int × Int)} (h : ObsIn L os) : (dv L os).natAbs < 2 ^ B1 := h.comb.lt
theorem ObsIn.flen {L : Int} {os : List (Int × Int)} (h : ObsIn L os) : (fc L os).length = os.length := by
  have := h.comb.len
  unfold fc
  rw [List.length_drop, this]
  simp [tms]
theorem ObsIn.ffac {L : Int} {os : List (Int × Int)} (h : ObsIn L os) : ∀ f ∈ fc L os, f.natAbs < 2 ^ 60000 := fun f hf => by
  have := h.comb.fac f (List.mem_of_mem_drop hf)
  refine Nat.lt_of_lt_of_le this (Nat.pow_le_pow_right (by decide) ?_)
  have n := h.n
  have e : (L :: tms os).length ≤ 51 := by simp [tms]; omega
  have := Nat.mul_le_mul_right (B1 + 2) e
  unfold B1 at this ⊢
  omega
theorem dot_lt {a b : Nat} : ∀ (l m : List Int), (∀ x ∈ l, x.natAbs < 2 ^ a) → (∀ x ∈ m, x.natAbs < 2 ^ b) → (dotL l m).natAbs ≤ l.length * 2 ^ (a + b)
  | [], m, _, _ => by simp [dotL]
  | x :: l, [], _, _ => by simp [dotL]
  | x :: l, y :: m, h1, h2 => by
    have ih := dot_lt l m (fun z hz => h1 z (List.mem_cons_of_mem _ hz)) (fun z hz => h2 z (List.mem_cons_of_mem _ hz))
    have := lt_mul (h1 x (List.mem_cons_self ..)) (h2 y (List.mem_cons_self ..))
    simp only [dotL, List.length_cons, Nat.add_mul, Nat.one_mul]
    rw [← Int.natAbs_mul] at this
    omega
theorem ObsIn.tlt {L : Int} {os : List (Int × Int)} (h : ObsIn L os) : (tot L os).natAbs < 2 ^ 61006 := by
  have d := dot_lt (fc L os) (pls os) h.ffac (fun x hx => by
    obtain ⟨o, ho, rfl⟩ := List.mem_map.mp hx
    exact h.p o ho)
  rw [h.flen] at d
  have n := h.n
  have e : (2 : Nat) ^ 61006 = 64 * 2 ^ (60000 + B1) := by rw [show (61006 : Nat) = 6 + (60000 + B1) from rfl, Nat.pow_add]
  have p := Nat.two_pow_pos (60000 + B1)
  have k := Nat.mul_le_mul_right (2 ^ (60000 + B1)) n
  unfold tot
  generalize (2 : Nat) ^ 61006 = M at e ⊢
  generalize (2 : Nat) ^ (60000 + B1) = N at e p k d
  omega
theorem fdiv_le_abs {a b : Int} (h : 1 ≤ b) : (a.fdiv b).natAbs ≤ a.natAbs := by
  rw [Int.fdiv_eq_ediv_of_nonneg _ (by omega)]
  exact Int.natAbs_ediv_le_natAbs a b
theorem zipP_map {α β : Type} (f : α → PV) (g : β → PV) : ∀ (l : List α) (m : List β), zipP (l.map f) (m.map g) = (l.zip m).map fun x => PV.tup [f x.1, g x.2]
  | [], _ => by simp [zipP]
  | a :: l, [] => by simp [zipP]
  | a :: l, b :: m => by simp [zipP, zipP_map f g l m]
theorem sum_zip1 : ∀ (l : List Int) (os : List (Int × Int)), ((l.zip os).map fun x => x.1 * x.2.1).sum = dotL l (tms os)
  | [], _ => by simp [dotL]
  | a :: l, [] => by simp [dotL, tms]
  | a :: l, b :: m => by
    have := sum_zip1 l m
    simp only [tms] at this
    simp [dotL, tms, this]
theorem sum_zip2 : ∀ (l : List Int) (os : List (Int × Int)), ((l.zip os).map fun x => x.1 * x.2.2).sum = dotL l (pls os)
  | [], _ => by simp [dotL]
  | a :: l, [] => by simp [dotL, pls]
  | a :: l, b :: m => by
    have := sum_zip2 l m
    simp only [pls] at this
    simp [dotL, pls, this]
theorem intsP_map {α : Type} (f : α → Int) : ∀ l : List α, intsP (l.map fun x => PV.int (f x)) = some (l.map f)
  | [] => rfl
  | a :: r => by simp [intsP, intsP_map f r]
def t_validate_length : PTS := pIfS (pOrT (pNotT (pTst (pCall Ph_is_integer (pCons (pVar 0) (pNil))))) (pTst (pBin kLtI (pVar 0) (pC (.int 1))))) (pNeverS) (pNext)
abbrev N_validate_length : List Str := ["length"]
theorem st_validate_length (a0 : PV) : startP N_validate_length [a0] = [.val a0] := rfl
def t_is_observation : PTS := pSeq (pIfS (pOrT (pNotT (pTst (pCallB kIsi (pCons (pVar 0) (pCons (pC (.ty "tuple")) (pNil)))))) (pTst (pBin kNe (pCallB kLen (pCons (pVar 0) (pNil))) (pC (.int 2))))) (pRet (pC (.bl false))) (pNext)) (pRet (pAndV (pCall Ph_is_integer (pCons (pBin kIx (pVar 0) (pC (.int 0))) (pNil))) (pAndV (pCall Ph_is_integer (pCons (pBin kIx (pVar 0) (pC (.int 1))) (pNil))) (pBin kGeI (pBin kIx (pVar 0) (pC (.int 0))) (pC (.int 0))))))
abbrev N_is_observation : List Str := ["value"]
theorem st_is_observation (a0 : PV) : startP N_is_observation [a0] = [.val a0] := rfl
def tb_validate_observations_1 : PTS := pIfS (pNotT (pTst (pCall Ph_is_observation (pCons (pVar 3) (pNil))))) (pNeverS) (pNext)
def t_validate_observations : PTS := pSeq (pDrop (pCall Ph_validate_length (pCons (pVar 0) (pNil)))) (pSeq (pIfS (pOrT (pNotT (pTst (pCallB kIsi2 (pCons (pVar 1) (pCons (pTup (pCons (pC (.ty "list")) (pCons (pC (.ty "tuple")) (pNil)))) (pNil)))))) (pTst (pBin kGtI (pCallB kLen (pCons (pVar 1) (pNil))) (pC (.int 50))))) (pNeverS) (pNext)) (pFor (pEnum (pCons (pVar 1) (pNil))) (gTupP 2 (gConsP (gNm 2) (gConsP (gNm 3) (gNilP)))) tb_validate_observations_1))
abbrev N_validate_observations : List Str := ["length", "observations", "index", "observation"]
theorem st_validate_observations (a0 a1 : PV) : startP N_validate_observations [a0, a1] = [.val a0, .val a1, .no, .no] := rfl
def te_combined_times_1 : PTE := pVar 4
def t_combined_times : PTS := pSeq (pAsg (pCall Ph_combined (pCons (pBin kCat (pLst (pCons (pVar 0) (pNil))) (pLc (pIL (pVar 1)) (gTupP 2 (gConsP (gNm 4) (gConsP (gNm 5) (gNilP)))) pTsYes te_combined_times_1 [4, 5])) (pNil))) (gTupP 2 (gConsP (gNm 2) (gConsP (gNm 3) (gNilP))))) (pRet (pTup (pCons (pVar 2) (pCons (pSlL (pVar 3) (pPart (pC (.int 1))) (pNoPart)) (pNil)))))
abbrev N_combined_times : List Str := ["length", "observations", "divisor", "factors", "time", "place"]
theorem st_combined_times (a0 a1 : PV) : startP N_combined_times [a0, a1] = [.val a0, .val a1, .no, .no, .no, .no] := rfl
def te_find_class_1 : PTE := pBin kMulI (pVar 5) (pVar 7)
def te_find_class_2 : PTE := pBin kMulI (pBin kFdI (pVar 0) (pVar 2)) (pVar 5)
def te_find_class_3 : PTE := pBin kSubI (pBin kMulI (pBin kFdI (pVar 6) (pVar 2)) (pVar 5)) (pCallB kInt (pCons (pBin kEq (pVar 10) (pVar 8)) (pNil)))
def tb_find_class_4 : PTS := pIfS (pTst (pBin kNe (pBin kMdI (pBin kSubI (pBin kMulI (pBin kFdI (pVar 6) (pVar 2)) (pVar 4)) (pVar 7)) (pVar 0)) (pC (.int 0)))) (pSeq (pAsg (pLc (pEnum (pCons (pVar 3) (pNil))) (gTupP 2 (gConsP (gNm 10) (gConsP (gNm 5) (gNilP)))) pTsYes te_find_class_3 [10, 5]) (gNm 9)) (pRet (pTup (pCons (pC .non) (pCons (pCallB kTuple (pCons (pVar 9) (pNil))) (pNil)))))) (pNext)
def t_find_class : PTS := pSeq (pAsg (pCall Ph_combined_times (pCons (pVar 0) (pCons (pVar 1) (pNil)))) (gTupP 2 (gConsP (gNm 2) (gConsP (gNm 3) (gNilP))))) (pSeq (pAsg (pCallB kSum (pCons (pLc (pZipS (pCons (pVar 3) (pCons (pVar 1) (pNil)))) (gTupP 2 (gConsP (gNm 5) (gConsP (gTupP 2 (gConsP (gNm 6) (gConsP (gNm 7) (gNilP)))) (gNilP)))) pTsYes te_find_class_1 [5, 6, 7]) (pNil))) (gNm 4)) (pSeq (pIfS (pTst (pBin kNe (pBin kMdI (pVar 4) (pVar 2)) (pC (.int 0)))) (pRet (pTup (pCons (pC .non) (pCons (pCallB kTuple (pCons (pLc (pIL (pVar 3)) (gNm 5) pTsYes te_find_class_2 [5]) (pNil))) (pNil))))) (pNext)) (pSeq (pFor (pEnum (pCons (pVar 1) (pNil))) (gTupP 2 (gConsP (gNm 8) (gConsP (gTupP 2 (gConsP (gNm 6) (gConsP (gNm 7) (gNilP)))) (gNilP)))) tb_find_class_4) (pSeq (pAsg (pBin kFdI (pVar 0) (pVar 2)) (gNm 11)) (pRet (pTup (pCons (pTup (pCons (pBin kMdI (pBin kFdI (pVar 4) (pVar 2)) (pVar 11)) (pCons (pVar 11) (pNil)))) (pCons (pC .non) (pNil)))))))))
abbrev N_find_class : List Str := ["length", "observations", "divisor", "factors", "total", "factor", "time", "place", "index", "refusal", "at", "modulus"]
theorem st_find_class (a0 a1 : PV) : startP N_find_class [a0, a1] = [.val a0, .val a1, .no, .no, .no, .no, .no, .no, .no, .no, .no, .no] := rfl
def t_fitting_speeds : PTSX := xSeq (xOf (pDrop (pCall Ph_validate_observations (pCons (pVar 0) (pCons (pVar 1) (pNil)))))) (xSeq (xOf (pAsg (pCall Ph_find_class (pCons (pVar 0) (pCons (pVar 1) (pNil)))) (gTupP 2 (gConsP (gNm 2) (gConsP (gNm 3) (gNilP)))))) (xSeq (xIfS (fun ρ Q _ => (pTst (pIsN (pVar 2))) ρ Q) (xRaise "NoSpeed" "refusal" (pVar 3)) (xNext)) (xOf (pRet (pVar 2)))))
abbrev N_fitting_speeds : List Str := ["length", "observations", "found", "refusal"]
theorem st_fitting_speeds (a0 a1 : PV) : startP N_fitting_speeds [a0, a1] = [.val a0, .val a1, .no, .no] := rfl
def te_is_no_speed_1 : PTE := pCall Ph_is_integer (pCons (pVar 3) (pNil))
def te_is_no_speed_2 : PTE := pBin kMulI (pVar 3) (pVar 5)
def te_is_no_speed_3 : PTE := pBin kMulI (pVar 3) (pVar 6)
def t_is_no_speed : PTS := pSeq (pDrop (pCall Ph_validate_observations (pCons (pVar 0) (pCons (pVar 1) (pNil))))) (pSeq (pIfS (pOrT (pNotT (pTst (pCallB kIsi (pCons (pVar 2) (pCons (pC (.ty "tuple")) (pNil)))))) (pTst (pBin kNe (pCallB kLen (pCons (pVar 2) (pNil))) (pCallB kLen (pCons (pVar 1) (pNil)))))) (pRet (pC (.bl false))) (pNext)) (pSeq (pIfS (pNotT (pTst (pCallB kAll (pCons (pLc (pIT (pVar 2)) (gNm 3) pTsYes te_is_no_speed_1 [3]) (pNil))))) (pRet (pC (.bl false))) (pNext)) (pSeq (pAsg (pCallB kSum (pCons (pLc (pZipS (pCons (pVar 2) (pCons (pVar 1) (pNil)))) (gTupP 2 (gConsP (gNm 3) (gConsP (gTupP 2 (gConsP (gNm 5) (gConsP (gNm 6) (gNilP)))) (gNilP)))) pTsYes te_is_no_speed_2 [3, 5, 6]) (pNil))) (gNm 4)) (pSeq (pAsg (pCallB kSum (pCons (pLc (pZipS (pCons (pVar 2) (pCons (pVar 1) (pNil)))) (gTupP 2 (gConsP (gNm 3) (gConsP (gTupP 2 (gConsP (gNm 5) (gConsP (gNm 6) (gNilP)))) (gNilP)))) pTsYes te_is_no_speed_3 [3, 5, 6]) (pNil))) (gNm 7)) (pRet (pAndV (pBin kEq (pBin kMdI (pVar 4) (pVar 0)) (pC (.int 0))) (pBin kNe (pBin kMdI (pVar 7) (pVar 0)) (pC (.int 0)))))))))
abbrev N_is_no_speed : List Str := ["length", "observations", "value", "number", "times", "time", "place", "places"]
theorem st_is_no_speed (a0 a1 a2 : PV) : startP N_is_no_speed [a0, a1, a2] = [.val a0, .val a1, .val a2, .no, .no, .no, .no, .no] := rfl
def t_validate_bounds : PTS := pIfS (pOrT (pNotT (pTst (pCall Ph_is_integer (pCons (pVar 0) (pNil))))) (pNotT (pTst (pCall Ph_is_integer (pCons (pVar 1) (pNil)))))) (pNeverS) (pNext)
abbrev N_validate_bounds : List Str := ["low", "high"]
theorem st_validate_bounds (a0 a1 : PV) : startP N_validate_bounds [a0, a1] = [.val a0, .val a1] := rfl
def t_count_speeds : PTS := pSeq (pDrop (pCall Ph_validate_observations (pCons (pVar 0) (pCons (pVar 1) (pNil))))) (pSeq (pDrop (pCall Ph_validate_bounds (pCons (pVar 2) (pCons (pVar 3) (pNil))))) (pSeq (pAsg (pBin kIx (pCall Ph_find_class (pCons (pVar 0) (pCons (pVar 1) (pNil)))) (pC (.int 0))) (gNm 4)) (pSeq (pIfS (pOrT (pTst (pIsN (pVar 4))) (pTst (pBin kGtI (pVar 2) (pVar 3)))) (pRet (pC (.int 0))) (pNext)) (pSeq (pAsg (pVar 4) (gTupP 2 (gConsP (gNm 5) (gConsP (gNm 6) (gNilP))))) (pRet (pBin kSubI (pBin kFdI (pBin kSubI (pVar 3) (pVar 5)) (pVar 6)) (pBin kFdI (pBin kSubI (pBin kSubI (pVar 2) (pC (.int 1))) (pVar 5)) (pVar 6))))))))
abbrev N_count_speeds : List Str := ["length", "observations", "low", "high", "found", "first", "step"]
theorem st_count_speeds (a0 a1 a2 a3 : PV) : startP N_count_speeds [a0, a1, a2, a3] = [.val a0, .val a1, .val a2, .val a3, .no, .no, .no] := rfl
def te_speeds_between_1 : PTE := pBin kAddI (pVar 7) (pBin kMulI (pVar 8) (pVar 6))
def t_speeds_between : PTS := pSeq (pAsg (pCall Ph_count_speeds (pCons (pVar 0) (pCons (pVar 1) (pCons (pVar 2) (pCons (pVar 3) (pNil)))))) (gNm 4)) (pSeq (pIfS (pTst (pBin kGtI (pVar 4) (pC (.int 2000)))) (pNeverS) (pNext)) (pSeq (pIfS (pTst (pBin kEq (pVar 4) (pC (.int 0)))) (pRet (pLst (pNil))) (pNext)) (pSeq (pAsg (pBin kIx (pCall Ph_find_class (pCons (pVar 0) (pCons (pVar 1) (pNil)))) (pC (.int 0))) (gTupP 2 (gConsP (gNm 5) (gConsP (gNm 6) (gNilP))))) (pSeq (pAsg (pBin kAddI (pVar 2) (pBin kMdI (pBin kSubI (pVar 5) (pVar 2)) (pVar 6))) (gNm 7)) (pRet (pLc (pR1 (pCons (pVar 4) (pNil))) (gNm 8) pTsYes te_speeds_between_1 [8]))))))
abbrev N_speeds_between : List Str := ["length", "observations", "low", "high", "count", "first", "step", "least", "index"]
theorem st_speeds_between (a0 a1 a2 a3 : PV) : startP N_speeds_between [a0, a1, a2, a3] = [.val a0, .val a1, .val a2, .val a3, .no, .no, .no, .no, .no] := rfl
def tb_next_look_1 : PTS := pAug 7 (pC (.int 1))
def t_next_look : PTS := pSeq (pAsg (pCall Ph_count_speeds (pCons (pVar 0) (pCons (pVar 1) (pCons (pVar 2) (pCons (pVar 3) (pNil)))))) (gNm 5)) (pSeq (pIfS (pOrT (pNotT (pTst (pCall Ph_is_integer (pCons (pVar 4) (pNil))))) (pTst (pBin kLtI (pVar 4) (pC (.int 0))))) (pNeverS) (pNext)) (pSeq (pAsg (pBin kIx (pCall Ph_combined_times (pCons (pVar 0) (pCons (pVar 1) (pNil)))) (pC (.int 0))) (gNm 6)) (pSeq (pIfS (pTst (pBin kGtI (pVar 5) (pVar 6))) (pRet (pC .non)) (pNext)) (pSeq (pAsg (pBin kAddI (pVar 4) (pC (.int 1))) (gNm 7)) (pSeq (pWhile (pTst (pBin kLtI (pBin kFdI (pVar 6) (pCall Ph_common_divisor (pCons (pVar 7) (pCons (pVar 6) (pNil))))) (pVar 5))) tb_next_look_1) (pRet (pVar 7)))))))
abbrev N_next_look : List Str := ["length", "observations", "low", "high", "after", "count", "divisor", "time"]
theorem st_next_look (a0 a1 a2 a3 a4 : PV) : startP N_next_look [a0, a1, a2, a3, a4] = [.val a0, .val a1, .val a2, .val a3, .val a4, .no, .no, .no] := rfl
def tb_law_divisor_1 : PTS := pPar 0 4 (pCons (pVar 4) (pCons (pBin kMdI (pVar 0) (pVar 4)) (pNil)))
def tb_law_divisor_2 : PTS := pSeq (pAsg (pVar 2) (gNm 4)) (pWhile (pTst (pBin kGtI (pVar 4) (pC (.int 0)))) tb_law_divisor_1)
def t_law_divisor : PTS := pSeq (pFor (pIL (pVar 1)) (gTupP 2 (gConsP (gNm 2) (gConsP (gNm 3) (gNilP)))) tb_law_divisor_2) (pRet (pVar 0))
abbrev N_law_divisor : List Str := ["size", "seen", "time", "place", "other"]
theorem st_law_divisor (a0 a1 : PV) : startP N_law_divisor [a0, a1] = [.val a0, .val a1, .no, .no, .no] := rfl
def t_law_refusal : PTS := pSeq (xTryAs "NoSpeed" 2 (xDrop (xCall Ph_fitting_speeds (pCons (pVar 0) (pCons (pVar 1) (pNil))))) (fun xa xd => pRet (pXf 2 xa xd "NoSpeed" "refusal"))) (pRet (pC .non))
abbrev N_law_refusal : List Str := ["size", "seen", "e"]
theorem st_law_refusal (a0 a1 : PV) : startP N_law_refusal [a0, a1] = [.val a0, .val a1, .no] := rfl

theorem hp_validate_length : ∀ as Q, Ph_validate_length as Q → as.length = 1 ∧ t_validate_length ⟨fun _ => Q .non, Q, fun _ => False, fun _ => False⟩ (startP N_validate_length as) := by
  rintro as Q ⟨L, rfl, h, hq⟩
  refine ⟨rfl, ?_⟩
  simp only [st_validate_length, t_validate_length, pSeq, pNext, pIfS, pRet, pRetN, pAsg, pDrop, pPar, pAug, gNm, gTupP, gConsP, gNilP, pVar, pC, pBin, pChain, pUn, kNeg, pTst, pTru, pAndT, pOrT, pNotT, pAndV, pOrV, pNotV, pIf, pCons, pNil, pTup, pLst, pStar, pCallB, pCall, pMeth, pProp, pFld, pFrz, pIL, pIT, pZip, pEnum, pR1, pR2, pR3, pSlL, pSlT, pPart, pNoPart, pLc, pLc2, pDc, pSortSc, pFor, pNewL, pNewD, pApp, pExt, pDPut, pSetL, pOwnD, pIsN, pNotN, pListVals, pListValsT, pIVals, pIKeys, pIItems, onDic, pIStr, pDGet1, pTsYes, pParL, pParR, pCel, pCelSet, pNewCel, pNeverS, wipeP, List.set_cons_zero, List.set_cons_succ, List.getElem?_cons_zero, List.getElem?_cons_succ, List.length_cons, List.length_nil, pDisp, pPairs, pZipS, seqP, pCallD, pForR, pCallX, xSeq, xOf, xNext, xIfS, xRaise, xAsg, xDrop, xRet, xCall, xTryAs, pXf, pIncJ, pCelSetJ, pNewCelJ]
  refine ⟨_, rfl, rfl, ?_⟩
  have : ¬ L < 1 := by omega
  simp only [isI, Bool.not_true, kI0_int, decide_eq_false this]
  exact hq
theorem hp_is_observation : ∀ as Q, Ph_is_observation as Q → as.length = 1 ∧ t_is_observation ⟨fun _ => Q .non, Q, fun _ => False, fun _ => False⟩ (startP N_is_observation as) := by
  rintro as Q ⟨o, rfl, h, hq⟩
  refine ⟨rfl, ?_⟩
  simp only [st_is_observation, t_is_observation, obP, pSeq, pNext, pIfS, pRet, pRetN, pAsg, pDrop, pPar, pAug, gNm, gTupP, gConsP, gNilP, pVar, pC, pBin, pChain, pUn, kNeg, pTst, pTru, pAndT, pOrT, pNotT, pAndV, pOrV, pNotV, pIf, pCons, pNil, pTup, pLst, pStar, pCallB, pCall, pMeth, pProp, pFld, pFrz, pIL, pIT, pZip, pEnum, pR1, pR2, pR3, pSlL, pSlT, pPart, pNoPart, pLc, pLc2, pDc, pSortSc, pFor, pNewL, pNewD, pApp, pExt, pDPut, pSetL, pOwnD, pIsN, pNotN, pListVals, pListValsT, pIVals, pIKeys, pIItems, onDic, pIStr, pDGet1, pTsYes, pParL, pParR, pCel, pCelSet, pNewCel, pNeverS, wipeP, List.set_cons_zero, List.set_cons_succ, List.getElem?_cons_zero, List.getElem?_cons_succ, List.length_cons, List.length_nil, pDisp, pPairs, pZipS, seqP, pCallD, pForR, pCallX, xSeq, xOf, xNext, xIfS, xRaise, xAsg, xDrop, xRet, xCall, xTryAs, pXf, pIncJ, pCelSetJ, pNewCelJ]
  rw [kIsi_of rfl kit_tt]
  simp only [Bool.not_true, kLen_tup, kNe_int, pSeq, pNext, pIfS, pRet, pRetN, pAsg, pDrop, pPar, pAug, gNm, gTupP, gConsP, gNilP, pVar, pC, pBin, pChain, pUn, kNeg, pTst, pTru, pAndT, pOrT, pNotT, pAndV, pOrV, pNotV, pIf, pCons, pNil, pTup, pLst, pStar, pCallB, pCall, pMeth, pProp, pFld, pFrz, pIL, pIT, pZip, pEnum, pR1, pR2, pR3, pSlL, pSlT, pPart, pNoPart, pLc, pLc2, pDc, pSortSc, pFor, pNewL, pNewD, pApp, pExt, pDPut, pSetL, pOwnD, pIsN, pNotN, pListVals, pListValsT, pIVals, pIKeys, pIItems, onDic, pIStr, pDGet1, pTsYes, pParL, pParR, pCel, pCelSet, pNewCel, pNeverS, wipeP, List.set_cons_zero, List.set_cons_succ, List.getElem?_cons_zero, List.getElem?_cons_succ, List.length_cons, List.length_nil, kIx_2a, kIx_2b]
  refine ⟨_, rfl, rfl, ?_⟩
  simp only [isI]
  refine ⟨_, rfl, rfl, ?_⟩
  simp only [isI, kI0_int, kIx_2a, decide_eq_true h]
  exact hq
theorem hp_validate_observations : ∀ as Q, Ph_validate_observations as Q → as.length = 2 ∧ t_validate_observations ⟨fun _ => Q .non, Q, fun _ => False, fun _ => False⟩ (startP N_validate_observations as) := by
  rintro as Q ⟨L, os, rfl, h1, hn, ht, hq⟩
  refine ⟨rfl, ?_⟩
  simp only [st_validate_observations, t_validate_observations, obsP, pSeq, pNext, pIfS, pRet, pRetN, pAsg, pDrop, pPar, pAug, gNm, gTupP, gConsP, gNilP, pVar, pC, pBin, pChain, pUn, kNeg, pTst, pTru, pAndT, pOrT, pNotT, pAndV, pOrV, pNotV, pIf, pCons, pNil, pTup, pLst, pStar, pCallB, pCall, pMeth, pProp, pFld, pFrz, pIL, pIT, pZip, pEnum, pR1, pR2, pR3, pSlL, pSlT, pPart, pNoPart, pLc, pLc2, pDc, pSortSc, pFor, pNewL, pNewD, pApp, pExt, pDPut, pSetL, pOwnD, pIsN, pNotN, pListVals, pListValsT, pIVals, pIKeys, pIItems, onDic, pIStr, pDGet1, pTsYes, pParL, pParR, pCel, pCelSet, pNewCel, pNeverS, wipeP, List.set_cons_zero, List.set_cons_succ, List.getElem?_cons_zero, List.getElem?_cons_succ, List.length_cons, List.length_nil, pDisp, pPairs, pZipS, seqP, pCallD, pForR, pCallX, xSeq, xOf, xNext, xIfS, xRaise, xAsg, xDrop, xRet, xCall, xTryAs, pXf, pIncJ, pCelSetJ, pNewCelJ]
  refine ⟨L, rfl, h1, size_le (by decide), ?_⟩
  have e : ¬ (50 : Int) < (os.length : Int) := by omega
  simp only [kIsi2_list, Bool.not_true, kLen_lst, kI0_int, List.length_map, decide_eq_false e]
  rw [enumP_map]
  refine forL_of (fun p : (Int × Int) × Nat => PV.tup [.int (p.2 : Nat), obP p.1]) (fun rest ρ => (∀ x ∈ rest, x.1 ∈ os) ∧ ∃ x2 x3 : Slt, ρ = [.val (.int L), .val (.lst (os.map obP)), x2, x3]) ?_ ?_ os.zipIdx _ ⟨fun x hx => List.mem_of_getElem? ((List.mk_mem_zipIdx_iff_getElem? (x := x.1) (i := x.2)).mp hx), _, _, rfl⟩
  · rintro x rest ρ ⟨hr, x2, x3, rfl⟩ N hN
    simp only [tb_validate_observations_1, pSeq, pNext, pIfS, pRet, pRetN, pAsg, pDrop, pPar, pAug, gNm, gTupP, gConsP, gNilP, pVar, pC, pBin, pChain, pUn, kNeg, pTst, pTru, pAndT, pOrT, pNotT, pAndV, pOrV, pNotV, pIf, pCons, pNil, pTup, pLst, pStar, pCallB, pCall, pMeth, pProp, pFld, pFrz, pIL, pIT, pZip, pEnum, pR1, pR2, pR3, pSlL, pSlT, pPart, pNoPart, pLc, pLc2, pDc, pSortSc, pFor, pNewL, pNewD, pApp, pExt, pDPut, pSetL, pOwnD, pIsN, pNotN, pListVals, pListValsT, pIVals, pIKeys, pIItems, onDic, pIStr, pDGet1, pTsYes, pParL, pParR, pCel, pCelSet, pNewCel, pNeverS, wipeP, List.set_cons_zero, List.set_cons_succ, List.getElem?_cons_zero, List.getElem?_cons_succ, List.length_cons, List.length_nil]
    refine ⟨by trivial, x.1, rfl, ht x.1 (hr x (List.mem_cons_self ..)), ?_⟩
    simp only [Bool.not_true]
    exact hN _ ⟨fun y hy => hr y (List.mem_cons_of_mem _ hy), _, _, rfl⟩
  · rintro ρ ⟨_, x2, x3, rfl⟩
    exact hq
theorem hp_combined_times : ∀ as Q, Ph_combined_times as Q → as.length = 2 ∧ t_combined_times ⟨fun _ => Q .non, Q, fun _ => False, fun _ => False⟩ (startP N_combined_times as) := by
  rintro as Q ⟨L, os, rfl, h, hq⟩
  refine ⟨rfl, ?_⟩
  simp only [st_combined_times, t_combined_times, obsP, pSeq, pNext, pIfS, pRet, pRetN, pAsg, pDrop, pPar, pAug, gNm, gTupP, gConsP, gNilP, pVar, pC, pBin, pChain, pUn, kNeg, pTst, pTru, pAndT, pOrT, pNotT, pAndV, pOrV, pNotV, pIf, pCons, pNil, pTup, pLst, pStar, pCallB, pCall, pMeth, pProp, pFld, pFrz, pIL, pIT, pZip, pEnum, pR1, pR2, pR3, pSlL, pSlT, pPart, pNoPart, pLc, pLc2, pDc, pSortSc, pFor, pNewL, pNewD, pApp, pExt, pDPut, pSetL, pOwnD, pIsN, pNotN, pListVals, pListValsT, pIVals, pIKeys, pIItems, onDic, pIStr, pDGet1, pTsYes, pParL, pParR, pCel, pCelSet, pNewCel, pNeverS, wipeP, List.set_cons_zero, List.set_cons_succ, List.getElem?_cons_zero, List.getElem?_cons_succ, List.length_cons, List.length_nil, pDisp, pPairs, pZipS, seqP, pCallD, pForR, pCallX, xSeq, xOf, xNext, xIfS, xRaise, xAsg, xDrop, xRet, xCall, xTryAs, pXf, pIncJ, pCelSetJ, pNewCelJ]
  have n := h.n
  refine ⟨size_le (by decide), ?_⟩
  refine lcL_map obP (fun o => PV.int o.1) os (fun o ho T t => ?_) (size_le (by omega)) ?_
  · simp only [te_combined_times_1, obP, pSeq, pNext, pIfS, pRet, pRetN, pAsg, pDrop, pPar, pAug, gNm, gTupP, gConsP, gNilP, pVar, pC, pBin, pChain, pUn, kNeg, pTst, pTru, pAndT, pOrT, pNotT, pAndV, pOrV, pNotV, pIf, pCons, pNil, pTup, pLst, pStar, pCallB, pCall, pMeth, pProp, pFld, pFrz, pIL, pIT, pZip, pEnum, pR1, pR2, pR3, pSlL, pSlT, pPart, pNoPart, pLc, pLc2, pDc, pSortSc, pFor, pNewL, pNewD, pApp, pExt, pDPut, pSetL, pOwnD, pIsN, pNotN, pListVals, pListValsT, pIVals, pIKeys, pIItems, onDic, pIStr, pDGet1, pTsYes, pParL, pParR, pCel, pCelSet, pNewCel, pNeverS, wipeP, List.set_cons_zero, List.set_cons_succ, List.getElem?_cons_zero, List.getElem?_cons_succ, List.length_cons, List.length_nil]
    exact ⟨by trivial, t⟩
  · simp only [kCat]
    refine ⟨size_le (by simp; omega), L :: tms os, ?_, by simp [tms]; omega, fun k hk => ?_, by trivial, size_le (by decide), ?_⟩
    · simp [iL, tms]
    · have p : (2 : Nat) ^ B1 ≤ 2 ^ 7900 := Nat.pow_le_pow_right (by decide) (by decide)
      rcases List.mem_cons.mp hk with rfl | hk
      · exact Nat.lt_of_lt_of_le h.lL p
      · obtain ⟨o, ho, rfl⟩ := List.mem_map.mp hk
        exact Nat.lt_of_lt_of_le (h.t o ho) p
    · have len := h.comb.len
      have e : cutP (iL (combW (L :: tms os)).2) (some 1) none = iL (fc L os) := by
        unfold cutP fc iL
        rw [List.length_map, len]
        have e1 : HT.sIx (L :: tms os).length 0 (some 1) = 1 := by
          simp [HT.sIx]
        rw [e1]
        rw [List.map_drop]
        refine List.take_of_length_le ?_
        simp [HT.sIx, len]
      rw [e]
      exact hq
end G


/-! ## SO2 -/
/-! Observations: the class that fits, refusals. -/
namespace G
open PySem PySem.Spec PyProof.Rows L2 L3 MR MB
theorem find_step {α : Type} (p : α → Bool) (x : α) (l r : List α) (h : l.find? p = (x :: r).find? p) : (p x = true → l.find? p = some x) ∧ (p x = false → l.find? p = r.find? p) := by
  rw [h, List.find?_cons]
  constructor <;> intro e <;> rw [e]
theorem kInt_bl {b : Bool} {Q : PV → Prop} : kInt [.bl b] Q = Q (.int (if b then 1 else 0)) := rfl
theorem one_size {x : Int} {k : Nat} (h : x.natAbs < 2 ^ k) (hk : 0 < k) (l : k ≤ 400000) : x.natAbs.log2 < 400000 := Nat.lt_of_lt_of_le (lg hk h) l
theorem mul_small {x y : Int} (h1 : x.natAbs.log2 < 400000) (h2 : y.natAbs.log2 < 400000) : MulOk x y := by
  show x.natAbs.log2 + y.natAbs.log2 < 1000000
  omega
theorem hp_find_class : ∀ as Q, Ph_find_class as Q → as.length = 2 ∧ t_find_class ⟨fun _ => Q .non, Q, fun _ => False, fun _ => False⟩ (startP N_find_class as) := by
  rintro as Q ⟨L, os, rfl, h, hq⟩
  refine ⟨rfl, ?_⟩
  simp only [st_find_class, t_find_class, pSeq, pNext, pIfS, pRet, pRetN, pAsg, pDrop, pPar, pAug, gNm, gTupP, gConsP, gNilP, pVar, pC, pBin, pChain, pUn, kNeg, pTst, pTru, pAndT, pOrT, pNotT, pAndV, pOrV, pNotV, pIf, pCons, pNil, pTup, pLst, pStar, pCallB, pCall, pMeth, pProp, pFld, pFrz, pIL, pIT, pZip, pEnum, pR1, pR2, pR3, pSlL, pSlT, pPart, pNoPart, pLc, pLc2, pDc, pSortSc, pFor, pNewL, pNewD, pApp, pExt, pDPut, pSetL, pOwnD, pIsN, pNotN, pListVals, pListValsT, pIVals, pIKeys, pIItems, onDic, pIStr, pDGet1, pTsYes, pParL, pParR, pCel, pCelSet, pNewCel, pNeverS, wipeP, List.set_cons_zero, List.set_cons_succ, List.getElem?_cons_zero, List.getElem?_cons_succ, List.length_cons, List.length_nil, pDisp, pPairs, pZipS, seqP, pCallD, pForR, pCallX, xSeq, xOf, xNext, xIfS, xRaise, xAsg, xDrop, xRet, xCall, xTryAs, pXf, pIncJ, pCelSetJ, pNewCelJ]
  have n := h.n
  have dp := h.dpos
  have dl := lg (k := B1) (by decide) h.dlt
  have Ld : L.natAbs.log2 < 1000 := lg (k := B1) (by decide) h.lL
  have dO : ∀ x, DivOk x (dv L os) := fun x => ⟨by omega, by unfold B1 at dl; omega⟩
  have fl := h.flen
  have tl := lg (by decide) h.tlt
  have fb : ∀ f ∈ fc L os, f.natAbs.log2 < 400000 := fun f hf => one_size (h.ffac f hf) (by decide) (by decide)
  have qb : ∀ x : Int, x.natAbs < 2 ^ B1 → (x.fdiv (dv L os)).natAbs.log2 < 400000 := fun x hx => one_size (k := B1) (Nat.lt_of_le_of_lt (fdiv_le_abs dp) hx) (by decide) (by decide)
  refine ⟨L, os, rfl, h, by trivial, ?_⟩
  simp only [obsP, iL, zipP_map, List.length_map, fl]
  refine ⟨by trivial, ?_⟩
  refine lcL_map (fun x : Int × (Int × Int) => PV.tup [.int x.1, obP x.2]) (fun x => PV.int (x.1 * x.2.2)) ((fc L os).zip os) (fun x hx T t => ?_) (size_le (by simp; omega)) ?_
  · simp only [te_find_class_1, obP, pSeq, pNext, pIfS, pRet, pRetN, pAsg, pDrop, pPar, pAug, gNm, gTupP, gConsP, gNilP, pVar, pC, pBin, pChain, pUn, kNeg, pTst, pTru, pAndT, pOrT, pNotT, pAndV, pOrV, pNotV, pIf, pCons, pNil, pTup, pLst, pStar, pCallB, pCall, pMeth, pProp, pFld, pFrz, pIL, pIT, pZip, pEnum, pR1, pR2, pR3, pSlL, pSlT, pPart, pNoPart, pLc, pLc2, pDc, pSortSc, pFor, pNewL, pNewD, pApp, pExt, pDPut, pSetL, pOwnD, pIsN, pNotN, pListVals, pListValsT, pIVals, pIKeys, pIItems, onDic, pIStr, pDGet1, pTsYes, pParL, pParR, pCel, pCelSet, pNewCel, pNeverS, wipeP, List.set_cons_zero, List.set_cons_succ, List.getElem?_cons_zero, List.getElem?_cons_succ, List.length_cons, List.length_nil, kII_int]
    obtain ⟨x1, x2⟩ := x
    have m := List.of_mem_zip hx
    exact ⟨by trivial, by trivial, mul_small (fb _ m.1) (one_size (k := B1) (h.p _ m.2) (by decide) (by decide)), t⟩
  simp only [kSum, intsP_map, sum_zip2, kII_int, kNe_int]
  have eT : dotL (fc L os) (pls os) = tot L os := rfl
  rw [eT]
  refine ⟨by omega, ?_⟩
  by_cases z : (tot L os).fmod (dv L os) = 0
  · simp only [z, decide_true, Bool.not_true]
    rw [enumP_map]
    have hfind : findC L os = pickC L os (os.zipIdx.find? fun x => badO L os x.1) := by
      unfold findC
      rw [if_pos z]
    refine forL_of (fun p : (Int × Int) × Nat => PV.tup [.int (p.2 : Nat), obP p.1]) (fun rest ρ => (∀ x ∈ rest, x.1 ∈ os) ∧ (os.zipIdx.find? fun x => badO L os x.1) = (rest.find? fun x => badO L os x.1) ∧ ∃ x5 x6 x7 x8 x9 x10 x11 : Slt, ρ = [.val (.int L), .val (.lst (os.map obP)), .val (.int (dv L os)), .val (.lst ((fc L os).map PV.int)), .val (.int (tot L os)), x5, x6, x7, x8, x9, x10, x11]) ?_ ?_ os.zipIdx _ ⟨fun x hx => List.mem_of_getElem? ((List.mk_mem_zipIdx_iff_getElem? (x := x.1) (i := x.2)).mp hx), rfl, _, _, _, _, _, _, _, rfl⟩
    · rintro x rest ρ ⟨hr, hf, x5, x6, x7, x8, x9, x10, x11, rfl⟩ N hN
      have hx := hr x (List.mem_cons_self ..)
      have tx := qb x.1.1 (h.t _ hx)
      simp only [tb_find_class_4, obP, pSeq, pNext, pIfS, pRet, pRetN, pAsg, pDrop, pPar, pAug, gNm, gTupP, gConsP, gNilP, pVar, pC, pBin, pChain, pUn, kNeg, pTst, pTru, pAndT, pOrT, pNotT, pAndV, pOrV, pNotV, pIf, pCons, pNil, pTup, pLst, pStar, pCallB, pCall, pMeth, pProp, pFld, pFrz, pIL, pIT, pZip, pEnum, pR1, pR2, pR3, pSlL, pSlT, pPart, pNoPart, pLc, pLc2, pDc, pSortSc, pFor, pNewL, pNewD, pApp, pExt, pDPut, pSetL, pOwnD, pIsN, pNotN, pListVals, pListValsT, pIVals, pIKeys, pIItems, onDic, pIStr, pDGet1, pTsYes, pParL, pParR, pCel, pCelSet, pNewCel, pNeverS, wipeP, List.set_cons_zero, List.set_cons_succ, List.getElem?_cons_zero, List.getElem?_cons_succ, List.length_cons, List.length_nil, kII_int, kI0_int, kNe_int]
      refine ⟨by trivial, by trivial, dO _, mul_small tx (by omega), by have := h.l1; omega, ?_⟩
      have fs := find_step (fun x : (Int × Int) × Nat => badO L os x.1) x _ rest hf
      by_cases b : (x.1.1.fdiv (dv L os) * tot L os - x.1.2).fmod L = 0
      · simp only [b, decide_true, Bool.not_true]
        exact hN _ ⟨fun y hy => hr y (List.mem_cons_of_mem _ hy), fs.2 (by simp only [badO, b, decide_true, Bool.not_true]), _, _, _, _, _, _, _, rfl⟩
      · simp only [decide_eq_false b, Bool.not_false]
        have e := fs.1 (by simp only [badO, decide_eq_false b, Bool.not_false])
        rw [e] at hfind
        rw [enumP_map]
        refine lcL_map (fun p : Int × Nat => PV.tup [.int (p.2 : Nat), .int p.1]) (fun p => PV.int (x.1.1.fdiv (dv L os) * p.1 - (if decide ((p.2 : Int) = (x.2 : Int)) then 1 else 0))) (fc L os).zipIdx (fun p hp T t => ?_) (size_le (by simp; omega)) ?_
        · have pm : p.1 ∈ fc L os := List.mem_of_getElem? ((List.mk_mem_zipIdx_iff_getElem? (x := p.1) (i := p.2)).mp hp)
          simp only [te_find_class_3, pSeq, pNext, pIfS, pRet, pRetN, pAsg, pDrop, pPar, pAug, gNm, gTupP, gConsP, gNilP, pVar, pC, pBin, pChain, pUn, kNeg, pTst, pTru, pAndT, pOrT, pNotT, pAndV, pOrV, pNotV, pIf, pCons, pNil, pTup, pLst, pStar, pCallB, pCall, pMeth, pProp, pFld, pFrz, pIL, pIT, pZip, pEnum, pR1, pR2, pR3, pSlL, pSlT, pPart, pNoPart, pLc, pLc2, pDc, pSortSc, pFor, pNewL, pNewD, pApp, pExt, pDPut, pSetL, pOwnD, pIsN, pNotN, pListVals, pListValsT, pIVals, pIKeys, pIItems, onDic, pIStr, pDGet1, pTsYes, pParL, pParR, pCel, pCelSet, pNewCel, pNeverS, wipeP, List.set_cons_zero, List.set_cons_succ, List.getElem?_cons_zero, List.getElem?_cons_succ, List.length_cons, List.length_nil, kII_int, kI0_int, kEq_int, kInt_bl]
          exact ⟨by trivial, dO _, mul_small tx (fb _ pm), t⟩
        · rw [hfind] at hq
          simp only [kTuple_lst]
          refine ⟨size_le (by decide), ?_⟩
          simp only [pickC, fcP, refB, iL, List.map_map] at hq
          exact hq
    · rintro ρ ⟨_, hf, x5, x6, x7, x8, x9, x10, x11, rfl⟩
      rw [hf] at hfind
      simp only [List.find?_nil] at hfind
      rw [hfind] at hq
      simp only [pSeq, pNext, pIfS, pRet, pRetN, pAsg, pDrop, pPar, pAug, gNm, gTupP, gConsP, gNilP, pVar, pC, pBin, pChain, pUn, kNeg, pTst, pTru, pAndT, pOrT, pNotT, pAndV, pOrV, pNotV, pIf, pCons, pNil, pTup, pLst, pStar, pCallB, pCall, pMeth, pProp, pFld, pFrz, pIL, pIT, pZip, pEnum, pR1, pR2, pR3, pSlL, pSlT, pPart, pNoPart, pLc, pLc2, pDc, pSortSc, pFor, pNewL, pNewD, pApp, pExt, pDPut, pSetL, pOwnD, pIsN, pNotN, pListVals, pListValsT, pIVals, pIKeys, pIItems, onDic, pIStr, pDGet1, pTsYes, pParL, pParR, pCel, pCelSet, pNewCel, pNeverS, wipeP, List.set_cons_zero, List.set_cons_succ, List.getElem?_cons_zero, List.getElem?_cons_succ, List.length_cons, List.length_nil, kII_int]
      have mp : L.fdiv (dv L os) ≠ 0 := by
        have c := h.comb.dvd L (List.mem_cons_self ..)
        obtain ⟨k, e⟩ := c
        have e : L = dv L os * k := e
        have l1 := h.l1
        have : L.fdiv (dv L os) = k := by
          have key := Int.mul_fdiv_cancel_left k (a := dv L os) (by omega)
          rw [← e] at key
          exact key
        rw [this]
        intro z
        rw [z, Int.mul_zero] at e; omega
      refine ⟨dO _, dO _, mp, size_le (by decide), size_le (by decide), hq⟩
  · simp only [decide_eq_false z, Bool.not_false]
    refine lcL_map PV.int (fun f => PV.int (L.fdiv (dv L os) * f)) (fc L os) (fun f hf T t => ?_) (size_le (by omega)) ?_
    · simp only [te_find_class_2, pSeq, pNext, pIfS, pRet, pRetN, pAsg, pDrop, pPar, pAug, gNm, gTupP, gConsP, gNilP, pVar, pC, pBin, pChain, pUn, kNeg, pTst, pTru, pAndT, pOrT, pNotT, pAndV, pOrV, pNotV, pIf, pCons, pNil, pTup, pLst, pStar, pCallB, pCall, pMeth, pProp, pFld, pFrz, pIL, pIT, pZip, pEnum, pR1, pR2, pR3, pSlL, pSlT, pPart, pNoPart, pLc, pLc2, pDc, pSortSc, pFor, pNewL, pNewD, pApp, pExt, pDPut, pSetL, pOwnD, pIsN, pNotN, pListVals, pListValsT, pIVals, pIKeys, pIItems, onDic, pIStr, pDGet1, pTsYes, pParL, pParR, pCel, pCelSet, pNewCel, pNeverS, wipeP, List.set_cons_zero, List.set_cons_succ, List.getElem?_cons_zero, List.getElem?_cons_succ, List.length_cons, List.length_nil, kII_int]
      exact ⟨dO _, mul_small (qb L h.lL) (fb f hf), t⟩
    · simp only [kTuple_lst]
      refine ⟨size_le (by decide), ?_⟩
      have hfind : findC L os = .inr (refA L os) := by unfold findC; rw [if_neg z]
      rw [hfind] at hq
      simp only [fcP, refA, iL, List.map_map] at hq
      exact hq
theorem hp_fitting_speeds : ∀ as Q Xp, Ph_fitting_speeds as Q Xp → as.length = 2 ∧ t_fitting_speeds ⟨⟨fun _ => Q .non, Q, fun _ => False, fun _ => False⟩, fun c ps _ => Xp c ps⟩ (startP N_fitting_speeds as) := by
  rintro as Q Xp ⟨L, os, rfl, h, hq⟩
  refine ⟨rfl, ?_⟩
  simp only [st_fitting_speeds, t_fitting_speeds, pSeq, pNext, pIfS, pRet, pRetN, pAsg, pDrop, pPar, pAug, gNm, gTupP, gConsP, gNilP, pVar, pC, pBin, pChain, pUn, kNeg, pTst, pTru, pAndT, pOrT, pNotT, pAndV, pOrV, pNotV, pIf, pCons, pNil, pTup, pLst, pStar, pCallB, pCall, pMeth, pProp, pFld, pFrz, pIL, pIT, pZip, pEnum, pR1, pR2, pR3, pSlL, pSlT, pPart, pNoPart, pLc, pLc2, pDc, pSortSc, pFor, pNewL, pNewD, pApp, pExt, pDPut, pSetL, pOwnD, pIsN, pNotN, pListVals, pListValsT, pIVals, pIKeys, pIItems, onDic, pIStr, pDGet1, pTsYes, pParL, pParR, pCel, pCelSet, pNewCel, pNeverS, wipeP, List.set_cons_zero, List.set_cons_succ, List.getElem?_cons_zero, List.getElem?_cons_succ, List.length_cons, List.length_nil, pDisp, pPairs, pZipS, seqP, pCallD, pForR, pCallX, xSeq, xOf, xNext, xIfS, xRaise, xAsg, xDrop, xRet, xCall, xTryAs, pXf, pIncJ, pCelSetJ, pNewCelJ]
  refine ⟨L, os, rfl, h.l1, h.n, h.t0, L, os, rfl, h, ?_⟩
  cases e : findC L os with
  | inl rm =>
    obtain ⟨r, m⟩ := rm
    rw [e] at hq
    simp only [fcP, pSeq, pNext, pIfS, pRet, pRetN, pAsg, pDrop, pPar, pAug, gNm, gTupP, gConsP, gNilP, pVar, pC, pBin, pChain, pUn, kNeg, pTst, pTru, pAndT, pOrT, pNotT, pAndV, pOrV, pNotV, pIf, pCons, pNil, pTup, pLst, pStar, pCallB, pCall, pMeth, pProp, pFld, pFrz, pIL, pIT, pZip, pEnum, pR1, pR2, pR3, pSlL, pSlT, pPart, pNoPart, pLc, pLc2, pDc, pSortSc, pFor, pNewL, pNewD, pApp, pExt, pDPut, pSetL, pOwnD, pIsN, pNotN, pListVals, pListValsT, pIVals, pIKeys, pIItems, onDic, pIStr, pDGet1, pTsYes, pParL, pParR, pCel, pCelSet, pNewCel, pNeverS, wipeP, List.set_cons_zero, List.set_cons_succ, List.getElem?_cons_zero, List.getElem?_cons_succ, List.length_cons, List.length_nil, isNonP]
    exact ⟨by trivial, hq⟩
  | inr l =>
    rw [e] at hq
    simp only [fcP, pSeq, pNext, pIfS, pRet, pRetN, pAsg, pDrop, pPar, pAug, gNm, gTupP, gConsP, gNilP, pVar, pC, pBin, pChain, pUn, kNeg, pTst, pTru, pAndT, pOrT, pNotT, pAndV, pOrV, pNotV, pIf, pCons, pNil, pTup, pLst, pStar, pCallB, pCall, pMeth, pProp, pFld, pFrz, pIL, pIT, pZip, pEnum, pR1, pR2, pR3, pSlL, pSlT, pPart, pNoPart, pLc, pLc2, pDc, pSortSc, pFor, pNewL, pNewD, pApp, pExt, pDPut, pSetL, pOwnD, pIsN, pNotN, pListVals, pListValsT, pIVals, pIKeys, pIItems, onDic, pIStr, pDGet1, pTsYes, pParL, pParR, pCel, pCelSet, pNewCel, pNeverS, wipeP, List.set_cons_zero, List.set_cons_succ, List.getElem?_cons_zero, List.getElem?_cons_succ, List.length_cons, List.length_nil, isNonP]
    exact ⟨by trivial, hq⟩
theorem hp_law_refusal : ∀ as Q, Ph_law_refusal as Q → as.length = 2 ∧ t_law_refusal ⟨fun _ => Q .non, Q, fun _ => False, fun _ => False⟩ (startP N_law_refusal as) := by
  rintro as Q ⟨L, os, rfl, h, hq⟩
  refine ⟨rfl, ?_⟩
  simp only [st_law_refusal, t_law_refusal, pSeq, pNext, pIfS, pRet, pRetN, pAsg, pDrop, pPar, pAug, gNm, gTupP, gConsP, gNilP, pVar, pC, pBin, pChain, pUn, kNeg, pTst, pTru, pAndT, pOrT, pNotT, pAndV, pOrV, pNotV, pIf, pCons, pNil, pTup, pLst, pStar, pCallB, pCall, pMeth, pProp, pFld, pFrz, pIL, pIT, pZip, pEnum, pR1, pR2, pR3, pSlL, pSlT, pPart, pNoPart, pLc, pLc2, pDc, pSortSc, pFor, pNewL, pNewD, pApp, pExt, pDPut, pSetL, pOwnD, pIsN, pNotN, pListVals, pListValsT, pIVals, pIKeys, pIItems, onDic, pIStr, pDGet1, pTsYes, pParL, pParR, pCel, pCelSet, pNewCel, pNeverS, wipeP, List.set_cons_zero, List.set_cons_succ, List.getElem?_cons_zero, List.getElem?_cons_succ, List.length_cons, List.length_nil, pDisp, pPairs, pZipS, seqP, pCallD, pForR, pCallX, xSeq, xOf, xNext, xIfS, xRaise, xAsg, xDrop, xRet, xCall, xTryAs, pXf, pIncJ, pCelSetJ, pNewCelJ]
  refine ⟨L, os, rfl, h, ?_⟩
  cases e : findC L os with
  | inl rm =>
    obtain ⟨r, m⟩ := rm
    rw [e] at hq
    exact hq
  | inr l =>
    rw [e] at hq
    refine ⟨by trivial, fun a d => ⟨by trivial, by trivial, ?_⟩⟩
    exact hq
theorem kLen_tup2 {l : List PV} {Q : PV → Prop} : kLen [.tup l] Q = Q (.int l.length) := rfl
theorem hp_is_no_speed : ∀ as Q, Ph_is_no_speed as Q → as.length = 3 ∧ t_is_no_speed ⟨fun _ => Q .non, Q, fun _ => False, fun _ => False⟩ (startP N_is_no_speed as) := by
  rintro as Q ⟨L, os, vs, rfl, h, hl, hv, hq⟩
  refine ⟨rfl, ?_⟩
  simp only [st_is_no_speed, t_is_no_speed, pSeq, pNext, pIfS, pRet, pRetN, pAsg, pDrop, pPar, pAug, gNm, gTupP, gConsP, gNilP, pVar, pC, pBin, pChain, pUn, kNeg, pTst, pTru, pAndT, pOrT, pNotT, pAndV, pOrV, pNotV, pIf, pCons, pNil, pTup, pLst, pStar, pCallB, pCall, pMeth, pProp, pFld, pFrz, pIL, pIT, pZip, pEnum, pR1, pR2, pR3, pSlL, pSlT, pPart, pNoPart, pLc, pLc2, pDc, pSortSc, pFor, pNewL, pNewD, pApp, pExt, pDPut, pSetL, pOwnD, pIsN, pNotN, pListVals, pListValsT, pIVals, pIKeys, pIItems, onDic, pIStr, pDGet1, pTsYes, pParL, pParR, pCel, pCelSet, pNewCel, pNeverS, wipeP, List.set_cons_zero, List.set_cons_succ, List.getElem?_cons_zero, List.getElem?_cons_succ, List.length_cons, List.length_nil, pDisp, pPairs, pZipS, seqP, pCallD, pForR, pCallX, xSeq, xOf, xNext, xIfS, xRaise, xAsg, xDrop, xRet, xCall, xTryAs, pXf, pIncJ, pCelSetJ, pNewCelJ]
  have n := h.n
  have vb : ∀ v ∈ vs, v.natAbs.log2 < 900000 := fun v m => lg (by decide) (hv v m)
  refine ⟨L, os, rfl, h.l1, h.n, h.t0, ?_⟩
  rw [kIsi_of rfl kit_tt]
  simp only [Bool.not_true, kLen_tup, kLen_lst, obsP, iL, List.length_map, kNe_int, hl, decide_true]
  refine lcL_map PV.int (fun _ => PV.bl true) vs (fun v m T t => ?_) (size_le (by omega)) ?_
  · simp only [te_is_no_speed_1, pSeq, pNext, pIfS, pRet, pRetN, pAsg, pDrop, pPar, pAug, gNm, gTupP, gConsP, gNilP, pVar, pC, pBin, pChain, pUn, kNeg, pTst, pTru, pAndT, pOrT, pNotT, pAndV, pOrV, pNotV, pIf, pCons, pNil, pTup, pLst, pStar, pCallB, pCall, pMeth, pProp, pFld, pFrz, pIL, pIT, pZip, pEnum, pR1, pR2, pR3, pSlL, pSlT, pPart, pNoPart, pLc, pLc2, pDc, pSortSc, pFor, pNewL, pNewD, pApp, pExt, pDPut, pSetL, pOwnD, pIsN, pNotN, pListVals, pListValsT, pIVals, pIKeys, pIItems, onDic, pIStr, pDGet1, pTsYes, pParL, pParR, pCel, pCelSet, pNewCel, pNeverS, wipeP, List.set_cons_zero, List.set_cons_succ, List.getElem?_cons_zero, List.getElem?_cons_succ, List.length_cons, List.length_nil]
    exact ⟨.int v, by trivial, by trivial, t⟩
  have ball : ∀ {α : Type} (l : List α), blsP (l.map fun _ => PV.bl true) = some (l.map fun _ => true) := fun l => blsP_map (fun _ => true) l
  have tall : ∀ {α : Type} (l : List α), ((l.map fun _ => true).all id) = true := fun l => by simp
  simp only [kAll, ball, tall, Bool.not_true, zipP_map]
  refine ⟨by trivial, ?_⟩
  have lz : (vs.zip os).length ≤ sizeLine := size_le (by simp; omega)
  refine lcL_map (fun x : Int × (Int × Int) => PV.tup [.int x.1, obP x.2]) (fun x => PV.int (x.1 * x.2.1)) (vs.zip os) (fun x hx T t => ?_) lz ?_
  · simp only [te_is_no_speed_2, obP, pSeq, pNext, pIfS, pRet, pRetN, pAsg, pDrop, pPar, pAug, gNm, gTupP, gConsP, gNilP, pVar, pC, pBin, pChain, pUn, kNeg, pTst, pTru, pAndT, pOrT, pNotT, pAndV, pOrV, pNotV, pIf, pCons, pNil, pTup, pLst, pStar, pCallB, pCall, pMeth, pProp, pFld, pFrz, pIL, pIT, pZip, pEnum, pR1, pR2, pR3, pSlL, pSlT, pPart, pNoPart, pLc, pLc2, pDc, pSortSc, pFor, pNewL, pNewD, pApp, pExt, pDPut, pSetL, pOwnD, pIsN, pNotN, pListVals, pListValsT, pIVals, pIKeys, pIItems, onDic, pIStr, pDGet1, pTsYes, pParL, pParR, pCel, pCelSet, pNewCel, pNeverS, wipeP, List.set_cons_zero, List.set_cons_succ, List.getElem?_cons_zero, List.getElem?_cons_succ, List.length_cons, List.length_nil, kII_int]
    obtain ⟨x1, x2⟩ := x
    have m := List.of_mem_zip hx
    have e1 := vb _ m.1
    have e2 := lg (k := B1) (by decide) (h.t _ m.2)
    exact ⟨by trivial, by trivial, by show x1.natAbs.log2 + x2.1.natAbs.log2 < 1000000; unfold B1 at e2; omega, t⟩
  simp only [kSum, intsP_map, sum_zip1]
  refine ⟨by trivial, ?_⟩
  refine lcL_map (fun x : Int × (Int × Int) => PV.tup [.int x.1, obP x.2]) (fun x => PV.int (x.1 * x.2.2)) (vs.zip os) (fun x hx T t => ?_) lz ?_
  · simp only [te_is_no_speed_3, obP, pSeq, pNext, pIfS, pRet, pRetN, pAsg, pDrop, pPar, pAug, gNm, gTupP, gConsP, gNilP, pVar, pC, pBin, pChain, pUn, kNeg, pTst, pTru, pAndT, pOrT, pNotT, pAndV, pOrV, pNotV, pIf, pCons, pNil, pTup, pLst, pStar, pCallB, pCall, pMeth, pProp, pFld, pFrz, pIL, pIT, pZip, pEnum, pR1, pR2, pR3, pSlL, pSlT, pPart, pNoPart, pLc, pLc2, pDc, pSortSc, pFor, pNewL, pNewD, pApp, pExt, pDPut, pSetL, pOwnD, pIsN, pNotN, pListVals, pListValsT, pIVals, pIKeys, pIItems, onDic, pIStr, pDGet1, pTsYes, pParL, pParR, pCel, pCelSet, pNewCel, pNeverS, wipeP, List.set_cons_zero, List.set_cons_succ, List.getElem?_cons_zero, List.getElem?_cons_succ, List.length_cons, List.length_nil, kII_int]
    obtain ⟨x1, x2⟩ := x
    have m := List.of_mem_zip hx
    have e1 := vb _ m.1
    have e2 := lg (k := B1) (by decide) (h.p _ m.2)
    exact ⟨by trivial, by trivial, by show x1.natAbs.log2 + x2.2.natAbs.log2 < 1000000; unfold B1 at e2; omega, t⟩
  simp only [kSum, intsP_map, sum_zip2, kII_int, kEq_int, kNe_int]
  have l1 := h.l1
  refine ⟨by omega, ?_⟩
  by_cases z : (dotL vs (tms os)).fmod L = 0
  · simp only [z, decide_true, Bool.true_and] at hq ⊢
    exact ⟨by omega, hq⟩
  · simp only [decide_eq_false z, Bool.false_and] at hq ⊢
    exact hq
end G


/-! ## SO3 -/
/-! Observations: what the class says; numbers of speeds, the next look. -/
namespace G
open PySem PySem.Spec PyProof.Rows L2 L3 MR MB
theorem fmod0 {a b : Int} : a.fmod b = 0 ↔ b ∣ a := by
  constructor
  · intro h; exact Int.dvd_of_fmod_eq_zero h
  · rintro ⟨k, rfl⟩; exact Int.mul_fmod_right ..
theorem dot_tail (c : Int) : ∀ (l m : List Int), dotL (l.map (c * ·)) m = c * dotL l m := fun l m => dotL_map c l m
theorem ObsIn.bez {L : Int} {os : List (Int × Int)} (h : ObsIn L os) : ∃ f0 : Int, f0 * L + dotL (fc L os) (tms os) = dv L os := by
  have c := h.comb
  have e := c.eq
  have l := c.len
  unfold fc dv
  cases q : (combW (L :: tms os)).2 with
  | nil => rw [q] at l; simp at l
  | cons a r =>
    rw [q] at e
    exact ⟨a, e⟩
theorem ObsIn.dL {L : Int} {os : List (Int × Int)} (h : ObsIn L os) : dv L os ∣ L := h.comb.dvd L (List.mem_cons_self ..)
theorem ObsIn.dT {L : Int} {os : List (Int × Int)} (h : ObsIn L os) : ∀ o ∈ os, dv L os ∣ o.1 := fun o ho => h.comb.dvd o.1 (List.mem_cons_of_mem _ (List.mem_map.mpr ⟨o, ho, rfl⟩))
theorem fdiv_mul {d x : Int} (hd : d ≠ 0) (h : d ∣ x) : x.fdiv d * d = x := by
  obtain ⟨k, rfl⟩ := h
  rw [Int.mul_fdiv_cancel_left k hd, Int.mul_comm]
/-- all fit a speed -/
def Fits (L s : Int) (os : List (Int × Int)) : Prop := ∀ o ∈ os, L ∣ o.1 * s - o.2
theorem dot_fit {L s : Int} : ∀ (fs : List Int) (os : List (Int × Int)), Fits L s os → L ∣ dotL fs (tms os) * s - dotL fs (pls os)
  | [], os, _ => by simp [dotL]
  | f :: fs, [], _ => by simp [dotL, tms, pls]
  | f :: fs, o :: os, h => by
    have ih := dot_fit fs os fun x hx => h x (List.mem_cons_of_mem _ hx)
    have h0 := h o (List.mem_cons_self ..)
    have e : dotL (f :: fs) (tms (o :: os)) * s - dotL (f :: fs) (pls (o :: os)) = f * (o.1 * s - o.2) + (dotL fs (tms os) * s - dotL fs (pls os)) := by
      simp only [dotL, tms, pls, List.map_cons, Int.add_mul, Int.mul_sub, Int.mul_assoc]
      omega
    rw [e]
    exact Int.dvd_add (Int.dvd_mul_of_dvd_right h0) ih
theorem tot_fit {L s : Int} {os : List (Int × Int)} (h : ObsIn L os) (f : Fits L s os) : L ∣ dv L os * s - tot L os := by
  obtain ⟨f0, e⟩ := h.bez
  have d := dot_fit (fc L os) os f
  have e2 : dv L os * s - tot L os = f0 * s * L + (dotL (fc L os) (tms os) * s - dotL (fc L os) (pls os)) := by
    rw [← e]
    unfold tot
    simp only [Int.add_mul, Int.mul_assoc, Int.mul_comm L s]
    omega
  rw [e2]
  exact Int.dvd_add (Int.dvd_mul_left ..) d
theorem find_fit {L s : Int} {os : List (Int × Int)} (h : ObsIn L os) (f : Fits L s os) : ∃ r m, findC L os = .inl (r, m) ∧ m * dv L os = L ∧ 0 ≤ r ∧ r < m ∧ m ∣ s - r := by
  have dp := h.dpos
  have l1 := h.l1
  obtain ⟨k, ek⟩ := tot_fit h f
  have hL := fdiv_mul (by omega) h.dL
  have tdv : dv L os ∣ tot L os := by
    have : tot L os = dv L os * s - L * k := by omega
    rw [this]
    exact Int.dvd_sub (Int.dvd_mul_right ..) (Int.dvd_mul_of_dvd_left h.dL)
  have z := fmod0.mpr tdv
  have ht := fdiv_mul (by omega) tdv
  -- tot / d = s - m k
  have et : (tot L os).fdiv (dv L os) = s - L.fdiv (dv L os) * k := by
    refine Int.eq_of_mul_eq_mul_right (a := dv L os) (by omega) ?_
    rw [ht, Int.sub_mul, Int.mul_assoc, Int.mul_comm k, ← Int.mul_assoc, hL]
    rw [Int.mul_comm s]
    omega
  have nob : (os.zipIdx.find? fun x => badO L os x.1) = none := by
    rw [List.find?_eq_none]
    intro x hx
    have hm : x.1 ∈ os := List.mem_of_getElem? ((List.mk_mem_zipIdx_iff_getElem? (x := x.1) (i := x.2)).mp hx)
    have hd := fdiv_mul (by omega) (h.dT _ hm)
    obtain ⟨j, ej⟩ := f _ hm
    have : (x.1.1.fdiv (dv L os) * tot L os - x.1.2).fmod L = 0 := by
      refine fmod0.mpr ⟨j - x.1.1.fdiv (dv L os) * k, ?_⟩
      have e1 : tot L os = dv L os * s - L * k := by omega
      rw [e1, Int.mul_sub, ← Int.mul_assoc, hd, Int.mul_sub]
      have e2 : x.1.1.fdiv (dv L os) * (L * k) = L * (x.1.1.fdiv (dv L os) * k) := by
        rw [← Int.mul_assoc, Int.mul_comm _ L, Int.mul_assoc]
      rw [e2]; omega
    simp [badO, this]
  have mp : 0 < L.fdiv (dv L os) := by
    have p : 0 ≤ L.fdiv (dv L os) := Int.fdiv_nonneg (by omega) (by omega)
    have n0 : L.fdiv (dv L os) ≠ 0 := fun q => by rw [q] at hL; omega
    omega
  refine ⟨_, _, by unfold findC; rw [if_pos z, nob]; rfl, hL, Int.fmod_nonneg_of_pos _ mp, Int.fmod_lt_of_pos _ mp, ?_⟩
  have e := Int.mul_fdiv_add_fmod ((tot L os).fdiv (dv L os)) (L.fdiv (dv L os))
  refine ⟨k + ((tot L os).fdiv (dv L os)).fdiv (L.fdiv (dv L os)), ?_⟩
  rw [Int.mul_add]
  omega
theorem dot_sub : ∀ (l l' m : List Int), l.length = l'.length → dotL (List.zipWith (· - ·) l l') m = dotL l m - dotL l' m
  | [], [], m, _ => by simp [dotL]
  | a :: l, b :: l', [], _ => by simp [dotL]
  | a :: l, b :: l', c :: m, h => by
    have := dot_sub l l' m (by simpa using h)
    simp only [List.zipWith_cons_cons, dotL, this, Int.sub_mul]; omega
/-- the refusal of an index: c f - [at = i] -/
theorem dot_ref (c : Int) : ∀ (l m : List Int) (k i : Nat), dotL ((l.zipIdx k).map fun x => c * x.1 - (if decide ((x.2 : Int) = (i : Int)) then 1 else 0)) m = c * dotL l m - (if k ≤ i ∧ i - k < l.length then m.getD (i - k) 0 else 0)
  | [], m, k, i => by simp [dotL]
  | a :: l, [], k, i => by simp [dotL]
  | a :: l, b :: m, k, i => by
    have ih := dot_ref c l m (k + 1) i
    simp only [List.zipIdx_cons, List.map_cons, dotL, ih, Int.mul_add, Int.mul_assoc, Int.sub_mul, List.length_cons]
    by_cases e : k = i
    · subst e
      have n1 : ¬ (k + 1 ≤ k ∧ k - (k + 1) < l.length) := by omega
      have n2 : k ≤ k ∧ k - k < l.length + 1 := by omega
      rw [if_neg n1, if_pos n2]
      simp; omega
    · have n0 : ¬ ((k : Int) = (i : Int)) := by omega
      rw [show decide ((k : Int) = (i : Int)) = false from decide_eq_false n0]
      simp only [Bool.false_eq_true, if_false]
      by_cases g : k + 1 ≤ i ∧ i - (k + 1) < l.length
      · have g2 : k ≤ i ∧ i - k < l.length + 1 := by omega
        rw [if_pos g, if_pos g2]
        have e2 : i - k = (i - (k + 1)) + 1 := by omega
        rw [e2, List.getD_cons_succ]; omega
      · have g2 : ¬ (k ≤ i ∧ i - k < l.length + 1) := by omega
        rw [if_neg g, if_neg g2]; omega
theorem find_ref {L : Int} {os : List (Int × Int)} (h : ObsIn L os) {l : List Int} (e : findC L os = .inr l) : l.length = os.length ∧ L ∣ dotL l (tms os) ∧ ¬ L ∣ dotL l (pls os) ∧ ∀ v ∈ l, v.natAbs < 2 ^ 900000 := by
  have dp := h.dpos
  have l1 := h.l1
  have hL := fdiv_mul (by omega) h.dL
  obtain ⟨f0, eb⟩ := h.bez
  have fl := h.flen
  unfold findC at e
  by_cases z : (tot L os).fmod (dv L os) = 0
  · rw [if_pos z] at e
    cases q : os.zipIdx.find? fun x => badO L os x.1 with
    | none => rw [q] at e; cases e
    | some x =>
      obtain ⟨o, i⟩ := x
      rw [q] at e
      cases e
      have bad : badO L os o = true := List.find?_some (p := fun x : (Int × Int) × Nat => badO L os x.1) q
      have mm := List.mem_of_find?_eq_some q
      have hi := (List.mk_mem_zipIdx_iff_getElem? (x := o) (i := i)).mp mm
      have hm : o ∈ os := List.mem_of_getElem? hi
      have il : i < os.length := (List.getElem?_eq_some_iff.mp hi).1
      have hd := fdiv_mul (by omega) (h.dT _ hm)
      have r1 := dot_ref (o.1.fdiv (dv L os)) (fc L os) (tms os) 0 i
      have r2 := dot_ref (o.1.fdiv (dv L os)) (fc L os) (pls os) 0 i
      have cond : 0 ≤ i ∧ i - 0 < (fc L os).length := by omega
      rw [if_pos cond] at r1 r2
      have g1 : (tms os).getD (i - 0) 0 = o.1 := by simp [tms, List.getD_eq_getElem?_getD, hi]
      have g2 : (pls os).getD (i - 0) 0 = o.2 := by simp [pls, List.getD_eq_getElem?_getD, hi]
      rw [g1] at r1
      rw [g2] at r2
      refine ⟨by simp [refB, fl], ?_, ?_, ?_⟩
      · show L ∣ dotL (refB L os o.1 i) (tms os)
        unfold refB
        rw [r1]
        refine ⟨-(o.1.fdiv (dv L os) * f0), ?_⟩
        have : dotL (fc L os) (tms os) = dv L os - f0 * L := by omega
        rw [this, Int.mul_sub, hd, ← Int.mul_assoc, Int.mul_neg, Int.mul_comm L]
        omega
      · show ¬ L ∣ dotL (refB L os o.1 i) (pls os)
        unfold refB
        rw [r2]
        intro dd
        have : (o.1.fdiv (dv L os) * tot L os - o.2).fmod L = 0 := fmod0.mpr dd
        simp [badO, this] at bad
      · intro v hv
        simp only [refB, List.mem_map] at hv
        obtain ⟨x, hx, rfl⟩ := hv
        have pm : x.1 ∈ fc L os := List.mem_of_getElem? ((List.mk_mem_zipIdx_iff_getElem? (x := x.1) (i := x.2)).mp hx)
        have a1 := h.ffac _ pm
        have a2 : (o.1.fdiv (dv L os)).natAbs < 2 ^ B1 := Nat.lt_of_le_of_lt (fdiv_le_abs dp) (h.t _ hm)
        have a3 := lt_mul a2 a1
        rw [← Int.natAbs_mul] at a3
        have p : 2 * 2 ^ (B1 + 60000) ≤ 2 ^ 900000 := by
          have : 2 * 2 ^ (B1 + 60000) = 2 ^ (1 + (B1 + 60000)) := by rw [Nat.pow_add (n := B1 + 60000)]
          rw [this]
          exact Nat.pow_le_pow_right (by decide) (by decide)
        have p1 := Nat.one_le_two_pow (n := B1 + 60000)
        refine Nat.lt_of_lt_of_le ?_ p
        generalize (2 : Nat) ^ (B1 + 60000) = N at p1 a3 ⊢
        split <;> omega
  · rw [if_neg z] at e
    cases e
    refine ⟨by simp [refA, fl], ?_, ?_, ?_⟩
    · unfold refA
      rw [dotL_map]
      refine ⟨1 - L.fdiv (dv L os) * f0, ?_⟩
      have : dotL (fc L os) (tms os) = dv L os - f0 * L := by omega
      rw [this, Int.mul_sub, hL, ← Int.mul_assoc, Int.mul_sub, Int.mul_comm L (L.fdiv (dv L os) * f0)]
      omega
    · unfold refA
      rw [dotL_map]
      rintro ⟨k, ek⟩
      refine z (fmod0.mpr ⟨k, ?_⟩)
      have mp : L.fdiv (dv L os) ≠ 0 := fun q => by rw [q] at hL; omega
      refine Int.eq_of_mul_eq_mul_left mp ?_
      show L.fdiv (dv L os) * dotL (fc L os) (pls os) = _
      rw [ek, ← Int.mul_assoc, hL]
    · intro v hv
      simp only [refA, List.mem_map] at hv
      obtain ⟨x, hx, rfl⟩ := hv
      have a1 := h.ffac _ hx
      have a2 : (L.fdiv (dv L os)).natAbs < 2 ^ B1 := Nat.lt_of_le_of_lt (fdiv_le_abs dp) h.lL
      have a3 := lt_mul a2 a1
      rw [← Int.natAbs_mul] at a3
      exact Nat.lt_of_lt_of_le a3 (Nat.pow_le_pow_right (by decide) (by decide))
theorem find_m {L : Int} {os : List (Int × Int)} (h : ObsIn L os) {r m : Int} (e : findC L os = .inl (r, m)) : 0 < m ∧ m.natAbs < 2 ^ B1 ∧ m * dv L os = L := by
  have dp := h.dpos
  have l1 := h.l1
  have hL := fdiv_mul (by omega) h.dL
  have em : m = L.fdiv (dv L os) := by
    unfold findC at e
    by_cases z : (tot L os).fmod (dv L os) = 0
    · rw [if_pos z] at e
      cases q : os.zipIdx.find? fun x => badO L os x.1 with
      | none => rw [q] at e; simp only [pickC, Sum.inl.injEq, Prod.mk.injEq] at e; exact e.2.symm
      | some x => rw [q] at e; cases e
    · rw [if_neg z] at e; cases e
  have p : 0 ≤ L.fdiv (dv L os) := Int.fdiv_nonneg (by omega) (by omega)
  have n0 : L.fdiv (dv L os) ≠ 0 := fun q => by rw [q] at hL; omega
  rw [em]
  exact ⟨by omega, Nat.lt_of_le_of_lt (fdiv_le_abs dp) h.lL, hL⟩
theorem hp_validate_bounds : ∀ as Q, Ph_validate_bounds as Q → as.length = 2 ∧ t_validate_bounds ⟨fun _ => Q .non, Q, fun _ => False, fun _ => False⟩ (startP N_validate_bounds as) := by
  rintro as Q ⟨lo, hi, rfl, hq⟩
  refine ⟨rfl, ?_⟩
  simp only [st_validate_bounds, t_validate_bounds, pSeq, pNext, pIfS, pRet, pRetN, pAsg, pDrop, pPar, pAug, gNm, gTupP, gConsP, gNilP, pVar, pC, pBin, pChain, pUn, kNeg, pTst, pTru, pAndT, pOrT, pNotT, pAndV, pOrV, pNotV, pIf, pCons, pNil, pTup, pLst, pStar, pCallB, pCall, pMeth, pProp, pFld, pFrz, pIL, pIT, pZip, pEnum, pR1, pR2, pR3, pSlL, pSlT, pPart, pNoPart, pLc, pLc2, pDc, pSortSc, pFor, pNewL, pNewD, pApp, pExt, pDPut, pSetL, pOwnD, pIsN, pNotN, pListVals, pListValsT, pIVals, pIKeys, pIItems, onDic, pIStr, pDGet1, pTsYes, pParL, pParR, pCel, pCelSet, pNewCel, pNeverS, wipeP, List.set_cons_zero, List.set_cons_succ, List.getElem?_cons_zero, List.getElem?_cons_succ, List.length_cons, List.length_nil, pDisp, pPairs, pZipS, seqP, pCallD, pForR, pCallX, xSeq, xOf, xNext, xIfS, xRaise, xAsg, xDrop, xRet, xCall, xTryAs, pXf, pIncJ, pCelSetJ, pNewCelJ]
  refine ⟨_, rfl, rfl, ?_⟩
  simp only [isI, Bool.not_true]
  refine ⟨_, rfl, rfl, ?_⟩
  simp only [isI, Bool.not_true]
  exact hq
theorem kIx_fc {x : (Int × Int) ⊕ List Int} {Q : PV → Prop} : kIx (fcP x) (.int 0) Q = Q (match x with | .inl (r, m) => .tup [.int r, .int m] | .inr _ => .non) := by
  cases x <;> rfl
theorem hp_count_speeds : ∀ as Q, Ph_count_speeds as Q → as.length = 4 ∧ t_count_speeds ⟨fun _ => Q .non, Q, fun _ => False, fun _ => False⟩ (startP N_count_speeds as) := by
  rintro as Q ⟨L, os, lo, hi, rfl, h, hq⟩
  refine ⟨rfl, ?_⟩
  simp only [st_count_speeds, t_count_speeds, pSeq, pNext, pIfS, pRet, pRetN, pAsg, pDrop, pPar, pAug, gNm, gTupP, gConsP, gNilP, pVar, pC, pBin, pChain, pUn, kNeg, pTst, pTru, pAndT, pOrT, pNotT, pAndV, pOrV, pNotV, pIf, pCons, pNil, pTup, pLst, pStar, pCallB, pCall, pMeth, pProp, pFld, pFrz, pIL, pIT, pZip, pEnum, pR1, pR2, pR3, pSlL, pSlT, pPart, pNoPart, pLc, pLc2, pDc, pSortSc, pFor, pNewL, pNewD, pApp, pExt, pDPut, pSetL, pOwnD, pIsN, pNotN, pListVals, pListValsT, pIVals, pIKeys, pIItems, onDic, pIStr, pDGet1, pTsYes, pParL, pParR, pCel, pCelSet, pNewCel, pNeverS, wipeP, List.set_cons_zero, List.set_cons_succ, List.getElem?_cons_zero, List.getElem?_cons_succ, List.length_cons, List.length_nil, pDisp, pPairs, pZipS, seqP, pCallD, pForR, pCallX, xSeq, xOf, xNext, xIfS, xRaise, xAsg, xDrop, xRet, xCall, xTryAs, pXf, pIncJ, pCelSetJ, pNewCelJ]
  refine ⟨L, os, rfl, h.l1, h.n, h.t0, lo, hi, rfl, L, os, rfl, h, ?_⟩
  simp only [kIx_fc]
  unfold countC at hq
  cases e : findC L os with
  | inr l =>
    rw [e] at hq
    simp only [isNonP]
    exact hq
  | inl rm =>
    obtain ⟨r, m⟩ := rm
    rw [e] at hq
    obtain ⟨m0, mb, _⟩ := find_m h e
    have ml := lg (k := B1) (by decide) mb
    simp only [isNonP, kI0_int]
    by_cases c : hi < lo
    · simp only [decide_eq_true c]
      simp only [if_pos c] at hq
      exact hq
    · simp only [decide_eq_false c, kII_int, kI0_int, pSeq, pNext, pIfS, pRet, pRetN, pAsg, pDrop, pPar, pAug, gNm, gTupP, gConsP, gNilP, pVar, pC, pBin, pChain, pUn, kNeg, pTst, pTru, pAndT, pOrT, pNotT, pAndV, pOrV, pNotV, pIf, pCons, pNil, pTup, pLst, pStar, pCallB, pCall, pMeth, pProp, pFld, pFrz, pIL, pIT, pZip, pEnum, pR1, pR2, pR3, pSlL, pSlT, pPart, pNoPart, pLc, pLc2, pDc, pSortSc, pFor, pNewL, pNewD, pApp, pExt, pDPut, pSetL, pOwnD, pIsN, pNotN, pListVals, pListValsT, pIVals, pIKeys, pIItems, onDic, pIStr, pDGet1, pTsYes, pParL, pParR, pCel, pCelSet, pNewCel, pNeverS, wipeP, List.set_cons_zero, List.set_cons_succ, List.getElem?_cons_zero, List.getElem?_cons_succ, List.length_cons, List.length_nil]
      simp only [if_neg c] at hq
      have dm : ∀ x, DivOk x m := fun x => ⟨by omega, by unfold B1 at ml; omega⟩
      exact ⟨by trivial, dm _, dm _, hq⟩
theorem hp_speeds_between : ∀ as Q, Ph_speeds_between as Q → as.length = 4 ∧ t_speeds_between ⟨fun _ => Q .non, Q, fun _ => False, fun _ => False⟩ (startP N_speeds_between as) := by
  rintro as Q ⟨L, os, lo, hi, rfl, h, c0, c1, hq⟩
  refine ⟨rfl, ?_⟩
  simp only [st_speeds_between, t_speeds_between, pSeq, pNext, pIfS, pRet, pRetN, pAsg, pDrop, pPar, pAug, gNm, gTupP, gConsP, gNilP, pVar, pC, pBin, pChain, pUn, kNeg, pTst, pTru, pAndT, pOrT, pNotT, pAndV, pOrV, pNotV, pIf, pCons, pNil, pTup, pLst, pStar, pCallB, pCall, pMeth, pProp, pFld, pFrz, pIL, pIT, pZip, pEnum, pR1, pR2, pR3, pSlL, pSlT, pPart, pNoPart, pLc, pLc2, pDc, pSortSc, pFor, pNewL, pNewD, pApp, pExt, pDPut, pSetL, pOwnD, pIsN, pNotN, pListVals, pListValsT, pIVals, pIKeys, pIItems, onDic, pIStr, pDGet1, pTsYes, pParL, pParR, pCel, pCelSet, pNewCel, pNeverS, wipeP, List.set_cons_zero, List.set_cons_succ, List.getElem?_cons_zero, List.getElem?_cons_succ, List.length_cons, List.length_nil, pDisp, pPairs, pZipS, seqP, pCallD, pForR, pCallX, xSeq, xOf, xNext, xIfS, xRaise, xAsg, xDrop, xRet, xCall, xTryAs, pXf, pIncJ, pCelSetJ, pNewCelJ]
  refine ⟨L, os, lo, hi, rfl, h, ?_⟩
  have n2 : ¬ 2000 < countC L os lo hi := by omega
  simp only [kI0_int, decide_eq_false n2, kEq_int]
  by_cases z : countC L os lo hi = 0
  · simp only [z, decide_true]
    have : betwC L os lo hi = [] := by
      unfold betwC
      split <;> simp [z]
    rw [this] at hq
    exact ⟨size_le (by decide), hq⟩
  · simp only [decide_eq_false z]
    refine ⟨L, os, rfl, h, ?_⟩
    simp only [kIx_fc]
    unfold betwC at hq
    cases e : findC L os with
    | inr l => exact absurd (by unfold countC; rw [e]) z
    | inl rm =>
      obtain ⟨r, m⟩ := rm
      rw [e] at hq
      simp only [if_neg z] at hq
      obtain ⟨m0, mb, _⟩ := find_m h e
      have ml := lg (k := B1) (by decide) mb
      simp only [pSeq, pNext, pIfS, pRet, pRetN, pAsg, pDrop, pPar, pAug, gNm, gTupP, gConsP, gNilP, pVar, pC, pBin, pChain, pUn, kNeg, pTst, pTru, pAndT, pOrT, pNotT, pAndV, pOrV, pNotV, pIf, pCons, pNil, pTup, pLst, pStar, pCallB, pCall, pMeth, pProp, pFld, pFrz, pIL, pIT, pZip, pEnum, pR1, pR2, pR3, pSlL, pSlT, pPart, pNoPart, pLc, pLc2, pDc, pSortSc, pFor, pNewL, pNewD, pApp, pExt, pDPut, pSetL, pOwnD, pIsN, pNotN, pListVals, pListValsT, pIVals, pIKeys, pIItems, onDic, pIStr, pDGet1, pTsYes, pParL, pParR, pCel, pCelSet, pNewCel, pNeverS, wipeP, List.set_cons_zero, List.set_cons_succ, List.getElem?_cons_zero, List.getElem?_cons_succ, List.length_cons, List.length_nil, kII_int, kI0_int]
      refine ⟨by trivial, by omega, by omega, by omega, ?_⟩
      refine lcL_map (fun i : Nat => PV.int (0 + (i : Int))) (fun i : Nat => PV.int (lo + (r - lo).fmod m + (i : Int) * m)) (List.range (countC L os lo hi).toNat) (fun i hi T t => ?_) (size_le (by simp; omega)) ?_
      · have hi' := List.mem_range.mp hi
        simp only [te_speeds_between_1, pSeq, pNext, pIfS, pRet, pRetN, pAsg, pDrop, pPar, pAug, gNm, gTupP, gConsP, gNilP, pVar, pC, pBin, pChain, pUn, kNeg, pTst, pTru, pAndT, pOrT, pNotT, pAndV, pOrV, pNotV, pIf, pCons, pNil, pTup, pLst, pStar, pCallB, pCall, pMeth, pProp, pFld, pFrz, pIL, pIT, pZip, pEnum, pR1, pR2, pR3, pSlL, pSlT, pPart, pNoPart, pLc, pLc2, pDc, pSortSc, pFor, pNewL, pNewD, pApp, pExt, pDPut, pSetL, pOwnD, pIsN, pNotN, pListVals, pListValsT, pIVals, pIKeys, pIItems, onDic, pIStr, pDGet1, pTsYes, pParL, pParR, pCel, pCelSet, pNewCel, pNeverS, wipeP, List.set_cons_zero, List.set_cons_succ, List.getElem?_cons_zero, List.getElem?_cons_succ, List.length_cons, List.length_nil, kII_int, kI0_int]
        have e0 : 0 + (i : Int) = (i : Int) := Int.zero_add _
        rw [e0]
        refine ⟨?_, t⟩
        have : (i : Int).natAbs.log2 < 11 := lg (by decide) (by rw [Int.natAbs_natCast]; show i < 2048; omega)
        show (i : Int).natAbs.log2 + m.natAbs.log2 < 1000000
        unfold B1 at ml
        omega
      · simp only [iL, List.map_map] at hq
        exact hq
theorem hp_next_look : ∀ as Q, Ph_next_look as Q → as.length = 5 ∧ t_next_look ⟨fun _ => Q .non, Q, fun _ => False, fun _ => False⟩ (startP N_next_look as) := by
  rintro as Q ⟨L, os, lo, hi, rfl, h, hq⟩
  refine ⟨rfl, ?_⟩
  simp only [st_next_look, t_next_look, pSeq, pNext, pIfS, pRet, pRetN, pAsg, pDrop, pPar, pAug, gNm, gTupP, gConsP, gNilP, pVar, pC, pBin, pChain, pUn, kNeg, pTst, pTru, pAndT, pOrT, pNotT, pAndV, pOrV, pNotV, pIf, pCons, pNil, pTup, pLst, pStar, pCallB, pCall, pMeth, pProp, pFld, pFrz, pIL, pIT, pZip, pEnum, pR1, pR2, pR3, pSlL, pSlT, pPart, pNoPart, pLc, pLc2, pDc, pSortSc, pFor, pNewL, pNewD, pApp, pExt, pDPut, pSetL, pOwnD, pIsN, pNotN, pListVals, pListValsT, pIVals, pIKeys, pIItems, onDic, pIStr, pDGet1, pTsYes, pParL, pParR, pCel, pCelSet, pNewCel, pNeverS, wipeP, List.set_cons_zero, List.set_cons_succ, List.getElem?_cons_zero, List.getElem?_cons_succ, List.length_cons, List.length_nil, pDisp, pPairs, pZipS, seqP, pCallD, pForR, pCallX, xSeq, xOf, xNext, xIfS, xRaise, xAsg, xDrop, xRet, xCall, xTryAs, pXf, pIncJ, pCelSetJ, pNewCelJ]
  refine ⟨L, os, lo, hi, rfl, h, _, rfl, rfl, ?_⟩
  have n0 : ¬ (0 : Int) < 0 := by omega
  simp only [isI, Bool.not_true, kI0_int, decide_eq_false n0]
  refine ⟨L, os, rfl, h, ?_⟩
  simp only [kIx_2a, kI0_int]
  by_cases c : dv L os < countC L os lo hi
  · simp only [decide_eq_true c]
    rw [if_pos c] at hq
    exact hq
  · simp only [decide_eq_false c, pSeq, pNext, pIfS, pRet, pRetN, pAsg, pDrop, pPar, pAug, gNm, gTupP, gConsP, gNilP, pVar, pC, pBin, pChain, pUn, kNeg, pTst, pTru, pAndT, pOrT, pNotT, pAndV, pOrV, pNotV, pIf, pCons, pNil, pTup, pLst, pStar, pCallB, pCall, pMeth, pProp, pFld, pFrz, pIL, pIT, pZip, pEnum, pR1, pR2, pR3, pSlL, pSlT, pPart, pNoPart, pLc, pLc2, pDc, pSortSc, pFor, pNewL, pNewD, pApp, pExt, pDPut, pSetL, pOwnD, pIsN, pNotN, pListVals, pListValsT, pIVals, pIKeys, pIItems, onDic, pIStr, pDGet1, pTsYes, pParL, pParR, pCel, pCelSet, pNewCel, pNeverS, wipeP, List.set_cons_zero, List.set_cons_succ, List.getElem?_cons_zero, List.getElem?_cons_succ, List.length_cons, List.length_nil, kI0_int]
    rw [if_neg c] at hq
    refine ⟨fun m ρ => ρ = [.val (.int L), .val (obsP os), .val (.int lo), .val (.int hi), .val (.int 0), .val (.int (countC L os lo hi)), .val (.int (dv L os)), .val (.int (0 + 1))], ⟨0, rfl⟩, ?_⟩
    rintro m ρ rfl
    simp only [pSeq, pNext, pIfS, pRet, pRetN, pAsg, pDrop, pPar, pAug, gNm, gTupP, gConsP, gNilP, pVar, pC, pBin, pChain, pUn, kNeg, pTst, pTru, pAndT, pOrT, pNotT, pAndV, pOrV, pNotV, pIf, pCons, pNil, pTup, pLst, pStar, pCallB, pCall, pMeth, pProp, pFld, pFrz, pIL, pIT, pZip, pEnum, pR1, pR2, pR3, pSlL, pSlT, pPart, pNoPart, pLc, pLc2, pDc, pSortSc, pFor, pNewL, pNewD, pApp, pExt, pDPut, pSetL, pOwnD, pIsN, pNotN, pListVals, pListValsT, pIVals, pIKeys, pIItems, onDic, pIStr, pDGet1, pTsYes, pParL, pParR, pCel, pCelSet, pNewCel, pNeverS, wipeP, List.set_cons_zero, List.set_cons_succ, List.getElem?_cons_zero, List.getElem?_cons_succ, List.length_cons, List.length_nil]
    refine ⟨_, _, rfl, ?_⟩
    have g : ((Int.gcd (0 + 1) (dv L os) : Nat) : Int) = 1 := by simp
    rw [g]
    simp only [kII_int, kI0_int, Int.fdiv_one, decide_eq_false c]
    exact ⟨⟨by decide, by decide⟩, hq⟩
theorem hp_law_divisor : ∀ as Q, Ph_law_divisor as Q → as.length = 2 ∧ t_law_divisor ⟨fun _ => Q .non, Q, fun _ => False, fun _ => False⟩ (startP N_law_divisor as) := by
  rintro as Q ⟨L, os, rfl, h1, h0, hq⟩
  refine ⟨rfl, ?_⟩
  simp only [st_law_divisor, t_law_divisor, obsP, pSeq, pNext, pIfS, pRet, pRetN, pAsg, pDrop, pPar, pAug, gNm, gTupP, gConsP, gNilP, pVar, pC, pBin, pChain, pUn, kNeg, pTst, pTru, pAndT, pOrT, pNotT, pAndV, pOrV, pNotV, pIf, pCons, pNil, pTup, pLst, pStar, pCallB, pCall, pMeth, pProp, pFld, pFrz, pIL, pIT, pZip, pEnum, pR1, pR2, pR3, pSlL, pSlT, pPart, pNoPart, pLc, pLc2, pDc, pSortSc, pFor, pNewL, pNewD, pApp, pExt, pDPut, pSetL, pOwnD, pIsN, pNotN, pListVals, pListValsT, pIVals, pIKeys, pIItems, onDic, pIStr, pDGet1, pTsYes, pParL, pParR, pCel, pCelSet, pNewCel, pNeverS, wipeP, List.set_cons_zero, List.set_cons_succ, List.getElem?_cons_zero, List.getElem?_cons_succ, List.length_cons, List.length_nil, pDisp, pPairs, pZipS, seqP, pCallD, pForR, pCallX, xSeq, xOf, xNext, xIfS, xRaise, xAsg, xDrop, xRet, xCall, xTryAs, pXf, pIncJ, pCelSetJ, pNewCelJ]
  refine forL_of obP (fun rest ρ => (∀ o ∈ rest, 0 ≤ o.1) ∧ ∃ (g : Int) (x2 x3 x4 : Slt), 1 ≤ g ∧ rest.foldl (fun g o => ((Int.gcd g o.1 : Nat) : Int)) g = os.foldl (fun g o => ((Int.gcd g o.1 : Nat) : Int)) L ∧ ρ = [.val (.int g), .val (.lst (os.map obP)), x2, x3, x4]) ?_ ?_ os _ ⟨h0, L, _, _, _, h1, rfl, rfl⟩
  · rintro o rest ρ ⟨hr, g, x2, x3, x4, g1, hg, rfl⟩ N hN
    have o0 := hr o (List.mem_cons_self ..)
    simp only [tb_law_divisor_2, obP, pSeq, pNext, pIfS, pRet, pRetN, pAsg, pDrop, pPar, pAug, gNm, gTupP, gConsP, gNilP, pVar, pC, pBin, pChain, pUn, kNeg, pTst, pTru, pAndT, pOrT, pNotT, pAndV, pOrV, pNotV, pIf, pCons, pNil, pTup, pLst, pStar, pCallB, pCall, pMeth, pProp, pFld, pFrz, pIL, pIT, pZip, pEnum, pR1, pR2, pR3, pSlL, pSlT, pPart, pNoPart, pLc, pLc2, pDc, pSortSc, pFor, pNewL, pNewD, pApp, pExt, pDPut, pSetL, pOwnD, pIsN, pNotN, pListVals, pListValsT, pIVals, pIKeys, pIItems, onDic, pIStr, pDGet1, pTsYes, pParL, pParR, pCel, pCelSet, pNewCel, pNeverS, wipeP, List.set_cons_zero, List.set_cons_succ, List.getElem?_cons_zero, List.getElem?_cons_succ, List.length_cons, List.length_nil]
    refine ⟨by trivial, fun m ρ => ∃ x y : Int, ρ = [.val (.int x), .val (.lst (os.map obP)), .val (.int o.1), .val (.int o.2), .val (.int y)] ∧ m = y.natAbs ∧ 1 ≤ x ∧ 0 ≤ y ∧ Int.gcd x y = Int.gcd g o.1, ⟨_, g, o.1, rfl, rfl, g1, o0, rfl⟩, ?_⟩
    rintro m ρ ⟨x, y, rfl, rfl, x1, y0, hxy⟩
    simp only [pSeq, pNext, pIfS, pRet, pRetN, pAsg, pDrop, pPar, pAug, gNm, gTupP, gConsP, gNilP, pVar, pC, pBin, pChain, pUn, kNeg, pTst, pTru, pAndT, pOrT, pNotT, pAndV, pOrV, pNotV, pIf, pCons, pNil, pTup, pLst, pStar, pCallB, pCall, pMeth, pProp, pFld, pFrz, pIL, pIT, pZip, pEnum, pR1, pR2, pR3, pSlL, pSlT, pPart, pNoPart, pLc, pLc2, pDc, pSortSc, pFor, pNewL, pNewD, pApp, pExt, pDPut, pSetL, pOwnD, pIsN, pNotN, pListVals, pListValsT, pIVals, pIKeys, pIItems, onDic, pIStr, pDGet1, pTsYes, pParL, pParR, pCel, pCelSet, pNewCel, pNeverS, wipeP, List.set_cons_zero, List.set_cons_succ, List.getElem?_cons_zero, List.getElem?_cons_succ, List.length_cons, List.length_nil, kI0_int]
    by_cases hy : 0 < y
    · simp only [decide_eq_true hy, tb_law_divisor_1, pSeq, pNext, pIfS, pRet, pRetN, pAsg, pDrop, pPar, pAug, gNm, gTupP, gConsP, gNilP, pVar, pC, pBin, pChain, pUn, kNeg, pTst, pTru, pAndT, pOrT, pNotT, pAndV, pOrV, pNotV, pIf, pCons, pNil, pTup, pLst, pStar, pCallB, pCall, pMeth, pProp, pFld, pFrz, pIL, pIT, pZip, pEnum, pR1, pR2, pR3, pSlL, pSlT, pPart, pNoPart, pLc, pLc2, pDc, pSortSc, pFor, pNewL, pNewD, pApp, pExt, pDPut, pSetL, pOwnD, pIsN, pNotN, pListVals, pListValsT, pIVals, pIKeys, pIItems, onDic, pIStr, pDGet1, pTsYes, pParL, pParR, pCel, pCelSet, pNewCel, pNeverS, wipeP, List.set_cons_zero, List.set_cons_succ, List.getElem?_cons_zero, List.getElem?_cons_succ, List.length_cons, List.length_nil, kII_int]
      refine ⟨by omega, _, ?_, y, x.fmod y, rfl, rfl, by omega, Int.fmod_nonneg_of_pos x hy, ?_⟩
      · exact fmod_lt x (by omega)
      · rw [← hxy, ← mod_eq, gcd_mod]
    · have y00 : y = 0 := by omega
      subst y00
      simp only [decide_eq_false hy]
      rw [Int.gcd_zero_right] at hxy
      refine hN _ ⟨fun z hz => hr z (List.mem_cons_of_mem _ hz), x, _, _, _, x1, ?_, rfl⟩
      rw [← hg, List.foldl_cons, ← hxy]
      congr 1
      omega
  · rintro ρ ⟨_, g, x2, x3, x4, g1, hg, rfl⟩
    simp only [pSeq, pNext, pIfS, pRet, pRetN, pAsg, pDrop, pPar, pAug, gNm, gTupP, gConsP, gNilP, pVar, pC, pBin, pChain, pUn, kNeg, pTst, pTru, pAndT, pOrT, pNotT, pAndV, pOrV, pNotV, pIf, pCons, pNil, pTup, pLst, pStar, pCallB, pCall, pMeth, pProp, pFld, pFrz, pIL, pIT, pZip, pEnum, pR1, pR2, pR3, pSlL, pSlT, pPart, pNoPart, pLc, pLc2, pDc, pSortSc, pFor, pNewL, pNewD, pApp, pExt, pDPut, pSetL, pOwnD, pIsN, pNotN, pListVals, pListValsT, pIVals, pIKeys, pIItems, onDic, pIStr, pDGet1, pTsYes, pParL, pParR, pCel, pCelSet, pNewCel, pNeverS, wipeP, List.set_cons_zero, List.set_cons_succ, List.getElem?_cons_zero, List.getElem?_cons_succ, List.length_cons, List.length_nil]
    rw [← hg] at hq
    exact hq
end G


/-! ## JD -/
/-! The counted pool: made, drawn from. -/
namespace G
open PySem PySem.Spec PyProof.Rows L2 L3 MR MB
def Ph_law_pool (xs : List Int) : Con := fun as Q => as = [.frz (xs.map PV.int)] ∧ xs.length ≤ 63 ∧ Q .cel
def Ph_law_draw : Con := fun as Q => ∃ m : Int, as = [.cel, .int m] ∧ 0 < m ∧ m.natAbs.log2 < 9000 ∧ ∀ d : Int, 0 ≤ d → d < m → Q (.int d)
def t_law_pool (xs : List Int) : PTS := pRet (pNewCelJ xs (pCons (pSlL (pVar 0) (pNoPart) (pPart (pC (.int 63)))) (pCons (pC (.int 0)) (pCons (pC (.int 0)) (pCons (pC (.int 0)) (pNil))))))
abbrev N_law_pool : List Str := ["script"]
theorem st_law_pool (a0 : PV) : startP N_law_pool [a0] = [.val a0] := rfl
def t_law_draw (xs : List Int) : PTS := pSeq (pIncJ 0) (pSeq (pIfS (pTst (pBin kGtI (pCelJ xs 0 2) (pC (.int 0)))) (pSeq (pAsg (pBin kMdI (pCelJ xs 0 2) (pVar 1)) (gNm 2)) (pSeq (pCelSetJ 0 2 (pBin kFdI (pCelJ xs 0 2) (pVar 1))) (pRet (pVar 2)))) (pNext)) (pSeq (pAsg (pBin kCat (pCelJ xs 0 0) (pBin kRepL (pLst (pCons (pC (.int 0)) (pNil))) (pCallB kInt (pCons (pBin kEq (pCelJ xs 0 0) (pLst (pNil))) (pNil))))) (gNm 3)) (pSeq (pAsg (pBin kIx (pVar 3) (pBin kMdI (pCelJ xs 0 1) (pCallB kLen (pCons (pVar 3) (pNil))))) (gNm 4)) (pSeq (pCelSetJ 0 1 (pBin kAddI (pCelJ xs 0 1) (pC (.int 1)))) (pSeq (pIfS (pTst (pBin kGeI (pVar 4) (pBin kPowI (pC (.int 10)) (pC (.int 18))))) (pSeq (pCelSetJ 0 2 (pBin kFdI (pVar 4) (pVar 1))) (pRet (pBin kMdI (pVar 4) (pVar 1)))) (pNext)) (pSeq (pAsg (pBin kMdI (pBin kAddI (pVar 4) (pBin kMulI (pC (.int 7919)) (pCelJ xs 0 3))) (pC (.int 2147483647))) (gNm 5)) (pRet (pBin kMdI (pBin kFdI (pBin kMdI (pBin kMulI (pBin kPowI (pVar 5) (pC (.int 5))) (pC (.int 48271))) (pC (.int 2147483629))) (pC (.int 16))) (pVar 1)))))))))
abbrev N_law_draw : List Str := ["pool", "many", "found", "cells", "cell", "mixed"]
theorem st_law_draw (a0 a1 : PV) : startP N_law_draw [a0, a1] = [.val a0, .val a1, .no, .no, .no, .no] := rfl

theorem hp_law_pool {xs : List Int} : ∀ as Q, Ph_law_pool xs as Q → as.length = 1 ∧ t_law_pool xs ⟨fun _ => Q .non, Q, fun _ => False, fun _ => False⟩ (startP N_law_pool as) := by
  rintro as Q ⟨rfl, hl, hq⟩
  refine ⟨rfl, ?_⟩
  simp only [st_law_pool, t_law_pool, pSeq, pNext, pIfS, pRet, pRetN, pAsg, pDrop, pPar, pAug, gNm, gTupP, gConsP, gNilP, pVar, pC, pBin, pChain, pUn, kNeg, pTst, pTru, pAndT, pOrT, pNotT, pAndV, pOrV, pNotV, pIf, pCons, pNil, pTup, pLst, pStar, pCallB, pCall, pMeth, pProp, pFld, pFrz, pIL, pIT, pZip, pEnum, pR1, pR2, pR3, pSlL, pSlT, pPart, pNoPart, pLc, pLc2, pDc, pSortSc, pFor, pNewL, pNewD, pApp, pExt, pDPut, pSetL, pOwnD, pIsN, pNotN, pListVals, pListValsT, pIVals, pIKeys, pIItems, onDic, pIStr, pDGet1, pTsYes, pParL, pParR, pCel, pCelSet, pNewCel, pNeverS, wipeP, List.set_cons_zero, List.set_cons_succ, List.getElem?_cons_zero, List.getElem?_cons_succ, List.length_cons, List.length_nil, pDisp, pPairs, pZipS, seqP, pCallD, pForR, pCallX, xSeq, xOf, xNext, xIfS, xRaise, xAsg, xDrop, xRet, xCall, xTryAs, pXf, pIncJ, pCelSetJ, pNewCelJ]
  refine ⟨?_, hl, hq⟩
  unfold cutP
  rw [List.length_map]
  have e : HT.sIx xs.length 0 none = 0 := rfl
  rw [e]
  rw [List.drop_zero]
  refine List.take_of_length_le ?_
  rw [List.length_map]
  simp only [HT.sIx]
  have e : (63 : Int).toNat = 63 := rfl
  rw [if_neg (by decide), e]
  omega
theorem modL {i j : Int} (h : j ≠ 0 := by decide) : ModOk i j := h
theorem hp_law_draw {xs : List Int} : ∀ as Q, Ph_law_draw as Q → as.length = 2 ∧ t_law_draw xs ⟨fun _ => Q .non, Q, fun _ => False, fun _ => False⟩ (startP N_law_draw as) := by
  rintro as Q ⟨m, rfl, h0, hl, hq⟩
  refine ⟨rfl, ?_⟩
  have mn : m ≠ 0 := by omega
  have fin : ∀ x : Int, Q (.int (x.fmod m)) := fun x => hq _ (Int.fmod_nonneg_of_pos x h0) (Int.fmod_lt_of_pos x h0)
  have fd0 : ∀ x : Int, 0 ≤ x → 0 ≤ x.fdiv m := fun x hx => Int.fdiv_nonneg hx (by omega)
  simp only [st_law_draw, t_law_draw, pSeq, pNext, pIfS, pRet, pRetN, pAsg, pDrop, pPar, pAug, gNm, gTupP, gConsP, gNilP, pVar, pC, pBin, pChain, pUn, kNeg, pTst, pTru, pAndT, pOrT, pNotT, pAndV, pOrV, pNotV, pIf, pCons, pNil, pTup, pLst, pStar, pCallB, pCall, pMeth, pProp, pFld, pFrz, pIL, pIT, pZip, pEnum, pR1, pR2, pR3, pSlL, pSlT, pPart, pNoPart, pLc, pLc2, pDc, pSortSc, pFor, pNewL, pNewD, pApp, pExt, pDPut, pSetL, pOwnD, pIsN, pNotN, pListVals, pListValsT, pIVals, pIKeys, pIItems, onDic, pIStr, pDGet1, pTsYes, pParL, pParR, pCel, pCelSet, pNewCel, pNeverS, wipeP, List.set_cons_zero, List.set_cons_succ, List.getElem?_cons_zero, List.getElem?_cons_succ, List.length_cons, List.length_nil, pDisp, pPairs, pZipS, seqP, pCallD, pForR, pCallX, xSeq, xOf, xNext, xIfS, xRaise, xAsg, xDrop, xRet, xCall, xTryAs, pXf, pIncJ, pCelSetJ, pNewCelJ, pCelJ, kI0_int]
  refine .inr (.inl ⟨.inr (by trivial), fun c c0 => ?_⟩)
  by_cases hc : 0 < c
  · simp only [decide_eq_true hc, kII_int]
    exact .inr (.inl ⟨.inr (by trivial), fun c2 c20 => ⟨mn, .inr (.inl ⟨.inr (by trivial), fun c3 c30 => ⟨⟨mn, hl⟩, .inr (by trivial), fd0 c3 c30, fin c2⟩⟩)⟩⟩)
  · simp only [decide_eq_false hc, kII_int]
    refine .inl ⟨by trivial, fun hx => ⟨size_le (by decide), .inl ⟨by trivial, fun _ => ⟨size_le (by decide), ?_⟩⟩⟩⟩
    have ke : ∀ {R : PV → Prop}, kEq (.lst (xs.map PV.int)) (.lst []) R = R (.bl (decide (xs = []))) := kEq_told (T := Told.int.list) Told.Ex.int.list (by decide) (a := xs) (b := [])
    simp only [ke, kInt_bl]
    obtain ⟨ys, y0, y1, hy⟩ : ∃ ys : List Int, ys ≠ [] ∧ ys.length ≤ 64 ∧ ∀ R : PV → Prop, R (.lst (ys.map PV.int)) → kRepL (.lst [.int 0]) (.int (if decide (xs = []) = true then 1 else 0)) fun q => kCat (.lst (xs.map PV.int)) q R := by
      by_cases z : xs = []
      · refine ⟨[0], by simp, by simp, fun R r => ?_⟩
        simp only [z, decide_true, if_true, kRepL, kCat]
        exact ⟨by decide, by decide, size_le (by decide), size_le (by decide), r⟩
      · refine ⟨xs, z, by omega, fun R r => ?_⟩
        simp only [decide_eq_false z, Bool.false_eq_true, if_false, kRepL, kCat]
        refine ⟨by decide, by decide, size_le (by decide), size_le (by simp; omega), ?_⟩
        simpa using r
    refine hy _ ?_
    have l0 := List.length_pos_iff.mpr y0
    refine .inr (.inl ⟨.inl (by trivial), fun c c0 => ?_⟩)
    simp only [kLen_lst, List.length_map, kII_int]
    refine ⟨by omega, ?_⟩
    have d0 := Int.fmod_nonneg_of_pos c (b := (ys.length : Int)) (by omega)
    have d1 := Int.fmod_lt_of_pos c (b := (ys.length : Int)) (by omega)
    generalize c.fmod (ys.length : Int) = d at d0 d1
    have hd : d.toNat < (ys.map PV.int).length := by rw [List.length_map]; omega
    rw [kIx_nat (i := d.toNat) (by omega) hd, List.getElem_map]
    generalize ys[d.toNat] = cell
    refine .inr (.inl ⟨.inl (by trivial), fun c2 c20 => ⟨.inl (by trivial), by omega, ?_⟩⟩)
    refine ⟨⟨by decide, by decide, by decide⟩, ?_⟩
    by_cases big : (10 : Int) ^ (Int.toNat 18) ≤ cell
    · simp only [kI0_int, decide_eq_true big, kII_int]
      have p : (0 : Int) ≤ 10 ^ (Int.toNat 18) := by decide
      exact ⟨⟨mn, hl⟩, .inr (by trivial), fd0 cell (by omega), mn, fin _⟩
    · simp only [kI0_int, decide_eq_false big, kII_int]
      refine .inr (.inr ⟨by trivial, fun n n0 n1 => ⟨?_, modL, ?_, ?_, modL, ⟨by decide, by decide⟩, mn, fin _⟩⟩)
      · have a1 : (7919 : Int).natAbs.log2 < 13 := lg (by decide) (by decide)
        have a2 : n.natAbs.log2 < 61 := lg (by decide) (by omega)
        show (7919 : Int).natAbs.log2 + n.natAbs.log2 < 1000000
        omega
      · have e0 := Int.fmod_nonneg_of_pos (cell + 7919 * n) (b := 2147483647) (by decide)
        have e1 := Int.fmod_lt_of_pos (cell + 7919 * n) (b := 2147483647) (by decide)
        exact ⟨by decide, by decide, by omega⟩
      · have e0 := Int.fmod_nonneg_of_pos (cell + 7919 * n) (b := 2147483647) (by decide)
        have e1 := Int.fmod_lt_of_pos (cell + 7919 * n) (b := 2147483647) (by decide)
        generalize (cell + 7919 * n).fmod 2147483647 = x at e0 e1
        have a2 : (48271 : Int).natAbs.log2 < 16 := lg (by decide) (by decide)
        have a1 : (x ^ Int.toNat 5).natAbs.log2 < 155 := by
          refine lg (by decide) ?_
          rw [Int.natAbs_pow]
          have : x.natAbs < 2 ^ 31 := by omega
          have := Nat.pow_lt_pow_left this (n := 5) (by decide)
          exact Nat.lt_of_lt_of_le this (by decide)
        show (x ^ Int.toNat 5).natAbs.log2 + (48271 : Int).natAbs.log2 < 1000000
        omega
end G


/-! ## K96 -/
/-! Law k96, plain: a race of one runner, what is seen of it. -/
namespace G
open PySem PySem.Spec PyProof.Rows L2 L3 MR MB
theorem fmod_rat {x m : Int} (h : 0 < m) : rem (x : Rat) (m : Rat) = ((x.fmod m : Int) : Rat) := by
  refine rem_unique (n := x.fdiv m) (by exact_mod_cast h) (by exact_mod_cast Int.fmod_nonneg_of_pos x h) (by exact_mod_cast Int.fmod_lt_of_pos x h) ?_
  have e := Int.mul_fdiv_add_fmod x m
  have : ((x.fmod m + m * x.fdiv m : Int) : Rat) = (x : Rat) := by rw [show x.fmod m + m * x.fdiv m = x by omega]
  rw [← this]
  simp [Rat.intCast_add, Rat.intCast_mul]
def raceI (L s : Int) : RaceM := ⟨(L : Rat), [⟨"a", 0, [((0 : Rat), (s : Rat))]⟩]⟩
def rnI (s : Int) : Rn := ⟨"a", 0, [((0 : Rat), (s : Rat))]⟩
structure SzOk (L s : Int) : Prop where
  l1 : 1 ≤ L
  lL : L.natAbs < 2 ^ 110
  ls : s.natAbs < 2 ^ 110
theorem posI (s t : Int) (h : 0 ≤ t) : (rnI s).pos (t : Rat) = ((s * t : Int) : Rat) := by
  show walkP [((0 : Rat), (s : Rat))] (t : Rat) 0 = _
  rw [walk_last]
  by_cases z : t = 0
  · subst z
    rw [if_neg (by simp)]
    simp
  · have : (0 : Rat) < (t : Rat) := by have : 0 < t := by omega
                                       exact_mod_cast this
    rw [if_pos this, Rat.intCast_mul, Rat.zero_add]
    congr 1
    grind
theorem placeI {L s t : Int} (h : 0 ≤ t) (l : 1 ≤ L) : (raceI L s).place (rnI s) (t : Rat) = (((s * t).fmod L : Int) : Rat) := by
  show rem ((rnI s).pos (t : Rat)) (L : Rat) = _
  rw [posI s t h, fmod_rat (by omega)]
theorem raceI_ok {L s : Int} (z : SzOk L s) : (raceI L s).Ok := by
  have l1 := z.l1
  have lp : (0 : Rat) < (L : Rat) := by have : 0 < L := by omega
                                        exact_mod_cast this
  refine ⟨lp, by simp [raceI], by simp [raceI], by simp [raceI], fun r hr => ?_, fun r hr => ?_⟩
  · cases List.mem_singleton.mp hr
    exact ⟨by simp, by simp, ⟨_, _, rfl, rfl⟩, by simp⟩
  · cases List.mem_singleton.mp hr
    exact ⟨Rat.le_refl, lp⟩
theorem raceI_at {L s t : Int} (z : SzOk L s) (h : 0 ≤ t) (ht : t.natAbs < 2 ^ 110) : (raceI L s).At (t : Rat) := by
  have l1 := z.l1
  refine ⟨by exact_mod_cast h, sz_int_le (by decide) (Nat.lt_of_lt_of_le ht (Nat.pow_le_pow_right (by decide) (by decide))), fun r hr => ?_, fun r hr => ?_⟩
  · cases List.mem_singleton.mp hr
    show sz ((rnI s).pos (t : Rat)) ≤ _
    rw [posI s t h]
    refine sz_int_le (by decide) ?_
    rw [Int.natAbs_mul]
    exact Nat.lt_of_lt_of_le (lt_mul z.ls ht) (Nat.pow_le_pow_right (by decide) (by decide))
  · cases List.mem_singleton.mp hr
    show sz ((raceI L s).place (rnI s) (t : Rat)) ≤ _
    rw [placeI h l1]
    refine sz_int_le (by decide) ?_
    have := fmod_lt (s * t) (y := L) (by omega)
    have lL := z.lL
    exact Nat.lt_trans this (Nat.lt_of_lt_of_le lL (Nat.pow_le_pow_right (by decide) (by decide)))
theorem raceI_g {L s : Int} (z : SzOk L s) : (raceI L s).G := by
  have p : (2 : Nat) ^ 110 ≤ 2 ^ P0 := Nat.pow_le_pow_right (by decide) (by decide)
  refine ⟨raceI_ok z, sz_int_le (by decide) (Nat.lt_of_lt_of_le z.lL p), fun r hr => ?_, fun r hr x hx => ?_, fun r hr x hx => ?_, ⟨1, by decide, by decide, fun r hr x hx => ?_⟩⟩
  · cases List.mem_singleton.mp hr
    show sz 0 ≤ _
    rw [sz0]; decide
  · cases List.mem_singleton.mp hr
    cases List.mem_singleton.mp hx
    exact sz_int_le (by decide) (Nat.lt_of_lt_of_le z.ls p)
  · cases List.mem_singleton.mp hr
    cases List.mem_singleton.mp hx
    have := raceI_at (t := 0) z (by decide) (by decide)
    exact this
  · cases List.mem_singleton.mp hr
    cases List.mem_singleton.mp hx
    exact Nat.dvd_refl 1
/-- what is seen -/
structure SeenOk (L s : Int) (os : List (Int × Int)) : Prop where
  n : os.length ≤ 10
  o : ∀ x ∈ os, 0 ≤ x.1 ∧ x.1.natAbs < 2 ^ 110 ∧ x.2 = (s * x.1).fmod L
theorem seen_fit {L s : Int} {os : List (Int × Int)} (l1 : 1 ≤ L) (h : SeenOk L s os) : Fits L s os := fun x hx => by
  obtain ⟨_, _, e⟩ := h.o x hx
  rw [e]
  have := Int.mul_fdiv_add_fmod (s * x.1) L
  refine ⟨(s * x.1).fdiv L, ?_⟩
  rw [Int.mul_comm x.1]; omega
theorem seen_in {L s : Int} {os : List (Int × Int)} (z : SzOk L s) (h : SeenOk L s os) : ObsIn L os := by
  have p : (2 : Nat) ^ 110 ≤ 2 ^ B1 := Nat.pow_le_pow_right (by decide) (by decide)
  have l1 := z.l1
  refine ⟨z.l1, Nat.lt_of_lt_of_le z.lL p, by have := h.n; omega, fun o ho => (h.o o ho).1, fun o ho => Nat.lt_of_lt_of_le (h.o o ho).2.1 p, fun o ho => ?_⟩
  rw [(h.o o ho).2.2]
  exact Nat.lt_trans (fmod_lt _ (by omega)) (Nat.lt_of_lt_of_le z.lL p)
theorem seen_snoc {L s : Int} {os : List (Int × Int)} (h : SeenOk L s os) {t : Int} (hn : os.length ≤ 9) (h0 : 0 ≤ t) (ht : t.natAbs < 2 ^ 110) : SeenOk L s (os ++ [(t, (s * t).fmod L)]) := by
  refine ⟨by simp; omega, fun x hx => ?_⟩
  rcases List.mem_append.mp hx with q | q
  · exact h.o x q
  · cases List.mem_singleton.mp q
    exact ⟨h0, ht, rfl⟩
theorem comb_fst : ∀ (l : List Int) (z : Int × List Int), (l.foldl combS z).1 = l.foldl (fun g n => ((Int.gcd g n : Nat) : Int)) z.1
  | [], z => rfl
  | n :: l, z => by
    rw [List.foldl_cons, List.foldl_cons, comb_fst l]
    congr 1
    exact extD_gcd ..
theorem dv_fold {L : Int} {os : List (Int × Int)} (l1 : 1 ≤ L) : dv L os = os.foldl (fun g o => ((Int.gcd g o.1 : Nat) : Int)) L := by
  unfold dv combW
  rw [comb_fst, List.foldl_cons]
  have : ((Int.gcd 0 L : Nat) : Int) = L := by rw [Int.gcd_zero_left]; omega
  show (tms os).foldl _ ((Int.gcd 0 L : Nat) : Int) = _
  rw [this]
  unfold tms
  rw [List.foldl_map]
theorem fdiv_at {x m k b : Int} (hm : 0 < m) (e : x = m * k + b) (h0 : 0 ≤ b) (h1 : b < m) : x.fdiv m = k := by
  rw [Int.fdiv_eq_ediv_of_nonneg _ (by omega)]
  rw [e, Int.add_comm, Int.add_mul_ediv_left _ _ (by omega), Int.ediv_eq_zero_of_lt h0 h1]
  omega
theorem fmod_at {x m k b : Int} (hm : 0 < m) (e : x = m * k + b) (h0 : 0 ≤ b) (h1 : b < m) : x.fmod m = b := by
  have := fdiv_at hm e h0 h1
  have e2 := Int.mul_fdiv_add_fmod x m
  rw [this] at e2
  omega
/-- the speeds between low and high -/
theorem betw_at {L : Int} {os : List (Int × Int)} {s r m lo hi : Int} (e : findC L os = .inl (r, m)) (m0 : 0 < m) (d : m ∣ s - r) {a b u v : Int} (h1 : hi = s + m * b + u) (h2 : lo = s - m * a - v) (u0 : 0 ≤ u) (u1 : u < m) (v0 : 0 ≤ v) (v1 : v < m) (a0 : 0 ≤ a) (b0 : 0 ≤ b) :
    countC L os lo hi = a + b + 1 ∧ betwC L os lo hi = (List.range (a + b + 1).toNat).map fun i : Nat => s - m * a + (i : Int) * m := by
  obtain ⟨k, ek⟩ := d
  have pa := Int.mul_nonneg (Int.le_of_lt m0) a0
  have pb := Int.mul_nonneg (Int.le_of_lt m0) b0
  have f1 : (hi - r).fdiv m = k + b := fdiv_at m0 (b := u) (by rw [Int.mul_add]; omega) u0 u1
  have f2 : (lo - 1 - r).fdiv m = k - a - 1 := fdiv_at m0 (b := m - 1 - v) (by rw [Int.mul_sub, Int.mul_sub]; omega) (by omega) (by omega)
  have nl : ¬ hi < lo := by omega
  have hc : countC L os lo hi = a + b + 1 := by
    unfold countC
    rw [e]
    simp only [if_neg nl, f1, f2]
    omega
  refine ⟨hc, ?_⟩
  unfold betwC
  rw [e]
  simp only [hc]
  rw [if_neg (by omega)]
  have f3 : (r - lo).fmod m = v := fmod_at m0 (k := a - k) (by rw [Int.mul_sub]; omega) v0 v1
  rw [f3]
  have : lo + v = s - m * a := by omega
  rw [this]
theorem inl_fits {L : Int} {os : List (Int × Int)} (h : ObsIn L os) {x : Int × Int} (e : findC L os = .inl x) : ∃ s, Fits L s os := by
  have dp := h.dpos
  unfold findC at e
  by_cases z : (tot L os).fmod (dv L os) = 0
  · rw [if_pos z] at e
    cases q : os.zipIdx.find? fun x => badO L os x.1 with
    | some y => rw [q] at e; cases e
    | none =>
      refine ⟨(tot L os).fdiv (dv L os), fun o ho => ?_⟩
      rw [List.find?_eq_none] at q
      obtain ⟨i, hi⟩ := List.mem_iff_getElem?.mp ho
      have := q (o, i) ((List.mk_mem_zipIdx_iff_getElem? (x := o) (i := i)).mpr hi)
      have b : (o.1.fdiv (dv L os) * tot L os - o.2).fmod L = 0 := by
        simpa [badO] using this
      have ht := fdiv_mul (by omega) (fmod0.mp z)
      have ho := fdiv_mul (by omega) (h.dT o ho)
      have e2 : o.1 * (tot L os).fdiv (dv L os) = o.1.fdiv (dv L os) * tot L os := by
        conv => lhs; rw [← ho]
        conv => rhs; rw [← ht]
        rw [Int.mul_assoc, Int.mul_comm (dv L os)]
      rw [e2]
      exact fmod0.mp b
  · rw [if_neg z] at e; cases e
/-- one more place at a time that was seen -/
def wrongO (os : List (Int × Int)) : List (Int × Int) := match os with
  | [] => []
  | o :: r => (o :: r) ++ [(o.1, o.2 + 1)]
theorem wrong_in {L s : Int} {os : List (Int × Int)} (z : SzOk L s) (h : SeenOk L s os) (ne : os ≠ []) : ObsIn L (wrongO os) := by
  have i := seen_in z h
  have l1 := z.l1
  cases os with
  | nil => exact absurd rfl ne
  | cons o r =>
    refine ⟨i.l1, i.lL, by have := h.n; simp [wrongO] at this ⊢; omega, fun x hx => ?_, fun x hx => ?_, fun x hx => ?_⟩
    · rcases List.mem_append.mp hx with q | q
      · exact i.t0 x q
      · cases List.mem_singleton.mp q
        exact i.t0 o (List.mem_cons_self ..)
    · rcases List.mem_append.mp hx with q | q
      · exact i.t x q
      · cases List.mem_singleton.mp q
        exact i.t o (List.mem_cons_self ..)
    · rcases List.mem_append.mp hx with q | q
      · exact i.p x q
      · cases List.mem_singleton.mp q
        have e := (h.o o (List.mem_cons_self ..)).2.2
        show (o.2 + 1).natAbs < _
        have l := fmod_lt (s * o.1) (y := L) (by omega)
        rw [← e] at l
        have lL := z.lL
        have p : (2 : Nat) ^ 110 + 1 ≤ 2 ^ B1 := by
          have : (2 : Nat) ^ 110 + 1 ≤ 2 ^ 111 := by decide
          exact Nat.le_trans this (Nat.pow_le_pow_right (by decide) (by decide))
        generalize (2 : Nat) ^ B1 = M at p ⊢
        generalize (2 : Nat) ^ 110 = N at p lL
        omega
theorem wrong_ref {L s : Int} {os : List (Int × Int)} (z : SzOk L s) (h : SeenOk L s os) (ne : os ≠ []) (l2 : 1 < L) : ∃ l, findC L (wrongO os) = .inr l := by
  cases e : findC L (wrongO os) with
  | inr l => exact ⟨l, rfl⟩
  | inl x =>
    obtain ⟨s', f⟩ := inl_fits (wrong_in z h ne) e
    cases os with
    | nil => exact absurd rfl ne
    | cons o r =>
      have f1 := f o (by simp [wrongO])
      have f2 := f (o.1, o.2 + 1) (by simp [wrongO])
      have : L ∣ 1 := by
        have := Int.dvd_sub f1 f2
        rw [show o.1 * s' - o.2 - (o.1 * s' - (o.2 + 1)) = 1 by omega] at this
        exact this
      obtain ⟨k, ek⟩ := this
      have k0 : 0 < k := by
        rcases Int.lt_or_le 0 k with q | q
        · exact q
        · have := Int.mul_nonpos_of_nonneg_of_nonpos (a := L) (b := k) (by omega) q
          omega
      have := Int.mul_le_mul_of_nonneg_left (a := 1) (b := k) (c := L) (by omega) (by omega)
      omega
end G


/-! ## K96b -/
/-! Law k96. -/
namespace G
open PySem PySem.Spec PyProof.Rows L2 L3 MR MB
def Ph_law (xs : List Int) : Con := fun as Q => as = [.frz (xs.map PV.int)] ∧ xs.length ≤ 63 ∧ Q (.bl true)
def tb_law_1 : PTS := pSeq (pAsg (pBin kIx (pLst (pCons (pBin kMulI (pCall Ph_law_draw (pCons (pVar 1) (pCons (pC (.int 40)) (pNil)))) (pC (.int 6))) (pCons (pCall Ph_law_draw (pCons (pVar 1) (pCons (pBin kPowI (pC (.int 10)) (pC (.int 10))) (pNil)))) (pNil)))) (pCall Ph_law_draw (pCons (pVar 1) (pCons (pC (.int 2)) (pNil))))) (gNm 6)) (pApp 8 (pTup (pCons (pVar 6) (pCons (pBin kIx (pMeth "Race" "place" Ph_Race_place (pVar 7) (pCons (pC (.str "a")) (pCons (pVar 6) (pNil)))) (pC (.int 0))) (pNil)))))
def tb_law_2 : PTS := pSeq (pAsg (pBin kIx (pLst (pCons (pBin kAddI (pC (.int 1)) (pCall Ph_law_draw (pCons (pVar 1) (pCons (pC (.int 60)) (pNil))))) (pCons (pBin kAddI (pC (.int 1)) (pCall Ph_law_draw (pCons (pVar 1) (pCons (pBin kPowI (pC (.int 10)) (pC (.int 30))) (pNil))))) (pCons (pC (.int 720720)) (pNil))))) (pCall Ph_law_draw (pCons (pVar 1) (pCons (pC (.int 3)) (pNil))))) (gNm 3)) (pSeq (pAsg (pBin kIx (pLst (pCons (pBin kSubI (pCall Ph_law_draw (pCons (pVar 1) (pCons (pC (.int 99)) (pNil)))) (pC (.int 50))) (pCons (pBin kSubI (pCall Ph_law_draw (pCons (pVar 1) (pCons (pBin kPowI (pC (.int 10)) (pC (.int 30))) (pNil)))) (pBin kPowI (pC (.int 10)) (pC (.int 29)))) (pNil)))) (pCall Ph_law_draw (pCons (pVar 1) (pCons (pC (.int 2)) (pNil))))) (gNm 4)) (pSeq (pParR 7 8 (pCall Ph_Race (pCons (pVar 3) (pCons (pDisp [(pC (.str "a"), pTup (pCons (pC (.int 0)) (pCons (pLst (pCons (pTup (pCons (pC (.int 0)) (pCons (pVar 4) (pNil)))) (pNil))) (pNil))))]) (pNil)))) (pNil)) (pSeq (pForR 6 (pR1 (pCons (pCall Ph_law_draw (pCons (pVar 1) (pCons (pC (.int 7)) (pNil)))) (pNil))) (gNm 5) tb_law_1) (pSeq (pFrz 8 (pAsg (pCallX Ph_fitting_speeds (pCons (pVar 3) (pCons (pVar 8) (pNil)))) (gTupP 2 (gConsP (gNm 9) (gConsP (gNm 10) (gNilP)))))) (pSeq (pFrz 8 (pIfS (pOrT (pTst (pBin kNe (pBin kMulI (pVar 10) (pCall Ph_law_divisor (pCons (pVar 3) (pCons (pVar 8) (pNil))))) (pVar 3))) (pNotT (pTst (pChain kLeI kLtI (pC (.int 0)) (pVar 9) (pVar 10))))) (pRet (pC (.bl false))) (pNext))) (pSeq (pIfS (pTst (pBin kNe (pBin kMdI (pBin kSubI (pVar 4) (pVar 9)) (pVar 10)) (pC (.int 0)))) (pRet (pC (.bl false))) (pNext)) (pSeq (pPar 11 12 (pCons (pBin kSubI (pVar 4) (pBin kMulI (pVar 10) (pCall Ph_law_draw (pCons (pVar 1) (pCons (pC (.int 4)) (pNil)))))) (pCons (pBin kAddI (pVar 4) (pBin kMulI (pVar 10) (pCall Ph_law_draw (pCons (pVar 1) (pCons (pC (.int 4)) (pNil)))))) (pNil)))) (pSeq (pFrz 8 (pIfS (pTst (pBin (kIn true) (pVar 4) (pCall Ph_speeds_between (pCons (pVar 3) (pCons (pVar 8) (pCons (pVar 11) (pCons (pVar 12) (pNil)))))))) (pRet (pC (.bl false))) (pNext))) (pSeq (pFrz 8 (pIfS (pTst (pBin kNe (pCall Ph_count_speeds (pCons (pVar 3) (pCons (pVar 8) (pCons (pVar 11) (pCons (pVar 12) (pNil)))))) (pBin kAddI (pBin kFdI (pBin kSubI (pVar 12) (pVar 11)) (pVar 10)) (pC (.int 1))))) (pRet (pC (.bl false))) (pNext))) (pSeq (pFrz 8 (pAsg (pCallD [0] Ph_next_look (pCons (pVar 3) (pCons (pVar 8) (pCons (pVar 11) (pCons (pVar 12) (pNil)))))) (gNm 6))) (pSeq (pIfS (pTst (pNotN (pVar 6))) (pSeq (pFrz 8 (pAsg (pBin kCat (pVar 8) (pLst (pCons (pTup (pCons (pVar 6) (pCons (pBin kIx (pMeth "Race" "place" Ph_Race_place (pVar 7) (pCons (pC (.str "a")) (pCons (pVar 6) (pNil)))) (pC (.int 0))) (pNil)))) (pNil)))) (gNm 13))) (pIfS (pTst (pBin kNe (pCall Ph_speeds_between (pCons (pVar 3) (pCons (pVar 13) (pCons (pVar 11) (pCons (pVar 12) (pNil)))))) (pLst (pCons (pVar 4) (pNil))))) (pRet (pC (.bl false))) (pNext))) (pNext)) (pFrz 8 (pIfS (pTst (pBin kNe (pVar 8) (pLst (pNil)))) (pSeq (pFrz 8 (pAsg (pBin kCat (pVar 8) (pLst (pCons (pTup (pCons (pBin kIx (pBin kIx (pVar 8) (pC (.int 0))) (pC (.int 0))) (pCons (pBin kAddI (pBin kIx (pBin kIx (pVar 8) (pC (.int 0))) (pC (.int 1))) (pC (.int 1))) (pNil)))) (pNil)))) (gNm 14))) (pSeq (pAsg (pCall Ph_law_refusal (pCons (pVar 3) (pCons (pVar 14) (pNil)))) (gNm 15)) (pSeq (pIfS (pAndT (pTst (pBin kGtI (pVar 3) (pC (.int 1)))) (pOrT (pTst (pIsN (pVar 15))) (pTst (pBin kIsNotB (pCall Ph_is_no_speed (pCons (pVar 3) (pCons (pVar 14) (pCons (pVar 15) (pNil))))) (pC (.bl true)))))) (pRet (pC (.bl false))) (pNext)) (pFrz 8 (pIfS (pTst (pBin kIsNotB (pCall Ph_is_no_speed (pCons (pVar 3) (pCons (pVar 8) (pCons (pBin kRepT (pTup (pCons (pC (.int 1)) (pNil))) (pCallB kLen (pCons (pVar 8) (pNil)))) (pNil))))) (pC (.bl false)))) (pRet (pC (.bl false))) (pNext)))))) (pNext))))))))))))))
def t_law (xs : List Int) : PTS := pSeq (pAsg (pCall (Ph_law_pool xs) (pCons (pVar 0) (pNil))) (gNm 1)) (pSeq (pForR 3 (pR1 (pCons (pC (.int 3)) (pNil))) (gNm 2) tb_law_2) (pRet (pC (.bl true))))
abbrev N_law : List Str := ["script", "pool", "turn", "size", "speed", "k", "time", "race", "seen", "rest", "modulus", "low", "high", "more", "wrong", "refused"]
theorem st_law (a0 : PV) : startP N_law [a0] = [.val a0, .no, .no, .no, .no, .no, .no, .no, .no, .no, .no, .no, .no, .no, .no, .no] := rfl

theorem kIx3 {p q r : PV} {d : Int} {Q : PV → Prop} (P : PV → Prop) (h0 : 0 ≤ d) (h1 : d < 3) (a : P p) (b : P q) (c : P r) (k : ∀ x, P x → Q x) : kIx (.lst [p, q, r]) (.int d) Q := by
  have : d = 0 ∨ d = 1 ∨ d = 2 := by omega
  rcases this with rfl | rfl | rfl
  · exact k _ a
  · exact k _ b
  · exact k _ c
theorem kIx2 {p q : PV} {d : Int} {Q : PV → Prop} (P : PV → Prop) (h0 : 0 ≤ d) (h1 : d < 2) (a : P p) (b : P q) (k : ∀ x, P x → Q x) : kIx (.lst [p, q]) (.int d) Q := by
  have : d = 0 ∨ d = 1 := by omega
  rcases this with rfl | rfl
  · exact k _ a
  · exact k _ b
theorem dr {m : Int} {Q : PV → Prop} (h0 : 0 < m) (h : m.natAbs < 2 ^ 110) (k : ∀ d : Int, 0 ≤ d → d < m → Q (.int d)) : Ph_law_draw [.cel, .int m] Q :=
  ⟨m, rfl, h0, Nat.lt_trans (lg (by decide) h) (by decide), k⟩
def rrI (s : Int) : RR := ⟨"a", .int 0, 0, [⟨.int 0, .int s, 0, (s : Rat)⟩]⟩
theorem rrI_ok {s : Int} (h : s.natAbs < 2 ^ 110) : (rrI s).Ok := by
  refine ⟨by show okName "a" = true; decide +kernel, .inl ⟨0, rfl, rfl⟩, by show sz 0 ≤ _; rw [sz0]; decide, by simp [rrI], by simp [rrI], fun x hx => ?_, ⟨_, _, rfl, rfl⟩, by simp [rrI]⟩
  cases List.mem_singleton.mp hx
  exact ⟨.inl ⟨0, rfl, rfl⟩, .inl ⟨s, rfl, rfl⟩, by show sz 0 ≤ _; rw [sz0]; decide, Rat.le_refl⟩
theorem make_race {L s : Int} {Q : PV → Prop} (z : SzOk L s) (h : Q (raceI L s).pv) : Ph_Race [.int L, .dic [(Sum.inr "a", .tup [.int 0, .lst [.tup [.int 0, .int s]]])]] Q := by
  have l1 := z.l1
  refine ⟨.int L, (L : Rat), [rrI s], rfl, .inl ⟨L, rfl, rfl⟩, by have : 0 < L := (by omega); exact_mod_cast this, sz_int_le (by decide) (Nat.lt_of_lt_of_le z.lL (Nat.pow_le_pow_right (by decide) (by decide))), by simp, by simp, by simp, fun r hr => ?_, fun rs' hp hs => ?_⟩
  · cases List.mem_singleton.mp hr
    exact rrI_ok z.ls
  · have : rs' = [rrI s] := List.perm_singleton.mp hp
    subst this
    have e : rem 0 (L : Rat) = 0 := rem_self Rat.le_refl (by have : 0 < L := (by omega); exact_mod_cast this)
    have e2 : RR.norm (L : Rat) (rrI s) = rnI s := by
      show (⟨"a", rem 0 (L : Rat), _⟩ : Rn) = _
      rw [e]
      rfl
    simp only [List.map_cons, List.map_nil, e2]
    exact h
theorem kIx_rat (i : Int) {Q : PV → Prop} (h : Q (.int i)) : kIx (rat (i : Rat)) (.int 0) Q := by
  rw [kIx_rat0]; simpa using h
theorem hp_law {xs : List Int} : ∀ as Q, Ph_law xs as Q → as.length = 1 ∧ t_law xs ⟨fun _ => Q .non, Q, fun _ => False, fun _ => False⟩ (startP N_law as) := by
  rintro as Q ⟨rfl, hl, hq⟩
  refine ⟨rfl, ?_⟩
  simp only [st_law, t_law, pSeq, pNext, pIfS, pRet, pRetN, pAsg, pDrop, pPar, pAug, gNm, gTupP, gConsP, gNilP, pVar, pC, pBin, pChain, pUn, kNeg, pTst, pTru, pAndT, pOrT, pNotT, pAndV, pOrV, pNotV, pIf, pCons, pNil, pTup, pLst, pStar, pCallB, pCall, pMeth, pProp, pFld, pFrz, pIL, pIT, pZip, pEnum, pR1, pR2, pR3, pSlL, pSlT, pPart, pNoPart, pLc, pLc2, pDc, pSortSc, pFor, pNewL, pNewD, pApp, pExt, pDPut, pSetL, pOwnD, pIsN, pNotN, pListVals, pListValsT, pIVals, pIKeys, pIItems, onDic, pIStr, pDGet1, pTsYes, pParL, pParR, pCel, pCelSet, pNewCel, pNeverS, wipeP, List.set_cons_zero, List.set_cons_succ, List.getElem?_cons_zero, List.getElem?_cons_succ, List.length_cons, List.length_nil, pDisp, pPairs, pZipS, seqP, pCallD, pForR, pCallX, xSeq, xOf, xNext, xIfS, xRaise, xAsg, xDrop, xRet, xCall, xTryAs, pXf, pIncJ, pCelSetJ, pNewCelJ]
  refine ⟨rfl, hl, by omega, by omega, ?_⟩
  refine ⟨by simp [rngP], ?_⟩
  refine forL_of (fun i : Nat => PV.int (0 + (i : Int))) (fun rest ρ => ∃ x2 x3 x4 x5 x6 x7 x8 x9 x10 x11 x12 x13 x14 x15 : Slt, ρ = [.val (.frz (xs.map PV.int)), .val .cel, x2, x3, x4, x5, x6, x7, x8, x9, x10, x11, x12, x13, x14, x15]) ?_ ?_ (List.range (Int.toNat 3)) _ ⟨_, _, _, _, _, _, _, _, _, _, _, _, _, _, rfl⟩
  · rintro turn rest ρ ⟨x2, x3, x4, x5, x6, x7, x8, x9, x10, x11, x12, x13, x14, x15, rfl⟩ N hN
    simp only [tb_law_2, pSeq, pNext, pIfS, pRet, pRetN, pAsg, pDrop, pPar, pAug, gNm, gTupP, gConsP, gNilP, pVar, pC, pBin, pChain, pUn, kNeg, pTst, pTru, pAndT, pOrT, pNotT, pAndV, pOrV, pNotV, pIf, pCons, pNil, pTup, pLst, pStar, pCallB, pCall, pMeth, pProp, pFld, pFrz, pIL, pIT, pZip, pEnum, pR1, pR2, pR3, pSlL, pSlT, pPart, pNoPart, pLc, pLc2, pDc, pSortSc, pFor, pNewL, pNewD, pApp, pExt, pDPut, pSetL, pOwnD, pIsN, pNotN, pListVals, pListValsT, pIVals, pIKeys, pIItems, onDic, pIStr, pDGet1, pTsYes, pParL, pParR, pCel, pCelSet, pNewCel, pNeverS, wipeP, List.set_cons_zero, List.set_cons_succ, List.getElem?_cons_zero, List.getElem?_cons_succ, List.length_cons, List.length_nil, pDisp, pPairs, pZipS, seqP, pCallD, pForR, pCallX, xSeq, xOf, xNext, xIfS, xRaise, xAsg, xDrop, xRet, xCall, xTryAs, pXf, pIncJ, pCelSetJ, pNewCelJ]
    have p30 : CPow 10 30 := ⟨by decide, by decide, by decide⟩
    have p29 : CPow 10 29 := ⟨by decide, by decide, by decide⟩
    have b30 : ((10 : Int) ^ Int.toNat 30).natAbs < 2 ^ 110 := by decide
    have P1 : ∀ d : Int, 0 ≤ d → d < 10 ^ Int.toNat 30 → (1 + d).natAbs < 2 ^ 110 := fun d d0 d1 => by
      have : (10 : Int) ^ Int.toNat 30 + 1 < 2 ^ 110 := by decide
      omega
    refine dr (by decide) (by decide) fun d1 d10 d11 => ?_
    simp only [kI0_int, kII_int]
    refine ⟨p30, dr (by decide) b30 fun d2 d20 d21 => ?_⟩
    simp only [kI0_int, kII_int]
    refine ⟨size_le (by decide), dr (by decide) (by decide) fun d3 d30 d31 => ?_⟩
    refine kIx3 (fun v => ∃ L : Int, v = .int L ∧ 1 ≤ L ∧ L.natAbs < 2 ^ 110) d30 d31 ⟨_, rfl, by omega, by omega⟩ ⟨_, rfl, by omega, P1 d2 d20 d21⟩ ⟨_, rfl, by decide, by decide⟩ ?_
    rintro _ ⟨L, rfl, L1, LL⟩
    refine dr (by decide) (by decide) fun d4 d40 d41 => ?_
    simp only [kI0_int, kII_int]
    refine ⟨p30, dr (by decide) b30 fun d5 d50 d51 => ?_⟩
    simp only [kI0_int, kII_int]
    refine ⟨p29, size_le (by decide), dr (by decide) (by decide) fun d6 d60 d61 => ?_⟩
    refine kIx2 (fun v => ∃ s : Int, v = .int s ∧ s.natAbs < 2 ^ 110) d60 d61 ⟨_, rfl, by omega⟩ ⟨_, rfl, ?_⟩ ?_
    · have := P1 d5 d50 d51
      have e : (10 : Int) ^ Int.toNat 29 < 2 ^ 110 := by decide
      have e0 : 0 < (10 : Int) ^ Int.toNat 29 := by decide
      omega
    rintro _ ⟨s, rfl, LS⟩
    have z : SzOk L s := ⟨L1, LL, LS⟩
    refine ⟨by decide, size_le (by decide), size_le (by decide), size_le (by decide), ?_⟩
    show Ph_Race [.int L, .dic [(Sum.inr "a", .tup [.int 0, .lst [.tup [.int 0, .int s]]])]] _
    refine make_race z ⟨size_le (by decide), ?_⟩
    refine dr (by decide) (by decide) fun d7 d70 d71 => ?_
    refine ⟨by omega, by omega, by simp [rngP]; omega, ?_⟩
    have gR := raceI_g z
    have hr0 : rnI s ∈ (raceI L s).rs := List.mem_singleton.mpr rfl
    have place : ∀ (tm : Int) (R : PV → Prop), 0 ≤ tm → tm.natAbs < 2 ^ 110 → R (.int ((s * tm).fmod L)) → Ph_Race_place [(raceI L s).pv, .str "a", .int tm] fun p => kIx p (.int 0) R := fun tm R t0 tb h =>
      ⟨raceI L s, rnI s, .int tm, (tm : Rat), rfl, gR, hr0, .int tm, raceI_at z t0 tb, by rw [placeI t0 L1]; exact kIx_rat _ h⟩
    refine forL_of (fun i : Nat => PV.int (0 + (i : Int))) (fun rest ρ => ∃ (os : List (Int × Int)) (y2 y5 y6 y9 y10 y11 y12 y13 y14 y15 : Slt), SeenOk L s os ∧ os.length + rest.length ≤ 6 ∧ ρ = [.val (.frz (xs.map PV.int)), .val .cel, y2, .val (.int L), .val (.int s), y5, y6, .val (raceI L s).pv, .own (.lst (os.map obP)), y9, y10, y11, y12, y13, y14, y15]) ?_ ?_ (List.range d7.toNat) _ ⟨[], _, _, _, _, _, _, _, _, _, _, ⟨by simp, by simp⟩, by simp; omega, rfl⟩
    · rintro k0 rest2 ρ ⟨os, y2, y5, y6, y9, y10, y11, y12, y13, y14, y15, so, hn, rfl⟩ N2 hN2
      simp only [tb_law_1, pSeq, pNext, pIfS, pRet, pRetN, pAsg, pDrop, pPar, pAug, gNm, gTupP, gConsP, gNilP, pVar, pC, pBin, pChain, pUn, kNeg, pTst, pTru, pAndT, pOrT, pNotT, pAndV, pOrV, pNotV, pIf, pCons, pNil, pTup, pLst, pStar, pCallB, pCall, pMeth, pProp, pFld, pFrz, pIL, pIT, pZip, pEnum, pR1, pR2, pR3, pSlL, pSlT, pPart, pNoPart, pLc, pLc2, pDc, pSortSc, pFor, pNewL, pNewD, pApp, pExt, pDPut, pSetL, pOwnD, pIsN, pNotN, pListVals, pListValsT, pIVals, pIKeys, pIItems, onDic, pIStr, pDGet1, pTsYes, pParL, pParR, pCel, pCelSet, pNewCel, pNeverS, wipeP, List.set_cons_zero, List.set_cons_succ, List.getElem?_cons_zero, List.getElem?_cons_succ, List.length_cons, List.length_nil, pDisp, pPairs, pZipS, seqP, pCallD, pForR, pCallX, xSeq, xOf, xNext, xIfS, xRaise, xAsg, xDrop, xRet, xCall, xTryAs, pXf, pIncJ, pCelSetJ, pNewCelJ]
      refine dr (by decide) (by decide) fun e1 e10 e11 => ?_
      simp only [kII_int]
      refine ⟨?_, ⟨by decide, by decide, by decide⟩, dr (by decide) (by decide) fun e2 e20 e21 => ?_⟩
      · have a1 : e1.natAbs.log2 < 10 := lg (by decide) (by omega)
        have a2 : (6 : Int).natAbs.log2 < 10 := lg (by decide) (by decide)
        show e1.natAbs.log2 + (6 : Int).natAbs.log2 < 1000000
        omega
      refine ⟨size_le (by decide), dr (by decide) (by decide) fun e3 e30 e31 => ?_⟩
      refine kIx2 (fun v => ∃ tm : Int, v = .int tm ∧ 0 ≤ tm ∧ tm.natAbs < 2 ^ 110) e30 e31 ⟨_, rfl, by omega, by omega⟩ ⟨_, rfl, e20, ?_⟩ ?_
      · have : (10 : Int) ^ Int.toNat 10 < 2 ^ 110 := by decide
        omega
      rintro _ ⟨tm, rfl, t0, tb⟩
      simp only [RaceM.pv]
      refine ⟨by trivial, by rfl, place tm _ t0 tb ?_⟩
      refine ⟨size_le (by decide), size_le (by simp at hn; simp; omega), ?_⟩
      refine hN2 _ ⟨os ++ [(tm, (s * tm).fmod L)], y2, .val (.int (0 + (k0 : Int))), .val (.int tm), y9, y10, y11, y12, y13, y14, y15, seen_snoc so (by simp at hn; omega) t0 tb, by simp at hn ⊢; omega, ?_⟩
      rw [List.map_append]
      rfl
    · rintro ρ ⟨os, y2, y5, y6, y9, y10, y11, y12, y13, y14, y15, so, hn, rfl⟩
      simp only [pSeq, pNext, pIfS, pRet, pRetN, pAsg, pDrop, pPar, pAug, gNm, gTupP, gConsP, gNilP, pVar, pC, pBin, pChain, pUn, kNeg, pTst, pTru, pAndT, pOrT, pNotT, pAndV, pOrV, pNotV, pIf, pCons, pNil, pTup, pLst, pStar, pCallB, pCall, pMeth, pProp, pFld, pFrz, pIL, pIT, pZip, pEnum, pR1, pR2, pR3, pSlL, pSlT, pPart, pNoPart, pLc, pLc2, pDc, pSortSc, pFor, pNewL, pNewD, pApp, pExt, pDPut, pSetL, pOwnD, pIsN, pNotN, pListVals, pListValsT, pIVals, pIKeys, pIItems, onDic, pIStr, pDGet1, pTsYes, pParL, pParR, pCel, pCelSet, pNewCel, pNeverS, wipeP, List.set_cons_zero, List.set_cons_succ, List.getElem?_cons_zero, List.getElem?_cons_succ, List.length_cons, List.length_nil, pDisp, pPairs, pZipS, seqP, pCallD, pForR, pCallX, xSeq, xOf, xNext, xIfS, xRaise, xAsg, xDrop, xRet, xCall, xTryAs, pXf, pIncJ, pCelSetJ, pNewCelJ]
      have io := seen_in z so
      have fo := seen_fit L1 so
      have nos : os.length ≤ 6 := by simp at hn; omega
      obtain ⟨r, m, fc, md, r0, r1, dd⟩ := find_fit io fo
      have dp := io.dpos
      have m0 : 0 < m := by omega
      have mL : m ≤ L := by
        have := Int.mul_le_mul_of_nonneg_left (a := 1) (b := dv L os) (c := m) dp (by omega)
        omega
      have mb : m.natAbs.log2 < 110 := lg (by decide) (by omega)
      have db : (dv L os).natAbs.log2 < 1000 := lg (k := B1) (by decide) io.dlt
      refine ⟨L, os, rfl, io, ?_⟩
      simp only [fc]
      refine ⟨by trivial, L, os, rfl, L1, fun o ho => (so.o o ho).1, ?_⟩
      rw [← dv_fold L1]
      simp only [kII_int, kNe_int, kI0_int, decide_eq_true md, decide_eq_true r0, decide_eq_true r1, Bool.not_true]
      refine ⟨by show _ < _; omega, by omega, ?_⟩
      simp only [fmod0.mpr dd, decide_true, Bool.not_true]
      refine dr (by decide) (by decide) fun a a0 a1 => ?_
      have mul4 : ∀ c : Int, 0 ≤ c → c < 4 → MulOk m c := fun c c0 c1 => by
        have : c.natAbs.log2 < 3 := lg (by decide) (by omega)
        show m.natAbs.log2 + c.natAbs.log2 < 1000000
        omega
      simp only [kII_int, kI0_int]
      refine ⟨mul4 a a0 a1, dr (by decide) (by decide) fun b b0 b1 => ?_⟩
      simp only [kII_int, kI0_int]
      obtain ⟨cnt, btw⟩ := betw_at (lo := s - m * a) (hi := s + m * b) (u := 0) (v := 0) fc m0 dd (by omega) (by omega) (by omega) m0 (by omega) m0 a0 b0
      refine ⟨mul4 b b0 b1, L, os, _, _, rfl, io, by omega, by omega, ?_⟩
      rw [btw]
      have hin : ((List.range (a + b + 1).toNat).map fun i : Nat => s - m * a + (i : Int) * m).contains s = true := by
        rw [List.contains_iff_mem, List.mem_map]
        refine ⟨a.toNat, List.mem_range.mpr (by omega), ?_⟩
        have : ((a.toNat : Nat) : Int) = a := by omega
        rw [this, Int.mul_comm a]; omega
      refine kIn_told Told.Ex.int (by decide) ?_
      simp only [if_true, hin, Bool.not_true]
      refine ⟨L, os, _, _, rfl, io, ?_⟩
      rw [cnt]
      have fd : (s + m * b - (s - m * a)).fdiv m = a + b := fdiv_at m0 (b := 0) (by rw [Int.mul_add]; omega) (by omega) m0
      simp only [kI0_int, kII_int, kNe_int, fd, decide_true, Bool.not_true]
      refine ⟨⟨by omega, by omega⟩, L, os, _, _, rfl, io, ?_⟩
      rw [cnt]
      have kno : ∀ {R : PV → Prop}, kNe (.lst (os.map obP)) (.lst []) R = R (.bl (!decide (os = []))) := kNe_told (T := (Told.int.pair Told.int).list) (Told.Ex.int.pair Told.Ex.int).list (by decide) (a := os) (b := [])
      have kns : ∀ {l : List Int} {R : PV → Prop}, kNe (.lst (iL l)) (.lst [.int s]) R = R (.bl (!decide (l = [s]))) := fun {l R} => kNe_told (T := Told.int.list) Told.Ex.int.list (by decide) (a := l) (b := [s])
      have er : (List.replicate ((os.length : Nat) : Int).toNat [PV.int 1]).flatten = iL (List.replicate os.length 1) := by
        rw [Int.toNat_natCast, iL, List.map_replicate]
        generalize os.length = n
        induction n with
        | zero => rfl
        | succ n ih => rw [List.replicate_succ, List.flatten_cons, ih, List.replicate_succ]; rfl
      have eno : (decide ((dotL (List.replicate os.length 1) (tms os)).fmod L = 0) && !decide ((dotL (List.replicate os.length 1) (pls os)).fmod L = 0)) = false := by
        by_cases h : (dotL (List.replicate os.length 1) (tms os)).fmod L = 0
        · have d1 := dot_fit (List.replicate os.length 1) os fo
          have d2 : L ∣ dotL (List.replicate os.length 1) (tms os) * s := Int.dvd_mul_of_dvd_left (fmod0.mp h)
          have d3 := Int.dvd_sub d2 d1
          have : L ∣ dotL (List.replicate os.length 1) (pls os) := by
            rw [show dotL (List.replicate os.length 1) (pls os) = dotL (List.replicate os.length 1) (tms os) * s - (dotL (List.replicate os.length 1) (tms os) * s - dotL (List.replicate os.length 1) (pls os)) by omega]
            exact d3
          rw [decide_eq_true h, decide_eq_true (fmod0.mpr this)]; rfl
        · rw [decide_eq_false h]; rfl
      by_cases c : dv L os < a + b + 1
      · simp only [if_pos c, isNonP, Bool.not_true]
        refine ⟨size_le (by decide), ?_⟩
        simp only [kno]
        by_cases ne : os = []
        · simp only [decide_eq_true ne, Bool.not_true]
          exact hN _ ⟨_, _, _, _, _, _, _, _, _, _, _, _, _, _, rfl⟩
        · simp only [decide_eq_false ne, Bool.not_false]
          obtain ⟨o, os', eo⟩ := List.exists_cons_of_ne_nil ne
          have khd : ∀ {R : PV → Prop}, kIx (.lst (os.map obP)) (.int 0) R = R (obP o) := by intro R; rw [eo, kIx_nat (i := 0) (j := 0) rfl (by simp)]; rfl
          have ew : os.map obP ++ [.tup [.int o.1, .int (o.2 + 1)]] = (wrongO os).map obP := by rw [eo]; simp [wrongO, obP]
          simp only [khd, obP, kIx_2a, kIx_2b, kI0_int, kCat]
          refine ⟨size_le (by decide), size_le (by decide), size_le (by simp; omega), ?_⟩
          change Ph_law_refusal [.int L, .lst (os.map obP ++ [.tup [.int o.1, .int (o.2 + 1)]])] _
          rw [ew]
          refine ⟨L, wrongO os, rfl, wrong_in z so ne, ?_⟩
          by_cases l2 : 1 < L
          · obtain ⟨l, el⟩ := wrong_ref z so ne l2
            obtain ⟨q1, q2, q3, q4⟩ := find_ref (wrong_in z so ne) el
            have q5 : ¬ (dotL l (pls (wrongO os))).fmod L = 0 := fun h => q3 (fmod0.mp h)
            simp only [el, decide_eq_true l2, isNonP]
            refine ⟨L, wrongO os, l, rfl, wrong_in z so ne, q1, q4, ?_⟩
            simp only [decide_eq_true (fmod0.mpr q2), decide_eq_false q5, Bool.not_false, Bool.and_true, kIsNotB, decide_true, Bool.not_true]
            refine ⟨size_le (by decide), ?_⟩
            simp only [kLen_lst, List.length_map, kRepT]
            refine ⟨by simp, by have := List.length_pos_iff.mpr ne; omega, by omega, by simp, ?_⟩
            rw [er]
            refine ⟨L, os, List.replicate os.length 1, rfl, io, by simp, fun v hv => by rw [(List.mem_replicate.mp hv).2]; exact Nat.lt_of_lt_of_le (by decide : 1 < 2) (Nat.le_self_pow (by decide) 2), ?_⟩
            rw [eno]
            simp only [kIsNotB, decide_true, Bool.not_true]
            exact hN _ ⟨_, _, _, _, _, _, _, _, _, _, _, _, _, _, rfl⟩
          · simp only [decide_eq_false l2]
            refine ⟨size_le (by decide), ?_⟩
            simp only [kLen_lst, List.length_map, kRepT]
            refine ⟨by simp, by have := List.length_pos_iff.mpr ne; omega, by omega, by simp, ?_⟩
            rw [er]
            refine ⟨L, os, List.replicate os.length 1, rfl, io, by simp, fun v hv => by rw [(List.mem_replicate.mp hv).2]; exact Nat.lt_of_lt_of_le (by decide : 1 < 2) (Nat.le_self_pow (by decide) 2), ?_⟩
            rw [eno]
            simp only [kIsNotB, decide_true, Bool.not_true]
            exact hN _ ⟨_, _, _, _, _, _, _, _, _, _, _, _, _, _, rfl⟩
      · simp only [if_neg c, isNonP, Bool.not_false, RaceM.pv]
        refine ⟨by trivial, by rfl, place 1 _ (by decide) (by decide) ?_⟩
        simp only [kCat]
        have so2 : SeenOk L s (os ++ [(1, (s * 1).fmod L)]) := seen_snoc so (by omega) (by decide) (by decide)
        have io2 := seen_in z so2
        obtain ⟨r', m', fc', md', r0', r1', dd'⟩ := find_fit io2 (seen_fit L1 so2)
        have d1 : dv L (os ++ [(1, (s * 1).fmod L)]) = 1 := by
          have := io2.dT (1, (s * 1).fmod L) (by simp)
          have dp2 := io2.dpos
          exact Int.eq_one_of_dvd_one (by omega) this
        rw [d1, Int.mul_one] at md'
        subst md'
        have wide : m * (a + b + 1) ≤ m' := by
          have := Int.mul_le_mul_of_nonneg_left (a := a + b + 1) (b := dv m' os) (c := m) (by omega) (by omega)
          omega
        rw [Int.mul_add, Int.mul_add, Int.mul_one] at wide
        have pa := Int.mul_nonneg (Int.le_of_lt m0) a0
        have pb := Int.mul_nonneg (Int.le_of_lt m0) b0
        obtain ⟨cnt', btw'⟩ := betw_at (lo := s - m * a) (hi := s + m * b) (a := 0) (b := 0) (u := m * b) (v := m * a) fc' (by omega) dd' (by omega) (by omega) pb (by omega) pa (by omega) (by omega) (by omega)
        have e1 : os.map obP ++ [.tup [.int 1, .int ((s * 1).fmod m')]] = (os ++ [(1, (s * 1).fmod m')]).map obP := by rw [List.map_append]; rfl
        rw [e1]
        refine ⟨size_le (by decide), size_le (by decide), size_le (by simp; omega), m', _, _, _, rfl, io2, by omega, by omega, size_le (by decide), ?_⟩
        have eb : betwC m' (os ++ [(1, (s * 1).fmod m')]) (s - m * a) (s + m * b) = [s] := by
          rw [btw']
          simp
        simp only [kns, eb, decide_true, Bool.not_true]
        refine ⟨size_le (by decide), ?_⟩
        simp only [kno]
        by_cases ne : os = []
        · simp only [decide_eq_true ne, Bool.not_true]
          exact hN _ ⟨_, _, _, _, _, _, _, _, _, _, _, _, _, _, rfl⟩
        · simp only [decide_eq_false ne, Bool.not_false]
          obtain ⟨o, os', eo⟩ := List.exists_cons_of_ne_nil ne
          have khd : ∀ {R : PV → Prop}, kIx (.lst (os.map obP)) (.int 0) R = R (obP o) := by intro R; rw [eo, kIx_nat (i := 0) (j := 0) rfl (by simp)]; rfl
          have ew : os.map obP ++ [.tup [.int o.1, .int (o.2 + 1)]] = (wrongO os).map obP := by rw [eo]; simp [wrongO, obP]
          simp only [khd, obP, kIx_2a, kIx_2b, kI0_int, kCat]
          refine ⟨size_le (by decide), size_le (by decide), size_le (by simp; omega), ?_⟩
          change Ph_law_refusal [.int m', .lst (os.map obP ++ [.tup [.int o.1, .int (o.2 + 1)]])] _
          rw [ew]
          refine ⟨m', wrongO os, rfl, wrong_in z so ne, ?_⟩
          by_cases l2 : 1 < m'
          · obtain ⟨l, el⟩ := wrong_ref z so ne l2
            obtain ⟨q1, q2, q3, q4⟩ := find_ref (wrong_in z so ne) el
            have q5 : ¬ (dotL l (pls (wrongO os))).fmod m' = 0 := fun h => q3 (fmod0.mp h)
            simp only [el, decide_eq_true l2, isNonP]
            refine ⟨m', wrongO os, l, rfl, wrong_in z so ne, q1, q4, ?_⟩
            simp only [decide_eq_true (fmod0.mpr q2), decide_eq_false q5, Bool.not_false, Bool.and_true, kIsNotB, decide_true, Bool.not_true]
            refine ⟨size_le (by decide), ?_⟩
            simp only [kLen_lst, List.length_map, kRepT]
            refine ⟨by simp, by have := List.length_pos_iff.mpr ne; omega, by omega, by simp, ?_⟩
            rw [er]
            refine ⟨m', os, List.replicate os.length 1, rfl, io, by simp, fun v hv => by rw [(List.mem_replicate.mp hv).2]; exact Nat.lt_of_lt_of_le (by decide : 1 < 2) (Nat.le_self_pow (by decide) 2), ?_⟩
            rw [eno]
            simp only [kIsNotB, decide_true, Bool.not_true]
            exact hN _ ⟨_, _, _, _, _, _, _, _, _, _, _, _, _, _, rfl⟩
          · simp only [decide_eq_false l2]
            refine ⟨size_le (by decide), ?_⟩
            simp only [kLen_lst, List.length_map, kRepT]
            refine ⟨by simp, by have := List.length_pos_iff.mpr ne; omega, by omega, by simp, ?_⟩
            rw [er]
            refine ⟨m', os, List.replicate os.length 1, rfl, io, by simp, fun v hv => by rw [(List.mem_replicate.mp hv).2]; exact Nat.lt_of_lt_of_le (by decide : 1 < 2) (Nat.le_self_pow (by decide) 2), ?_⟩
            rw [eno]
            simp only [kIsNotB, decide_true, Bool.not_true]
            exact hN _ ⟨_, _, _, _, _, _, _, _, _, _, _, _, _, _, rfl⟩
  · rintro ρ ⟨x2, x3, x4, x5, x6, x7, x8, x9, x10, x11, x12, x13, x14, x15, rfl⟩
    simp only [pSeq, pNext, pIfS, pRet, pRetN, pAsg, pDrop, pPar, pAug, gNm, gTupP, gConsP, gNilP, pVar, pC, pBin, pChain, pUn, kNeg, pTst, pTru, pAndT, pOrT, pNotT, pAndV, pOrV, pNotV, pIf, pCons, pNil, pTup, pLst, pStar, pCallB, pCall, pMeth, pProp, pFld, pFrz, pIL, pIT, pZip, pEnum, pR1, pR2, pR3, pSlL, pSlT, pPart, pNoPart, pLc, pLc2, pDc, pSortSc, pFor, pNewL, pNewD, pApp, pExt, pDPut, pSetL, pOwnD, pIsN, pNotN, pListVals, pListValsT, pIVals, pIKeys, pIItems, onDic, pIStr, pDGet1, pTsYes, pParL, pParR, pCel, pCelSet, pNewCel, pNeverS, wipeP, List.set_cons_zero, List.set_cons_succ, List.getElem?_cons_zero, List.getElem?_cons_succ, List.length_cons, List.length_nil]
    exact hq
end G


/-! ## HD96 -/
namespace G
open PySem PySem.Spec PyProof.Rows L2 L3
def top (i : Nat) : Stmt := PySem.Challenge.pw_laprunners_k96_whole_seen_speeds.main.body.getD i (.Pass ⟨0, 0, 0, 0⟩)
def clsBody : Stmt → List Stmt
  | .ClassDef _ _ _ b _ _ _ _ _ _ _ => b
  | _ => []
def mtop (i j : Nat) : Stmt := (clsBody (top i)).getD j (.Pass ⟨0, 0, 0, 0⟩)
def d_law_pool : HY.DefE := ⟨.g "_law_pool", "_law_pool", "_law_pool", defArgs (top 54), defBody (top 54), defScope (top 54), [], []⟩
def d_law_draw : HY.DefE := ⟨.g "_law_draw", "_law_draw", "_law_draw", defArgs (top 55), defBody (top 55), defScope (top 55), [], []⟩
def d_is_integer : HY.DefE := ⟨.g "is_integer", "is_integer", "is_integer", defArgs (top 12), defBody (top 12), defScope (top 12), [], []⟩
def d_common_divisor : HY.DefE := ⟨.g "common_divisor", "common_divisor", "common_divisor", defArgs (top 13), defBody (top 13), defScope (top 13), [], []⟩
def d_is_ratio : HY.DefE := ⟨.g "is_ratio", "is_ratio", "is_ratio", defArgs (top 14), defBody (top 14), defScope (top 14), [], []⟩
def d_is_number : HY.DefE := ⟨.g "is_number", "is_number", "is_number", defArgs (top 15), defBody (top 15), defScope (top 15), [], []⟩
def d_as_ratio : HY.DefE := ⟨.g "as_ratio", "as_ratio", "as_ratio", defArgs (top 17), defBody (top 17), defScope (top 17), [], []⟩
def d_ratio : HY.DefE := ⟨.g "ratio", "ratio", "ratio", defArgs (top 16), defBody (top 16), defScope (top 16), [.int 1], []⟩
def d_minus : HY.DefE := ⟨.g "minus", "minus", "minus", defArgs (top 19), defBody (top 19), defScope (top 19), [], []⟩
def d_compare : HY.DefE := ⟨.g "compare", "compare", "compare", defArgs (top 22), defBody (top 22), defScope (top 22), [], []⟩
def d_is_piece : HY.DefE := ⟨.g "is_piece", "is_piece", "is_piece", defArgs (top 49), defBody (top 49), defScope (top 49), [], []⟩
def d_are_pieces : HY.DefE := ⟨.g "are_pieces", "are_pieces", "are_pieces", defArgs (top 50), defBody (top 50), defScope (top 50), [], []⟩
def d_is_runner : HY.DefE := ⟨.g "is_runner", "is_runner", "is_runner", defArgs (top 51), defBody (top 51), defScope (top 51), [], []⟩
def d_is_name : HY.DefE := ⟨.g "is_name", "is_name", "is_name", defArgs (top 47), defBody (top 47), defScope (top 47), [], []⟩
def d_divided : HY.DefE := ⟨.g "divided", "divided", "divided", defArgs (top 21), defBody (top 21), defScope (top 21), [], []⟩
def d_floor_of : HY.DefE := ⟨.g "floor_of", "floor_of", "floor_of", defArgs (top 23), defBody (top 23), defScope (top 23), [], []⟩
def d_times : HY.DefE := ⟨.g "times", "times", "times", defArgs (top 20), defBody (top 20), defScope (top 20), [], []⟩
def d_remainder : HY.DefE := ⟨.g "remainder", "remainder", "remainder", defArgs (top 24), defBody (top 24), defScope (top 24), [], []⟩
def d_Race_init : HY.DefE := ⟨.m "Race" "__init__", "__init__", "Race.__init__", defArgs (mtop 52 0), defBody (mtop 52 0), defScope (mtop 52 0), [], []⟩
def d_Race_length : HY.DefE := ⟨.p "Race" "length", "length", "Race.length", defArgs (mtop 52 1), defBody (mtop 52 1), defScope (mtop 52 1), [], []⟩
def d_Race_contains : HY.DefE := ⟨.m "Race" "__contains__", "__contains__", "Race.__contains__", defArgs (mtop 52 19), defBody (mtop 52 19), defScope (mtop 52 19), [], []⟩
def d_Race_runner : HY.DefE := ⟨.m "Race" "runner", "runner", "Race.runner", defArgs (mtop 52 3), defBody (mtop 52 3), defScope (mtop 52 3), [], []⟩
def d_as_time : HY.DefE := ⟨.g "as_time", "as_time", "as_time", defArgs (top 48), defBody (top 48), defScope (top 48), [], []⟩
def d_plus : HY.DefE := ⟨.g "plus", "plus", "plus", defArgs (top 18), defBody (top 18), defScope (top 18), [], []⟩
def d_Race_position : HY.DefE := ⟨.m "Race" "position", "position", "Race.position", defArgs (mtop 52 8), defBody (mtop 52 8), defScope (mtop 52 8), [], []⟩
def d_Race_place : HY.DefE := ⟨.m "Race" "place", "place", "Race.place", defArgs (mtop 52 9), defBody (mtop 52 9), defScope (mtop 52 9), [], []⟩
def d_validate_length : HY.DefE := ⟨.g "validate_length", "validate_length", "validate_length", defArgs (top 31), defBody (top 31), defScope (top 31), [], []⟩
def d_is_observation : HY.DefE := ⟨.g "is_observation", "is_observation", "is_observation", defArgs (top 32), defBody (top 32), defScope (top 32), [], []⟩
def d_validate_observations : HY.DefE := ⟨.g "validate_observations", "validate_observations", "validate_observations", defArgs (top 33), defBody (top 33), defScope (top 33), [], []⟩
def d_extended_divisor : HY.DefE := ⟨.g "extended_divisor", "extended_divisor", "extended_divisor", defArgs (top 26), defBody (top 26), defScope (top 26), [], []⟩
def d_combined : HY.DefE := ⟨.g "combined", "combined", "combined", defArgs (top 27), defBody (top 27), defScope (top 27), [], []⟩
def d_combined_times : HY.DefE := ⟨.g "combined_times", "combined_times", "combined_times", defArgs (top 34), defBody (top 34), defScope (top 34), [], []⟩
def d_find_class : HY.DefE := ⟨.g "find_class", "find_class", "find_class", defArgs (top 35), defBody (top 35), defScope (top 35), [], []⟩
def d_NoSpeed_init : HY.DefE := ⟨.m "NoSpeed" "__init__", "__init__", "NoSpeed.__init__", defArgs (mtop 10 0), defBody (mtop 10 0), defScope (mtop 10 0), [], []⟩
def d_fitting_speeds : HY.DefE := ⟨.g "fitting_speeds", "fitting_speeds", "fitting_speeds", defArgs (top 36), defBody (top 36), defScope (top 36), [], []⟩
def d_law_divisor : HY.DefE := ⟨.g "_law_divisor", "_law_divisor", "_law_divisor", defArgs (top 56), defBody (top 56), defScope (top 56), [], []⟩
def d_validate_bounds : HY.DefE := ⟨.g "validate_bounds", "validate_bounds", "validate_bounds", defArgs (top 38), defBody (top 38), defScope (top 38), [], []⟩
def d_count_speeds : HY.DefE := ⟨.g "count_speeds", "count_speeds", "count_speeds", defArgs (top 39), defBody (top 39), defScope (top 39), [], []⟩
def d_speeds_between : HY.DefE := ⟨.g "speeds_between", "speeds_between", "speeds_between", defArgs (top 40), defBody (top 40), defScope (top 40), [], []⟩
def d_next_look : HY.DefE := ⟨.g "next_look", "next_look", "next_look", defArgs (top 41), defBody (top 41), defScope (top 41), [], [("after", .int 0)]⟩
def d_law_refusal : HY.DefE := ⟨.g "_law_refusal", "_law_refusal", "_law_refusal", defArgs (top 57), defBody (top 57), defScope (top 57), [], []⟩
def d_is_no_speed : HY.DefE := ⟨.g "is_no_speed", "is_no_speed", "is_no_speed", defArgs (top 37), defBody (top 37), defScope (top 37), [], []⟩
def d_law : HY.DefE := ⟨.g "law", "law", "law", defArgs (top 58), defBody (top 58), defScope (top 58), [], []⟩
def fn0 : List HY.DefE := [d_law_pool, d_law_draw, d_is_integer, d_common_divisor, d_is_ratio, d_is_number, d_as_ratio, d_ratio, d_minus, d_compare, d_is_piece, d_are_pieces, d_is_runner, d_is_name, d_divided, d_floor_of]
def fn1 : List HY.DefE := [d_times, d_remainder, d_Race_init, d_Race_length, d_Race_contains, d_Race_runner, d_as_time, d_plus, d_Race_position, d_Race_place, d_validate_length, d_is_observation, d_validate_observations, d_extended_divisor, d_combined, d_combined_times]
def fn2 : List HY.DefE := [d_find_class, d_NoSpeed_init, d_fitting_speeds, d_law_divisor, d_validate_bounds, d_count_speeds, d_speeds_between, d_next_look, d_law_refusal, d_is_no_speed, d_law]
def fnl : List HY.DefE := fn0 ++ fn1 ++ fn2
def fa0 : List He.Fa := [.free "int", .free "len", .free "bool", .free "isinstance", .free "abs", .glo "is_integer", .free "tuple", .glo "common_divisor", .glo "is_ratio", .glo "is_number", .glo "as_ratio", .glo "ratio", .glo "minus", .glo "compare", .int "MAX_PIECES" 20, .free "list", .glo "is_piece", .free "all", .free "range", .glo "are_pieces", .free "str", .str "SIGNS" "abcdefghijklmnopqrstuvwxyz0123456789", .str "LETTERS" "abcdefghijklmnopqrstuvwxyz", .glo "divided"]
def fa1 : List He.Fa := [.glo "floor_of", .glo "times", .int "MAX_RUNNERS" 12, .free "dict", .glo "is_runner", .glo "is_name", .cls "Race", .noat "Race" "own_length", .noat "Race" "own_runners", .free "sorted", .glo "remainder", .noat "Race" "own_parts", .meth "Race" "__contains__", .meth "Race" "runner", .glo "as_time", .free "enumerate", .glo "plus", .meth "Race" "position", .glo "validate_length", .int "MAX_OBSERVATIONS" 50, .glo "is_observation", .free "zip", .glo "extended_divisor", .glo "combined"]
def fa2 : List He.Fa := [.glo "combined_times", .free "sum", .glo "NoSpeed", .noat "NoSpeed" "refusal", .free "LookupError", .glo "validate_observations", .glo "find_class", .glo "validate_bounds", .glo "count_speeds", .int "MAX_SPEEDS" 2000, .glo "fitting_speeds", .glo "_law_pool", .glo "_law_draw", .glo "Race", .mkr "Race", .meth "Race" "place", .glo "_law_divisor", .glo "speeds_between", .glo "next_look", .glo "_law_refusal", .glo "is_no_speed", .glo "law"]
def fal : List He.Fa := fa0 ++ fa1 ++ fa2
def prl : List (Str × Str) := [("Race", "length")]
def xcl : List HY.XcE := [⟨"NoSpeed", "LookupError.__new__", xTl "LookupError"⟩]
def nm0 : List Str := ["_wall", "__name__", "InvalidNumber", "InvalidLength", "InvalidRunner", "InvalidTime", "UnknownName", "DivisionByZero", "LimitExceeded", "InvalidObservation", "NoSpeed", "is_integer", "common_divisor", "is_ratio", "is_number", "ratio", "as_ratio", "plus", "minus", "times", "divided", "compare", "floor_of", "remainder"]
def nm1 : List Str := ["extended_divisor", "combined", "MAX_SPEEDS", "MAX_OBSERVATIONS", "validate_length", "is_observation", "validate_observations", "combined_times", "find_class", "fitting_speeds", "is_no_speed", "validate_bounds", "count_speeds", "speeds_between", "next_look", "MAX_RUNNERS", "MAX_PIECES", "LETTERS", "SIGNS", "is_name", "as_time", "is_piece", "are_pieces", "is_runner"]
def nm2 : List Str := ["Race", "_law_pool", "_law_draw", "_law_divisor", "_law_refusal"]
def nml : List Str := nm0 ++ nm1 ++ nm2
abbrev R : PySem.W.OpenRow := PySem.W.OpenLaw.row PySem.Challenge.rw_laprunners_k96_whole_seen_speeds
abbrev hk : PySem.W.Hook := HY.hook 5 fal prl xcl fnl
def ob (s : PySem.W.SharedT) : HY.Ob := HY.obsG 5 fal prl xcl fnl (HandSHeadRun.getT s)
theorem ob_eq (s : PySem.W.SharedT) : ob s = hk.obs s.abs := HY.obsG_eq (HandSHeadRun.getT_eq s)
theorem run (w : World) : HandSHeadRun.RunEq R (PySem.W.view R.prog [58]) hk ob 20000 nml w := by
  intro os
  kernel_rfl
end G


/-! ## FO96 -/
namespace G
open PySem PySem.Spec PyProof.Rows L2 L3
theorem sc_law_pool : FnScope ["script"] ["script"] (defScope (top 54)) := ⟨rfl, rfl, rfl, by decide +kernel, rfl, by decide +kernel, by decide +kernel⟩
theorem ok_law_pool {P : Program} {w : World} {mg : Str → Option Value} {K : PySem.W.Frag} {xs : List Int} {m : Nat} {f : Addr} {fd : FuncData} {dvs : List V} {kws : List (Str × V)} (F : FunD K "_law_pool" "_law_pool" (defArgs (top 54)) (defBody (top 54)) (defScope (top 54)) dvs kws f fd)  : ∀ base : Heap, FnOk P w K mg base CX0 3 f fd ["script"] (spP ((famJ K xs).at m) (Ph_law_pool xs)) :=
  fun base => okP (Z := (famJ K xs).at m) (t := (t_law_pool xs)) F sc_law_pool (fun cdv A outer s H E hr => qss_one (qs_ret (q_newCelJ (qa_cons (q_sliceL (q_var (i := 0)) (qo_none) (qo_some (q_int))) (qa_cons (q_int) (qa_cons (q_int) (qa_cons (q_int) (qa_nil)))))))) hp_law_pool
theorem sc_law_draw : FnScope ["pool", "many", "found", "cells", "cell", "mixed"] ["pool", "many"] (defScope (top 55)) := ⟨rfl, rfl, rfl, by decide +kernel, rfl, by decide +kernel, by decide +kernel⟩
theorem ok_law_draw {P : Program} {w : World} {mg : Str → Option Value} {K : PySem.W.Frag} {xs : List Int} {m : Nat} {f : Addr} {fd : FuncData} {dvs : List V} {kws : List (Str × V)} (hm : m + 1 ≤ 1152921504606846976) (F : FunD K "_law_draw" "_law_draw" (defArgs (top 55)) (defBody (top 55)) (defScope (top 55)) dvs kws f fd) (m_int : mg "int" = none) (m_len : mg "len" = none) : ∀ base : Heap, FnOk P w K mg base CX0 3 f fd ["pool", "many"] (spP2 (famJ K xs) m (m + 1) Ph_law_draw) :=
  fun base => okP2 (F := famJ K xs) (m := m) (n := m + 1) (t := (t_law_draw xs)) F sc_law_draw (by omega) (fun cdv A outer s H E hr => qss2_cons (m := m) (j := (m + 1)) (n := (m + 1)) (qs_incJ (m := m) (v := 0)) (cSs0 (m := (m + 1)) (n := (m + 1)) (qss_cons (qs_if (qt_cmp q_gt (q_celJ (v := 0) (by omega)) (q_int)) (qss_cons (qs_set (i := 2) sc_law_draw.nd (q_op q_modI (q_celJ (v := 0) (by omega)) (q_var (i := 1)))) (qss_cons (qs_celSetJ (v := 0) (q_op q_fdivI (q_celJ (v := 0) (by omega)) (q_var (i := 1)))) (qss_one (qs_ret (q_var (i := 2)))))) (qss_nil)) (qss_cons (qs_set (i := 3) sc_law_draw.nd (q_op q_cat (q_celJ (v := 0) (by omega)) (q_op q_repL (q_lst (qa_cons (q_int) (qa_nil))) (q_callTy c_int m_int rfl (qa_cons (q_cmp (q_eq hr) (q_celJ (v := 0) (by omega)) (q_lst (qa_nil))) (qa_nil)))))) (qss_cons (qs_set (i := 4) sc_law_draw.nd (q_ix (q_var (i := 3)) (q_op q_modI (q_celJ (v := 0) (by omega)) (q_callB c_len m_len rfl (qa_cons (q_var (i := 3)) (qa_nil)))))) (qss_cons (qs_celSetJ (v := 0) (q_op q_addI (q_celJ (v := 0) (by omega)) (q_int))) (qss_cons (qs_if (qt_cmp q_ge (q_var (i := 4)) (q_op q_powI (q_int) (q_int))) (qss_cons (qs_celSetJ (v := 0) (q_op q_fdivI (q_var (i := 4)) (q_var (i := 1)))) (qss_one (qs_ret (q_op q_modI (q_var (i := 4)) (q_var (i := 1)))))) (qss_nil)) (qss_cons (qs_set (i := 5) sc_law_draw.nd (q_op q_modI (q_op q_addI (q_var (i := 4)) (q_op q_mulI (q_int) (q_celJ (v := 0) (by omega)))) (q_int))) (qss_one (qs_ret (q_op q_modI (q_op q_fdivI (q_op q_modI (q_op q_mulI (q_op q_powI (q_var (i := 5)) (q_int)) (q_int)) (q_int)) (q_int)) (q_var (i := 1))))))))))))) hp_law_draw
theorem sc_is_integer : FnScope ["value"] ["value"] (defScope (top 12)) := ⟨rfl, rfl, rfl, by decide +kernel, rfl, by decide +kernel, by decide +kernel⟩
theorem ok_is_integer {P : Program} {w : World} {mg : Str → Option Value} {K : PySem.W.Frag} {xs : List Int} {m : Nat} {f : Addr} {fd : FuncData} {dvs : List V} {kws : List (Str × V)} (F : FunD K "is_integer" "is_integer" (defArgs (top 12)) (defBody (top 12)) (defScope (top 12)) dvs kws f fd) (m_bool : mg "bool" = none) (m_isinstance : mg "isinstance" = none) (m_int : mg "int" = none) : ∀ base : Heap, FnOk P w K mg base CX0 3 f fd ["value"] (spP ((famJ K xs).at m) Ph_is_integer) :=
  fun base => okP (Z := (famJ K xs).at m) (t := t_is_integer) F sc_is_integer (fun cdv A outer s H E hr => qss_one (qs_ret (q_and (q_callB c_isi m_isinstance rfl (qa_cons (q_var (i := 0)) (qa_cons (q_ty m_int rfl) (qa_nil)))) (q_one (q_not (q_callB c_isi m_isinstance rfl (qa_cons (q_var (i := 0)) (qa_cons (q_ty m_bool rfl) (qa_nil))))))))) hp_is_integer
theorem sc_common_divisor : FnScope ["first", "second"] ["first", "second"] (defScope (top 13)) := ⟨rfl, rfl, rfl, by decide +kernel, rfl, by decide +kernel, by decide +kernel⟩
theorem ok_common_divisor {P : Program} {w : World} {mg : Str → Option Value} {K : PySem.W.Frag} {xs : List Int} {m : Nat} {f : Addr} {fd : FuncData} {dvs : List V} {kws : List (Str × V)} (F : FunD K "common_divisor" "common_divisor" (defArgs (top 13)) (defBody (top 13)) (defScope (top 13)) dvs kws f fd) (m_abs : mg "abs" = none) : ∀ base : Heap, FnOk P w K mg base CX0 3 f fd ["first", "second"] (spP ((famJ K xs).at m) Ph_common_divisor) :=
  fun base => okP (Z := (famJ K xs).at m) (t := t_common_divisor) F sc_common_divisor (fun cdv A outer s H E hr => qss_cons (qs_while (qt_cmp (q_ne hr) (q_var (i := 1)) (q_int)) (qss_one (qs_par (i := 0) (j := 1) sc_common_divisor.nd (qa_cons (q_var (i := 1)) (qa_cons (q_op q_modI (q_var (i := 0)) (q_var (i := 1))) (qa_nil)))))) (qss_one (qs_ret (q_callB c_abs m_abs rfl (qa_cons (q_var (i := 0)) (qa_nil)))))) hp_common_divisor
theorem sc_is_ratio : FnScope ["value"] ["value"] (defScope (top 14)) := ⟨rfl, rfl, rfl, by decide +kernel, rfl, by decide +kernel, by decide +kernel⟩
theorem ok_is_ratio {P : Program} {w : World} {mg : Str → Option Value} {K : PySem.W.Frag} {xs : List Int} {m : Nat} {f : Addr} {fd : FuncData} {dvs : List V} {kws : List (Str × V)} (F : FunD K "is_ratio" "is_ratio" (defArgs (top 14)) (defBody (top 14)) (defScope (top 14)) dvs kws f fd) (c_is_integer : ∀ i, FnC P w mg ((famJ K xs).at i) "is_integer" 3 1 Ph_is_integer) (m_len : mg "len" = none) (m_tuple : mg "tuple" = none) (m_isinstance : mg "isinstance" = none) (c_common_divisor : ∀ i, FnC P w mg ((famJ K xs).at i) "common_divisor" 3 2 Ph_common_divisor) : ∀ base : Heap, FnOk P w K mg base CX0 4 f fd ["value"] (spP ((famJ K xs).at m) Ph_is_ratio) :=
  fun base => okP (Z := (famJ K xs).at m) (t := t_is_ratio) F sc_is_ratio (fun cdv A outer s H E hr => qss_cons (qs_if ((qw_or (qt_not (qt_val (q_callB c_isi m_isinstance rfl (qa_cons (q_var (i := 0)) (qa_cons (q_ty m_tuple rfl) (qa_nil)))))) (qw_or (qt_cmp (q_ne hr) (q_callB c_len m_len rfl (qa_cons (q_var (i := 0)) (qa_nil))) (q_int)) (qw_or (qt_not (qt_val (q_call (c_is_integer m) hr (qa_cons (q_ix (q_var (i := 0)) (q_int)) (qa_nil))))) (qw_or1 (qt_not (qt_val (q_call (c_is_integer m) hr (qa_cons (q_ix (q_var (i := 0)) (q_int)) (qa_nil))))))))).pt) (qss_one (qs_ret (q_bl))) (qss_nil)) (qss_one (qs_ret (q_and (q_cmp q_ge (q_ix (q_var (i := 0)) (q_int)) (q_int)) (q_one (q_cmp (q_eq hr) (q_call (c_common_divisor m) hr (qa_cons (q_ix (q_var (i := 0)) (q_int)) (qa_cons (q_ix (q_var (i := 0)) (q_int)) (qa_nil)))) (q_int))))))) hp_is_ratio
theorem sc_is_number : FnScope ["value"] ["value"] (defScope (top 15)) := ⟨rfl, rfl, rfl, by decide +kernel, rfl, by decide +kernel, by decide +kernel⟩
theorem ok_is_number {P : Program} {w : World} {mg : Str → Option Value} {K : PySem.W.Frag} {xs : List Int} {m : Nat} {f : Addr} {fd : FuncData} {dvs : List V} {kws : List (Str × V)} (F : FunD K "is_number" "is_number" (defArgs (top 15)) (defBody (top 15)) (defScope (top 15)) dvs kws f fd) (c_is_ratio : ∀ i, FnC P w mg ((famJ K xs).at i) "is_ratio" 4 1 Ph_is_ratio) (c_is_integer : ∀ i, FnC P w mg ((famJ K xs).at i) "is_integer" 3 1 Ph_is_integer) : ∀ base : Heap, FnOk P w K mg base CX0 5 f fd ["value"] (spP ((famJ K xs).at m) Ph_is_number) :=
  fun base => okP (Z := (famJ K xs).at m) (t := t_is_number) F sc_is_number (fun cdv A outer s H E hr => qss_one (qs_ret (q_or (q_call (c_is_integer m) hr (qa_cons (q_var (i := 0)) (qa_nil))) (q_one (q_call (c_is_ratio m) hr (qa_cons (q_var (i := 0)) (qa_nil))))))) hp_is_number
theorem sc_as_ratio : FnScope ["value"] ["value"] (defScope (top 17)) := ⟨rfl, rfl, rfl, by decide +kernel, rfl, by decide +kernel, by decide +kernel⟩
theorem ok_as_ratio {P : Program} {w : World} {mg : Str → Option Value} {K : PySem.W.Frag} {xs : List Int} {m : Nat} {f : Addr} {fd : FuncData} {dvs : List V} {kws : List (Str × V)} (F : FunD K "as_ratio" "as_ratio" (defArgs (top 17)) (defBody (top 17)) (defScope (top 17)) dvs kws f fd) (c_is_number : ∀ i, FnC P w mg ((famJ K xs).at i) "is_number" 5 1 Ph_is_number) (c_is_integer : ∀ i, FnC P w mg ((famJ K xs).at i) "is_integer" 3 1 Ph_is_integer) : ∀ base : Heap, FnOk P w K mg base CX0 6 f fd ["value"] (spP ((famJ K xs).at m) Ph_as_ratio) :=
  fun base => okP (Z := (famJ K xs).at m) (t := t_as_ratio) F sc_as_ratio (fun cdv A outer s H E hr => qss_cons (qs_if (qt_not (qt_val (q_call (c_is_number m) hr (qa_cons (q_var (i := 0)) (qa_nil))))) (qss_never) (qss_nil)) (qss_one (qs_ret (q_if (qt_val (q_call (c_is_integer m) hr (qa_cons (q_var (i := 0)) (qa_nil)))) (q_tup (qa_cons (q_var (i := 0)) (qa_cons (q_int) (qa_nil)))) (q_var (i := 0)))))) hp_as_ratio
theorem sc_ratio : FnScope ["numerator", "denominator", "common"] ["numerator", "denominator"] (defScope (top 16)) := ⟨rfl, rfl, rfl, by decide +kernel, rfl, by decide +kernel, by decide +kernel⟩
theorem ok_ratio {P : Program} {w : World} {mg : Str → Option Value} {K : PySem.W.Frag} {xs : List Int} {m : Nat} {f : Addr} {fd : FuncData} {dvs : List V} {kws : List (Str × V)} (F : FunD K "ratio" "ratio" (defArgs (top 16)) (defBody (top 16)) (defScope (top 16)) dvs kws f fd) (c_is_integer : ∀ i, FnC P w mg ((famJ K xs).at i) "is_integer" 3 1 Ph_is_integer) (c_common_divisor : ∀ i, FnC P w mg ((famJ K xs).at i) "common_divisor" 3 2 Ph_common_divisor) : ∀ base : Heap, FnOk P w K mg base CX0 4 f fd ["numerator", "denominator"] (spP ((famJ K xs).at m) Ph_ratio) :=
  fun base => okP (Z := (famJ K xs).at m) (t := t_ratio) F sc_ratio (fun cdv A outer s H E hr => qss_cons (qs_if ((qw_or (qt_not (qt_val (q_call (c_is_integer m) hr (qa_cons (q_var (i := 0)) (qa_nil))))) (qw_or1 (qt_not (qt_val (q_call (c_is_integer m) hr (qa_cons (q_var (i := 1)) (qa_nil))))))).pt) (qss_never) (qss_nil)) (qss_cons (qs_if (qt_cmp (q_eq hr) (q_var (i := 1)) (q_int)) (qss_never) (qss_nil)) (qss_cons (qs_set (i := 2) sc_ratio.nd (q_op q_mulI (q_call (c_common_divisor m) hr (qa_cons (q_var (i := 0)) (qa_cons (q_var (i := 1)) (qa_nil)))) (q_if (qt_cmp q_gt (q_var (i := 1)) (q_int)) (q_int) (q_neg (q_int))))) (qss_one (qs_ret (q_tup (qa_cons (q_op q_fdivI (q_var (i := 0)) (q_var (i := 2))) (qa_cons (q_op q_fdivI (q_var (i := 1)) (q_var (i := 2))) (qa_nil))))))))) hp_ratio
theorem sc_minus : FnScope ["first", "second", "one", "two"] ["first", "second"] (defScope (top 19)) := ⟨rfl, rfl, rfl, by decide +kernel, rfl, by decide +kernel, by decide +kernel⟩
theorem ok_minus {P : Program} {w : World} {mg : Str → Option Value} {K : PySem.W.Frag} {xs : List Int} {m : Nat} {f : Addr} {fd : FuncData} {dvs : List V} {kws : List (Str × V)} (F : FunD K "minus" "minus" (defArgs (top 19)) (defBody (top 19)) (defScope (top 19)) dvs kws f fd) (c_as_ratio : ∀ i, FnC P w mg ((famJ K xs).at i) "as_ratio" 6 1 Ph_as_ratio) (c_ratio : ∀ i, FnC P w mg ((famJ K xs).at i) "ratio" 4 2 Ph_ratio) : ∀ base : Heap, FnOk P w K mg base CX0 7 f fd ["first", "second"] (spP ((famJ K xs).at m) Ph_minus) :=
  fun base => okP (Z := (famJ K xs).at m) (t := t_minus) F sc_minus (fun cdv A outer s H E hr => qss_cons (qs_par (i := 2) (j := 3) sc_minus.nd (qa_cons (q_call (c_as_ratio m) hr (qa_cons (q_var (i := 0)) (qa_nil))) (qa_cons (q_call (c_as_ratio m) hr (qa_cons (q_var (i := 1)) (qa_nil))) (qa_nil)))) (qss_one (qs_ret (q_call (c_ratio m) hr (qa_cons (q_op q_subI (q_op q_mulI (q_ix (q_var (i := 2)) (q_int)) (q_ix (q_var (i := 3)) (q_int))) (q_op q_mulI (q_ix (q_var (i := 3)) (q_int)) (q_ix (q_var (i := 2)) (q_int)))) (qa_cons (q_op q_mulI (q_ix (q_var (i := 2)) (q_int)) (q_ix (q_var (i := 3)) (q_int))) (qa_nil))))))) hp_minus
theorem sc_compare : FnScope ["first", "second", "apart"] ["first", "second"] (defScope (top 22)) := ⟨rfl, rfl, rfl, by decide +kernel, rfl, by decide +kernel, by decide +kernel⟩
theorem ok_compare {P : Program} {w : World} {mg : Str → Option Value} {K : PySem.W.Frag} {xs : List Int} {m : Nat} {f : Addr} {fd : FuncData} {dvs : List V} {kws : List (Str × V)} (F : FunD K "compare" "compare" (defArgs (top 22)) (defBody (top 22)) (defScope (top 22)) dvs kws f fd) (c_minus : ∀ i, FnC P w mg ((famJ K xs).at i) "minus" 7 2 Ph_minus) : ∀ base : Heap, FnOk P w K mg base CX0 8 f fd ["first", "second"] (spP ((famJ K xs).at m) Ph_compare) :=
  fun base => okP (Z := (famJ K xs).at m) (t := t_compare) F sc_compare (fun cdv A outer s H E hr => qss_cons (qs_set (i := 2) sc_compare.nd (q_ix (q_call (c_minus m) hr (qa_cons (q_var (i := 0)) (qa_cons (q_var (i := 1)) (qa_nil)))) (q_int))) (qss_one (qs_ret (q_op q_subB (q_cmp q_gt (q_var (i := 2)) (q_int)) (q_cmp q_lt (q_var (i := 2)) (q_int)))))) hp_compare
theorem sc_is_piece : FnScope ["value"] ["value"] (defScope (top 49)) := ⟨rfl, rfl, rfl, by decide +kernel, rfl, by decide +kernel, by decide +kernel⟩
theorem ok_is_piece {P : Program} {w : World} {mg : Str → Option Value} {K : PySem.W.Frag} {xs : List Int} {m : Nat} {f : Addr} {fd : FuncData} {dvs : List V} {kws : List (Str × V)} (F : FunD K "is_piece" "is_piece" (defArgs (top 49)) (defBody (top 49)) (defScope (top 49)) dvs kws f fd) (m_len : mg "len" = none) (m_tuple : mg "tuple" = none) (m_isinstance : mg "isinstance" = none) (c_compare : ∀ i, FnC P w mg ((famJ K xs).at i) "compare" 8 2 Ph_compare) (c_is_number : ∀ i, FnC P w mg ((famJ K xs).at i) "is_number" 5 1 Ph_is_number) : ∀ base : Heap, FnOk P w K mg base CX0 9 f fd ["value"] (spP ((famJ K xs).at m) Ph_is_piece) :=
  fun base => okP (Z := (famJ K xs).at m) (t := t_is_piece) F sc_is_piece (fun cdv A outer s H E hr => qss_cons (qs_if ((qw_or (qt_not (qt_val (q_callB c_isi m_isinstance rfl (qa_cons (q_var (i := 0)) (qa_cons (q_ty m_tuple rfl) (qa_nil)))))) (qw_or1 (qt_cmp (q_ne hr) (q_callB c_len m_len rfl (qa_cons (q_var (i := 0)) (qa_nil))) (q_int)))).pt) (qss_one (qs_ret (q_bl))) (qss_nil)) (qss_one (qs_ret (q_and (q_call (c_is_number m) hr (qa_cons (q_ix (q_var (i := 0)) (q_int)) (qa_nil))) (q_and (q_call (c_is_number m) hr (qa_cons (q_ix (q_var (i := 0)) (q_int)) (qa_nil))) (q_one (q_cmp q_ge (q_call (c_compare m) hr (qa_cons (q_ix (q_var (i := 0)) (q_int)) (qa_cons (q_int) (qa_nil)))) (q_int)))))))) hp_is_piece
theorem sc_are_pieces : FnScope ["value", "piece", "at"] ["value"] (defScope (top 50)) := ⟨rfl, rfl, rfl, by decide +kernel, rfl, by decide +kernel, by decide +kernel⟩
theorem ok_are_pieces {P : Program} {w : World} {mg : Str → Option Value} {K : PySem.W.Frag} {xs : List Int} {m : Nat} {f : Addr} {fd : FuncData} {dvs : List V} {kws : List (Str × V)} (F : FunD K "are_pieces" "are_pieces" (defArgs (top 50)) (defBody (top 50)) (defScope (top 50)) dvs kws f fd) (m_len : mg "len" = none) (g_MAX_PIECES : ∃ t, mg "MAX_PIECES" = some (.int 20 t)) (m_tuple : mg "tuple" = none) (m_list : mg "list" = none) (m_isinstance : mg "isinstance" = none) (c_compare : ∀ i, FnC P w mg ((famJ K xs).at i) "compare" 8 2 Ph_compare) (c_is_piece : ∀ i, FnC P w mg ((famJ K xs).at i) "is_piece" 9 1 Ph_is_piece) (m_all : mg "all" = none) (m_range : mg "range" = none) : ∀ base : Heap, FnOk P w K mg base CX0 10 f fd ["value"] (spP ((famJ K xs).at m) Ph_are_pieces) :=
  fun base => okP (Z := (famJ K xs).at m) (t := t_are_pieces) F sc_are_pieces (fun cdv A outer s H E hr => qss_cons (qs_if ((qw_or (qt_not (qt_val (q_callB c_isi2 m_isinstance rfl (qa_cons (q_var (i := 0)) (qa_cons (q_tup (qa_cons (q_ty m_list rfl) (qa_cons (q_ty m_tuple rfl) (qa_nil)))) (qa_nil)))))) (qw_or1 (qt_not (qt_chain q_le q_le (q_int) (q_callB c_len m_len rfl (qa_cons (q_var (i := 0)) (qa_nil))) (q_gint g_MAX_PIECES))))).pt) (qss_one (qs_ret (q_bl))) (qss_nil)) (qss_cons (qs_if ((qw_or (qt_not (qt_val (q_callB c_all m_all rfl (qa_cons (q_lc (own := [("piece", 1)]) sc_are_pieces.nd (qi_list (q_var (i := 0))) (blkOk_by (own := [("piece", 1)]) (by kernel_rfl)) (fun _ _ _ _ _ => qg_name (i := 1) sc_are_pieces.nd) (fun _ _ _ _ _ => qts_nil) (fun _ _ _ _ _ => q_call (c_is_piece m) hr (qa_cons (q_var (i := 1)) (qa_nil)))) (qa_nil))))) (qw_or1 (qt_cmp (q_ne hr) (q_call (c_compare m) hr (qa_cons (q_ix (q_ix (q_var (i := 0)) (q_int)) (q_int)) (qa_cons (q_int) (qa_nil)))) (q_int)))).pt) (qss_one (qs_ret (q_bl))) (qss_nil)) (qss_one (qs_ret (q_callB c_all m_all rfl (qa_cons (q_lc (own := [("at", 2)]) sc_are_pieces.nd (qi_range1 m_range (qa_cons (q_op q_subI (q_callB c_len m_len rfl (qa_cons (q_var (i := 0)) (qa_nil))) (q_int)) (qa_nil))) (blkOk_by (own := [("at", 2)]) (by kernel_rfl)) (fun _ _ _ _ _ => qg_name (i := 2) sc_are_pieces.nd) (fun _ _ _ _ _ => qts_nil) (fun _ _ _ _ _ => q_cmp q_lt (q_call (c_compare m) hr (qa_cons (q_ix (q_ix (q_var (i := 0)) (q_var (i := 2))) (q_int)) (qa_cons (q_ix (q_ix (q_var (i := 0)) (q_op q_addI (q_var (i := 2)) (q_int))) (q_int)) (qa_nil)))) (q_int))) (qa_nil))))))) hp_are_pieces
theorem sc_is_runner : FnScope ["value"] ["value"] (defScope (top 51)) := ⟨rfl, rfl, rfl, by decide +kernel, rfl, by decide +kernel, by decide +kernel⟩
theorem ok_is_runner {P : Program} {w : World} {mg : Str → Option Value} {K : PySem.W.Frag} {xs : List Int} {m : Nat} {f : Addr} {fd : FuncData} {dvs : List V} {kws : List (Str × V)} (F : FunD K "is_runner" "is_runner" (defArgs (top 51)) (defBody (top 51)) (defScope (top 51)) dvs kws f fd) (c_are_pieces : ∀ i, FnC P w mg ((famJ K xs).at i) "are_pieces" 10 1 Ph_are_pieces) (c_is_number : ∀ i, FnC P w mg ((famJ K xs).at i) "is_number" 5 1 Ph_is_number) (m_len : mg "len" = none) (m_tuple : mg "tuple" = none) (m_isinstance : mg "isinstance" = none) : ∀ base : Heap, FnOk P w K mg base CX0 11 f fd ["value"] (spP ((famJ K xs).at m) Ph_is_runner) :=
  fun base => okP (Z := (famJ K xs).at m) (t := t_is_runner) F sc_is_runner (fun cdv A outer s H E hr => qss_one (qs_ret (q_and (q_callB c_isi m_isinstance rfl (qa_cons (q_var (i := 0)) (qa_cons (q_ty m_tuple rfl) (qa_nil)))) (q_and (q_cmp (q_eq hr) (q_callB c_len m_len rfl (qa_cons (q_var (i := 0)) (qa_nil))) (q_int)) (q_and (q_call (c_is_number m) hr (qa_cons (q_ix (q_var (i := 0)) (q_int)) (qa_nil))) (q_one (q_call (c_are_pieces m) hr (qa_cons (q_ix (q_var (i := 0)) (q_int)) (qa_nil))))))))) hp_is_runner
theorem sc_is_name : FnScope ["value", "sign"] ["value"] (defScope (top 47)) := ⟨rfl, rfl, rfl, by decide +kernel, rfl, by decide +kernel, by decide +kernel⟩
theorem ok_is_name {P : Program} {w : World} {mg : Str → Option Value} {K : PySem.W.Frag} {xs : List Int} {m : Nat} {f : Addr} {fd : FuncData} {dvs : List V} {kws : List (Str × V)} (F : FunD K "is_name" "is_name" (defArgs (top 47)) (defBody (top 47)) (defScope (top 47)) dvs kws f fd) (m_len : mg "len" = none) (m_str : mg "str" = none) (m_isinstance : mg "isinstance" = none) (g_SIGNS : ∃ t, mg "SIGNS" = some (.str "abcdefghijklmnopqrstuvwxyz0123456789" t)) (m_all : mg "all" = none) (g_LETTERS : ∃ t, mg "LETTERS" = some (.str "abcdefghijklmnopqrstuvwxyz" t)) : ∀ base : Heap, FnOk P w K mg base CX0 3 f fd ["value"] (spP ((famJ K xs).at m) Ph_is_name) :=
  fun base => okP (Z := (famJ K xs).at m) (t := t_is_name) F sc_is_name (fun cdv A outer s H E hr => qss_cons (qs_if ((qw_or (qt_not (qt_val (q_callB c_isi m_isinstance rfl (qa_cons (q_var (i := 0)) (qa_cons (q_ty m_str rfl) (qa_nil)))))) (qw_or1 (qt_not (qt_chain q_le q_le (q_int) (q_callB c_len m_len rfl (qa_cons (q_var (i := 0)) (qa_nil))) (q_int))))).pt) (qss_one (qs_ret (q_bl))) (qss_nil)) (qss_one (qs_ret (q_and (q_cmp q_inS (q_ix (q_var (i := 0)) (q_int)) (q_gstr g_LETTERS)) (q_one (q_callB c_all m_all rfl (qa_cons (q_lc (own := [("sign", 1)]) sc_is_name.nd (qi_str (q_var (i := 0))) (blkOk_by (own := [("sign", 1)]) (by kernel_rfl)) (fun _ _ _ _ _ => qg_name (i := 1) sc_is_name.nd) (fun _ _ _ _ _ => qts_nil) (fun _ _ _ _ _ => q_cmp q_inS (q_var (i := 1)) (q_gstr g_SIGNS))) (qa_nil)))))))) hp_is_name
theorem sc_divided : FnScope ["first", "second", "one", "two"] ["first", "second"] (defScope (top 21)) := ⟨rfl, rfl, rfl, by decide +kernel, rfl, by decide +kernel, by decide +kernel⟩
theorem ok_divided {P : Program} {w : World} {mg : Str → Option Value} {K : PySem.W.Frag} {xs : List Int} {m : Nat} {f : Addr} {fd : FuncData} {dvs : List V} {kws : List (Str × V)} (F : FunD K "divided" "divided" (defArgs (top 21)) (defBody (top 21)) (defScope (top 21)) dvs kws f fd) (c_as_ratio : ∀ i, FnC P w mg ((famJ K xs).at i) "as_ratio" 6 1 Ph_as_ratio) (c_ratio : ∀ i, FnC P w mg ((famJ K xs).at i) "ratio" 4 2 Ph_ratio) : ∀ base : Heap, FnOk P w K mg base CX0 7 f fd ["first", "second"] (spP ((famJ K xs).at m) Ph_divided) :=
  fun base => okP (Z := (famJ K xs).at m) (t := t_divided) F sc_divided (fun cdv A outer s H E hr => qss_cons (qs_par (i := 2) (j := 3) sc_divided.nd (qa_cons (q_call (c_as_ratio m) hr (qa_cons (q_var (i := 0)) (qa_nil))) (qa_cons (q_call (c_as_ratio m) hr (qa_cons (q_var (i := 1)) (qa_nil))) (qa_nil)))) (qss_one (qs_ret (q_call (c_ratio m) hr (qa_cons (q_op q_mulI (q_ix (q_var (i := 2)) (q_int)) (q_ix (q_var (i := 3)) (q_int))) (qa_cons (q_op q_mulI (q_ix (q_var (i := 2)) (q_int)) (q_ix (q_var (i := 3)) (q_int))) (qa_nil))))))) hp_divided
theorem sc_floor_of : FnScope ["value", "one"] ["value"] (defScope (top 23)) := ⟨rfl, rfl, rfl, by decide +kernel, rfl, by decide +kernel, by decide +kernel⟩
theorem ok_floor_of {P : Program} {w : World} {mg : Str → Option Value} {K : PySem.W.Frag} {xs : List Int} {m : Nat} {f : Addr} {fd : FuncData} {dvs : List V} {kws : List (Str × V)} (F : FunD K "floor_of" "floor_of" (defArgs (top 23)) (defBody (top 23)) (defScope (top 23)) dvs kws f fd) (c_as_ratio : ∀ i, FnC P w mg ((famJ K xs).at i) "as_ratio" 6 1 Ph_as_ratio) : ∀ base : Heap, FnOk P w K mg base CX0 7 f fd ["value"] (spP ((famJ K xs).at m) Ph_floor_of) :=
  fun base => okP (Z := (famJ K xs).at m) (t := t_floor_of) F sc_floor_of (fun cdv A outer s H E hr => qss_cons (qs_set (i := 1) sc_floor_of.nd (q_call (c_as_ratio m) hr (qa_cons (q_var (i := 0)) (qa_nil)))) (qss_one (qs_ret (q_op q_fdivI (q_ix (q_var (i := 1)) (q_int)) (q_ix (q_var (i := 1)) (q_int)))))) hp_floor_of
theorem sc_times : FnScope ["first", "second", "one", "two"] ["first", "second"] (defScope (top 20)) := ⟨rfl, rfl, rfl, by decide +kernel, rfl, by decide +kernel, by decide +kernel⟩
theorem ok_times {P : Program} {w : World} {mg : Str → Option Value} {K : PySem.W.Frag} {xs : List Int} {m : Nat} {f : Addr} {fd : FuncData} {dvs : List V} {kws : List (Str × V)} (F : FunD K "times" "times" (defArgs (top 20)) (defBody (top 20)) (defScope (top 20)) dvs kws f fd) (c_as_ratio : ∀ i, FnC P w mg ((famJ K xs).at i) "as_ratio" 6 1 Ph_as_ratio) (c_ratio : ∀ i, FnC P w mg ((famJ K xs).at i) "ratio" 4 2 Ph_ratio) : ∀ base : Heap, FnOk P w K mg base CX0 7 f fd ["first", "second"] (spP ((famJ K xs).at m) Ph_times) :=
  fun base => okP (Z := (famJ K xs).at m) (t := t_times) F sc_times (fun cdv A outer s H E hr => qss_cons (qs_par (i := 2) (j := 3) sc_times.nd (qa_cons (q_call (c_as_ratio m) hr (qa_cons (q_var (i := 0)) (qa_nil))) (qa_cons (q_call (c_as_ratio m) hr (qa_cons (q_var (i := 1)) (qa_nil))) (qa_nil)))) (qss_one (qs_ret (q_call (c_ratio m) hr (qa_cons (q_op q_mulI (q_ix (q_var (i := 2)) (q_int)) (q_ix (q_var (i := 3)) (q_int))) (qa_cons (q_op q_mulI (q_ix (q_var (i := 2)) (q_int)) (q_ix (q_var (i := 3)) (q_int))) (qa_nil))))))) hp_times
theorem sc_remainder : FnScope ["value", "modulus", "one", "two"] ["value", "modulus"] (defScope (top 24)) := ⟨rfl, rfl, rfl, by decide +kernel, rfl, by decide +kernel, by decide +kernel⟩
theorem ok_remainder {P : Program} {w : World} {mg : Str → Option Value} {K : PySem.W.Frag} {xs : List Int} {m : Nat} {f : Addr} {fd : FuncData} {dvs : List V} {kws : List (Str × V)} (F : FunD K "remainder" "remainder" (defArgs (top 24)) (defBody (top 24)) (defScope (top 24)) dvs kws f fd) (c_as_ratio : ∀ i, FnC P w mg ((famJ K xs).at i) "as_ratio" 6 1 Ph_as_ratio) (c_divided : ∀ i, FnC P w mg ((famJ K xs).at i) "divided" 7 2 Ph_divided) (c_floor_of : ∀ i, FnC P w mg ((famJ K xs).at i) "floor_of" 7 1 Ph_floor_of) (c_times : ∀ i, FnC P w mg ((famJ K xs).at i) "times" 7 2 Ph_times) (c_minus : ∀ i, FnC P w mg ((famJ K xs).at i) "minus" 7 2 Ph_minus) : ∀ base : Heap, FnOk P w K mg base CX0 8 f fd ["value", "modulus"] (spP ((famJ K xs).at m) Ph_remainder) :=
  fun base => okP (Z := (famJ K xs).at m) (t := t_remainder) F sc_remainder (fun cdv A outer s H E hr => qss_cons (qs_par (i := 2) (j := 3) sc_remainder.nd (qa_cons (q_call (c_as_ratio m) hr (qa_cons (q_var (i := 0)) (qa_nil))) (qa_cons (q_call (c_as_ratio m) hr (qa_cons (q_var (i := 1)) (qa_nil))) (qa_nil)))) (qss_cons (qs_if (qt_cmp q_le (q_ix (q_var (i := 3)) (q_int)) (q_int)) (qss_never) (qss_nil)) (qss_one (qs_ret (q_call (c_minus m) hr (qa_cons (q_var (i := 2)) (qa_cons (q_call (c_times m) hr (qa_cons (q_var (i := 3)) (qa_cons (q_call (c_floor_of m) hr (qa_cons (q_call (c_divided m) hr (qa_cons (q_var (i := 2)) (qa_cons (q_var (i := 3)) (qa_nil)))) (qa_nil))) (qa_nil)))) (qa_nil)))))))) hp_remainder
theorem sc_Race_init : FnScope ["self", "length", "runners", "name", "runner", "rows", "start", "pieces", "time", "speed"] ["self", "length", "runners"] (defScope (mtop 52 0)) := ⟨rfl, rfl, rfl, by decide +kernel, rfl, by decide +kernel, by decide +kernel⟩
theorem ok_Race_init {P : Program} {w : World} {mg : Str → Option Value} {K : PySem.W.Frag} {xs : List Int} {m : Nat} {f : Addr} {fd : FuncData} {dvs : List V} {kws : List (Str × V)} (F : FunD K "__init__" "Race.__init__" (defArgs (mtop 52 0)) (defBody (mtop 52 0)) (defScope (mtop 52 0)) dvs kws f fd) (c_compare : ∀ i, FnC P w mg ((famJ K xs).at i) "compare" 8 2 Ph_compare) (c_is_number : ∀ i, FnC P w mg ((famJ K xs).at i) "is_number" 5 1 Ph_is_number) (m_len : mg "len" = none) (g_MAX_RUNNERS : ∃ t, mg "MAX_RUNNERS" = some (.int 12 t)) (m_dict : mg "dict" = none) (m_isinstance : mg "isinstance" = none) (c_is_runner : ∀ i, FnC P w mg ((famJ K xs).at i) "is_runner" 11 1 Ph_is_runner) (c_is_name : ∀ i, FnC P w mg ((famJ K xs).at i) "is_name" 3 1 Ph_is_name) (k_Race : ∀ i, ClsP ((famJ K xs).at i) "Race") (n_Race_own_length : NoAttr K (He.ga K "Race") "own_length") (c_as_ratio : ∀ i, FnC P w mg ((famJ K xs).at i) "as_ratio" 6 1 Ph_as_ratio) (n_Race_own_runners : NoAttr K (He.ga K "Race") "own_runners") (m_sorted : mg "sorted" = none) (c_remainder : ∀ i, FnC P w mg ((famJ K xs).at i) "remainder" 8 2 Ph_remainder) (n_Race_own_parts : NoAttr K (He.ga K "Race") "own_parts") : ∀ base : Heap, FnOk P w K mg base CX0 12 f fd ["self", "length", "runners"] (spMk ((famJ K xs).at m) "Race" Ph_Race) :=
  fun base => okI (Z := (famJ K xs).at m) (t := t_Race_init) F sc_Race_init (fun x dx cdv A outer s H E hr => n_cons (n_of (qs_if ((qw_or (qt_not (qt_val (q_call (c_is_number m) hr (qa_cons (q_var (i := 1)) (qa_nil))))) (qw_or1 (qt_cmp q_le (q_call (c_compare m) hr (qa_cons (q_var (i := 1)) (qa_cons (q_int) (qa_nil)))) (q_int)))).pt) (qss_never) (qss_nil))) (n_cons (n_of (qs_if ((qw_or (qt_not (qt_val (q_callB c_isi m_isinstance rfl (qa_cons (q_var (i := 2)) (qa_cons (q_ty m_dict rfl) (qa_nil)))))) (qw_or1 (qt_not (qt_chain q_le q_le (q_int) (q_callB c_lenD m_len rfl (qa_cons (q_var (i := 2)) (qa_nil))) (q_gint g_MAX_RUNNERS))))).pt) (qss_never) (qss_nil))) (n_cons (n_of (qs_for (qi_items (q_var (i := 2))) (qg_tup (qgs_cons (qg_name (i := 3) sc_Race_init.nd) (qgs_cons (qg_name (i := 4) sc_Race_init.nd) (qgs_nil)))) (qss_one (qs_if ((qw_or (qt_not (qt_val (q_call (c_is_name m) hr (qa_cons (q_var (i := 3)) (qa_nil))))) (qw_or1 (qt_not (qt_val (q_call (c_is_runner m) hr (qa_cons (q_var (i := 4)) (qa_nil))))))).pt) (qss_never) (qss_nil))))) (n_cons (n_setF (k_Race m) n_Race_own_length (q_call (c_as_ratio m) hr (qa_cons (q_var (i := 1)) (qa_nil)))) (n_cons (n_newD (k_Race m) n_Race_own_runners) (n_cons (n_for (qi_list (q_callB c_sortD m_sorted rfl (qa_cons (q_var (i := 2)) (qa_nil)))) (qg_name (i := 3) sc_Race_init.nd) (n_cons (n_of (qs_asg (q_dget hr (q_var (i := 2)) (q_var (i := 3))) (qg_tup (qgs_cons (qg_name (i := 6) sc_Race_init.nd) (qgs_cons (qg_name (i := 7) sc_Race_init.nd) (qgs_nil)))))) (n_cons (n_of (qs_setLc (i := 5) (own := [("time", 8), ("speed", 9)]) sc_Race_init.nd (sw_true rfl rfl rfl (by decide +kernel)) (qi_list (q_var (i := 7))) (blkOk_by (own := [("time", 8), ("speed", 9)]) (by kernel_rfl)) (fun _ _ _ _ _ => qg_tup (qgs_cons (qg_name (i := 8) sc_Race_init.nd) (qgs_cons (qg_name (i := 9) sc_Race_init.nd) (qgs_nil)))) (fun _ _ _ _ _ => qts_nil) (fun _ _ _ _ _ => q_tup (qa_cons (q_call (c_as_ratio m) hr (qa_cons (q_var (i := 8)) (qa_nil))) (qa_cons (q_call (c_as_ratio m) hr (qa_cons (q_var (i := 9)) (qa_nil))) (qa_nil)))))) (n_one (n_put hr (k_Race m) n_Race_own_runners (q_var (i := 3)) (q_tup (qa_cons (q_call (c_remainder m) hr (qa_cons (q_var (i := 6)) (qa_cons (q_var (i := 1)) (qa_nil)))) (qa_cons (q_var (i := 5)) (qa_nil))))))))) (n_one (n_parts (k_Race m) n_Race_own_length n_Race_own_runners n_Race_own_parts)))))))) hp_Race_init
theorem sc_Race_length : FnScope ["self"] ["self"] (defScope (mtop 52 1)) := ⟨rfl, rfl, rfl, by decide +kernel, rfl, by decide +kernel, by decide +kernel⟩
theorem ok_Race_length {P : Program} {w : World} {mg : Str → Option Value} {K : PySem.W.Frag} {xs : List Int} {m : Nat} {f : Addr} {fd : FuncData} {dvs : List V} {kws : List (Str × V)} (F : FunD K "length" "Race.length" (defArgs (mtop 52 1)) (defBody (mtop 52 1)) (defScope (mtop 52 1)) dvs kws f fd) (k_Race : ∀ i, ClsP ((famJ K xs).at i) "Race") (n_Race_own_length : NoAttr K (He.ga K "Race") "own_length") : ∀ base : Heap, FnOk P w K mg base CX0 3 f fd ["self"] (spP ((famJ K xs).at m) Ph_Race_length) :=
  fun base => okP (Z := (famJ K xs).at m) (t := t_Race_length) F sc_Race_length (fun cdv A outer s H E hr => qss_one (qs_ret (q_fld (k_Race m) n_Race_own_length (q_var (i := 0))))) hp_Race_length
theorem sc_Race_contains : FnScope ["self", "name"] ["self", "name"] (defScope (mtop 52 19)) := ⟨rfl, rfl, rfl, by decide +kernel, rfl, by decide +kernel, by decide +kernel⟩
theorem ok_Race_contains {P : Program} {w : World} {mg : Str → Option Value} {K : PySem.W.Frag} {xs : List Int} {m : Nat} {f : Addr} {fd : FuncData} {dvs : List V} {kws : List (Str × V)} (F : FunD K "__contains__" "Race.__contains__" (defArgs (mtop 52 19)) (defBody (mtop 52 19)) (defScope (mtop 52 19)) dvs kws f fd) (k_Race : ∀ i, ClsP ((famJ K xs).at i) "Race") (n_Race_own_runners : NoAttr K (He.ga K "Race") "own_runners") (m_str : mg "str" = none) (m_isinstance : mg "isinstance" = none) : ∀ base : Heap, FnOk P w K mg base CX0 3 f fd ["self", "name"] (spP ((famJ K xs).at m) Ph_Race_contains) :=
  fun base => okP (Z := (famJ K xs).at m) (t := t_Race_contains) F sc_Race_contains (fun cdv A outer s H E hr => qss_one (qs_ret (q_and (q_callB c_isi m_isinstance rfl (qa_cons (q_var (i := 1)) (qa_cons (q_ty m_str rfl) (qa_nil)))) (q_one (q_din hr (q_var (i := 1)) (q_fld (k_Race m) n_Race_own_runners (q_var (i := 0)))))))) hp_Race_contains
theorem sc_Race_runner : FnScope ["self", "name"] ["self", "name"] (defScope (mtop 52 3)) := ⟨rfl, rfl, rfl, by decide +kernel, rfl, by decide +kernel, by decide +kernel⟩
theorem ok_Race_runner {P : Program} {w : World} {mg : Str → Option Value} {K : PySem.W.Frag} {xs : List Int} {m : Nat} {f : Addr} {fd : FuncData} {dvs : List V} {kws : List (Str × V)} (F : FunD K "runner" "Race.runner" (defArgs (mtop 52 3)) (defBody (mtop 52 3)) (defScope (mtop 52 3)) dvs kws f fd) (c_Race_contains : ∀ i, MtC P w mg ((famJ K xs).at i) "Race" "__contains__" 3 2 Ph_Race_contains) (k_Race : ∀ i, ClsP ((famJ K xs).at i) "Race") (n_Race_own_runners : NoAttr K (He.ga K "Race") "own_runners") : ∀ base : Heap, FnOk P w K mg base CX0 4 f fd ["self", "name"] (spP ((famJ K xs).at m) Ph_Race_runner) :=
  fun base => okP (Z := (famJ K xs).at m) (t := t_Race_runner) F sc_Race_runner (fun cdv A outer s H E hr => qss_cons (qs_if (qt_cmp (q_ownNotIn (c_Race_contains m) hr) (q_var (i := 1)) (q_var (i := 0))) (qss_never) (qss_nil)) (qss_one (qs_ret (q_dget hr (q_fld (k_Race m) n_Race_own_runners (q_var (i := 0))) (q_var (i := 1)))))) hp_Race_runner
theorem sc_as_time : FnScope ["value"] ["value"] (defScope (top 48)) := ⟨rfl, rfl, rfl, by decide +kernel, rfl, by decide +kernel, by decide +kernel⟩
theorem ok_as_time {P : Program} {w : World} {mg : Str → Option Value} {K : PySem.W.Frag} {xs : List Int} {m : Nat} {f : Addr} {fd : FuncData} {dvs : List V} {kws : List (Str × V)} (F : FunD K "as_time" "as_time" (defArgs (top 48)) (defBody (top 48)) (defScope (top 48)) dvs kws f fd) (c_compare : ∀ i, FnC P w mg ((famJ K xs).at i) "compare" 8 2 Ph_compare) (c_is_number : ∀ i, FnC P w mg ((famJ K xs).at i) "is_number" 5 1 Ph_is_number) (c_as_ratio : ∀ i, FnC P w mg ((famJ K xs).at i) "as_ratio" 6 1 Ph_as_ratio) : ∀ base : Heap, FnOk P w K mg base CX0 9 f fd ["value"] (spP ((famJ K xs).at m) Ph_as_time) :=
  fun base => okP (Z := (famJ K xs).at m) (t := t_as_time) F sc_as_time (fun cdv A outer s H E hr => qss_cons (qs_if ((qw_or (qt_not (qt_val (q_call (c_is_number m) hr (qa_cons (q_var (i := 0)) (qa_nil))))) (qw_or1 (qt_cmp q_lt (q_call (c_compare m) hr (qa_cons (q_var (i := 0)) (qa_cons (q_int) (qa_nil)))) (q_int)))).pt) (qss_never) (qss_nil)) (qss_one (qs_ret (q_call (c_as_ratio m) hr (qa_cons (q_var (i := 0)) (qa_nil)))))) hp_as_time
theorem sc_plus : FnScope ["first", "second", "one", "two"] ["first", "second"] (defScope (top 18)) := ⟨rfl, rfl, rfl, by decide +kernel, rfl, by decide +kernel, by decide +kernel⟩
theorem ok_plus {P : Program} {w : World} {mg : Str → Option Value} {K : PySem.W.Frag} {xs : List Int} {m : Nat} {f : Addr} {fd : FuncData} {dvs : List V} {kws : List (Str × V)} (F : FunD K "plus" "plus" (defArgs (top 18)) (defBody (top 18)) (defScope (top 18)) dvs kws f fd) (c_as_ratio : ∀ i, FnC P w mg ((famJ K xs).at i) "as_ratio" 6 1 Ph_as_ratio) (c_ratio : ∀ i, FnC P w mg ((famJ K xs).at i) "ratio" 4 2 Ph_ratio) : ∀ base : Heap, FnOk P w K mg base CX0 7 f fd ["first", "second"] (spP ((famJ K xs).at m) Ph_plus) :=
  fun base => okP (Z := (famJ K xs).at m) (t := t_plus) F sc_plus (fun cdv A outer s H E hr => qss_cons (qs_par (i := 2) (j := 3) sc_plus.nd (qa_cons (q_call (c_as_ratio m) hr (qa_cons (q_var (i := 0)) (qa_nil))) (qa_cons (q_call (c_as_ratio m) hr (qa_cons (q_var (i := 1)) (qa_nil))) (qa_nil)))) (qss_one (qs_ret (q_call (c_ratio m) hr (qa_cons (q_op q_addI (q_op q_mulI (q_ix (q_var (i := 2)) (q_int)) (q_ix (q_var (i := 3)) (q_int))) (q_op q_mulI (q_ix (q_var (i := 3)) (q_int)) (q_ix (q_var (i := 2)) (q_int)))) (qa_cons (q_op q_mulI (q_ix (q_var (i := 2)) (q_int)) (q_ix (q_var (i := 3)) (q_int))) (qa_nil))))))) hp_plus
theorem sc_Race_position : FnScope ["self", "name", "time", "start", "pieces", "end", "found", "index", "stop", "begin", "speed"] ["self", "name", "time"] (defScope (mtop 52 8)) := ⟨rfl, rfl, rfl, by decide +kernel, rfl, by decide +kernel, by decide +kernel⟩
theorem ok_Race_position {P : Program} {w : World} {mg : Str → Option Value} {K : PySem.W.Frag} {xs : List Int} {m : Nat} {f : Addr} {fd : FuncData} {dvs : List V} {kws : List (Str × V)} (F : FunD K "position" "Race.position" (defArgs (mtop 52 8)) (defBody (mtop 52 8)) (defScope (mtop 52 8)) dvs kws f fd) (c_Race_runner : ∀ i, MtC P w mg ((famJ K xs).at i) "Race" "runner" 4 2 Ph_Race_runner) (c_as_time : ∀ i, FnC P w mg ((famJ K xs).at i) "as_time" 9 1 Ph_as_time) (m_enumerate : mg "enumerate" = none) (c_compare : ∀ i, FnC P w mg ((famJ K xs).at i) "compare" 8 2 Ph_compare) (m_len : mg "len" = none) (c_minus : ∀ i, FnC P w mg ((famJ K xs).at i) "minus" 7 2 Ph_minus) (c_times : ∀ i, FnC P w mg ((famJ K xs).at i) "times" 7 2 Ph_times) (c_plus : ∀ i, FnC P w mg ((famJ K xs).at i) "plus" 7 2 Ph_plus) : ∀ base : Heap, FnOk P w K mg base CX0 10 f fd ["self", "name", "time"] (spP ((famJ K xs).at m) Ph_Race_position) :=
  fun base => okP (Z := (famJ K xs).at m) (t := t_Race_position) F sc_Race_position (fun cdv A outer s H E hr => qss_cons (qs_asg (q_meth (c_Race_runner m) hr (q_var (i := 0)) (qa_cons (q_var (i := 1)) (qa_nil))) (qg_tup (qgs_cons (qg_name (i := 3) sc_Race_position.nd) (qgs_cons (qg_name (i := 4) sc_Race_position.nd) (qgs_nil))))) (qss_cons (qs_set (i := 5) sc_Race_position.nd (q_call (c_as_time m) hr (qa_cons (q_var (i := 2)) (qa_nil)))) (qss_cons (qs_set (i := 6) sc_Race_position.nd (q_var (i := 3))) (qss_cons (qs_for (qi_enum m_enumerate (qa_cons (q_var (i := 4)) (qa_nil))) (qg_tup (qgs_cons (qg_name (i := 7) sc_Race_position.nd) (qgs_cons (qg_tup (qgs_cons (qg_name (i := 9) sc_Race_position.nd) (qgs_cons (qg_name (i := 10) sc_Race_position.nd) (qgs_nil)))) (qgs_nil)))) (qss_cons (qs_set (i := 8) sc_Race_position.nd (q_var (i := 5))) (qss_cons (qs_if ((qw_and (qt_cmp q_lt (q_op q_addI (q_var (i := 7)) (q_int)) (q_callB c_len m_len rfl (qa_cons (q_var (i := 4)) (qa_nil)))) (qw_and1 (qt_cmp q_lt (q_call (c_compare m) hr (qa_cons (q_ix (q_ix (q_var (i := 4)) (q_op q_addI (q_var (i := 7)) (q_int))) (q_int)) (qa_cons (q_var (i := 5)) (qa_nil)))) (q_int)))).pt) (qss_one (qs_set (i := 8) sc_Race_position.nd (q_ix (q_ix (q_var (i := 4)) (q_op q_addI (q_var (i := 7)) (q_int))) (q_int)))) (qss_nil)) (qss_one (qs_if (qt_cmp q_lt (q_call (c_compare m) hr (qa_cons (q_var (i := 9)) (qa_cons (q_var (i := 8)) (qa_nil)))) (q_int)) (qss_one (qs_set (i := 6) sc_Race_position.nd (q_call (c_plus m) hr (qa_cons (q_var (i := 6)) (qa_cons (q_call (c_times m) hr (qa_cons (q_var (i := 10)) (qa_cons (q_call (c_minus m) hr (qa_cons (q_var (i := 8)) (qa_cons (q_var (i := 9)) (qa_nil)))) (qa_nil)))) (qa_nil)))))) (qss_nil)))))) (qss_one (qs_ret (q_var (i := 6)))))))) hp_Race_position
theorem sc_Race_place : FnScope ["self", "name", "time"] ["self", "name", "time"] (defScope (mtop 52 9)) := ⟨rfl, rfl, rfl, by decide +kernel, rfl, by decide +kernel, by decide +kernel⟩
theorem ok_Race_place {P : Program} {w : World} {mg : Str → Option Value} {K : PySem.W.Frag} {xs : List Int} {m : Nat} {f : Addr} {fd : FuncData} {dvs : List V} {kws : List (Str × V)} (F : FunD K "place" "Race.place" (defArgs (mtop 52 9)) (defBody (mtop 52 9)) (defScope (mtop 52 9)) dvs kws f fd) (c_Race_length : ∀ i, PrC P w mg ((famJ K xs).at i) "Race" "length" 3 Ph_Race_length) (c_Race_position : ∀ i, MtC P w mg ((famJ K xs).at i) "Race" "position" 10 3 Ph_Race_position) (c_remainder : ∀ i, FnC P w mg ((famJ K xs).at i) "remainder" 8 2 Ph_remainder) : ∀ base : Heap, FnOk P w K mg base CX0 11 f fd ["self", "name", "time"] (spP ((famJ K xs).at m) Ph_Race_place) :=
  fun base => okP (Z := (famJ K xs).at m) (t := t_Race_place) F sc_Race_place (fun cdv A outer s H E hr => qss_one (qs_ret (q_call (c_remainder m) hr (qa_cons (q_meth (c_Race_position m) hr (q_var (i := 0)) (qa_cons (q_var (i := 1)) (qa_cons (q_var (i := 2)) (qa_nil)))) (qa_cons (q_prop (c_Race_length m) hr (q_var (i := 0))) (qa_nil)))))) hp_Race_place
theorem sc_validate_length : FnScope ["length"] ["length"] (defScope (top 31)) := ⟨rfl, rfl, rfl, by decide +kernel, rfl, by decide +kernel, by decide +kernel⟩
theorem ok_validate_length {P : Program} {w : World} {mg : Str → Option Value} {K : PySem.W.Frag} {xs : List Int} {m : Nat} {f : Addr} {fd : FuncData} {dvs : List V} {kws : List (Str × V)} (F : FunD K "validate_length" "validate_length" (defArgs (top 31)) (defBody (top 31)) (defScope (top 31)) dvs kws f fd) (c_is_integer : ∀ i, FnC P w mg ((famJ K xs).at i) "is_integer" 3 1 Ph_is_integer) : ∀ base : Heap, FnOk P w K mg base CX0 4 f fd ["length"] (spP ((famJ K xs).at m) Ph_validate_length) :=
  fun base => okP (Z := (famJ K xs).at m) (t := t_validate_length) F sc_validate_length (fun cdv A outer s H E hr => qss_one (qs_if ((qw_or (qt_not (qt_val (q_call (c_is_integer m) hr (qa_cons (q_var (i := 0)) (qa_nil))))) (qw_or1 (qt_cmp q_lt (q_var (i := 0)) (q_int)))).pt) (qss_never) (qss_nil))) hp_validate_length
theorem sc_is_observation : FnScope ["value"] ["value"] (defScope (top 32)) := ⟨rfl, rfl, rfl, by decide +kernel, rfl, by decide +kernel, by decide +kernel⟩
theorem ok_is_observation {P : Program} {w : World} {mg : Str → Option Value} {K : PySem.W.Frag} {xs : List Int} {m : Nat} {f : Addr} {fd : FuncData} {dvs : List V} {kws : List (Str × V)} (F : FunD K "is_observation" "is_observation" (defArgs (top 32)) (defBody (top 32)) (defScope (top 32)) dvs kws f fd) (m_len : mg "len" = none) (m_tuple : mg "tuple" = none) (m_isinstance : mg "isinstance" = none) (c_is_integer : ∀ i, FnC P w mg ((famJ K xs).at i) "is_integer" 3 1 Ph_is_integer) : ∀ base : Heap, FnOk P w K mg base CX0 4 f fd ["value"] (spP ((famJ K xs).at m) Ph_is_observation) :=
  fun base => okP (Z := (famJ K xs).at m) (t := t_is_observation) F sc_is_observation (fun cdv A outer s H E hr => qss_cons (qs_if ((qw_or (qt_not (qt_val (q_callB c_isi m_isinstance rfl (qa_cons (q_var (i := 0)) (qa_cons (q_ty m_tuple rfl) (qa_nil)))))) (qw_or1 (qt_cmp (q_ne hr) (q_callB c_len m_len rfl (qa_cons (q_var (i := 0)) (qa_nil))) (q_int)))).pt) (qss_one (qs_ret (q_bl))) (qss_nil)) (qss_one (qs_ret (q_and (q_call (c_is_integer m) hr (qa_cons (q_ix (q_var (i := 0)) (q_int)) (qa_nil))) (q_and (q_call (c_is_integer m) hr (qa_cons (q_ix (q_var (i := 0)) (q_int)) (qa_nil))) (q_one (q_cmp q_ge (q_ix (q_var (i := 0)) (q_int)) (q_int)))))))) hp_is_observation
theorem sc_validate_observations : FnScope ["length", "observations", "index", "observation"] ["length", "observations"] (defScope (top 33)) := ⟨rfl, rfl, rfl, by decide +kernel, rfl, by decide +kernel, by decide +kernel⟩
theorem ok_validate_observations {P : Program} {w : World} {mg : Str → Option Value} {K : PySem.W.Frag} {xs : List Int} {m : Nat} {f : Addr} {fd : FuncData} {dvs : List V} {kws : List (Str × V)} (F : FunD K "validate_observations" "validate_observations" (defArgs (top 33)) (defBody (top 33)) (defScope (top 33)) dvs kws f fd) (c_validate_length : ∀ i, FnC P w mg ((famJ K xs).at i) "validate_length" 4 1 Ph_validate_length) (m_len : mg "len" = none) (g_MAX_OBSERVATIONS : ∃ t, mg "MAX_OBSERVATIONS" = some (.int 50 t)) (m_tuple : mg "tuple" = none) (m_list : mg "list" = none) (m_isinstance : mg "isinstance" = none) (m_enumerate : mg "enumerate" = none) (c_is_observation : ∀ i, FnC P w mg ((famJ K xs).at i) "is_observation" 4 1 Ph_is_observation) : ∀ base : Heap, FnOk P w K mg base CX0 5 f fd ["length", "observations"] (spP ((famJ K xs).at m) Ph_validate_observations) :=
  fun base => okP (Z := (famJ K xs).at m) (t := t_validate_observations) F sc_validate_observations (fun cdv A outer s H E hr => qss_cons (qs_expr (q_call (c_validate_length m) hr (qa_cons (q_var (i := 0)) (qa_nil)))) (qss_cons (qs_if ((qw_or (qt_not (qt_val (q_callB c_isi2 m_isinstance rfl (qa_cons (q_var (i := 1)) (qa_cons (q_tup (qa_cons (q_ty m_list rfl) (qa_cons (q_ty m_tuple rfl) (qa_nil)))) (qa_nil)))))) (qw_or1 (qt_cmp q_gt (q_callB c_len m_len rfl (qa_cons (q_var (i := 1)) (qa_nil))) (q_gint g_MAX_OBSERVATIONS)))).pt) (qss_never) (qss_nil)) (qss_one (qs_for (qi_enum m_enumerate (qa_cons (q_var (i := 1)) (qa_nil))) (qg_tup (qgs_cons (qg_name (i := 2) sc_validate_observations.nd) (qgs_cons (qg_name (i := 3) sc_validate_observations.nd) (qgs_nil)))) (qss_one (qs_if (qt_not (qt_val (q_call (c_is_observation m) hr (qa_cons (q_var (i := 3)) (qa_nil))))) (qss_never) (qss_nil))))))) hp_validate_observations
theorem sc_extended_divisor : FnScope ["first", "second", "old", "new", "factor", "before", "after", "number"] ["first", "second"] (defScope (top 26)) := ⟨rfl, rfl, rfl, by decide +kernel, rfl, by decide +kernel, by decide +kernel⟩
theorem ok_extended_divisor {P : Program} {w : World} {mg : Str → Option Value} {K : PySem.W.Frag} {xs : List Int} {m : Nat} {f : Addr} {fd : FuncData} {dvs : List V} {kws : List (Str × V)} (F : FunD K "extended_divisor" "extended_divisor" (defArgs (top 26)) (defBody (top 26)) (defScope (top 26)) dvs kws f fd) (m_zip : mg "zip" = none) (m_tuple : mg "tuple" = none) : ∀ base : Heap, FnOk P w K mg base CX0 3 f fd ["first", "second"] (spP ((famJ K xs).at m) Ph_extended_divisor) :=
  fun base => okP (Z := (famJ K xs).at m) (t := t_extended_divisor) F sc_extended_divisor (fun cdv A outer s H E hr => qss_cons (qs_par (i := 2) (j := 3) sc_extended_divisor.nd (qa_cons (q_tup (qa_cons (q_var (i := 0)) (qa_cons (q_int) (qa_cons (q_int) (qa_nil))))) (qa_cons (q_tup (qa_cons (q_var (i := 1)) (qa_cons (q_int) (qa_cons (q_int) (qa_nil))))) (qa_nil)))) (qss_cons (qs_while (qt_cmp (q_ne hr) (q_ix (q_var (i := 3)) (q_int)) (q_int)) (qss_cons (qs_set (i := 4) sc_extended_divisor.nd (q_op q_fdivI (q_ix (q_var (i := 2)) (q_int)) (q_ix (q_var (i := 3)) (q_int)))) (qss_one (qs_par (i := 2) (j := 3) sc_extended_divisor.nd (qa_cons (q_var (i := 3)) (qa_cons (q_callTy c_tuple m_tuple rfl (qa_cons (q_lc (own := [("before", 5), ("after", 6)]) sc_extended_divisor.nd (qi_zips m_zip (qa_cons (q_var (i := 2)) (qa_cons (q_var (i := 3)) (qa_nil)))) (blkOk_by (own := [("before", 5), ("after", 6)]) (by kernel_rfl)) (fun _ _ _ _ _ => qg_tup (qgs_cons (qg_name (i := 5) sc_extended_divisor.nd) (qgs_cons (qg_name (i := 6) sc_extended_divisor.nd) (qgs_nil)))) (fun _ _ _ _ _ => qts_nil) (fun _ _ _ _ _ => q_op q_subI (q_var (i := 5)) (q_op q_mulI (q_var (i := 4)) (q_var (i := 6))))) (qa_nil))) (qa_nil))))))) (qss_one (qs_ret (q_if (qt_cmp q_ge (q_ix (q_var (i := 2)) (q_int)) (q_int)) (q_var (i := 2)) (q_callTy c_tuple m_tuple rfl (qa_cons (q_lc (own := [("number", 7)]) sc_extended_divisor.nd (qi_tup (q_var (i := 2))) (blkOk_by (own := [("number", 7)]) (by kernel_rfl)) (fun _ _ _ _ _ => qg_name (i := 7) sc_extended_divisor.nd) (fun _ _ _ _ _ => qts_nil) (fun _ _ _ _ _ => q_neg (q_var (i := 7)))) (qa_nil)))))))) hp_extended_divisor
theorem sc_combined : FnScope ["numbers", "divisor", "factors", "number", "old_factor", "factor", "other"] ["numbers"] (defScope (top 27)) := ⟨rfl, rfl, rfl, by decide +kernel, rfl, by decide +kernel, by decide +kernel⟩
theorem ok_combined {P : Program} {w : World} {mg : Str → Option Value} {K : PySem.W.Frag} {xs : List Int} {m : Nat} {f : Addr} {fd : FuncData} {dvs : List V} {kws : List (Str × V)} (F : FunD K "combined" "combined" (defArgs (top 27)) (defBody (top 27)) (defScope (top 27)) dvs kws f fd) (c_extended_divisor : ∀ i, FnC P w mg ((famJ K xs).at i) "extended_divisor" 3 2 Ph_extended_divisor) : ∀ base : Heap, FnOk P w K mg base CX0 4 f fd ["numbers"] (spP ((famJ K xs).at m) Ph_combined) :=
  fun base => okP (Z := (famJ K xs).at m) (t := t_combined) F sc_combined (fun cdv A outer s H E hr => qss_cons (qs_par (i := 1) (j := 2) sc_combined.nd (qa_cons (q_int) (qa_cons (q_lst (qa_nil)) (qa_nil)))) (qss_cons (qs_for (qi_list (q_var (i := 0))) (qg_name (i := 3) sc_combined.nd) (qss_cons (qs_asg (q_call (c_extended_divisor m) hr (qa_cons (q_var (i := 1)) (qa_cons (q_var (i := 3)) (qa_nil)))) (qg_tup (qgs_cons (qg_name (i := 1) sc_combined.nd) (qgs_cons (qg_name (i := 4) sc_combined.nd) (qgs_cons (qg_name (i := 5) sc_combined.nd) (qgs_nil)))))) (qss_one (qs_set (i := 2) sc_combined.nd (q_op q_cat (q_lc (own := [("other", 6)]) sc_combined.nd (qi_list (q_var (i := 2))) (blkOk_by (own := [("other", 6)]) (by kernel_rfl)) (fun _ _ _ _ _ => qg_name (i := 6) sc_combined.nd) (fun _ _ _ _ _ => qts_nil) (fun _ _ _ _ _ => q_op q_mulI (q_var (i := 4)) (q_var (i := 6)))) (q_lst (qa_cons (q_var (i := 5)) (qa_nil)))))))) (qss_one (qs_ret (q_tup (qa_cons (q_var (i := 1)) (qa_cons (q_var (i := 2)) (qa_nil)))))))) hp_combined
theorem sc_combined_times : FnScope ["length", "observations", "divisor", "factors", "time", "place"] ["length", "observations"] (defScope (top 34)) := ⟨rfl, rfl, rfl, by decide +kernel, rfl, by decide +kernel, by decide +kernel⟩
theorem ok_combined_times {P : Program} {w : World} {mg : Str → Option Value} {K : PySem.W.Frag} {xs : List Int} {m : Nat} {f : Addr} {fd : FuncData} {dvs : List V} {kws : List (Str × V)} (F : FunD K "combined_times" "combined_times" (defArgs (top 34)) (defBody (top 34)) (defScope (top 34)) dvs kws f fd) (c_combined : ∀ i, FnC P w mg ((famJ K xs).at i) "combined" 4 1 Ph_combined) : ∀ base : Heap, FnOk P w K mg base CX0 5 f fd ["length", "observations"] (spP ((famJ K xs).at m) Ph_combined_times) :=
  fun base => okP (Z := (famJ K xs).at m) (t := t_combined_times) F sc_combined_times (fun cdv A outer s H E hr => qss_cons (qs_asg (q_call (c_combined m) hr (qa_cons (q_op q_cat (q_lst (qa_cons (q_var (i := 0)) (qa_nil))) (q_lc (own := [("time", 4), ("place", 5)]) sc_combined_times.nd (qi_list (q_var (i := 1))) (blkOk_by (own := [("time", 4), ("place", 5)]) (by kernel_rfl)) (fun _ _ _ _ _ => qg_tup (qgs_cons (qg_name (i := 4) sc_combined_times.nd) (qgs_cons (qg_name (i := 5) sc_combined_times.nd) (qgs_nil)))) (fun _ _ _ _ _ => qts_nil) (fun _ _ _ _ _ => q_var (i := 4)))) (qa_nil))) (qg_tup (qgs_cons (qg_name (i := 2) sc_combined_times.nd) (qgs_cons (qg_name (i := 3) sc_combined_times.nd) (qgs_nil))))) (qss_one (qs_ret (q_tup (qa_cons (q_var (i := 2)) (qa_cons (q_sliceL (q_var (i := 3)) (qo_some (q_int)) (qo_none)) (qa_nil))))))) hp_combined_times
theorem sc_find_class : FnScope ["length", "observations", "divisor", "factors", "total", "factor", "time", "place", "index", "refusal", "at", "modulus"] ["length", "observations"] (defScope (top 35)) := ⟨rfl, rfl, rfl, by decide +kernel, rfl, by decide +kernel, by decide +kernel⟩
theorem ok_find_class {P : Program} {w : World} {mg : Str → Option Value} {K : PySem.W.Frag} {xs : List Int} {m : Nat} {f : Addr} {fd : FuncData} {dvs : List V} {kws : List (Str × V)} (F : FunD K "find_class" "find_class" (defArgs (top 35)) (defBody (top 35)) (defScope (top 35)) dvs kws f fd) (c_combined_times : ∀ i, FnC P w mg ((famJ K xs).at i) "combined_times" 5 2 Ph_combined_times) (m_zip : mg "zip" = none) (m_sum : mg "sum" = none) (m_tuple : mg "tuple" = none) (m_enumerate : mg "enumerate" = none) (m_int : mg "int" = none) : ∀ base : Heap, FnOk P w K mg base CX0 6 f fd ["length", "observations"] (spP ((famJ K xs).at m) Ph_find_class) :=
  fun base => okP (Z := (famJ K xs).at m) (t := t_find_class) F sc_find_class (fun cdv A outer s H E hr => qss_cons (qs_asg (q_call (c_combined_times m) hr (qa_cons (q_var (i := 0)) (qa_cons (q_var (i := 1)) (qa_nil)))) (qg_tup (qgs_cons (qg_name (i := 2) sc_find_class.nd) (qgs_cons (qg_name (i := 3) sc_find_class.nd) (qgs_nil))))) (qss_cons (qs_set (i := 4) sc_find_class.nd (q_callB c_sum m_sum rfl (qa_cons (q_lc (own := [("factor", 5), ("time", 6), ("place", 7)]) sc_find_class.nd (qi_zips m_zip (qa_cons (q_var (i := 3)) (qa_cons (q_var (i := 1)) (qa_nil)))) (blkOk_by (own := [("factor", 5), ("time", 6), ("place", 7)]) (by kernel_rfl)) (fun _ _ _ _ _ => qg_tup (qgs_cons (qg_name (i := 5) sc_find_class.nd) (qgs_cons (qg_tup (qgs_cons (qg_name (i := 6) sc_find_class.nd) (qgs_cons (qg_name (i := 7) sc_find_class.nd) (qgs_nil)))) (qgs_nil)))) (fun _ _ _ _ _ => qts_nil) (fun _ _ _ _ _ => q_op q_mulI (q_var (i := 5)) (q_var (i := 7)))) (qa_nil)))) (qss_cons (qs_if (qt_cmp (q_ne hr) (q_op q_modI (q_var (i := 4)) (q_var (i := 2))) (q_int)) (qss_one (qs_ret (q_tup (qa_cons (q_non) (qa_cons (q_callTy c_tuple m_tuple rfl (qa_cons (q_lc (own := [("factor", 5)]) sc_find_class.nd (qi_list (q_var (i := 3))) (blkOk_by (own := [("factor", 5)]) (by kernel_rfl)) (fun _ _ _ _ _ => qg_name (i := 5) sc_find_class.nd) (fun _ _ _ _ _ => qts_nil) (fun _ _ _ _ _ => q_op q_mulI (q_op q_fdivI (q_var (i := 0)) (q_var (i := 2))) (q_var (i := 5)))) (qa_nil))) (qa_nil)))))) (qss_nil)) (qss_cons (qs_for (qi_enum m_enumerate (qa_cons (q_var (i := 1)) (qa_nil))) (qg_tup (qgs_cons (qg_name (i := 8) sc_find_class.nd) (qgs_cons (qg_tup (qgs_cons (qg_name (i := 6) sc_find_class.nd) (qgs_cons (qg_name (i := 7) sc_find_class.nd) (qgs_nil)))) (qgs_nil)))) (qss_one (qs_if (qt_cmp (q_ne hr) (q_op q_modI (q_op q_subI (q_op q_mulI (q_op q_fdivI (q_var (i := 6)) (q_var (i := 2))) (q_var (i := 4))) (q_var (i := 7))) (q_var (i := 0))) (q_int)) (qss_cons (qs_setLc (i := 9) (own := [("at", 10), ("factor", 5)]) sc_find_class.nd (sw_true rfl rfl rfl (by decide +kernel)) (qi_enum m_enumerate (qa_cons (q_var (i := 3)) (qa_nil))) (blkOk_by (own := [("at", 10), ("factor", 5)]) (by kernel_rfl)) (fun _ _ _ _ _ => qg_tup (qgs_cons (qg_name (i := 10) sc_find_class.nd) (qgs_cons (qg_name (i := 5) sc_find_class.nd) (qgs_nil)))) (fun _ _ _ _ _ => qts_nil) (fun _ _ _ _ _ => q_op q_subI (q_op q_mulI (q_op q_fdivI (q_var (i := 6)) (q_var (i := 2))) (q_var (i := 5))) (q_callTy c_int m_int rfl (qa_cons (q_cmp (q_eq hr) (q_var (i := 10)) (q_var (i := 8))) (qa_nil))))) (qss_one (qs_ret (q_tup (qa_cons (q_non) (qa_cons (q_callTy c_tuple m_tuple rfl (qa_cons (q_var (i := 9)) (qa_nil))) (qa_nil))))))) (qss_nil)))) (qss_cons (qs_set (i := 11) sc_find_class.nd (q_op q_fdivI (q_var (i := 0)) (q_var (i := 2)))) (qss_one (qs_ret (q_tup (qa_cons (q_tup (qa_cons (q_op q_modI (q_op q_fdivI (q_var (i := 4)) (q_var (i := 2))) (q_var (i := 11))) (qa_cons (q_var (i := 11)) (qa_nil)))) (qa_cons (q_non) (qa_nil))))))))))) hp_find_class
theorem sc_NoSpeed_init : FnScope ["self", "refusal"] ["self", "refusal"] (defScope (mtop 10 0)) := ⟨rfl, rfl, rfl, by decide +kernel, rfl, by decide +kernel, by decide +kernel⟩
theorem ok_NoSpeed_init {P : Program} {w : World} {mg : Str → Option Value} {K : PySem.W.Frag} {xs : List Int} {m : Nat} {f : Addr} {fd : FuncData} (F : FunD K "__init__" "NoSpeed.__init__" (defArgs (mtop 10 0)) (defBody (mtop 10 0)) (defScope (mtop 10 0)) [] [] f fd) (O : L3X.OxC K "LookupError.__new__" (xTl "LookupError") (He.ga K "NoSpeed")) (hno : PySem.W.findIn K (.ref (He.ga K "NoSpeed")) "refusal" = some none) (hm : mg "LookupError" = none) : ∀ base : Heap, FnOk P w K mg base CX0 2 f fd ["self", "refusal"] (spExc K "NoSpeed" "refusal") :=
  fun base => exinit_ok (txt := "no speed fits") O hno F sc_NoSpeed_init fun cdv A outer s H E => pss_cons (ps_expr (L3X.pe_binit (pl := _) L3X.exb_Lookup rfl hm (by first | rfl | kernel_rfl) (vV := by kernel_rfl) (ha := pa_cons (pe_var (i := 0) rfl (.inl rfl)) (pa_cons pe_str pa_nil)))) (pss_one (L3X.ps_of1 L3X.exb_Lookup (pe_var (i := 0) rfl (.inl rfl)) (pe_var (i := 1) rfl (.inl rfl))))
theorem sc_fitting_speeds : FnScope ["length", "observations", "found", "refusal"] ["length", "observations"] (defScope (top 36)) := ⟨rfl, rfl, rfl, by decide +kernel, rfl, by decide +kernel, by decide +kernel⟩
theorem ok_fitting_speeds {P : Program} {w : World} {mg : Str → Option Value} {K : PySem.W.Frag} {xs : List Int} {m : Nat} {f : Addr} {fd : FuncData} {dvs : List V} {kws : List (Str × V)}  (F : FunD K "fitting_speeds" "fitting_speeds" (defArgs (top 36)) (defBody (top 36)) (defScope (top 36)) dvs kws f fd) (c_validate_observations : ∀ i, FnC P w mg ((famJ K xs).at i) "validate_observations" 5 2 Ph_validate_observations) (c_find_class : ∀ i, FnC P w mg ((famJ K xs).at i) "find_class" 6 2 Ph_find_class) (x_NoSpeed : XcOk P w mg K "LookupError.__new__" (xTl "LookupError") "NoSpeed" "refusal" 2) : ∀ base : Heap, FnOk P w K mg base (L2.CX P w) 7 f fd ["length", "observations"] (spX (famJ K xs) m (m + 0) Ph_fitting_speeds) :=
  fun base => okX (F := famJ K xs) (m := m) (n := m + 0) (t := t_fitting_speeds) F sc_fitting_speeds (fun cdv A outer s H E hr => have tk := takes_of (X := cxOf (L2.CX P w) P w K mg base N_fitting_speeds "fitting_speeds" (defScope (top 36)) f cdv A outer s H E) rfl rfl rfl rfl
    xss_cons (m := m) (j := m) (n := m) (xs0 (cS0 (m := m) (n := m) (qs_expr (q_call (c_validate_observations m) hr (qa_cons (q_var (i := 0)) (qa_cons (q_var (i := 1)) (qa_nil))))))) (xss_cons (m := m) (j := m) (n := m) (xs0 (cS0 (m := m) (n := m) (qs_asg (q_call (c_find_class m) hr (qa_cons (q_var (i := 0)) (qa_cons (q_var (i := 1)) (qa_nil)))) (qg_tup (qgs_cons (qg_name (i := 2) sc_fitting_speeds.nd) (qgs_cons (qg_name (i := 3) sc_fitting_speeds.nd) (qgs_nil))))))) (xss_cons (m := m) (j := m) (n := m) (xs_if (m := m) (j := m) (n := m) (xt0 (c0T (m := m) (n := m) (qt_isN (q_var (i := 2))))) (xss_one (xs_raise1 (m := m) (n := m) L3X.exb_Lookup x_NoSpeed hr tk (c0 (m := m) (n := m) (q_var (i := 3))))) (xss_nil)) (xss_one (xs0 (cS0 (m := m) (n := m) (qs_ret (q_var (i := 2))))))))) hp_fitting_speeds
theorem sc_law_divisor : FnScope ["size", "seen", "time", "place", "other"] ["size", "seen"] (defScope (top 56)) := ⟨rfl, rfl, rfl, by decide +kernel, rfl, by decide +kernel, by decide +kernel⟩
theorem ok_law_divisor {P : Program} {w : World} {mg : Str → Option Value} {K : PySem.W.Frag} {xs : List Int} {m : Nat} {f : Addr} {fd : FuncData} {dvs : List V} {kws : List (Str × V)} (F : FunD K "_law_divisor" "_law_divisor" (defArgs (top 56)) (defBody (top 56)) (defScope (top 56)) dvs kws f fd)  : ∀ base : Heap, FnOk P w K mg base CX0 3 f fd ["size", "seen"] (spP ((famJ K xs).at m) Ph_law_divisor) :=
  fun base => okP (Z := (famJ K xs).at m) (t := t_law_divisor) F sc_law_divisor (fun cdv A outer s H E hr => qss_cons (qs_for (qi_list (q_var (i := 1))) (qg_tup (qgs_cons (qg_name (i := 2) sc_law_divisor.nd) (qgs_cons (qg_name (i := 3) sc_law_divisor.nd) (qgs_nil)))) (qss_cons (qs_set (i := 4) sc_law_divisor.nd (q_var (i := 2))) (qss_one (qs_while (qt_cmp q_gt (q_var (i := 4)) (q_int)) (qss_one (qs_par (i := 0) (j := 4) sc_law_divisor.nd (qa_cons (q_var (i := 4)) (qa_cons (q_op q_modI (q_var (i := 0)) (q_var (i := 4))) (qa_nil))))))))) (qss_one (qs_ret (q_var (i := 0))))) hp_law_divisor
theorem sc_validate_bounds : FnScope ["low", "high"] ["low", "high"] (defScope (top 38)) := ⟨rfl, rfl, rfl, by decide +kernel, rfl, by decide +kernel, by decide +kernel⟩
theorem ok_validate_bounds {P : Program} {w : World} {mg : Str → Option Value} {K : PySem.W.Frag} {xs : List Int} {m : Nat} {f : Addr} {fd : FuncData} {dvs : List V} {kws : List (Str × V)} (F : FunD K "validate_bounds" "validate_bounds" (defArgs (top 38)) (defBody (top 38)) (defScope (top 38)) dvs kws f fd) (c_is_integer : ∀ i, FnC P w mg ((famJ K xs).at i) "is_integer" 3 1 Ph_is_integer) : ∀ base : Heap, FnOk P w K mg base CX0 4 f fd ["low", "high"] (spP ((famJ K xs).at m) Ph_validate_bounds) :=
  fun base => okP (Z := (famJ K xs).at m) (t := t_validate_bounds) F sc_validate_bounds (fun cdv A outer s H E hr => qss_one (qs_if ((qw_or (qt_not (qt_val (q_call (c_is_integer m) hr (qa_cons (q_var (i := 0)) (qa_nil))))) (qw_or1 (qt_not (qt_val (q_call (c_is_integer m) hr (qa_cons (q_var (i := 1)) (qa_nil))))))).pt) (qss_never) (qss_nil))) hp_validate_bounds
theorem sc_count_speeds : FnScope ["length", "observations", "low", "high", "found", "first", "step"] ["length", "observations", "low", "high"] (defScope (top 39)) := ⟨rfl, rfl, rfl, by decide +kernel, rfl, by decide +kernel, by decide +kernel⟩
theorem ok_count_speeds {P : Program} {w : World} {mg : Str → Option Value} {K : PySem.W.Frag} {xs : List Int} {m : Nat} {f : Addr} {fd : FuncData} {dvs : List V} {kws : List (Str × V)} (F : FunD K "count_speeds" "count_speeds" (defArgs (top 39)) (defBody (top 39)) (defScope (top 39)) dvs kws f fd) (c_validate_observations : ∀ i, FnC P w mg ((famJ K xs).at i) "validate_observations" 5 2 Ph_validate_observations) (c_validate_bounds : ∀ i, FnC P w mg ((famJ K xs).at i) "validate_bounds" 4 2 Ph_validate_bounds) (c_find_class : ∀ i, FnC P w mg ((famJ K xs).at i) "find_class" 6 2 Ph_find_class) : ∀ base : Heap, FnOk P w K mg base CX0 7 f fd ["length", "observations", "low", "high"] (spP ((famJ K xs).at m) Ph_count_speeds) :=
  fun base => okP (Z := (famJ K xs).at m) (t := t_count_speeds) F sc_count_speeds (fun cdv A outer s H E hr => qss_cons (qs_expr (q_call (c_validate_observations m) hr (qa_cons (q_var (i := 0)) (qa_cons (q_var (i := 1)) (qa_nil))))) (qss_cons (qs_expr (q_call (c_validate_bounds m) hr (qa_cons (q_var (i := 2)) (qa_cons (q_var (i := 3)) (qa_nil))))) (qss_cons (qs_set (i := 4) sc_count_speeds.nd (q_ix (q_call (c_find_class m) hr (qa_cons (q_var (i := 0)) (qa_cons (q_var (i := 1)) (qa_nil)))) (q_int))) (qss_cons (qs_if ((qw_or (qt_isN (q_var (i := 4))) (qw_or1 (qt_cmp q_gt (q_var (i := 2)) (q_var (i := 3))))).pt) (qss_one (qs_ret (q_int))) (qss_nil)) (qss_cons (qs_asg (q_var (i := 4)) (qg_tup (qgs_cons (qg_name (i := 5) sc_count_speeds.nd) (qgs_cons (qg_name (i := 6) sc_count_speeds.nd) (qgs_nil))))) (qss_one (qs_ret (q_op q_subI (q_op q_fdivI (q_op q_subI (q_var (i := 3)) (q_var (i := 5))) (q_var (i := 6))) (q_op q_fdivI (q_op q_subI (q_op q_subI (q_var (i := 2)) (q_int)) (q_var (i := 5))) (q_var (i := 6))))))))))) hp_count_speeds
theorem sc_speeds_between : FnScope ["length", "observations", "low", "high", "count", "first", "step", "least", "index"] ["length", "observations", "low", "high"] (defScope (top 40)) := ⟨rfl, rfl, rfl, by decide +kernel, rfl, by decide +kernel, by decide +kernel⟩
theorem ok_speeds_between {P : Program} {w : World} {mg : Str → Option Value} {K : PySem.W.Frag} {xs : List Int} {m : Nat} {f : Addr} {fd : FuncData} {dvs : List V} {kws : List (Str × V)} (F : FunD K "speeds_between" "speeds_between" (defArgs (top 40)) (defBody (top 40)) (defScope (top 40)) dvs kws f fd) (c_count_speeds : ∀ i, FnC P w mg ((famJ K xs).at i) "count_speeds" 7 4 Ph_count_speeds) (g_MAX_SPEEDS : ∃ t, mg "MAX_SPEEDS" = some (.int 2000 t)) (c_find_class : ∀ i, FnC P w mg ((famJ K xs).at i) "find_class" 6 2 Ph_find_class) (m_range : mg "range" = none) : ∀ base : Heap, FnOk P w K mg base CX0 8 f fd ["length", "observations", "low", "high"] (spP ((famJ K xs).at m) Ph_speeds_between) :=
  fun base => okP (Z := (famJ K xs).at m) (t := t_speeds_between) F sc_speeds_between (fun cdv A outer s H E hr => qss_cons (qs_set (i := 4) sc_speeds_between.nd (q_call (c_count_speeds m) hr (qa_cons (q_var (i := 0)) (qa_cons (q_var (i := 1)) (qa_cons (q_var (i := 2)) (qa_cons (q_var (i := 3)) (qa_nil))))))) (qss_cons (qs_if (qt_cmp q_gt (q_var (i := 4)) (q_gint g_MAX_SPEEDS)) (qss_never) (qss_nil)) (qss_cons (qs_if (qt_cmp (q_eq hr) (q_var (i := 4)) (q_int)) (qss_one (qs_ret (q_lst (qa_nil)))) (qss_nil)) (qss_cons (qs_asg (q_ix (q_call (c_find_class m) hr (qa_cons (q_var (i := 0)) (qa_cons (q_var (i := 1)) (qa_nil)))) (q_int)) (qg_tup (qgs_cons (qg_name (i := 5) sc_speeds_between.nd) (qgs_cons (qg_name (i := 6) sc_speeds_between.nd) (qgs_nil))))) (qss_cons (qs_set (i := 7) sc_speeds_between.nd (q_op q_addI (q_var (i := 2)) (q_op q_modI (q_op q_subI (q_var (i := 5)) (q_var (i := 2))) (q_var (i := 6))))) (qss_one (qs_ret (q_lc (own := [("index", 8)]) sc_speeds_between.nd (qi_range1 m_range (qa_cons (q_var (i := 4)) (qa_nil))) (blkOk_by (own := [("index", 8)]) (by kernel_rfl)) (fun _ _ _ _ _ => qg_name (i := 8) sc_speeds_between.nd) (fun _ _ _ _ _ => qts_nil) (fun _ _ _ _ _ => q_op q_addI (q_var (i := 7)) (q_op q_mulI (q_var (i := 8)) (q_var (i := 6)))))))))))) hp_speeds_between
theorem sc_next_look : FnScope ["length", "observations", "low", "high", "after", "count", "divisor", "time"] ["length", "observations", "low", "high", "after"] (defScope (top 41)) := ⟨rfl, rfl, rfl, by decide +kernel, rfl, by decide +kernel, by decide +kernel⟩
theorem ok_next_look {P : Program} {w : World} {mg : Str → Option Value} {K : PySem.W.Frag} {xs : List Int} {m : Nat} {f : Addr} {fd : FuncData} {dvs : List V} {kws : List (Str × V)} (F : FunD K "next_look" "next_look" (defArgs (top 41)) (defBody (top 41)) (defScope (top 41)) dvs kws f fd) (c_count_speeds : ∀ i, FnC P w mg ((famJ K xs).at i) "count_speeds" 7 4 Ph_count_speeds) (c_is_integer : ∀ i, FnC P w mg ((famJ K xs).at i) "is_integer" 3 1 Ph_is_integer) (c_combined_times : ∀ i, FnC P w mg ((famJ K xs).at i) "combined_times" 5 2 Ph_combined_times) (c_common_divisor : ∀ i, FnC P w mg ((famJ K xs).at i) "common_divisor" 3 2 Ph_common_divisor) : ∀ base : Heap, FnOk P w K mg base CX0 8 f fd ["length", "observations", "low", "high", "after"] (spP ((famJ K xs).at m) Ph_next_look) :=
  fun base => okP (Z := (famJ K xs).at m) (t := t_next_look) F sc_next_look (fun cdv A outer s H E hr => qss_cons (qs_set (i := 5) sc_next_look.nd (q_call (c_count_speeds m) hr (qa_cons (q_var (i := 0)) (qa_cons (q_var (i := 1)) (qa_cons (q_var (i := 2)) (qa_cons (q_var (i := 3)) (qa_nil))))))) (qss_cons (qs_if ((qw_or (qt_not (qt_val (q_call (c_is_integer m) hr (qa_cons (q_var (i := 4)) (qa_nil))))) (qw_or1 (qt_cmp q_lt (q_var (i := 4)) (q_int)))).pt) (qss_never) (qss_nil)) (qss_cons (qs_set (i := 6) sc_next_look.nd (q_ix (q_call (c_combined_times m) hr (qa_cons (q_var (i := 0)) (qa_cons (q_var (i := 1)) (qa_nil)))) (q_int))) (qss_cons (qs_if (qt_cmp q_gt (q_var (i := 5)) (q_var (i := 6))) (qss_one (qs_ret (q_non))) (qss_nil)) (qss_cons (qs_set (i := 7) sc_next_look.nd (q_op q_addI (q_var (i := 4)) (q_int))) (qss_cons (qs_while (qt_cmp q_lt (q_op q_fdivI (q_var (i := 6)) (q_call (c_common_divisor m) hr (qa_cons (q_var (i := 7)) (qa_cons (q_var (i := 6)) (qa_nil))))) (q_var (i := 5))) (qss_one (qs_augAdd (i := 7) sc_next_look.nd (q_int)))) (qss_one (qs_ret (q_var (i := 7)))))))))) hp_next_look
theorem sc_law_refusal : FnScope ["size", "seen", "e"] ["size", "seen"] (defScope (top 57)) := ⟨rfl, rfl, rfl, by decide +kernel, rfl, by decide +kernel, by decide +kernel⟩
theorem ok_law_refusal {P : Program} {w : World} {mg : Str → Option Value} {K : PySem.W.Frag} {xs : List Int} {m : Nat} {f : Addr} {fd : FuncData} {dvs : List V} {kws : List (Str × V)}  (F : FunD K "_law_refusal" "_law_refusal" (defArgs (top 57)) (defBody (top 57)) (defScope (top 57)) dvs kws f fd) (c_fitting_speeds : ∀ i, FnCX P w mg (famJ K xs) i (i + 0) "fitting_speeds" 7 2 Ph_fitting_speeds) (xf_NoSpeed : XfC K (He.ga K "NoSpeed")) (xn_NoSpeed_refusal : PySem.W.findIn K (.ref (He.ga K "NoSpeed")) "refusal" = some none) (nm_NoSpeed : mg "NoSpeed" = some (.ref (He.ga K "NoSpeed"))) (xm_NoSpeed : PySem.W.exmOne K (.ref (He.ga K "NoSpeed")) (.ref (He.ga K "NoSpeed")) = some true) : ∀ base : Heap, FnOk P w K mg base CX0 8 f fd ["size", "seen"] (spP2 (famJ K xs) m (m + 0) Ph_law_refusal) :=
  fun base => okP2 (F := famJ K xs) (m := m) (n := m + 0) (t := t_law_refusal) F sc_law_refusal (by omega) (fun cdv A outer s H E hr => qss2_cons (m := m) (j := m) (n := m) (qs2_tryAs (m := m) (j := m) (n := m) (c := "NoSpeed") (i := 2) sc_law_refusal.nd (names_of nm_NoSpeed) xm_NoSpeed (fun W pn xe tk po => xss_one (xs_expr (m := m) (n := m) (qx_call (m := m) (j := m) (n := m) (c_fitting_speeds m) hr tk (c0A (m := m) (n := m) (qa_cons (q_var (i := 0)) (qa_cons (q_var (i := 1)) (qa_nil))))))) (fun xa xd oe pn hz hv => cSs0 (m := m) (n := m) (qss_one (qs_ret (q_xf (c := "NoSpeed") (i := 2) xf_NoSpeed xn_NoSpeed_refusal hz hv))))) (cSs0 (m := m) (n := m) (qss_one (qs_ret (q_non))))) hp_law_refusal
theorem sc_is_no_speed : FnScope ["length", "observations", "value", "number", "times", "time", "place", "places"] ["length", "observations", "value"] (defScope (top 37)) := ⟨rfl, rfl, rfl, by decide +kernel, rfl, by decide +kernel, by decide +kernel⟩
theorem ok_is_no_speed {P : Program} {w : World} {mg : Str → Option Value} {K : PySem.W.Frag} {xs : List Int} {m : Nat} {f : Addr} {fd : FuncData} {dvs : List V} {kws : List (Str × V)} (F : FunD K "is_no_speed" "is_no_speed" (defArgs (top 37)) (defBody (top 37)) (defScope (top 37)) dvs kws f fd) (c_validate_observations : ∀ i, FnC P w mg ((famJ K xs).at i) "validate_observations" 5 2 Ph_validate_observations) (m_len : mg "len" = none) (m_tuple : mg "tuple" = none) (m_isinstance : mg "isinstance" = none) (c_is_integer : ∀ i, FnC P w mg ((famJ K xs).at i) "is_integer" 3 1 Ph_is_integer) (m_all : mg "all" = none) (m_zip : mg "zip" = none) (m_sum : mg "sum" = none) : ∀ base : Heap, FnOk P w K mg base CX0 6 f fd ["length", "observations", "value"] (spP ((famJ K xs).at m) Ph_is_no_speed) :=
  fun base => okP (Z := (famJ K xs).at m) (t := t_is_no_speed) F sc_is_no_speed (fun cdv A outer s H E hr => qss_cons (qs_expr (q_call (c_validate_observations m) hr (qa_cons (q_var (i := 0)) (qa_cons (q_var (i := 1)) (qa_nil))))) (qss_cons (qs_if ((qw_or (qt_not (qt_val (q_callB c_isi m_isinstance rfl (qa_cons (q_var (i := 2)) (qa_cons (q_ty m_tuple rfl) (qa_nil)))))) (qw_or1 (qt_cmp (q_ne hr) (q_callB c_len m_len rfl (qa_cons (q_var (i := 2)) (qa_nil))) (q_callB c_len m_len rfl (qa_cons (q_var (i := 1)) (qa_nil)))))).pt) (qss_one (qs_ret (q_bl))) (qss_nil)) (qss_cons (qs_if (qt_not (qt_val (q_callB c_all m_all rfl (qa_cons (q_lc (own := [("number", 3)]) sc_is_no_speed.nd (qi_tup (q_var (i := 2))) (blkOk_by (own := [("number", 3)]) (by kernel_rfl)) (fun _ _ _ _ _ => qg_name (i := 3) sc_is_no_speed.nd) (fun _ _ _ _ _ => qts_nil) (fun _ _ _ _ _ => q_call (c_is_integer m) hr (qa_cons (q_var (i := 3)) (qa_nil)))) (qa_nil))))) (qss_one (qs_ret (q_bl))) (qss_nil)) (qss_cons (qs_set (i := 4) sc_is_no_speed.nd (q_callB c_sum m_sum rfl (qa_cons (q_lc (own := [("number", 3), ("time", 5), ("place", 6)]) sc_is_no_speed.nd (qi_zips m_zip (qa_cons (q_var (i := 2)) (qa_cons (q_var (i := 1)) (qa_nil)))) (blkOk_by (own := [("number", 3), ("time", 5), ("place", 6)]) (by kernel_rfl)) (fun _ _ _ _ _ => qg_tup (qgs_cons (qg_name (i := 3) sc_is_no_speed.nd) (qgs_cons (qg_tup (qgs_cons (qg_name (i := 5) sc_is_no_speed.nd) (qgs_cons (qg_name (i := 6) sc_is_no_speed.nd) (qgs_nil)))) (qgs_nil)))) (fun _ _ _ _ _ => qts_nil) (fun _ _ _ _ _ => q_op q_mulI (q_var (i := 3)) (q_var (i := 5)))) (qa_nil)))) (qss_cons (qs_set (i := 7) sc_is_no_speed.nd (q_callB c_sum m_sum rfl (qa_cons (q_lc (own := [("number", 3), ("time", 5), ("place", 6)]) sc_is_no_speed.nd (qi_zips m_zip (qa_cons (q_var (i := 2)) (qa_cons (q_var (i := 1)) (qa_nil)))) (blkOk_by (own := [("number", 3), ("time", 5), ("place", 6)]) (by kernel_rfl)) (fun _ _ _ _ _ => qg_tup (qgs_cons (qg_name (i := 3) sc_is_no_speed.nd) (qgs_cons (qg_tup (qgs_cons (qg_name (i := 5) sc_is_no_speed.nd) (qgs_cons (qg_name (i := 6) sc_is_no_speed.nd) (qgs_nil)))) (qgs_nil)))) (fun _ _ _ _ _ => qts_nil) (fun _ _ _ _ _ => q_op q_mulI (q_var (i := 3)) (q_var (i := 6)))) (qa_nil)))) (qss_one (qs_ret (q_and (q_cmp (q_eq hr) (q_op q_modI (q_var (i := 4)) (q_var (i := 0))) (q_int)) (q_one (q_cmp (q_ne hr) (q_op q_modI (q_var (i := 7)) (q_var (i := 0))) (q_int))))))))))) hp_is_no_speed
theorem sc_law : FnScope ["script", "pool", "turn", "size", "speed", "k", "time", "race", "seen", "rest", "modulus", "low", "high", "more", "wrong", "refused"] ["script"] (defScope (top 58)) := ⟨rfl, rfl, rfl, by decide +kernel, rfl, by decide +kernel, by decide +kernel⟩
theorem ok_law {P : Program} {w : World} {mg : Str → Option Value} {K : PySem.W.Frag} {xs : List Int} {m : Nat} {f : Addr} {fd : FuncData} {dvs : List V} {kws : List (Str × V)} (hm : m + 81 ≤ 1152921504606846976) (F : FunD K "law" "law" (defArgs (top 58)) (defBody (top 58)) (defScope (top 58)) dvs kws f fd) (c_law_pool : ∀ i, FnC P w mg ((famJ K xs).at i) "_law_pool" 3 1 (Ph_law_pool xs)) (m_range : mg "range" = none) (c_law_draw : ∀ i, i + 1 ≤ 1152921504606846976 → FnC2 P w mg (famJ K xs) i (i + 1) "_law_draw" 3 2 Ph_law_draw) (c_Race : ∀ i, MkC P w mg ((famJ K xs).at i) "Race" 12 2 Ph_Race) (c_Race_place : ∀ i, MtC P w mg ((famJ K xs).at i) "Race" "place" 11 3 Ph_Race_place) (c_fitting_speeds : ∀ i, FnCX P w mg (famJ K xs) i (i + 0) "fitting_speeds" 7 2 Ph_fitting_speeds) (c_law_divisor : ∀ i, FnC P w mg ((famJ K xs).at i) "_law_divisor" 3 2 Ph_law_divisor) (c_speeds_between : ∀ i, FnC P w mg ((famJ K xs).at i) "speeds_between" 8 4 Ph_speeds_between) (c_count_speeds : ∀ i, FnC P w mg ((famJ K xs).at i) "count_speeds" 7 4 Ph_count_speeds) (c_next_look : ∀ i, FnCD P w mg ((famJ K xs).at i) "next_look" 8 4 [0] Ph_next_look) (c_law_refusal : ∀ i, FnC P w mg ((famJ K xs).at i) "_law_refusal" 8 2 Ph_law_refusal) (c_is_no_speed : ∀ i, FnC P w mg ((famJ K xs).at i) "is_no_speed" 6 3 Ph_is_no_speed) (m_len : mg "len" = none) : ∀ base : Heap, FnOk P w K mg base CX0 14 f fd ["script"] (spP2 (famJ K xs) m (m + 81) (Ph_law xs)) :=
  fun base => okP2 (F := famJ K xs) (m := m) (n := m + 81) (t := (t_law xs)) F sc_law (by omega) (fun cdv A outer s H E hr => qss2_cons (m := m) (j := m) (n := (m + 81)) (cS0 (m := m) (n := m) (qs_set (i := 1) sc_law.nd (q_call (c_law_pool m) hr (qa_cons (q_var (i := 0)) (qa_nil))))) (qss2_cons (m := m) (j := (m + 81)) (n := (m + 81)) (qs2_for (m := m) (j := m) (n := (m + 81)) (R := 3) (b := 27) (qi2_range1 (m := m) (n := m) m_range (c0A (m := m) (n := m) (qa_cons (q_int) (qa_nil)))) (fun _ => qg_name (i := 2) sc_law.nd) (fun k0 _ => liftS2_succ ((qss2_cons (m := (m + k0 * 27)) (j := (m + k0 * 27 + 3)) (n := (m + k0 * 27 + 27)) (qs2_set (m := (m + k0 * 27)) (n := (m + k0 * 27 + 3)) (i := 3) sc_law.nd (q2_ix (m := (m + k0 * 27)) (j := (m + k0 * 27 + 2)) (n := (m + k0 * 27 + 3)) (q2_lst (m := (m + k0 * 27)) (n := (m + k0 * 27 + 2)) (qa2_cons (m := (m + k0 * 27)) (j := (m + k0 * 27 + 1)) (n := (m + k0 * 27 + 2)) (q2_op (m := (m + k0 * 27)) (j := (m + k0 * 27)) (n := (m + k0 * 27 + 1)) q_addI (c0 (m := (m + k0 * 27)) (n := (m + k0 * 27)) (q_int)) (q2_call (m := (m + k0 * 27)) (j := (m + k0 * 27)) (n := (m + k0 * 27 + 1)) (c_law_draw (m + k0 * 27) (by omega)) hr (c0A (m := (m + k0 * 27)) (n := (m + k0 * 27)) (qa_cons (q_var (i := 1)) (qa_cons (q_int) (qa_nil)))))) (qa2_cons (m := (m + k0 * 27 + 1)) (j := (m + k0 * 27 + 2)) (n := (m + k0 * 27 + 2)) (q2_op (m := (m + k0 * 27 + 1)) (j := (m + k0 * 27 + 1)) (n := (m + k0 * 27 + 2)) q_addI (c0 (m := (m + k0 * 27 + 1)) (n := (m + k0 * 27 + 1)) (q_int)) (q2_call (m := (m + k0 * 27 + 1)) (j := (m + k0 * 27 + 1)) (n := (m + k0 * 27 + 2)) (c_law_draw (m + k0 * 27 + 1) (by omega)) hr (c0A (m := (m + k0 * 27 + 1)) (n := (m + k0 * 27 + 1)) (qa_cons (q_var (i := 1)) (qa_cons (q_op q_powI (q_int) (q_int)) (qa_nil)))))) (c0A (m := (m + k0 * 27 + 2)) (n := (m + k0 * 27 + 2)) (qa_cons (q_int) (qa_nil)))))) (q2_call (m := (m + k0 * 27 + 2)) (j := (m + k0 * 27 + 2)) (n := (m + k0 * 27 + 3)) (c_law_draw (m + k0 * 27 + 2) (by omega)) hr (c0A (m := (m + k0 * 27 + 2)) (n := (m + k0 * 27 + 2)) (qa_cons (q_var (i := 1)) (qa_cons (q_int) (qa_nil))))))) (qss2_cons (m := (m + k0 * 27 + 3)) (j := (m + k0 * 27 + 6)) (n := (m + k0 * 27 + 27)) (qs2_set (m := (m + k0 * 27 + 3)) (n := (m + k0 * 27 + 6)) (i := 4) sc_law.nd (q2_ix (m := (m + k0 * 27 + 3)) (j := (m + k0 * 27 + 5)) (n := (m + k0 * 27 + 6)) (q2_lst (m := (m + k0 * 27 + 3)) (n := (m + k0 * 27 + 5)) (qa2_cons (m := (m + k0 * 27 + 3)) (j := (m + k0 * 27 + 4)) (n := (m + k0 * 27 + 5)) (q2_op (m := (m + k0 * 27 + 3)) (j := (m + k0 * 27 + 4)) (n := (m + k0 * 27 + 4)) q_subI (q2_call (m := (m + k0 * 27 + 3)) (j := (m + k0 * 27 + 3)) (n := (m + k0 * 27 + 4)) (c_law_draw (m + k0 * 27 + 3) (by omega)) hr (c0A (m := (m + k0 * 27 + 3)) (n := (m + k0 * 27 + 3)) (qa_cons (q_var (i := 1)) (qa_cons (q_int) (qa_nil))))) (c0 (m := (m + k0 * 27 + 4)) (n := (m + k0 * 27 + 4)) (q_int))) (qa2_cons (m := (m + k0 * 27 + 4)) (j := (m + k0 * 27 + 5)) (n := (m + k0 * 27 + 5)) (q2_op (m := (m + k0 * 27 + 4)) (j := (m + k0 * 27 + 5)) (n := (m + k0 * 27 + 5)) q_subI (q2_call (m := (m + k0 * 27 + 4)) (j := (m + k0 * 27 + 4)) (n := (m + k0 * 27 + 5)) (c_law_draw (m + k0 * 27 + 4) (by omega)) hr (c0A (m := (m + k0 * 27 + 4)) (n := (m + k0 * 27 + 4)) (qa_cons (q_var (i := 1)) (qa_cons (q_op q_powI (q_int) (q_int)) (qa_nil))))) (c0 (m := (m + k0 * 27 + 5)) (n := (m + k0 * 27 + 5)) (q_op q_powI (q_int) (q_int)))) (c0A (m := (m + k0 * 27 + 5)) (n := (m + k0 * 27 + 5)) (qa_nil))))) (q2_call (m := (m + k0 * 27 + 5)) (j := (m + k0 * 27 + 5)) (n := (m + k0 * 27 + 6)) (c_law_draw (m + k0 * 27 + 5) (by omega)) hr (c0A (m := (m + k0 * 27 + 5)) (n := (m + k0 * 27 + 5)) (qa_cons (q_var (i := 1)) (qa_cons (q_int) (qa_nil))))))) (qss2_cons (m := (m + k0 * 27 + 6)) (j := (m + k0 * 27 + 6)) (n := (m + k0 * 27 + 27)) (cS0 (m := (m + k0 * 27 + 6)) (n := (m + k0 * 27 + 6)) (qs_parR (i := 7) (j := 8) sc_law.nd (q_make (c_Race (m + k0 * 27 + 6)) hr (qa_cons (q_var (i := 3)) (qa_cons (q_disp (ts := [(pC (.str "a"), pTup (pCons (pC (.int 0)) (pCons (pLst (pCons (pTup (pCons (pC (.int 0)) (pCons (pVar 4) (pNil)))) (pNil))) (pNil))))]) (pps_cons (q_str) (q_tup (qa_cons (q_int) (qa_cons (q_lst (qa_cons (q_tup (qa_cons (q_int) (qa_cons (q_var (i := 4)) (qa_nil)))) (qa_nil))) (qa_nil)))) (pps_nil))) (qa_nil)))) (qa_nil))) (qss2_cons (m := (m + k0 * 27 + 6)) (j := (m + k0 * 27 + 25)) (n := (m + k0 * 27 + 27)) (qs2_for (m := (m + k0 * 27 + 6)) (j := (m + k0 * 27 + 7)) (n := (m + k0 * 27 + 25)) (R := 6) (b := 3) (qi2_range1 (m := (m + k0 * 27 + 6)) (n := (m + k0 * 27 + 7)) m_range (qa2_cons (m := (m + k0 * 27 + 6)) (j := (m + k0 * 27 + 7)) (n := (m + k0 * 27 + 7)) (q2_call (m := (m + k0 * 27 + 6)) (j := (m + k0 * 27 + 6)) (n := (m + k0 * 27 + 7)) (c_law_draw (m + k0 * 27 + 6) (by omega)) hr (c0A (m := (m + k0 * 27 + 6)) (n := (m + k0 * 27 + 6)) (qa_cons (q_var (i := 1)) (qa_cons (q_int) (qa_nil))))) (c0A (m := (m + k0 * 27 + 7)) (n := (m + k0 * 27 + 7)) (qa_nil)))) (fun _ => qg_name (i := 5) sc_law.nd) (fun k1 _ => liftS2_succ ((qss2_cons (m := ((m + k0 * 27 + 7) + k1 * 3)) (j := ((m + k0 * 27 + 7) + k1 * 3 + 3)) (n := ((m + k0 * 27 + 7) + k1 * 3 + 3)) (qs2_set (m := ((m + k0 * 27 + 7) + k1 * 3)) (n := ((m + k0 * 27 + 7) + k1 * 3 + 3)) (i := 6) sc_law.nd (q2_ix (m := ((m + k0 * 27 + 7) + k1 * 3)) (j := ((m + k0 * 27 + 7) + k1 * 3 + 2)) (n := ((m + k0 * 27 + 7) + k1 * 3 + 3)) (q2_lst (m := ((m + k0 * 27 + 7) + k1 * 3)) (n := ((m + k0 * 27 + 7) + k1 * 3 + 2)) (qa2_cons (m := ((m + k0 * 27 + 7) + k1 * 3)) (j := ((m + k0 * 27 + 7) + k1 * 3 + 1)) (n := ((m + k0 * 27 + 7) + k1 * 3 + 2)) (q2_op (m := ((m + k0 * 27 + 7) + k1 * 3)) (j := ((m + k0 * 27 + 7) + k1 * 3 + 1)) (n := ((m + k0 * 27 + 7) + k1 * 3 + 1)) q_mulI (q2_call (m := ((m + k0 * 27 + 7) + k1 * 3)) (j := ((m + k0 * 27 + 7) + k1 * 3)) (n := ((m + k0 * 27 + 7) + k1 * 3 + 1)) (c_law_draw ((m + k0 * 27 + 7) + k1 * 3) (by omega)) hr (c0A (m := ((m + k0 * 27 + 7) + k1 * 3)) (n := ((m + k0 * 27 + 7) + k1 * 3)) (qa_cons (q_var (i := 1)) (qa_cons (q_int) (qa_nil))))) (c0 (m := ((m + k0 * 27 + 7) + k1 * 3 + 1)) (n := ((m + k0 * 27 + 7) + k1 * 3 + 1)) (q_int))) (qa2_cons (m := ((m + k0 * 27 + 7) + k1 * 3 + 1)) (j := ((m + k0 * 27 + 7) + k1 * 3 + 2)) (n := ((m + k0 * 27 + 7) + k1 * 3 + 2)) (q2_call (m := ((m + k0 * 27 + 7) + k1 * 3 + 1)) (j := ((m + k0 * 27 + 7) + k1 * 3 + 1)) (n := ((m + k0 * 27 + 7) + k1 * 3 + 2)) (c_law_draw ((m + k0 * 27 + 7) + k1 * 3 + 1) (by omega)) hr (c0A (m := ((m + k0 * 27 + 7) + k1 * 3 + 1)) (n := ((m + k0 * 27 + 7) + k1 * 3 + 1)) (qa_cons (q_var (i := 1)) (qa_cons (q_op q_powI (q_int) (q_int)) (qa_nil))))) (c0A (m := ((m + k0 * 27 + 7) + k1 * 3 + 2)) (n := ((m + k0 * 27 + 7) + k1 * 3 + 2)) (qa_nil))))) (q2_call (m := ((m + k0 * 27 + 7) + k1 * 3 + 2)) (j := ((m + k0 * 27 + 7) + k1 * 3 + 2)) (n := ((m + k0 * 27 + 7) + k1 * 3 + 3)) (c_law_draw ((m + k0 * 27 + 7) + k1 * 3 + 2) (by omega)) hr (c0A (m := ((m + k0 * 27 + 7) + k1 * 3 + 2)) (n := ((m + k0 * 27 + 7) + k1 * 3 + 2)) (qa_cons (q_var (i := 1)) (qa_cons (q_int) (qa_nil))))))) (cSs0 (m := ((m + k0 * 27 + 7) + k1 * 3 + 3)) (n := ((m + k0 * 27 + 7) + k1 * 3 + 3)) (qss_one (qs_append (i := 8) (q_tup (qa_cons (q_var (i := 6)) (qa_cons (q_ix (q_meth (c_Race_place ((m + k0 * 27 + 7) + k1 * 3 + 3)) hr (q_var (i := 7)) (qa_cons (q_str) (qa_cons (q_var (i := 6)) (qa_nil)))) (q_int)) (qa_nil))))))) : PSs _ _ (liftS2 _ ((m + k0 * 27 + 7) + k1 * 3) ((m + k0 * 27 + 7) + k1 * 3 + 3) _))))) (qss2_cons (m := (m + k0 * 27 + 25)) (j := (m + k0 * 27 + 25)) (n := (m + k0 * 27 + 27)) (qs2_frz 8 (qs2_asg (m := (m + k0 * 27 + 25)) (n := (m + k0 * 27 + 25)) (q2_callX (m := (m + k0 * 27 + 25)) (j := (m + k0 * 27 + 25)) (n := (m + k0 * 27 + 25)) (c_fitting_speeds (m + k0 * 27 + 25)) hr (c0A (m := (m + k0 * 27 + 25)) (n := (m + k0 * 27 + 25)) (qa_cons (q_var (i := 3)) (qa_cons (q_var (i := 8)) (qa_nil))))) (qg_tup (qgs_cons (qg_name (i := 9) sc_law.nd) (qgs_cons (qg_name (i := 10) sc_law.nd) (qgs_nil)))))) (qss2_cons (m := (m + k0 * 27 + 25)) (j := (m + k0 * 27 + 25)) (n := (m + k0 * 27 + 27)) (cS0 (m := (m + k0 * 27 + 25)) (n := (m + k0 * 27 + 25)) (qs_frz 8 (qs_if ((qw_or (qt_cmp (q_ne hr) (q_op q_mulI (q_var (i := 10)) (q_call (c_law_divisor (m + k0 * 27 + 25)) hr (qa_cons (q_var (i := 3)) (qa_cons (q_var (i := 8)) (qa_nil))))) (q_var (i := 3))) (qw_or1 (qt_not (qt_chain q_le q_lt (q_int) (q_var (i := 9)) (q_var (i := 10)))))).pt) (qss_one (qs_ret (q_bl))) (qss_nil)))) (qss2_cons (m := (m + k0 * 27 + 25)) (j := (m + k0 * 27 + 25)) (n := (m + k0 * 27 + 27)) (cS0 (m := (m + k0 * 27 + 25)) (n := (m + k0 * 27 + 25)) (qs_if (qt_cmp (q_ne hr) (q_op q_modI (q_op q_subI (q_var (i := 4)) (q_var (i := 9))) (q_var (i := 10))) (q_int)) (qss_one (qs_ret (q_bl))) (qss_nil))) (qss2_cons (m := (m + k0 * 27 + 25)) (j := (m + k0 * 27 + 27)) (n := (m + k0 * 27 + 27)) (qs2_par (m := (m + k0 * 27 + 25)) (n := (m + k0 * 27 + 27)) (i := 11) (k := 12) sc_law.nd (qa2_cons (m := (m + k0 * 27 + 25)) (j := (m + k0 * 27 + 26)) (n := (m + k0 * 27 + 27)) (q2_op (m := (m + k0 * 27 + 25)) (j := (m + k0 * 27 + 25)) (n := (m + k0 * 27 + 26)) q_subI (c0 (m := (m + k0 * 27 + 25)) (n := (m + k0 * 27 + 25)) (q_var (i := 4))) (q2_op (m := (m + k0 * 27 + 25)) (j := (m + k0 * 27 + 25)) (n := (m + k0 * 27 + 26)) q_mulI (c0 (m := (m + k0 * 27 + 25)) (n := (m + k0 * 27 + 25)) (q_var (i := 10))) (q2_call (m := (m + k0 * 27 + 25)) (j := (m + k0 * 27 + 25)) (n := (m + k0 * 27 + 26)) (c_law_draw (m + k0 * 27 + 25) (by omega)) hr (c0A (m := (m + k0 * 27 + 25)) (n := (m + k0 * 27 + 25)) (qa_cons (q_var (i := 1)) (qa_cons (q_int) (qa_nil))))))) (qa2_cons (m := (m + k0 * 27 + 26)) (j := (m + k0 * 27 + 27)) (n := (m + k0 * 27 + 27)) (q2_op (m := (m + k0 * 27 + 26)) (j := (m + k0 * 27 + 26)) (n := (m + k0 * 27 + 27)) q_addI (c0 (m := (m + k0 * 27 + 26)) (n := (m + k0 * 27 + 26)) (q_var (i := 4))) (q2_op (m := (m + k0 * 27 + 26)) (j := (m + k0 * 27 + 26)) (n := (m + k0 * 27 + 27)) q_mulI (c0 (m := (m + k0 * 27 + 26)) (n := (m + k0 * 27 + 26)) (q_var (i := 10))) (q2_call (m := (m + k0 * 27 + 26)) (j := (m + k0 * 27 + 26)) (n := (m + k0 * 27 + 27)) (c_law_draw (m + k0 * 27 + 26) (by omega)) hr (c0A (m := (m + k0 * 27 + 26)) (n := (m + k0 * 27 + 26)) (qa_cons (q_var (i := 1)) (qa_cons (q_int) (qa_nil))))))) (c0A (m := (m + k0 * 27 + 27)) (n := (m + k0 * 27 + 27)) (qa_nil))))) (cSs0 (m := (m + k0 * 27 + 27)) (n := (m + k0 * 27 + 27)) (qss_cons (qs_frz 8 (qs_if (qt_cmp (q_notIn hr) (q_var (i := 4)) (q_call (c_speeds_between (m + k0 * 27 + 27)) hr (qa_cons (q_var (i := 3)) (qa_cons (q_var (i := 8)) (qa_cons (q_var (i := 11)) (qa_cons (q_var (i := 12)) (qa_nil))))))) (qss_one (qs_ret (q_bl))) (qss_nil))) (qss_cons (qs_frz 8 (qs_if (qt_cmp (q_ne hr) (q_call (c_count_speeds (m + k0 * 27 + 27)) hr (qa_cons (q_var (i := 3)) (qa_cons (q_var (i := 8)) (qa_cons (q_var (i := 11)) (qa_cons (q_var (i := 12)) (qa_nil)))))) (q_op q_addI (q_op q_fdivI (q_op q_subI (q_var (i := 12)) (q_var (i := 11))) (q_var (i := 10))) (q_int))) (qss_one (qs_ret (q_bl))) (qss_nil))) (qss_cons (qs_frz 8 (qs_set (i := 6) sc_law.nd (q_callD (c_next_look (m + k0 * 27 + 27)) hr (qa_cons (q_var (i := 3)) (qa_cons (q_var (i := 8)) (qa_cons (q_var (i := 11)) (qa_cons (q_var (i := 12)) (qa_nil)))))))) (qss_cons (qs_if (qt_notN (q_var (i := 6))) (qss_cons (qs_frz 8 (qs_set (i := 13) sc_law.nd (q_op q_cat (q_var (i := 8)) (q_lst (qa_cons (q_tup (qa_cons (q_var (i := 6)) (qa_cons (q_ix (q_meth (c_Race_place (m + k0 * 27 + 27)) hr (q_var (i := 7)) (qa_cons (q_str) (qa_cons (q_var (i := 6)) (qa_nil)))) (q_int)) (qa_nil)))) (qa_nil)))))) (qss_one (qs_if (qt_cmp (q_ne hr) (q_call (c_speeds_between (m + k0 * 27 + 27)) hr (qa_cons (q_var (i := 3)) (qa_cons (q_var (i := 13)) (qa_cons (q_var (i := 11)) (qa_cons (q_var (i := 12)) (qa_nil)))))) (q_lst (qa_cons (q_var (i := 4)) (qa_nil)))) (qss_one (qs_ret (q_bl))) (qss_nil)))) (qss_nil)) (qss_one (qs_frz 8 (qs_if (qt_cmp (q_ne hr) (q_var (i := 8)) (q_lst (qa_nil))) (qss_cons (qs_frz 8 (qs_set (i := 14) sc_law.nd (q_op q_cat (q_var (i := 8)) (q_lst (qa_cons (q_tup (qa_cons (q_ix (q_ix (q_var (i := 8)) (q_int)) (q_int)) (qa_cons (q_op q_addI (q_ix (q_ix (q_var (i := 8)) (q_int)) (q_int)) (q_int)) (qa_nil)))) (qa_nil)))))) (qss_cons (qs_set (i := 15) sc_law.nd (q_call (c_law_refusal (m + k0 * 27 + 27)) hr (qa_cons (q_var (i := 3)) (qa_cons (q_var (i := 14)) (qa_nil))))) (qss_cons (qs_if ((qw_and (qt_cmp q_gt (q_var (i := 3)) (q_int)) (qw_and1 ((qw_or (qt_isN (q_var (i := 15))) (qw_or1 (qt_cmp q_isnotB (q_call (c_is_no_speed (m + k0 * 27 + 27)) hr (qa_cons (q_var (i := 3)) (qa_cons (q_var (i := 14)) (qa_cons (q_var (i := 15)) (qa_nil))))) (q_bl)))).pt))).pt) (qss_one (qs_ret (q_bl))) (qss_nil)) (qss_one (qs_frz 8 (qs_if (qt_cmp q_isnotB (q_call (c_is_no_speed (m + k0 * 27 + 27)) hr (qa_cons (q_var (i := 3)) (qa_cons (q_var (i := 8)) (qa_cons (q_op q_repT (q_tup (qa_cons (q_int) (qa_nil))) (q_callB c_len m_len rfl (qa_cons (q_var (i := 8)) (qa_nil)))) (qa_nil))))) (q_bl)) (qss_one (qs_ret (q_bl))) (qss_nil))))))) (qss_nil)))))))))))))))) : PSs _ _ (liftS2 _ (m + k0 * 27) (m + k0 * 27 + 27) _))))) (cSs0 (m := (m + 81)) (n := (m + 81)) (qss_one (qs_ret (q_bl)))))) hp_law
theorem k_law_pool {P : Program} {w : World} {mg : Str → Option Value} {K : PySem.W.Frag} {xs : List Int} {f : Addr} {fd : FuncData} (F : FunD K "_law_pool" "_law_pool" (defArgs (top 54)) (defBody (top 54)) (defScope (top 54)) [] [] f fd) (hm : mg "_law_pool" = some (.ref f))  : ∀ i, FnC P w mg ((famJ K xs).at i) "_law_pool" 3 1 (Ph_law_pool xs) := fun i =>
  ⟨f, fd, ["script"], hm, F.kp, (F.bindsN fun _ _ _ _ _ _ us hl => match us, hl with | [_], _ => rfl), rfl, ok_law_pool (m := i) F ⟩
theorem k_law_draw {P : Program} {w : World} {mg : Str → Option Value} {K : PySem.W.Frag} {xs : List Int} {f : Addr} {fd : FuncData} (F : FunD K "_law_draw" "_law_draw" (defArgs (top 55)) (defBody (top 55)) (defScope (top 55)) [] [] f fd) (hm : mg "_law_draw" = some (.ref f)) (m_int : mg "int" = none) (m_len : mg "len" = none) : ∀ i, i + 1 ≤ 1152921504606846976 → FnC2 P w mg (famJ K xs) i (i + 1) "_law_draw" 3 2 Ph_law_draw := fun i hi =>
  ⟨f, fd, ["pool", "many"], hm, F.kp, (F.bindsN fun _ _ _ _ _ _ us hl => match us, hl with | [_, _], _ => rfl), rfl, ok_law_draw (m := i) hi F m_int m_len⟩
theorem k_is_integer {P : Program} {w : World} {mg : Str → Option Value} {K : PySem.W.Frag} {xs : List Int} {f : Addr} {fd : FuncData} (F : FunD K "is_integer" "is_integer" (defArgs (top 12)) (defBody (top 12)) (defScope (top 12)) [] [] f fd) (hm : mg "is_integer" = some (.ref f)) (m_bool : mg "bool" = none) (m_isinstance : mg "isinstance" = none) (m_int : mg "int" = none) : ∀ i, FnC P w mg ((famJ K xs).at i) "is_integer" 3 1 Ph_is_integer := fun i =>
  ⟨f, fd, ["value"], hm, F.kp, (F.bindsN fun _ _ _ _ _ _ us hl => match us, hl with | [_], _ => rfl), rfl, ok_is_integer (m := i) F m_bool m_isinstance m_int⟩
theorem k_common_divisor {P : Program} {w : World} {mg : Str → Option Value} {K : PySem.W.Frag} {xs : List Int} {f : Addr} {fd : FuncData} (F : FunD K "common_divisor" "common_divisor" (defArgs (top 13)) (defBody (top 13)) (defScope (top 13)) [] [] f fd) (hm : mg "common_divisor" = some (.ref f)) (m_abs : mg "abs" = none) : ∀ i, FnC P w mg ((famJ K xs).at i) "common_divisor" 3 2 Ph_common_divisor := fun i =>
  ⟨f, fd, ["first", "second"], hm, F.kp, (F.bindsN fun _ _ _ _ _ _ us hl => match us, hl with | [_, _], _ => rfl), rfl, ok_common_divisor (m := i) F m_abs⟩
theorem k_is_ratio {P : Program} {w : World} {mg : Str → Option Value} {K : PySem.W.Frag} {xs : List Int} {f : Addr} {fd : FuncData} (F : FunD K "is_ratio" "is_ratio" (defArgs (top 14)) (defBody (top 14)) (defScope (top 14)) [] [] f fd) (hm : mg "is_ratio" = some (.ref f)) (c_is_integer : ∀ i, FnC P w mg ((famJ K xs).at i) "is_integer" 3 1 Ph_is_integer) (m_len : mg "len" = none) (m_tuple : mg "tuple" = none) (m_isinstance : mg "isinstance" = none) (c_common_divisor : ∀ i, FnC P w mg ((famJ K xs).at i) "common_divisor" 3 2 Ph_common_divisor) : ∀ i, FnC P w mg ((famJ K xs).at i) "is_ratio" 4 1 Ph_is_ratio := fun i =>
  ⟨f, fd, ["value"], hm, F.kp, (F.bindsN fun _ _ _ _ _ _ us hl => match us, hl with | [_], _ => rfl), rfl, ok_is_ratio (m := i) F c_is_integer m_len m_tuple m_isinstance c_common_divisor⟩
theorem k_is_number {P : Program} {w : World} {mg : Str → Option Value} {K : PySem.W.Frag} {xs : List Int} {f : Addr} {fd : FuncData} (F : FunD K "is_number" "is_number" (defArgs (top 15)) (defBody (top 15)) (defScope (top 15)) [] [] f fd) (hm : mg "is_number" = some (.ref f)) (c_is_ratio : ∀ i, FnC P w mg ((famJ K xs).at i) "is_ratio" 4 1 Ph_is_ratio) (c_is_integer : ∀ i, FnC P w mg ((famJ K xs).at i) "is_integer" 3 1 Ph_is_integer) : ∀ i, FnC P w mg ((famJ K xs).at i) "is_number" 5 1 Ph_is_number := fun i =>
  ⟨f, fd, ["value"], hm, F.kp, (F.bindsN fun _ _ _ _ _ _ us hl => match us, hl with | [_], _ => rfl), rfl, ok_is_number (m := i) F c_is_ratio c_is_integer⟩
theorem k_as_ratio {P : Program} {w : World} {mg : Str → Option Value} {K : PySem.W.Frag} {xs : List Int} {f : Addr} {fd : FuncData} (F : FunD K "as_ratio" "as_ratio" (defArgs (top 17)) (defBody (top 17)) (defScope (top 17)) [] [] f fd) (hm : mg "as_ratio" = some (.ref f)) (c_is_number : ∀ i, FnC P w mg ((famJ K xs).at i) "is_number" 5 1 Ph_is_number) (c_is_integer : ∀ i, FnC P w mg ((famJ K xs).at i) "is_integer" 3 1 Ph_is_integer) : ∀ i, FnC P w mg ((famJ K xs).at i) "as_ratio" 6 1 Ph_as_ratio := fun i =>
  ⟨f, fd, ["value"], hm, F.kp, (F.bindsN fun _ _ _ _ _ _ us hl => match us, hl with | [_], _ => rfl), rfl, ok_as_ratio (m := i) F c_is_number c_is_integer⟩
theorem k_ratio {P : Program} {w : World} {mg : Str → Option Value} {K : PySem.W.Frag} {xs : List Int} {f : Addr} {fd : FuncData} (F : FunD K "ratio" "ratio" (defArgs (top 16)) (defBody (top 16)) (defScope (top 16)) [.int 1] [] f fd) (hm : mg "ratio" = some (.ref f)) (c_is_integer : ∀ i, FnC P w mg ((famJ K xs).at i) "is_integer" 3 1 Ph_is_integer) (c_common_divisor : ∀ i, FnC P w mg ((famJ K xs).at i) "common_divisor" 3 2 Ph_common_divisor) : ∀ i, FnC P w mg ((famJ K xs).at i) "ratio" 4 2 Ph_ratio := fun i =>
  ⟨f, fd, ["numerator", "denominator"], hm, F.kp, (by
    obtain ⟨ds, hv, hb⟩ := F.binds1 (ps := ["numerator", "denominator"]) 2 1 (by simp) rfl (fun T kV doc pm an cdv ct us its hu hi => match us, hu, its, hi with | [_, _], _, [_], _ => ⟨_, rfl, by kernel_rfl⟩)
    cases hv
    exact hb), rfl, ok_ratio (m := i) F c_is_integer c_common_divisor⟩
theorem k_minus {P : Program} {w : World} {mg : Str → Option Value} {K : PySem.W.Frag} {xs : List Int} {f : Addr} {fd : FuncData} (F : FunD K "minus" "minus" (defArgs (top 19)) (defBody (top 19)) (defScope (top 19)) [] [] f fd) (hm : mg "minus" = some (.ref f)) (c_as_ratio : ∀ i, FnC P w mg ((famJ K xs).at i) "as_ratio" 6 1 Ph_as_ratio) (c_ratio : ∀ i, FnC P w mg ((famJ K xs).at i) "ratio" 4 2 Ph_ratio) : ∀ i, FnC P w mg ((famJ K xs).at i) "minus" 7 2 Ph_minus := fun i =>
  ⟨f, fd, ["first", "second"], hm, F.kp, (F.bindsN fun _ _ _ _ _ _ us hl => match us, hl with | [_, _], _ => rfl), rfl, ok_minus (m := i) F c_as_ratio c_ratio⟩
theorem k_compare {P : Program} {w : World} {mg : Str → Option Value} {K : PySem.W.Frag} {xs : List Int} {f : Addr} {fd : FuncData} (F : FunD K "compare" "compare" (defArgs (top 22)) (defBody (top 22)) (defScope (top 22)) [] [] f fd) (hm : mg "compare" = some (.ref f)) (c_minus : ∀ i, FnC P w mg ((famJ K xs).at i) "minus" 7 2 Ph_minus) : ∀ i, FnC P w mg ((famJ K xs).at i) "compare" 8 2 Ph_compare := fun i =>
  ⟨f, fd, ["first", "second"], hm, F.kp, (F.bindsN fun _ _ _ _ _ _ us hl => match us, hl with | [_, _], _ => rfl), rfl, ok_compare (m := i) F c_minus⟩
theorem k_is_piece {P : Program} {w : World} {mg : Str → Option Value} {K : PySem.W.Frag} {xs : List Int} {f : Addr} {fd : FuncData} (F : FunD K "is_piece" "is_piece" (defArgs (top 49)) (defBody (top 49)) (defScope (top 49)) [] [] f fd) (hm : mg "is_piece" = some (.ref f)) (m_len : mg "len" = none) (m_tuple : mg "tuple" = none) (m_isinstance : mg "isinstance" = none) (c_compare : ∀ i, FnC P w mg ((famJ K xs).at i) "compare" 8 2 Ph_compare) (c_is_number : ∀ i, FnC P w mg ((famJ K xs).at i) "is_number" 5 1 Ph_is_number) : ∀ i, FnC P w mg ((famJ K xs).at i) "is_piece" 9 1 Ph_is_piece := fun i =>
  ⟨f, fd, ["value"], hm, F.kp, (F.bindsN fun _ _ _ _ _ _ us hl => match us, hl with | [_], _ => rfl), rfl, ok_is_piece (m := i) F m_len m_tuple m_isinstance c_compare c_is_number⟩
theorem k_are_pieces {P : Program} {w : World} {mg : Str → Option Value} {K : PySem.W.Frag} {xs : List Int} {f : Addr} {fd : FuncData} (F : FunD K "are_pieces" "are_pieces" (defArgs (top 50)) (defBody (top 50)) (defScope (top 50)) [] [] f fd) (hm : mg "are_pieces" = some (.ref f)) (m_len : mg "len" = none) (g_MAX_PIECES : ∃ t, mg "MAX_PIECES" = some (.int 20 t)) (m_tuple : mg "tuple" = none) (m_list : mg "list" = none) (m_isinstance : mg "isinstance" = none) (c_compare : ∀ i, FnC P w mg ((famJ K xs).at i) "compare" 8 2 Ph_compare) (c_is_piece : ∀ i, FnC P w mg ((famJ K xs).at i) "is_piece" 9 1 Ph_is_piece) (m_all : mg "all" = none) (m_range : mg "range" = none) : ∀ i, FnC P w mg ((famJ K xs).at i) "are_pieces" 10 1 Ph_are_pieces := fun i =>
  ⟨f, fd, ["value"], hm, F.kp, (F.bindsN fun _ _ _ _ _ _ us hl => match us, hl with | [_], _ => rfl), rfl, ok_are_pieces (m := i) F m_len g_MAX_PIECES m_tuple m_list m_isinstance c_compare c_is_piece m_all m_range⟩
theorem k_is_runner {P : Program} {w : World} {mg : Str → Option Value} {K : PySem.W.Frag} {xs : List Int} {f : Addr} {fd : FuncData} (F : FunD K "is_runner" "is_runner" (defArgs (top 51)) (defBody (top 51)) (defScope (top 51)) [] [] f fd) (hm : mg "is_runner" = some (.ref f)) (c_are_pieces : ∀ i, FnC P w mg ((famJ K xs).at i) "are_pieces" 10 1 Ph_are_pieces) (c_is_number : ∀ i, FnC P w mg ((famJ K xs).at i) "is_number" 5 1 Ph_is_number) (m_len : mg "len" = none) (m_tuple : mg "tuple" = none) (m_isinstance : mg "isinstance" = none) : ∀ i, FnC P w mg ((famJ K xs).at i) "is_runner" 11 1 Ph_is_runner := fun i =>
  ⟨f, fd, ["value"], hm, F.kp, (F.bindsN fun _ _ _ _ _ _ us hl => match us, hl with | [_], _ => rfl), rfl, ok_is_runner (m := i) F c_are_pieces c_is_number m_len m_tuple m_isinstance⟩
theorem k_is_name {P : Program} {w : World} {mg : Str → Option Value} {K : PySem.W.Frag} {xs : List Int} {f : Addr} {fd : FuncData} (F : FunD K "is_name" "is_name" (defArgs (top 47)) (defBody (top 47)) (defScope (top 47)) [] [] f fd) (hm : mg "is_name" = some (.ref f)) (m_len : mg "len" = none) (m_str : mg "str" = none) (m_isinstance : mg "isinstance" = none) (g_SIGNS : ∃ t, mg "SIGNS" = some (.str "abcdefghijklmnopqrstuvwxyz0123456789" t)) (m_all : mg "all" = none) (g_LETTERS : ∃ t, mg "LETTERS" = some (.str "abcdefghijklmnopqrstuvwxyz" t)) : ∀ i, FnC P w mg ((famJ K xs).at i) "is_name" 3 1 Ph_is_name := fun i =>
  ⟨f, fd, ["value"], hm, F.kp, (F.bindsN fun _ _ _ _ _ _ us hl => match us, hl with | [_], _ => rfl), rfl, ok_is_name (m := i) F m_len m_str m_isinstance g_SIGNS m_all g_LETTERS⟩
theorem k_divided {P : Program} {w : World} {mg : Str → Option Value} {K : PySem.W.Frag} {xs : List Int} {f : Addr} {fd : FuncData} (F : FunD K "divided" "divided" (defArgs (top 21)) (defBody (top 21)) (defScope (top 21)) [] [] f fd) (hm : mg "divided" = some (.ref f)) (c_as_ratio : ∀ i, FnC P w mg ((famJ K xs).at i) "as_ratio" 6 1 Ph_as_ratio) (c_ratio : ∀ i, FnC P w mg ((famJ K xs).at i) "ratio" 4 2 Ph_ratio) : ∀ i, FnC P w mg ((famJ K xs).at i) "divided" 7 2 Ph_divided := fun i =>
  ⟨f, fd, ["first", "second"], hm, F.kp, (F.bindsN fun _ _ _ _ _ _ us hl => match us, hl with | [_, _], _ => rfl), rfl, ok_divided (m := i) F c_as_ratio c_ratio⟩
theorem k_floor_of {P : Program} {w : World} {mg : Str → Option Value} {K : PySem.W.Frag} {xs : List Int} {f : Addr} {fd : FuncData} (F : FunD K "floor_of" "floor_of" (defArgs (top 23)) (defBody (top 23)) (defScope (top 23)) [] [] f fd) (hm : mg "floor_of" = some (.ref f)) (c_as_ratio : ∀ i, FnC P w mg ((famJ K xs).at i) "as_ratio" 6 1 Ph_as_ratio) : ∀ i, FnC P w mg ((famJ K xs).at i) "floor_of" 7 1 Ph_floor_of := fun i =>
  ⟨f, fd, ["value"], hm, F.kp, (F.bindsN fun _ _ _ _ _ _ us hl => match us, hl with | [_], _ => rfl), rfl, ok_floor_of (m := i) F c_as_ratio⟩
theorem k_times {P : Program} {w : World} {mg : Str → Option Value} {K : PySem.W.Frag} {xs : List Int} {f : Addr} {fd : FuncData} (F : FunD K "times" "times" (defArgs (top 20)) (defBody (top 20)) (defScope (top 20)) [] [] f fd) (hm : mg "times" = some (.ref f)) (c_as_ratio : ∀ i, FnC P w mg ((famJ K xs).at i) "as_ratio" 6 1 Ph_as_ratio) (c_ratio : ∀ i, FnC P w mg ((famJ K xs).at i) "ratio" 4 2 Ph_ratio) : ∀ i, FnC P w mg ((famJ K xs).at i) "times" 7 2 Ph_times := fun i =>
  ⟨f, fd, ["first", "second"], hm, F.kp, (F.bindsN fun _ _ _ _ _ _ us hl => match us, hl with | [_, _], _ => rfl), rfl, ok_times (m := i) F c_as_ratio c_ratio⟩
theorem k_remainder {P : Program} {w : World} {mg : Str → Option Value} {K : PySem.W.Frag} {xs : List Int} {f : Addr} {fd : FuncData} (F : FunD K "remainder" "remainder" (defArgs (top 24)) (defBody (top 24)) (defScope (top 24)) [] [] f fd) (hm : mg "remainder" = some (.ref f)) (c_as_ratio : ∀ i, FnC P w mg ((famJ K xs).at i) "as_ratio" 6 1 Ph_as_ratio) (c_divided : ∀ i, FnC P w mg ((famJ K xs).at i) "divided" 7 2 Ph_divided) (c_floor_of : ∀ i, FnC P w mg ((famJ K xs).at i) "floor_of" 7 1 Ph_floor_of) (c_times : ∀ i, FnC P w mg ((famJ K xs).at i) "times" 7 2 Ph_times) (c_minus : ∀ i, FnC P w mg ((famJ K xs).at i) "minus" 7 2 Ph_minus) : ∀ i, FnC P w mg ((famJ K xs).at i) "remainder" 8 2 Ph_remainder := fun i =>
  ⟨f, fd, ["value", "modulus"], hm, F.kp, (F.bindsN fun _ _ _ _ _ _ us hl => match us, hl with | [_, _], _ => rfl), rfl, ok_remainder (m := i) F c_as_ratio c_divided c_floor_of c_times c_minus⟩
theorem k_Race_init {P : Program} {w : World} {mg : Str → Option Value} {K : PySem.W.Frag} {xs : List Int} {f : Addr} {fd : FuncData} (F : FunD K "__init__" "Race.__init__" (defArgs (mtop 52 0)) (defBody (mtop 52 0)) (defScope (mtop 52 0)) [] [] f fd) (hm : mg "Race" = some (.ref (He.ga K "Race"))) (hc : Mk K (He.ga K "Race") f) (c_compare : ∀ i, FnC P w mg ((famJ K xs).at i) "compare" 8 2 Ph_compare) (c_is_number : ∀ i, FnC P w mg ((famJ K xs).at i) "is_number" 5 1 Ph_is_number) (m_len : mg "len" = none) (g_MAX_RUNNERS : ∃ t, mg "MAX_RUNNERS" = some (.int 12 t)) (m_dict : mg "dict" = none) (m_isinstance : mg "isinstance" = none) (c_is_runner : ∀ i, FnC P w mg ((famJ K xs).at i) "is_runner" 11 1 Ph_is_runner) (c_is_name : ∀ i, FnC P w mg ((famJ K xs).at i) "is_name" 3 1 Ph_is_name) (k_Race : ∀ i, ClsP ((famJ K xs).at i) "Race") (n_Race_own_length : NoAttr K (He.ga K "Race") "own_length") (c_as_ratio : ∀ i, FnC P w mg ((famJ K xs).at i) "as_ratio" 6 1 Ph_as_ratio) (n_Race_own_runners : NoAttr K (He.ga K "Race") "own_runners") (m_sorted : mg "sorted" = none) (c_remainder : ∀ i, FnC P w mg ((famJ K xs).at i) "remainder" 8 2 Ph_remainder) (n_Race_own_parts : NoAttr K (He.ga K "Race") "own_parts") : ∀ i, MkC P w mg ((famJ K xs).at i) "Race" 12 2 Ph_Race := fun i =>
  ⟨f, fd, ["self", "length", "runners"], hm, hc, (F.bindsN fun _ _ _ _ _ _ us hl => match us, hl with | [_, _, _], _ => rfl), rfl, ok_Race_init (m := i) F c_compare c_is_number m_len g_MAX_RUNNERS m_dict m_isinstance c_is_runner c_is_name k_Race n_Race_own_length c_as_ratio n_Race_own_runners m_sorted c_remainder n_Race_own_parts⟩
theorem k_Race_length {P : Program} {w : World} {mg : Str → Option Value} {K : PySem.W.Frag} {xs : List Int} {f : Addr} {fd : FuncData} {p : Addr} (F : FunD K "length" "Race.length" (defArgs (mtop 52 1)) (defBody (mtop 52 1)) (defScope (mtop 52 1)) [] [] f fd) (hm : PropOf K (He.ga K "Race") "length" p f) (hc : Cls K (He.ga K "Race")) (k_Race : ∀ i, ClsP ((famJ K xs).at i) "Race") (n_Race_own_length : NoAttr K (He.ga K "Race") "own_length") : ∀ i, PrC P w mg ((famJ K xs).at i) "Race" "length" 3 Ph_Race_length := fun i =>
  ⟨⟨p, f, fd, ["self"], hm, (F.bindsN fun _ _ _ _ _ _ us hl => match us, hl with | [_], _ => rfl), ok_Race_length (m := i) F k_Race n_Race_own_length⟩, hc⟩
theorem k_Race_contains {P : Program} {w : World} {mg : Str → Option Value} {K : PySem.W.Frag} {xs : List Int} {f : Addr} {fd : FuncData} (F : FunD K "__contains__" "Race.__contains__" (defArgs (mtop 52 19)) (defBody (mtop 52 19)) (defScope (mtop 52 19)) [] [] f fd) (hm : Meth K (He.ga K "Race") "__contains__" f) (hc : Cls K (He.ga K "Race")) (k_Race : ∀ i, ClsP ((famJ K xs).at i) "Race") (n_Race_own_runners : NoAttr K (He.ga K "Race") "own_runners") (m_str : mg "str" = none) (m_isinstance : mg "isinstance" = none) : ∀ i, MtC P w mg ((famJ K xs).at i) "Race" "__contains__" 3 2 Ph_Race_contains := fun i =>
  ⟨⟨f, fd, ["self", "name"], hm, (F.bindsN fun _ _ _ _ _ _ us hl => match us, hl with | [_, _], _ => rfl), rfl, ok_Race_contains (m := i) F k_Race n_Race_own_runners m_str m_isinstance⟩, hc⟩
theorem k_Race_runner {P : Program} {w : World} {mg : Str → Option Value} {K : PySem.W.Frag} {xs : List Int} {f : Addr} {fd : FuncData} (F : FunD K "runner" "Race.runner" (defArgs (mtop 52 3)) (defBody (mtop 52 3)) (defScope (mtop 52 3)) [] [] f fd) (hm : Meth K (He.ga K "Race") "runner" f) (hc : Cls K (He.ga K "Race")) (c_Race_contains : ∀ i, MtC P w mg ((famJ K xs).at i) "Race" "__contains__" 3 2 Ph_Race_contains) (k_Race : ∀ i, ClsP ((famJ K xs).at i) "Race") (n_Race_own_runners : NoAttr K (He.ga K "Race") "own_runners") : ∀ i, MtC P w mg ((famJ K xs).at i) "Race" "runner" 4 2 Ph_Race_runner := fun i =>
  ⟨⟨f, fd, ["self", "name"], hm, (F.bindsN fun _ _ _ _ _ _ us hl => match us, hl with | [_, _], _ => rfl), rfl, ok_Race_runner (m := i) F c_Race_contains k_Race n_Race_own_runners⟩, hc⟩
theorem k_as_time {P : Program} {w : World} {mg : Str → Option Value} {K : PySem.W.Frag} {xs : List Int} {f : Addr} {fd : FuncData} (F : FunD K "as_time" "as_time" (defArgs (top 48)) (defBody (top 48)) (defScope (top 48)) [] [] f fd) (hm : mg "as_time" = some (.ref f)) (c_compare : ∀ i, FnC P w mg ((famJ K xs).at i) "compare" 8 2 Ph_compare) (c_is_number : ∀ i, FnC P w mg ((famJ K xs).at i) "is_number" 5 1 Ph_is_number) (c_as_ratio : ∀ i, FnC P w mg ((famJ K xs).at i) "as_ratio" 6 1 Ph_as_ratio) : ∀ i, FnC P w mg ((famJ K xs).at i) "as_time" 9 1 Ph_as_time := fun i =>
  ⟨f, fd, ["value"], hm, F.kp, (F.bindsN fun _ _ _ _ _ _ us hl => match us, hl with | [_], _ => rfl), rfl, ok_as_time (m := i) F c_compare c_is_number c_as_ratio⟩
theorem k_plus {P : Program} {w : World} {mg : Str → Option Value} {K : PySem.W.Frag} {xs : List Int} {f : Addr} {fd : FuncData} (F : FunD K "plus" "plus" (defArgs (top 18)) (defBody (top 18)) (defScope (top 18)) [] [] f fd) (hm : mg "plus" = some (.ref f)) (c_as_ratio : ∀ i, FnC P w mg ((famJ K xs).at i) "as_ratio" 6 1 Ph_as_ratio) (c_ratio : ∀ i, FnC P w mg ((famJ K xs).at i) "ratio" 4 2 Ph_ratio) : ∀ i, FnC P w mg ((famJ K xs).at i) "plus" 7 2 Ph_plus := fun i =>
  ⟨f, fd, ["first", "second"], hm, F.kp, (F.bindsN fun _ _ _ _ _ _ us hl => match us, hl with | [_, _], _ => rfl), rfl, ok_plus (m := i) F c_as_ratio c_ratio⟩
theorem k_Race_position {P : Program} {w : World} {mg : Str → Option Value} {K : PySem.W.Frag} {xs : List Int} {f : Addr} {fd : FuncData} (F : FunD K "position" "Race.position" (defArgs (mtop 52 8)) (defBody (mtop 52 8)) (defScope (mtop 52 8)) [] [] f fd) (hm : Meth K (He.ga K "Race") "position" f) (hc : Cls K (He.ga K "Race")) (c_Race_runner : ∀ i, MtC P w mg ((famJ K xs).at i) "Race" "runner" 4 2 Ph_Race_runner) (c_as_time : ∀ i, FnC P w mg ((famJ K xs).at i) "as_time" 9 1 Ph_as_time) (m_enumerate : mg "enumerate" = none) (c_compare : ∀ i, FnC P w mg ((famJ K xs).at i) "compare" 8 2 Ph_compare) (m_len : mg "len" = none) (c_minus : ∀ i, FnC P w mg ((famJ K xs).at i) "minus" 7 2 Ph_minus) (c_times : ∀ i, FnC P w mg ((famJ K xs).at i) "times" 7 2 Ph_times) (c_plus : ∀ i, FnC P w mg ((famJ K xs).at i) "plus" 7 2 Ph_plus) : ∀ i, MtC P w mg ((famJ K xs).at i) "Race" "position" 10 3 Ph_Race_position := fun i =>
  ⟨⟨f, fd, ["self", "name", "time"], hm, (F.bindsN fun _ _ _ _ _ _ us hl => match us, hl with | [_, _, _], _ => rfl), rfl, ok_Race_position (m := i) F c_Race_runner c_as_time m_enumerate c_compare m_len c_minus c_times c_plus⟩, hc⟩
theorem k_Race_place {P : Program} {w : World} {mg : Str → Option Value} {K : PySem.W.Frag} {xs : List Int} {f : Addr} {fd : FuncData} (F : FunD K "place" "Race.place" (defArgs (mtop 52 9)) (defBody (mtop 52 9)) (defScope (mtop 52 9)) [] [] f fd) (hm : Meth K (He.ga K "Race") "place" f) (hc : Cls K (He.ga K "Race")) (c_Race_length : ∀ i, PrC P w mg ((famJ K xs).at i) "Race" "length" 3 Ph_Race_length) (c_Race_position : ∀ i, MtC P w mg ((famJ K xs).at i) "Race" "position" 10 3 Ph_Race_position) (c_remainder : ∀ i, FnC P w mg ((famJ K xs).at i) "remainder" 8 2 Ph_remainder) : ∀ i, MtC P w mg ((famJ K xs).at i) "Race" "place" 11 3 Ph_Race_place := fun i =>
  ⟨⟨f, fd, ["self", "name", "time"], hm, (F.bindsN fun _ _ _ _ _ _ us hl => match us, hl with | [_, _, _], _ => rfl), rfl, ok_Race_place (m := i) F c_Race_length c_Race_position c_remainder⟩, hc⟩
theorem k_validate_length {P : Program} {w : World} {mg : Str → Option Value} {K : PySem.W.Frag} {xs : List Int} {f : Addr} {fd : FuncData} (F : FunD K "validate_length" "validate_length" (defArgs (top 31)) (defBody (top 31)) (defScope (top 31)) [] [] f fd) (hm : mg "validate_length" = some (.ref f)) (c_is_integer : ∀ i, FnC P w mg ((famJ K xs).at i) "is_integer" 3 1 Ph_is_integer) : ∀ i, FnC P w mg ((famJ K xs).at i) "validate_length" 4 1 Ph_validate_length := fun i =>
  ⟨f, fd, ["length"], hm, F.kp, (F.bindsN fun _ _ _ _ _ _ us hl => match us, hl with | [_], _ => rfl), rfl, ok_validate_length (m := i) F c_is_integer⟩
theorem k_is_observation {P : Program} {w : World} {mg : Str → Option Value} {K : PySem.W.Frag} {xs : List Int} {f : Addr} {fd : FuncData} (F : FunD K "is_observation" "is_observation" (defArgs (top 32)) (defBody (top 32)) (defScope (top 32)) [] [] f fd) (hm : mg "is_observation" = some (.ref f)) (m_len : mg "len" = none) (m_tuple : mg "tuple" = none) (m_isinstance : mg "isinstance" = none) (c_is_integer : ∀ i, FnC P w mg ((famJ K xs).at i) "is_integer" 3 1 Ph_is_integer) : ∀ i, FnC P w mg ((famJ K xs).at i) "is_observation" 4 1 Ph_is_observation := fun i =>
  ⟨f, fd, ["value"], hm, F.kp, (F.bindsN fun _ _ _ _ _ _ us hl => match us, hl with | [_], _ => rfl), rfl, ok_is_observation (m := i) F m_len m_tuple m_isinstance c_is_integer⟩
theorem k_validate_observations {P : Program} {w : World} {mg : Str → Option Value} {K : PySem.W.Frag} {xs : List Int} {f : Addr} {fd : FuncData} (F : FunD K "validate_observations" "validate_observations" (defArgs (top 33)) (defBody (top 33)) (defScope (top 33)) [] [] f fd) (hm : mg "validate_observations" = some (.ref f)) (c_validate_length : ∀ i, FnC P w mg ((famJ K xs).at i) "validate_length" 4 1 Ph_validate_length) (m_len : mg "len" = none) (g_MAX_OBSERVATIONS : ∃ t, mg "MAX_OBSERVATIONS" = some (.int 50 t)) (m_tuple : mg "tuple" = none) (m_list : mg "list" = none) (m_isinstance : mg "isinstance" = none) (m_enumerate : mg "enumerate" = none) (c_is_observation : ∀ i, FnC P w mg ((famJ K xs).at i) "is_observation" 4 1 Ph_is_observation) : ∀ i, FnC P w mg ((famJ K xs).at i) "validate_observations" 5 2 Ph_validate_observations := fun i =>
  ⟨f, fd, ["length", "observations"], hm, F.kp, (F.bindsN fun _ _ _ _ _ _ us hl => match us, hl with | [_, _], _ => rfl), rfl, ok_validate_observations (m := i) F c_validate_length m_len g_MAX_OBSERVATIONS m_tuple m_list m_isinstance m_enumerate c_is_observation⟩
theorem k_extended_divisor {P : Program} {w : World} {mg : Str → Option Value} {K : PySem.W.Frag} {xs : List Int} {f : Addr} {fd : FuncData} (F : FunD K "extended_divisor" "extended_divisor" (defArgs (top 26)) (defBody (top 26)) (defScope (top 26)) [] [] f fd) (hm : mg "extended_divisor" = some (.ref f)) (m_zip : mg "zip" = none) (m_tuple : mg "tuple" = none) : ∀ i, FnC P w mg ((famJ K xs).at i) "extended_divisor" 3 2 Ph_extended_divisor := fun i =>
  ⟨f, fd, ["first", "second"], hm, F.kp, (F.bindsN fun _ _ _ _ _ _ us hl => match us, hl with | [_, _], _ => rfl), rfl, ok_extended_divisor (m := i) F m_zip m_tuple⟩
theorem k_combined {P : Program} {w : World} {mg : Str → Option Value} {K : PySem.W.Frag} {xs : List Int} {f : Addr} {fd : FuncData} (F : FunD K "combined" "combined" (defArgs (top 27)) (defBody (top 27)) (defScope (top 27)) [] [] f fd) (hm : mg "combined" = some (.ref f)) (c_extended_divisor : ∀ i, FnC P w mg ((famJ K xs).at i) "extended_divisor" 3 2 Ph_extended_divisor) : ∀ i, FnC P w mg ((famJ K xs).at i) "combined" 4 1 Ph_combined := fun i =>
  ⟨f, fd, ["numbers"], hm, F.kp, (F.bindsN fun _ _ _ _ _ _ us hl => match us, hl with | [_], _ => rfl), rfl, ok_combined (m := i) F c_extended_divisor⟩
theorem k_combined_times {P : Program} {w : World} {mg : Str → Option Value} {K : PySem.W.Frag} {xs : List Int} {f : Addr} {fd : FuncData} (F : FunD K "combined_times" "combined_times" (defArgs (top 34)) (defBody (top 34)) (defScope (top 34)) [] [] f fd) (hm : mg "combined_times" = some (.ref f)) (c_combined : ∀ i, FnC P w mg ((famJ K xs).at i) "combined" 4 1 Ph_combined) : ∀ i, FnC P w mg ((famJ K xs).at i) "combined_times" 5 2 Ph_combined_times := fun i =>
  ⟨f, fd, ["length", "observations"], hm, F.kp, (F.bindsN fun _ _ _ _ _ _ us hl => match us, hl with | [_, _], _ => rfl), rfl, ok_combined_times (m := i) F c_combined⟩
theorem k_find_class {P : Program} {w : World} {mg : Str → Option Value} {K : PySem.W.Frag} {xs : List Int} {f : Addr} {fd : FuncData} (F : FunD K "find_class" "find_class" (defArgs (top 35)) (defBody (top 35)) (defScope (top 35)) [] [] f fd) (hm : mg "find_class" = some (.ref f)) (c_combined_times : ∀ i, FnC P w mg ((famJ K xs).at i) "combined_times" 5 2 Ph_combined_times) (m_zip : mg "zip" = none) (m_sum : mg "sum" = none) (m_tuple : mg "tuple" = none) (m_enumerate : mg "enumerate" = none) (m_int : mg "int" = none) : ∀ i, FnC P w mg ((famJ K xs).at i) "find_class" 6 2 Ph_find_class := fun i =>
  ⟨f, fd, ["length", "observations"], hm, F.kp, (F.bindsN fun _ _ _ _ _ _ us hl => match us, hl with | [_, _], _ => rfl), rfl, ok_find_class (m := i) F c_combined_times m_zip m_sum m_tuple m_enumerate m_int⟩
theorem k_NoSpeed_init {P : Program} {w : World} {mg : Str → Option Value} {K : PySem.W.Frag} {f : Addr} {fd : FuncData} (F : FunD K "__init__" "NoSpeed.__init__" (defArgs (mtop 10 0)) (defBody (mtop 10 0)) (defScope (mtop 10 0)) [] [] f fd) (O : L3X.OxC K "LookupError.__new__" (xTl "LookupError") (He.ga K "NoSpeed")) (hno : PySem.W.findIn K (.ref (He.ga K "NoSpeed")) "refusal" = some none) (hm : mg "LookupError" = none) (gm : mg "NoSpeed" = some (.ref (He.ga K "NoSpeed"))) (i1 : PySem.W.findIn K (.ref (He.ga K "NoSpeed")) "__init__" = some (some (.ref f))) (i2 : PySem.W.typeIn K (.ref f) = some (.type "function")) : XcOk P w mg K "LookupError.__new__" (xTl "LookupError") "NoSpeed" "refusal" 2 :=
  ⟨O, gm, f, fd, ["self", "refusal"], i1, i2, F.bindsN fun _ _ _ _ _ _ us hl => match us, hl with | [_, _], _ => rfl, ok_NoSpeed_init (xs := []) (m := 0) F O hno hm⟩
theorem k_fitting_speeds {P : Program} {w : World} {mg : Str → Option Value} {K : PySem.W.Frag} {xs : List Int} {f : Addr} {fd : FuncData} (F : FunD K "fitting_speeds" "fitting_speeds" (defArgs (top 36)) (defBody (top 36)) (defScope (top 36)) [] [] f fd) (hm : mg "fitting_speeds" = some (.ref f)) (c_validate_observations : ∀ i, FnC P w mg ((famJ K xs).at i) "validate_observations" 5 2 Ph_validate_observations) (c_find_class : ∀ i, FnC P w mg ((famJ K xs).at i) "find_class" 6 2 Ph_find_class) (x_NoSpeed : XcOk P w mg K "LookupError.__new__" (xTl "LookupError") "NoSpeed" "refusal" 2) : ∀ i, FnCX P w mg (famJ K xs) i (i + 0) "fitting_speeds" 7 2 Ph_fitting_speeds := fun i  =>
  ⟨f, fd, ["length", "observations"], hm, F.kp, (F.bindsN fun _ _ _ _ _ _ us hl => match us, hl with | [_, _], _ => rfl), rfl, ok_fitting_speeds (m := i)  F c_validate_observations c_find_class x_NoSpeed⟩
theorem k_law_divisor {P : Program} {w : World} {mg : Str → Option Value} {K : PySem.W.Frag} {xs : List Int} {f : Addr} {fd : FuncData} (F : FunD K "_law_divisor" "_law_divisor" (defArgs (top 56)) (defBody (top 56)) (defScope (top 56)) [] [] f fd) (hm : mg "_law_divisor" = some (.ref f))  : ∀ i, FnC P w mg ((famJ K xs).at i) "_law_divisor" 3 2 Ph_law_divisor := fun i =>
  ⟨f, fd, ["size", "seen"], hm, F.kp, (F.bindsN fun _ _ _ _ _ _ us hl => match us, hl with | [_, _], _ => rfl), rfl, ok_law_divisor (m := i) F ⟩
theorem k_validate_bounds {P : Program} {w : World} {mg : Str → Option Value} {K : PySem.W.Frag} {xs : List Int} {f : Addr} {fd : FuncData} (F : FunD K "validate_bounds" "validate_bounds" (defArgs (top 38)) (defBody (top 38)) (defScope (top 38)) [] [] f fd) (hm : mg "validate_bounds" = some (.ref f)) (c_is_integer : ∀ i, FnC P w mg ((famJ K xs).at i) "is_integer" 3 1 Ph_is_integer) : ∀ i, FnC P w mg ((famJ K xs).at i) "validate_bounds" 4 2 Ph_validate_bounds := fun i =>
  ⟨f, fd, ["low", "high"], hm, F.kp, (F.bindsN fun _ _ _ _ _ _ us hl => match us, hl with | [_, _], _ => rfl), rfl, ok_validate_bounds (m := i) F c_is_integer⟩
theorem k_count_speeds {P : Program} {w : World} {mg : Str → Option Value} {K : PySem.W.Frag} {xs : List Int} {f : Addr} {fd : FuncData} (F : FunD K "count_speeds" "count_speeds" (defArgs (top 39)) (defBody (top 39)) (defScope (top 39)) [] [] f fd) (hm : mg "count_speeds" = some (.ref f)) (c_validate_observations : ∀ i, FnC P w mg ((famJ K xs).at i) "validate_observations" 5 2 Ph_validate_observations) (c_validate_bounds : ∀ i, FnC P w mg ((famJ K xs).at i) "validate_bounds" 4 2 Ph_validate_bounds) (c_find_class : ∀ i, FnC P w mg ((famJ K xs).at i) "find_class" 6 2 Ph_find_class) : ∀ i, FnC P w mg ((famJ K xs).at i) "count_speeds" 7 4 Ph_count_speeds := fun i =>
  ⟨f, fd, ["length", "observations", "low", "high"], hm, F.kp, (F.bindsN fun _ _ _ _ _ _ us hl => match us, hl with | [_, _, _, _], _ => rfl), rfl, ok_count_speeds (m := i) F c_validate_observations c_validate_bounds c_find_class⟩
theorem k_speeds_between {P : Program} {w : World} {mg : Str → Option Value} {K : PySem.W.Frag} {xs : List Int} {f : Addr} {fd : FuncData} (F : FunD K "speeds_between" "speeds_between" (defArgs (top 40)) (defBody (top 40)) (defScope (top 40)) [] [] f fd) (hm : mg "speeds_between" = some (.ref f)) (c_count_speeds : ∀ i, FnC P w mg ((famJ K xs).at i) "count_speeds" 7 4 Ph_count_speeds) (g_MAX_SPEEDS : ∃ t, mg "MAX_SPEEDS" = some (.int 2000 t)) (c_find_class : ∀ i, FnC P w mg ((famJ K xs).at i) "find_class" 6 2 Ph_find_class) (m_range : mg "range" = none) : ∀ i, FnC P w mg ((famJ K xs).at i) "speeds_between" 8 4 Ph_speeds_between := fun i =>
  ⟨f, fd, ["length", "observations", "low", "high"], hm, F.kp, (F.bindsN fun _ _ _ _ _ _ us hl => match us, hl with | [_, _, _, _], _ => rfl), rfl, ok_speeds_between (m := i) F c_count_speeds g_MAX_SPEEDS c_find_class m_range⟩
theorem k_next_look {P : Program} {w : World} {mg : Str → Option Value} {K : PySem.W.Frag} {xs : List Int} {f : Addr} {fd : FuncData} (F : FunD K "next_look" "next_look" (defArgs (top 41)) (defBody (top 41)) (defScope (top 41)) [] [("after", .int 0)] f fd) (hm : mg "next_look" = some (.ref f)) (c_count_speeds : ∀ i, FnC P w mg ((famJ K xs).at i) "count_speeds" 7 4 Ph_count_speeds) (c_is_integer : ∀ i, FnC P w mg ((famJ K xs).at i) "is_integer" 3 1 Ph_is_integer) (c_combined_times : ∀ i, FnC P w mg ((famJ K xs).at i) "combined_times" 5 2 Ph_combined_times) (c_common_divisor : ∀ i, FnC P w mg ((famJ K xs).at i) "common_divisor" 3 2 Ph_common_divisor) : ∀ i, FnCD P w mg ((famJ K xs).at i) "next_look" 8 4 [0] Ph_next_look := fun i => by
  obtain ⟨ds, hv, hb⟩ := F.binds0 (ps := ["length", "observations", "low", "high", "after"]) 4 (by simp) rfl (fun D doc pm an cdv ct us ks hu hk => match us, hu, ks, hk with | [_, _, _, _], _, [_], _ => ⟨_, _, _, _, _, _, rfl, rfl, (show _ = pure _ by kernel_rfl)⟩)
  exact ⟨f, fd, ["length", "observations", "low", "high", "after"], ds, hm, F.kp, hv, hb, rfl, ok_next_look (m := i) F c_count_speeds c_is_integer c_combined_times c_common_divisor⟩
theorem k_law_refusal {P : Program} {w : World} {mg : Str → Option Value} {K : PySem.W.Frag} {xs : List Int} {f : Addr} {fd : FuncData} (F : FunD K "_law_refusal" "_law_refusal" (defArgs (top 57)) (defBody (top 57)) (defScope (top 57)) [] [] f fd) (hm : mg "_law_refusal" = some (.ref f)) (c_fitting_speeds : ∀ i, FnCX P w mg (famJ K xs) i (i + 0) "fitting_speeds" 7 2 Ph_fitting_speeds) (xf_NoSpeed : XfC K (He.ga K "NoSpeed")) (xn_NoSpeed_refusal : PySem.W.findIn K (.ref (He.ga K "NoSpeed")) "refusal" = some none) (nm_NoSpeed : mg "NoSpeed" = some (.ref (He.ga K "NoSpeed"))) (xm_NoSpeed : PySem.W.exmOne K (.ref (He.ga K "NoSpeed")) (.ref (He.ga K "NoSpeed")) = some true) : ∀ i, FnC P w mg ((famJ K xs).at i) "_law_refusal" 8 2 Ph_law_refusal := fun i  =>
  ⟨f, fd, ["size", "seen"], hm, F.kp, (F.bindsN fun _ _ _ _ _ _ us hl => match us, hl with | [_, _], _ => rfl), rfl, ok_law_refusal (m := i)  F c_fitting_speeds xf_NoSpeed xn_NoSpeed_refusal nm_NoSpeed xm_NoSpeed⟩
theorem k_is_no_speed {P : Program} {w : World} {mg : Str → Option Value} {K : PySem.W.Frag} {xs : List Int} {f : Addr} {fd : FuncData} (F : FunD K "is_no_speed" "is_no_speed" (defArgs (top 37)) (defBody (top 37)) (defScope (top 37)) [] [] f fd) (hm : mg "is_no_speed" = some (.ref f)) (c_validate_observations : ∀ i, FnC P w mg ((famJ K xs).at i) "validate_observations" 5 2 Ph_validate_observations) (m_len : mg "len" = none) (m_tuple : mg "tuple" = none) (m_isinstance : mg "isinstance" = none) (c_is_integer : ∀ i, FnC P w mg ((famJ K xs).at i) "is_integer" 3 1 Ph_is_integer) (m_all : mg "all" = none) (m_zip : mg "zip" = none) (m_sum : mg "sum" = none) : ∀ i, FnC P w mg ((famJ K xs).at i) "is_no_speed" 6 3 Ph_is_no_speed := fun i =>
  ⟨f, fd, ["length", "observations", "value"], hm, F.kp, (F.bindsN fun _ _ _ _ _ _ us hl => match us, hl with | [_, _, _], _ => rfl), rfl, ok_is_no_speed (m := i) F c_validate_observations m_len m_tuple m_isinstance c_is_integer m_all m_zip m_sum⟩
theorem k_law {P : Program} {w : World} {mg : Str → Option Value} {K : PySem.W.Frag} {xs : List Int} {f : Addr} {fd : FuncData} (F : FunD K "law" "law" (defArgs (top 58)) (defBody (top 58)) (defScope (top 58)) [] [] f fd) (hm : mg "law" = some (.ref f)) (c_law_pool : ∀ i, FnC P w mg ((famJ K xs).at i) "_law_pool" 3 1 (Ph_law_pool xs)) (m_range : mg "range" = none) (c_law_draw : ∀ i, i + 1 ≤ 1152921504606846976 → FnC2 P w mg (famJ K xs) i (i + 1) "_law_draw" 3 2 Ph_law_draw) (c_Race : ∀ i, MkC P w mg ((famJ K xs).at i) "Race" 12 2 Ph_Race) (c_Race_place : ∀ i, MtC P w mg ((famJ K xs).at i) "Race" "place" 11 3 Ph_Race_place) (c_fitting_speeds : ∀ i, FnCX P w mg (famJ K xs) i (i + 0) "fitting_speeds" 7 2 Ph_fitting_speeds) (c_law_divisor : ∀ i, FnC P w mg ((famJ K xs).at i) "_law_divisor" 3 2 Ph_law_divisor) (c_speeds_between : ∀ i, FnC P w mg ((famJ K xs).at i) "speeds_between" 8 4 Ph_speeds_between) (c_count_speeds : ∀ i, FnC P w mg ((famJ K xs).at i) "count_speeds" 7 4 Ph_count_speeds) (c_next_look : ∀ i, FnCD P w mg ((famJ K xs).at i) "next_look" 8 4 [0] Ph_next_look) (c_law_refusal : ∀ i, FnC P w mg ((famJ K xs).at i) "_law_refusal" 8 2 Ph_law_refusal) (c_is_no_speed : ∀ i, FnC P w mg ((famJ K xs).at i) "is_no_speed" 6 3 Ph_is_no_speed) (m_len : mg "len" = none) : ∀ i, i + 81 ≤ 1152921504606846976 → FnC2 P w mg (famJ K xs) i (i + 81) "law" 14 1 (Ph_law xs) := fun i hi =>
  ⟨f, fd, ["script"], hm, F.kp, (F.bindsN fun _ _ _ _ _ _ us hl => match us, hl with | [_], _ => rfl), rfl, ok_law (m := i) hi F c_law_pool m_range c_law_draw c_Race c_Race_place c_fitting_speeds c_law_divisor c_speeds_between c_count_speeds c_next_look c_law_refusal c_is_no_speed m_len⟩
end G


/-! ## FF96 -/
namespace G
open PySem PySem.Spec PyProof.Rows L2 L3
theorem fnOk_ex {P : Program} {w : World} {K : PySem.W.Frag} {mg : Str → Option Value} {base : Heap} {k : Nat} {f : Addr} {fd : FuncData} {ps : List Str} {sp : List Int → Sp} (h : ∀ xs, FnOk P w K mg base CX0 k f fd ps (sp xs)) : FnOk P w K mg base CX0 k f fd ps (fun vs H Q E => ∃ xs, sp xs vs H Q E) where
  len := fun vs H Q E ⟨xs, q⟩ => (h xs).len vs H Q E q
  run := fun A outer s H args us vs Q E hr he hb hv ⟨xs, q⟩ => (h xs).run A outer s H args us vs Q E hr he hb hv q
theorem facts {P : Program} {w : World} {K : PySem.W.Frag} {h : Heap} {mg : Str → Option Value} (X : K.In h) (G : h.Ns mainGlobals mg) (c : HY.Says fal prl xcl fnl K) : ∃ fd : FuncData, FunD K "law" "law" (defArgs (top 58)) (defBody (top 58)) (defScope (top 58)) [] [] (He.ga K "law") fd ∧ mg "law" = some (.ref (He.ga K "law")) ∧ ∀ base : Heap, FnOk P w K mg base CX0 14 (He.ga K "law") fd ["script"] (fun vs H Q E => ∃ xs, spP2 (famJ K xs) 0 (0 + 81) (Ph_law xs) vs H Q E) := by
  obtain ⟨fd_law, F_law⟩ := c.def_ 42 (d := d_law) rfl
  refine ⟨fd_law, F_law, He.glo_ok X G (c.fact 69 (f := .glo "law") rfl), fun base => fnOk_ex fun xs => ?_⟩
  have m_int : mg "int" = none := He.free_ok X G (c.fact 0 (f := .free "int") rfl)
  have m_len : mg "len" = none := He.free_ok X G (c.fact 1 (f := .free "len") rfl)
  have m_bool : mg "bool" = none := He.free_ok X G (c.fact 2 (f := .free "bool") rfl)
  have m_isinstance : mg "isinstance" = none := He.free_ok X G (c.fact 3 (f := .free "isinstance") rfl)
  have m_abs : mg "abs" = none := He.free_ok X G (c.fact 4 (f := .free "abs") rfl)
  have m_tuple : mg "tuple" = none := He.free_ok X G (c.fact 6 (f := .free "tuple") rfl)
  have g_MAX_PIECES : ∃ t, mg "MAX_PIECES" = some (.int 20 t) := He.int_ok X G (c.fact 14 (f := .int "MAX_PIECES" 20) rfl)
  have m_list : mg "list" = none := He.free_ok X G (c.fact 15 (f := .free "list") rfl)
  have m_all : mg "all" = none := He.free_ok X G (c.fact 17 (f := .free "all") rfl)
  have m_range : mg "range" = none := He.free_ok X G (c.fact 18 (f := .free "range") rfl)
  have m_str : mg "str" = none := He.free_ok X G (c.fact 20 (f := .free "str") rfl)
  have g_SIGNS : ∃ t, mg "SIGNS" = some (.str "abcdefghijklmnopqrstuvwxyz0123456789" t) := He.str_ok X G (c.fact 21 (f := .str "SIGNS" "abcdefghijklmnopqrstuvwxyz0123456789") rfl)
  have g_LETTERS : ∃ t, mg "LETTERS" = some (.str "abcdefghijklmnopqrstuvwxyz" t) := He.str_ok X G (c.fact 22 (f := .str "LETTERS" "abcdefghijklmnopqrstuvwxyz") rfl)
  have g_MAX_RUNNERS : ∃ t, mg "MAX_RUNNERS" = some (.int 12 t) := He.int_ok X G (c.fact 26 (f := .int "MAX_RUNNERS" 12) rfl)
  have m_dict : mg "dict" = none := He.free_ok X G (c.fact 27 (f := .free "dict") rfl)
  have k_Race : ∀ i, ClsP ((famJ K xs).at i) "Race" := fun i => He.cls_ok (c.fact 30 (f := .cls "Race") rfl)
  have n_Race_own_length : NoAttr K (He.ga K "Race") "own_length" := He.noat_ok (c.fact 31 (f := .noat "Race" "own_length") rfl)
  have n_Race_own_runners : NoAttr K (He.ga K "Race") "own_runners" := He.noat_ok (c.fact 32 (f := .noat "Race" "own_runners") rfl)
  have m_sorted : mg "sorted" = none := He.free_ok X G (c.fact 33 (f := .free "sorted") rfl)
  have n_Race_own_parts : NoAttr K (He.ga K "Race") "own_parts" := He.noat_ok (c.fact 35 (f := .noat "Race" "own_parts") rfl)
  have m_enumerate : mg "enumerate" = none := He.free_ok X G (c.fact 39 (f := .free "enumerate") rfl)
  have g_MAX_OBSERVATIONS : ∃ t, mg "MAX_OBSERVATIONS" = some (.int 50 t) := He.int_ok X G (c.fact 43 (f := .int "MAX_OBSERVATIONS" 50) rfl)
  have m_zip : mg "zip" = none := He.free_ok X G (c.fact 45 (f := .free "zip") rfl)
  have m_sum : mg "sum" = none := He.free_ok X G (c.fact 49 (f := .free "sum") rfl)
  have nm_NoSpeed : mg "NoSpeed" = some (.ref (He.ga K "NoSpeed")) := He.glo_ok X G (c.fact 50 (f := .glo "NoSpeed") rfl)
  have n_NoSpeed_refusal : NoAttr K (He.ga K "NoSpeed") "refusal" := He.noat_ok (c.fact 51 (f := .noat "NoSpeed" "refusal") rfl)
  have xn_NoSpeed_refusal : PySem.W.findIn K (.ref (He.ga K "NoSpeed")) "refusal" = some none := n_NoSpeed_refusal
  have m_LookupError : mg "LookupError" = none := He.free_ok X G (c.fact 52 (f := .free "LookupError") rfl)
  have g_MAX_SPEEDS : ∃ t, mg "MAX_SPEEDS" = some (.int 2000 t) := He.int_ok X G (c.fact 57 (f := .int "MAX_SPEEDS" 2000) rfl)
  have xx_NoSpeed := c.xc 0 (x := ⟨"NoSpeed", "LookupError.__new__", xTl "LookupError"⟩) rfl
  have xf_NoSpeed : XfC K (He.ga K "NoSpeed") := HY.XcE.xf xx_NoSpeed
  have xm_NoSpeed : PySem.W.exmOne K (.ref (He.ga K "NoSpeed")) (.ref (He.ga K "NoSpeed")) = some true := HY.XcE.xm xx_NoSpeed
  obtain ⟨fd_law_pool, F_law_pool⟩ := c.def_ 0 (d := d_law_pool) rfl
  have c_law_pool := k_law_pool (P := P) (w := w) (xs := xs) F_law_pool (He.glo_ok X G (c.fact 59 (f := .glo "_law_pool") rfl)) 
  obtain ⟨fd_law_draw, F_law_draw⟩ := c.def_ 1 (d := d_law_draw) rfl
  have c_law_draw := k_law_draw (P := P) (w := w) (xs := xs) F_law_draw (He.glo_ok X G (c.fact 60 (f := .glo "_law_draw") rfl)) m_int m_len
  obtain ⟨fd_is_integer, F_is_integer⟩ := c.def_ 2 (d := d_is_integer) rfl
  have c_is_integer := k_is_integer (P := P) (w := w) (xs := xs) F_is_integer (He.glo_ok X G (c.fact 5 (f := .glo "is_integer") rfl)) m_bool m_isinstance m_int
  obtain ⟨fd_common_divisor, F_common_divisor⟩ := c.def_ 3 (d := d_common_divisor) rfl
  have c_common_divisor := k_common_divisor (P := P) (w := w) (xs := xs) F_common_divisor (He.glo_ok X G (c.fact 7 (f := .glo "common_divisor") rfl)) m_abs
  obtain ⟨fd_is_ratio, F_is_ratio⟩ := c.def_ 4 (d := d_is_ratio) rfl
  have c_is_ratio := k_is_ratio (P := P) (w := w) (xs := xs) F_is_ratio (He.glo_ok X G (c.fact 8 (f := .glo "is_ratio") rfl)) c_is_integer m_len m_tuple m_isinstance c_common_divisor
  obtain ⟨fd_is_number, F_is_number⟩ := c.def_ 5 (d := d_is_number) rfl
  have c_is_number := k_is_number (P := P) (w := w) (xs := xs) F_is_number (He.glo_ok X G (c.fact 9 (f := .glo "is_number") rfl)) c_is_ratio c_is_integer
  obtain ⟨fd_as_ratio, F_as_ratio⟩ := c.def_ 6 (d := d_as_ratio) rfl
  have c_as_ratio := k_as_ratio (P := P) (w := w) (xs := xs) F_as_ratio (He.glo_ok X G (c.fact 10 (f := .glo "as_ratio") rfl)) c_is_number c_is_integer
  obtain ⟨fd_ratio, F_ratio⟩ := c.def_ 7 (d := d_ratio) rfl
  have c_ratio := k_ratio (P := P) (w := w) (xs := xs) F_ratio (He.glo_ok X G (c.fact 11 (f := .glo "ratio") rfl)) c_is_integer c_common_divisor
  obtain ⟨fd_minus, F_minus⟩ := c.def_ 8 (d := d_minus) rfl
  have c_minus := k_minus (P := P) (w := w) (xs := xs) F_minus (He.glo_ok X G (c.fact 12 (f := .glo "minus") rfl)) c_as_ratio c_ratio
  obtain ⟨fd_compare, F_compare⟩ := c.def_ 9 (d := d_compare) rfl
  have c_compare := k_compare (P := P) (w := w) (xs := xs) F_compare (He.glo_ok X G (c.fact 13 (f := .glo "compare") rfl)) c_minus
  obtain ⟨fd_is_piece, F_is_piece⟩ := c.def_ 10 (d := d_is_piece) rfl
  have c_is_piece := k_is_piece (P := P) (w := w) (xs := xs) F_is_piece (He.glo_ok X G (c.fact 16 (f := .glo "is_piece") rfl)) m_len m_tuple m_isinstance c_compare c_is_number
  obtain ⟨fd_are_pieces, F_are_pieces⟩ := c.def_ 11 (d := d_are_pieces) rfl
  have c_are_pieces := k_are_pieces (P := P) (w := w) (xs := xs) F_are_pieces (He.glo_ok X G (c.fact 19 (f := .glo "are_pieces") rfl)) m_len g_MAX_PIECES m_tuple m_list m_isinstance c_compare c_is_piece m_all m_range
  obtain ⟨fd_is_runner, F_is_runner⟩ := c.def_ 12 (d := d_is_runner) rfl
  have c_is_runner := k_is_runner (P := P) (w := w) (xs := xs) F_is_runner (He.glo_ok X G (c.fact 28 (f := .glo "is_runner") rfl)) c_are_pieces c_is_number m_len m_tuple m_isinstance
  obtain ⟨fd_is_name, F_is_name⟩ := c.def_ 13 (d := d_is_name) rfl
  have c_is_name := k_is_name (P := P) (w := w) (xs := xs) F_is_name (He.glo_ok X G (c.fact 29 (f := .glo "is_name") rfl)) m_len m_str m_isinstance g_SIGNS m_all g_LETTERS
  obtain ⟨fd_divided, F_divided⟩ := c.def_ 14 (d := d_divided) rfl
  have c_divided := k_divided (P := P) (w := w) (xs := xs) F_divided (He.glo_ok X G (c.fact 23 (f := .glo "divided") rfl)) c_as_ratio c_ratio
  obtain ⟨fd_floor_of, F_floor_of⟩ := c.def_ 15 (d := d_floor_of) rfl
  have c_floor_of := k_floor_of (P := P) (w := w) (xs := xs) F_floor_of (He.glo_ok X G (c.fact 24 (f := .glo "floor_of") rfl)) c_as_ratio
  obtain ⟨fd_times, F_times⟩ := c.def_ 16 (d := d_times) rfl
  have c_times := k_times (P := P) (w := w) (xs := xs) F_times (He.glo_ok X G (c.fact 25 (f := .glo "times") rfl)) c_as_ratio c_ratio
  obtain ⟨fd_remainder, F_remainder⟩ := c.def_ 17 (d := d_remainder) rfl
  have c_remainder := k_remainder (P := P) (w := w) (xs := xs) F_remainder (He.glo_ok X G (c.fact 34 (f := .glo "remainder") rfl)) c_as_ratio c_divided c_floor_of c_times c_minus
  obtain ⟨fd_Race_init, F_Race_init⟩ := c.def_ 18 (d := d_Race_init) rfl
  have c_Race := k_Race_init (P := P) (w := w) (xs := xs) F_Race_init (He.glo_ok X G (c.fact 61 (f := .glo "Race") rfl)) (He.mkr_ok (c.fact 62 (f := .mkr "Race") rfl)) c_compare c_is_number m_len g_MAX_RUNNERS m_dict m_isinstance c_is_runner c_is_name k_Race n_Race_own_length c_as_ratio n_Race_own_runners m_sorted c_remainder n_Race_own_parts
  obtain ⟨fd_Race_length, F_Race_length⟩ := c.def_ 19 (d := d_Race_length) rfl
  have c_Race_length := k_Race_length (P := P) (w := w) (mg := mg) (xs := xs) F_Race_length (HY.propOk (c.prop 0 (q := ("Race", "length")) rfl)) (k_Race 0) k_Race n_Race_own_length
  obtain ⟨fd_Race_contains, F_Race_contains⟩ := c.def_ 20 (d := d_Race_contains) rfl
  have c_Race_contains := k_Race_contains (P := P) (w := w) (mg := mg) (xs := xs) F_Race_contains (He.meth_ok (c.fact 36 (f := .meth "Race" "__contains__") rfl)) (k_Race 0) k_Race n_Race_own_runners m_str m_isinstance
  obtain ⟨fd_Race_runner, F_Race_runner⟩ := c.def_ 21 (d := d_Race_runner) rfl
  have c_Race_runner := k_Race_runner (P := P) (w := w) (mg := mg) (xs := xs) F_Race_runner (He.meth_ok (c.fact 37 (f := .meth "Race" "runner") rfl)) (k_Race 0) c_Race_contains k_Race n_Race_own_runners
  obtain ⟨fd_as_time, F_as_time⟩ := c.def_ 22 (d := d_as_time) rfl
  have c_as_time := k_as_time (P := P) (w := w) (xs := xs) F_as_time (He.glo_ok X G (c.fact 38 (f := .glo "as_time") rfl)) c_compare c_is_number c_as_ratio
  obtain ⟨fd_plus, F_plus⟩ := c.def_ 23 (d := d_plus) rfl
  have c_plus := k_plus (P := P) (w := w) (xs := xs) F_plus (He.glo_ok X G (c.fact 40 (f := .glo "plus") rfl)) c_as_ratio c_ratio
  obtain ⟨fd_Race_position, F_Race_position⟩ := c.def_ 24 (d := d_Race_position) rfl
  have c_Race_position := k_Race_position (P := P) (w := w) (mg := mg) (xs := xs) F_Race_position (He.meth_ok (c.fact 41 (f := .meth "Race" "position") rfl)) (k_Race 0) c_Race_runner c_as_time m_enumerate c_compare m_len c_minus c_times c_plus
  obtain ⟨fd_Race_place, F_Race_place⟩ := c.def_ 25 (d := d_Race_place) rfl
  have c_Race_place := k_Race_place (P := P) (w := w) (mg := mg) (xs := xs) F_Race_place (He.meth_ok (c.fact 63 (f := .meth "Race" "place") rfl)) (k_Race 0) c_Race_length c_Race_position c_remainder
  obtain ⟨fd_validate_length, F_validate_length⟩ := c.def_ 26 (d := d_validate_length) rfl
  have c_validate_length := k_validate_length (P := P) (w := w) (xs := xs) F_validate_length (He.glo_ok X G (c.fact 42 (f := .glo "validate_length") rfl)) c_is_integer
  obtain ⟨fd_is_observation, F_is_observation⟩ := c.def_ 27 (d := d_is_observation) rfl
  have c_is_observation := k_is_observation (P := P) (w := w) (xs := xs) F_is_observation (He.glo_ok X G (c.fact 44 (f := .glo "is_observation") rfl)) m_len m_tuple m_isinstance c_is_integer
  obtain ⟨fd_validate_observations, F_validate_observations⟩ := c.def_ 28 (d := d_validate_observations) rfl
  have c_validate_observations := k_validate_observations (P := P) (w := w) (xs := xs) F_validate_observations (He.glo_ok X G (c.fact 53 (f := .glo "validate_observations") rfl)) c_validate_length m_len g_MAX_OBSERVATIONS m_tuple m_list m_isinstance m_enumerate c_is_observation
  obtain ⟨fd_extended_divisor, F_extended_divisor⟩ := c.def_ 29 (d := d_extended_divisor) rfl
  have c_extended_divisor := k_extended_divisor (P := P) (w := w) (xs := xs) F_extended_divisor (He.glo_ok X G (c.fact 46 (f := .glo "extended_divisor") rfl)) m_zip m_tuple
  obtain ⟨fd_combined, F_combined⟩ := c.def_ 30 (d := d_combined) rfl
  have c_combined := k_combined (P := P) (w := w) (xs := xs) F_combined (He.glo_ok X G (c.fact 47 (f := .glo "combined") rfl)) c_extended_divisor
  obtain ⟨fd_combined_times, F_combined_times⟩ := c.def_ 31 (d := d_combined_times) rfl
  have c_combined_times := k_combined_times (P := P) (w := w) (xs := xs) F_combined_times (He.glo_ok X G (c.fact 48 (f := .glo "combined_times") rfl)) c_combined
  obtain ⟨fd_find_class, F_find_class⟩ := c.def_ 32 (d := d_find_class) rfl
  have c_find_class := k_find_class (P := P) (w := w) (xs := xs) F_find_class (He.glo_ok X G (c.fact 54 (f := .glo "find_class") rfl)) c_combined_times m_zip m_sum m_tuple m_enumerate m_int
  obtain ⟨fd_NoSpeed_init, F_NoSpeed_init⟩ := c.def_ 33 (d := d_NoSpeed_init) rfl
  have x_NoSpeed := k_NoSpeed_init (P := P) (w := w) F_NoSpeed_init (HY.XcE.ox xx_NoSpeed) xn_NoSpeed_refusal m_LookupError nm_NoSpeed (HY.XcE.ini xx_NoSpeed).1 (HY.XcE.ini xx_NoSpeed).2
  obtain ⟨fd_fitting_speeds, F_fitting_speeds⟩ := c.def_ 34 (d := d_fitting_speeds) rfl
  have c_fitting_speeds := k_fitting_speeds (P := P) (w := w) (xs := xs) F_fitting_speeds (He.glo_ok X G (c.fact 58 (f := .glo "fitting_speeds") rfl)) c_validate_observations c_find_class x_NoSpeed
  obtain ⟨fd_law_divisor, F_law_divisor⟩ := c.def_ 35 (d := d_law_divisor) rfl
  have c_law_divisor := k_law_divisor (P := P) (w := w) (xs := xs) F_law_divisor (He.glo_ok X G (c.fact 64 (f := .glo "_law_divisor") rfl)) 
  obtain ⟨fd_validate_bounds, F_validate_bounds⟩ := c.def_ 36 (d := d_validate_bounds) rfl
  have c_validate_bounds := k_validate_bounds (P := P) (w := w) (xs := xs) F_validate_bounds (He.glo_ok X G (c.fact 55 (f := .glo "validate_bounds") rfl)) c_is_integer
  obtain ⟨fd_count_speeds, F_count_speeds⟩ := c.def_ 37 (d := d_count_speeds) rfl
  have c_count_speeds := k_count_speeds (P := P) (w := w) (xs := xs) F_count_speeds (He.glo_ok X G (c.fact 56 (f := .glo "count_speeds") rfl)) c_validate_observations c_validate_bounds c_find_class
  obtain ⟨fd_speeds_between, F_speeds_between⟩ := c.def_ 38 (d := d_speeds_between) rfl
  have c_speeds_between := k_speeds_between (P := P) (w := w) (xs := xs) F_speeds_between (He.glo_ok X G (c.fact 65 (f := .glo "speeds_between") rfl)) c_count_speeds g_MAX_SPEEDS c_find_class m_range
  obtain ⟨fd_next_look, F_next_look⟩ := c.def_ 39 (d := d_next_look) rfl
  have c_next_look := k_next_look (P := P) (w := w) (xs := xs) F_next_look (He.glo_ok X G (c.fact 66 (f := .glo "next_look") rfl)) c_count_speeds c_is_integer c_combined_times c_common_divisor
  obtain ⟨fd_law_refusal, F_law_refusal⟩ := c.def_ 40 (d := d_law_refusal) rfl
  have c_law_refusal := k_law_refusal (P := P) (w := w) (xs := xs) F_law_refusal (He.glo_ok X G (c.fact 67 (f := .glo "_law_refusal") rfl)) c_fitting_speeds xf_NoSpeed xn_NoSpeed_refusal nm_NoSpeed xm_NoSpeed
  obtain ⟨fd_is_no_speed, F_is_no_speed⟩ := c.def_ 41 (d := d_is_no_speed) rfl
  have c_is_no_speed := k_is_no_speed (P := P) (w := w) (xs := xs) F_is_no_speed (He.glo_ok X G (c.fact 68 (f := .glo "is_no_speed") rfl)) c_validate_observations m_len m_tuple m_isinstance c_is_integer m_all m_zip m_sum
  exact ok_law (m := 0) (by decide) F_law c_law_pool m_range c_law_draw c_Race c_Race_place c_fitting_speeds c_law_divisor c_speeds_between c_count_speeds c_next_look c_law_refusal c_is_no_speed m_len base
theorem law_sp {K : PySem.W.Frag} (H : Hp) (a : Addr) (ns : List Int) (hl : ns.length ≤ 63) (hs : SqL K H a (ns.map V.int)) : ∃ xs, spP2 (famJ K xs) 0 (0 + 81) (Ph_law xs) [V.ref a] H (fun v _ => v = V.bl true) (fun _ _ _ => False) := by
  have hD : SqL K (fun b => if b = a then H a else none) a (ns.map V.int) := by
    rcases hs with (s | ⟨o, s⟩) | s
    · exact .inl (.inl (by show (if a = a then H a else none) = _; rw [if_pos rfl]; exact s))
    · exact .inl (.inr ⟨o, by show (if a = a then H a else none) = _; rw [if_pos rfl]; exact s⟩)
    · exact .inr s
  refine ⟨ns, ⟨fun b => if b = a then H a else none, fun _ => False⟩, [.frz (ns.map PV.int)], fun p => p = .bl true, ⟨fun b o e => ?_, fun _ m => m.elim, fun _ m => m.elim⟩, .cons (.frz (o := default) hD (DatL.ofInts ns)) .nil, ⟨rfl, hl, rfl⟩, fun W' H' v p e d hp => ?_⟩
  · by_cases h : b = a
    · subst h
      have e : (if b = b then H b else none) = some o := e
      rw [if_pos rfl] at e
      exact .inl e
    · have e : (if b = a then H a else none) = some o := e
      rw [if_neg h] at e
      cases e
  · subst hp
    cases d
    rfl
end G
open PySem PySem.W PySem.Calls PyProof.Rows
theorem PySem.Challenge.cw_laprunners_k96_whole_seen_speeds_holds : PySem.Challenge.rw_laprunners_k96_whole_seen_speeds.Holds := by
  w_on; o_law
  refine HandSHeadRun.head_any (r := OpenLaw.row PySem.Challenge.rw_laprunners_k96_whole_seen_speeds) (q := view (OpenLaw.row PySem.Challenge.rw_laprunners_k96_whole_seen_speeds).prog [58]) (H := G.hk) (ob := G.ob) (M := 20000) (loose := G.nml) (d := HandSHeadRun.topDef (OpenLaw.row PySem.Challenge.rw_laprunners_k96_whole_seen_speeds).prog 58) (kwd := []) G.ob_eq
    (by kernel_rfl) (fun s => by kernel_rfl) G.run (by kernel_rfl) (by kernel_rfl) (by kernel_rfl) (by rfl) (by first | assumption | decide +kernel) (by decide +kernel) ⟨rfl, rfl, rfl, rfl, rfl, by decide +kernel⟩ ?hw ?hc
  case hw => w_witness2
  case hc =>
    refine L2.walk_ofE (l := PySem.Challenge.rw_laprunners_k96_whole_seen_speeds) (n := 63) (k := 14) (x := "script") (CX := L2.CX0) rfl (by decide) (by kernel_rfl) ⟨rfl, by decide, by decide⟩ ?F (fun _ _ _ _ z => z)
    intro w mg fa h Y G0 hmg0
    obtain ⟨K, KX, c⟩ := Y
    have hmg : mg ("law" : PySem.Str) = some (.ref fa) := by
      have e : (HandSHeadRun.topDef (OpenLaw.row PySem.Challenge.rw_laprunners_k96_whole_seen_speeds).prog 58).name = ("law" : PySem.Str) := by kernel_rfl
      rw [← e]
      exact hmg0
    obtain ⟨fd, F, hm, hF⟩ := G.facts (P := (PySem.Challenge.rw_laprunners_k96_whole_seen_speeds).prog) (w := w) KX G0 c
    have e := hmg.symm.trans hm
    cases e
    have b := L2.FunD.bindsA (ps := ["script"]) F fun _ _ _ _ _ _ us hl => match us, hl with | [_], _ => rfl
    exact ⟨K, fd, fun vs H Q E => ∃ xs, L3.spP2 (L3.famJ K xs) 0 (0 + 81) (G.Ph_law xs) vs H Q E, KX, fun s v => b s [v] rfl, fun H a ns hl _ hS => G.law_sp H a ns hl hS, fun base _ _ => hF base⟩


