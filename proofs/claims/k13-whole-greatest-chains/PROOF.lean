import PyProof.Rows.All
import Wide.All
import OpenK.AllK
import Wide.FinOn
import HandS.ForMost
import HandS.EndTab
import HandS.SortKw
import HandS.DictComp
import HandS.Gcd
import HandS.ExcOwn
import HandS.ExcIs
import HandS.IsInst
import HandS.Zip
import HandS.Style
import HandS.Flow
import HandS.TupLe
import HandS.TupAny
import HandS.Deep
import HandS.Conv
import HandS.Wide
import HandS.Lambda
import PySem.Challenge.RW_glidenames_k13_whole_greatest_chains_jud
set_option Elab.async false
set_option linter.all false
set_option maxRecDepth 100000
/-! data in the heap, and a big-step reading of code over data -/
namespace GN
open PySem PySem.Spec PyProof.Rows L2

abbrev Tb := List (Addr × Str)
abbrev Lk := Option (Addr × Obj)

/-! ### data as objects of a part G of the heap that never changes -/
mutual
def rep (G : Hp) : PyData → V → Prop
  | .none, v => v = .non
  | .bool b, v => v = .bl b
  | .int i, v => v = .int i
  | .str x, v => v = .str x
  | .list ds, v => ∃ a vs, v = .ref a ∧ G a = some (.lst vs) ∧ reps G ds vs
  | .tuple ds, v => ∃ a vs, v = .ref a ∧ G a = some (.tup vs) ∧ reps G ds vs
  | .dict ks, v => ∃ a od ws, v = .ref a ∧ G a = some (.frz od (.dK ws)) ∧ repk G ks ws
def reps (G : Hp) : List PyData → List V → Prop
  | [], vs => vs = []
  | d :: ds, vs => ∃ v us, vs = v :: us ∧ rep G d v ∧ reps G ds us
def repk (G : Hp) : List (PyData × PyData) → List (Key × V) → Prop
  | [], ws => ws = []
  | p :: ks, ws => ∃ i w us, ws = (Sum.inl i, w) :: us ∧ repp G p i w ∧ repk G ks us
def repp (G : Hp) : PyData × PyData → Int → V → Prop
  | (k, d), i, w => k = .int i ∧ rep G d w
end

/-- a list, a tuple, a locked dict -/
def isD : HO → Prop
  | .dK _ => True
  | _ => False
def Kt : HO → Prop
  | .lst _ => True
  | .tup _ => True
  | .frz _ u => isD u
  | _ => False
/-- what G says of b stands in H so; a known dict stands there locked -/
def Has (lk : Lk) (H : Hp) (b : Addr) (o : HO) : Prop := Kt o ∧ H b = some o
structure Sub (T : Tb) (lk : Lk) (G H : Hp) : Prop where
  tb : LamX.Tabs T H
  has : ∀ b o, G b = some o → Has lk H b o
  lck : ∀ b ob, lk = some (b, ob) → ∃ ws, G b = some (.dK ws)
/-- from H to H', what is known grows from G to G' by new objects alone -/
structure Ext (T : Tb) (lk : Lk) (G H G' H' : Hp) : Prop where
  le : ∀ b o, H b = some o → (∀ ps, o ≠ .tbl ps) → H' b = some o
  sub : Sub T lk G' H'
  gg : ∀ b o, G b = some o → G' b = some o
  fr : ∀ b o, H b = some o → (∀ ps, o ≠ .tbl ps) → G' b = G b

section
variable {G G' : Hp}
mutual
theorem rep_mono (g : ∀ b o, G b = some o → G' b = some o) : ∀ (d : PyData) (v : V), rep G d v → rep G' d v
  | .none, _, h => h
  | .bool _, _, h => h
  | .int _, _, h => h
  | .str _, _, h => h
  | .list ds, _, h => by
    obtain ⟨a, vs, e, ha, hr⟩ := h
    exact ⟨a, vs, e, g a _ ha, reps_mono g ds vs hr⟩
  | .tuple ds, _, h => by
    obtain ⟨a, vs, e, ha, hr⟩ := h
    exact ⟨a, vs, e, g a _ ha, reps_mono g ds vs hr⟩
  | .dict ks, _, h => by
    obtain ⟨a, od, ws, e, ha, hr⟩ := h
    exact ⟨a, od, ws, e, g a _ ha, repk_mono g ks ws hr⟩
theorem reps_mono (g : ∀ b o, G b = some o → G' b = some o) : ∀ (ds : List PyData) (vs : List V), reps G ds vs → reps G' ds vs
  | [], _, h => h
  | d :: ds, _, h => by
    obtain ⟨v, us, e, h1, h2⟩ := h
    exact ⟨v, us, e, rep_mono g d v h1, reps_mono g ds us h2⟩
theorem repk_mono (g : ∀ b o, G b = some o → G' b = some o) : ∀ (ks : List (PyData × PyData)) (ws : List (Key × V)), repk G ks ws → repk G' ks ws
  | [], _, h => h
  | p :: ks, _, h => by
    obtain ⟨i, w, us, e, h1, h2⟩ := h
    exact ⟨i, w, us, e, repp_mono g p i w h1, repk_mono g ks us h2⟩
theorem repp_mono (g : ∀ b o, G b = some o → G' b = some o) : ∀ (p : PyData × PyData) (i : Int) (w : V), repp G p i w → repp G' p i w
  | (_, d), _, w, h => ⟨h.1, rep_mono g d w h.2⟩
end

theorem rep_upd {p : Addr} {o : HO} (h : G p = none) : ∀ b u, G b = some u → upd G p o b = some u := fun b u e => by
  rw [upd_ne (ne_of_none e h)]
  exact e
theorem reps_length : ∀ {ds : List PyData} {vs : List V}, reps G ds vs → vs.length = ds.length
  | [], _, h => by cases (show _ = _ from h); rfl
  | d :: ds, _, h => by
    obtain ⟨v, us, rfl, _, h2⟩ := h
    rw [List.length_cons, List.length_cons, reps_length h2]
theorem reps_at : ∀ {ds : List PyData} {vs : List V} {i : Nat} {d : PyData}, reps G ds vs → ds[i]? = some d → ∃ v, vs[i]? = some v ∧ rep G d v
  | [], _, _, _, _, e => by simp at e
  | d :: ds, _, i, _, h, e => by
    obtain ⟨v, us, rfl, h1, h2⟩ := h
    cases i with
    | zero =>
      obtain rfl := Option.some.inj e
      exact ⟨v, rfl, h1⟩
    | succ i => exact reps_at (i := i) h2 e
theorem reps_back : ∀ {ds : List PyData} {vs : List V} {i : Nat} {v : V}, reps G ds vs → vs[i]? = some v → ∃ d, ds[i]? = some d ∧ rep G d v
  | [], _, _, _, h, e => by cases (show _ = _ from h); simp at e
  | d :: ds, _, i, _, h, e => by
    obtain ⟨v, us, rfl, h1, h2⟩ := h
    cases i with
    | zero =>
      obtain rfl := Option.some.inj e
      exact ⟨d, rfl, h1⟩
    | succ i => exact reps_back (i := i) h2 e
theorem reps_app : ∀ {ds es : List PyData} {vs us : List V}, reps G ds vs → reps G es us → reps G (ds ++ es) (vs ++ us)
  | [], _, _, _, h, h2 => by cases (show _ = _ from h); exact h2
  | d :: ds, _, _, _, h, h2 => by
    obtain ⟨v, ws, rfl, h1, h3⟩ := h
    exact ⟨v, _, rfl, h1, reps_app h3 h2⟩
theorem reps_drop : ∀ {ds : List PyData} {vs : List V} (n : Nat), reps G ds vs → reps G (ds.drop n) (vs.drop n)
  | _, _, 0, h => h
  | [], _, _ + 1, h => by cases (show _ = _ from h); exact rfl
  | d :: ds, _, n + 1, h => by
    obtain ⟨v, us, rfl, _, h2⟩ := h
    exact reps_drop n h2
theorem reps_take : ∀ {ds : List PyData} {vs : List V} (n : Nat), reps G ds vs → reps G (ds.take n) (vs.take n)
  | _, _, 0, _ => rfl
  | [], _, _ + 1, h => by cases (show _ = _ from h); exact rfl
  | d :: ds, _, n + 1, h => by
    obtain ⟨v, us, rfl, h1, h2⟩ := h
    exact ⟨v, _, rfl, h1, reps_take n h2⟩
theorem reps_rev : ∀ {ds : List PyData} {vs : List V}, reps G ds vs → reps G ds.reverse vs.reverse
  | [], _, h => by cases (show _ = _ from h); exact rfl
  | d :: ds, _, h => by
    obtain ⟨v, us, rfl, h1, h2⟩ := h
    rw [List.reverse_cons, List.reverse_cons]
    exact reps_app (reps_rev h2) ⟨v, [], rfl, h1, rfl⟩
theorem reps_ints (ns : List Int) : reps G (ns.map PyData.int) (ns.map V.int) := by
  induction ns with
  | nil => exact rfl
  | cons n r ih => exact ⟨_, _, rfl, rfl, ih⟩
theorem reps_ints_eq : ∀ {ns : List Int} {vs : List V}, reps G (ns.map PyData.int) vs → vs = ns.map V.int
  | [], _, h => h
  | n :: r, _, h => by
    obtain ⟨v, us, rfl, h1, h2⟩ := h
    cases (show v = V.int n from h1)
    rw [reps_ints_eq h2]
    rfl
theorem repk_get : ∀ {ks : List (PyData × PyData)} {ws : List (Key × V)} {j : Int}, repk G ks ws →
    (∀ d, (ks.find? fun p => match p.1 with | .int i => decide (i = j) | _ => false).map (·.2) = some d → ∃ v, valV ws (Sum.inl j) = some v ∧ rep G d v) ∧
    ((ks.find? fun p => match p.1 with | .int i => decide (i = j) | _ => false) = none → valV ws (Sum.inl j) = none)
  | [], _, j, h => by
    cases (show _ = _ from h)
    exact ⟨fun d e => by simp at e, fun _ => rfl⟩
  | p :: ks, _, j, h => by
    obtain ⟨k, e⟩ := p
    obtain ⟨i, w, us, rfl, h1, h2⟩ := h
    obtain ⟨rfl, hr⟩ := (show k = PyData.int i ∧ rep G e w from h1)
    have ih := repk_get (j := j) h2
    by_cases q : i = j
    · subst q
      refine ⟨fun d z => ?_, fun z => ?_⟩
      · simp only [List.find?_cons, decide_true, Option.map_some, Option.some.injEq] at z
        subst z
        exact ⟨w, valV_pos rfl, hr⟩
      · simp [List.find?_cons] at z
    · have q' : ¬ (Sum.inl i : Key) = Sum.inl j := fun z => q (Sum.inl.inj z)
      refine ⟨fun d z => ?_, fun z => ?_⟩
      · simp only [List.find?_cons, decide_eq_false q] at z
        rw [valV_neg (p := ((Sum.inl i : Key), w)) q']
        exact ih.1 d z
      · simp only [List.find?_cons, decide_eq_false q] at z
        rw [valV_neg (p := ((Sum.inl i : Key), w)) q']
        exact ih.2 z
end

section
variable {T : Tb} {lk : Lk} {G H G' H' G1 H1 : Hp}
theorem tabs_off {p : Addr} {o : HO} (t : LamX.Tabs T H) (h : H p = none) : LamX.Tabs T (upd H p o) := t.ext fun b u e => by
  rw [upd_ne (ne_of_none e h)]
  exact e
/-- an object that is no table and no code object is written -/
theorem tabs_mut {p : Addr} {u o : HO} (t : LamX.Tabs T H) (h : H p = some u) (h1 : ∀ ps, u ≠ .tbl ps) (h2 : ∀ f, u ≠ .ext f) : LamX.Tabs T (upd H p o) := fun q hq => by
  obtain ⟨ps, a1, a2, a3⟩ := t q hq
  refine ⟨ps, ?_, a2, fun pos cv hc => ?_⟩
  · rw [upd_ne (ne_of a1 h fun z => h1 ps z.symm)]
    exact a1
  · obtain ⟨c, e1, e2⟩ := a3 pos cv hc
    exact ⟨c, e1, by rw [upd_ne (ne_of e2 h fun z => h2 _ z.symm)]; exact e2⟩
/-- the kinds that G tells -/
def Kd : HO → Prop
  | .lst _ => True
  | .tup _ => True
  | .dK _ => True
  | .frz _ _ => True
  | _ => False
theorem Kd.notbl {o : HO} (k : Kd o) (ps : Array Value) : o ≠ .tbl ps := fun z => by subst z; exact k
theorem Kd.noext {o : HO} (k : Kd o) (f : Heap → Prop) : o ≠ .ext f := fun z => by subst z; exact k
theorem Kt.kd {o : HO} (h : Kt o) : Kd o := by
  cases o <;> first | exact True.intro | exact h.elim
theorem Has.mk {b : Addr} {o : HO} (k : Kt o) (h : H b = some o) : Has lk H b o := ⟨k, h⟩
theorem Has.kd {b : Addr} {o : HO} (h : Has lk H b o) : Kd o := h.1.kd
theorem Has.at {b : Addr} {o : HO} (h : Has lk H b o) : H b = some o := h.2
theorem Has.stands {b : Addr} {o : HO} (h : Has lk H b o) : ∃ u, H b = some u ∧ ∀ ps, u ≠ .tbl ps := ⟨_, h.2, h.1.kd.notbl⟩
theorem Has.rdD {b : Addr} {od : Obj} {ws : List (Key × V)} (h : Has lk H b (.frz od (.dK ws))) : Rd H b (.dK ws) := .inr ⟨od, h.2⟩
theorem Has.move {b : Addr} {o : HO} (h : Has lk H b o) (e : ∀ u, H b = some u → (∀ ps, u ≠ .tbl ps) → H' b = some u) : Has lk H' b o := ⟨h.1, e _ h.2 h.1.kd.notbl⟩
theorem Sub.fresh (S : Sub T lk G H) {p : Addr} (h : H p = none) : G p = none := by
  cases q : G p with
  | none => rfl
  | some o =>
    obtain ⟨u, e, _⟩ := Has.stands (S.has p o q)
    rw [h] at e
    cases e
theorem Sub.nolk (S : Sub T lk G H) {p : Addr} (h : G p = none) : ∀ ob, lk ≠ some (p, ob) := fun ob z => by
  obtain ⟨ws, e⟩ := S.lck p ob z
  rw [h] at e
  cases e
theorem Ext.refl (S : Sub T lk G H) : Ext T lk G H G H := ⟨fun _ _ e _ => e, S, fun _ _ e => e, fun _ _ _ _ => rfl⟩
theorem Ext.trans (a : Ext T lk G H G1 H1) (b : Ext T lk G1 H1 G' H') : Ext T lk G H G' H' :=
  ⟨fun c o e n => b.le c o (a.le c o e n) n, b.sub, fun c o e => b.gg c o (a.gg c o e), fun c o e n => (b.fr c o (a.le c o e n) n).trans (a.fr c o e n)⟩
/-- a new object is laid, and known -/
theorem Ext.lay {p : Addr} {o : HO} (S : Sub T lk G H) (h : H p = none) (k : Kt o) : Ext T lk G H (upd G p o) (upd H p o) := by
  have g : G p = none := S.fresh h
  refine ⟨fun b u e _ => by rw [upd_ne (ne_of_none e h)]; exact e, ⟨tabs_off S.tb h, fun b u e => ?_, fun b ob z => ?_⟩, rep_upd g, fun b u e _ => by rw [upd_ne (ne_of_none e h)]⟩
  · by_cases hb : b = p
    · subst hb
      rw [upd_same] at e
      cases e
      exact Has.mk k upd_same
    · rw [upd_ne hb] at e
      exact Has.move (S.has b u e) fun w q _ => by rw [upd_ne hb]; exact q
  · obtain ⟨ws, e⟩ := S.lck b ob z
    exact ⟨ws, rep_upd g b _ e⟩
/-- a new object is laid, and not known -/
theorem Ext.off {p : Addr} {o : HO} (S : Sub T lk G H) (h : H p = none) : Ext T lk G H G (upd H p o) := by
  refine ⟨fun b u e _ => by rw [upd_ne (ne_of_none e h)]; exact e, ⟨tabs_off S.tb h, fun b u e => ?_, S.lck⟩, fun _ _ e => e, fun _ _ _ _ => rfl⟩
  exact Has.move (S.has b u e) fun w q _ => by rw [upd_ne (ne_of_none q h)]; exact q
/-- an object that is not known is written -/
theorem Sub.mut {p : Addr} {u o : HO} (S : Sub T lk G H) (h : H p = some u) (k : Kd u) (g : G p = none) : Sub T lk G (upd H p o) :=
  ⟨tabs_mut S.tb h k.notbl k.noext, fun b w e => Has.move (S.has b w e) fun x q _ => by
    rw [upd_ne (fun z => by subst z; rw [g] at e; cases e)]
    exact q, S.lck⟩
theorem Ext.mut {p : Addr} {u o : HO} (E : Ext T lk G H G' H') (n : H p = none) (h : H' p = some u) (k : Kd u) (g : G' p = none) : Ext T lk G H G' (upd H' p o) :=
  ⟨fun b w e q => by rw [upd_ne (ne_of_none e n)]; exact E.le b w e q, E.sub.mut h k g, E.gg, E.fr⟩
theorem Ext.keep {b : Addr} {o : HO} (E : Ext T lk G H G' H') (h : H b = some o) (k : Kd o) : H' b = some o := E.le b o h k.notbl
theorem Ext.frK {b : Addr} {o : HO} (E : Ext T lk G H G' H') (h : H b = some o) (k : Kd o) : G' b = G b := E.fr b o h k.notbl
theorem Ext.back {p : Addr} (E : Ext T lk G H G' H') (S : Sub T lk G H) (h : H' p = none) : H p = none ∨ ∃ ps, H p = some (.tbl ps) := by
  cases q : H p with
  | none => exact .inl rfl
  | some u =>
    by_cases hu : ∃ ps, u = .tbl ps
    · obtain ⟨ps, rfl⟩ := hu
      exact .inr ⟨ps, rfl⟩
    · rw [E.le p u q fun ps z => hu ⟨ps, z⟩] at h
      cases h
/-- what was made and written on the side is known from now on -/
theorem Ext.adopt {p : Addr} {o : HO} (E : Ext T lk G H G' H') (n : H p = none) (h : H' p = some o) (k : Kt o) (g : G' p = none) : Ext T lk G H (upd G' p o) H' := by
  refine ⟨E.le, ⟨E.sub.tb, fun b u e => ?_, fun b ob z => ?_⟩, fun b u e => rep_upd g b u (E.gg b u e), fun b u e q => ?_⟩
  · by_cases hb : b = p
    · subst hb
      rw [upd_same] at e
      cases e
      exact Has.mk k h
    · rw [upd_ne hb] at e
      exact E.sub.has b u e
  · obtain ⟨ws, e⟩ := E.sub.lck b ob z
    exact ⟨ws, rep_upd g b _ e⟩
  · rw [upd_ne (ne_of_none e n)]
    exact E.fr b u e q
theorem Sub.sqL {K : PySem.W.Frag} {a : Addr} {vs : List V} (S : Sub T lk G H) (h : G a = some (.lst vs)) : SqL K H a vs := SqL.of (S.has a _ h).2
theorem Sub.sqT {K : PySem.W.Frag} {a : Addr} {vs : List V} (S : Sub T lk G H) (h : G a = some (.tup vs)) : SqT K H a vs := SqT.of (S.has a _ h).2
theorem Sub.lst {a : Addr} {vs : List V} (S : Sub T lk G H) (h : G a = some (.lst vs)) : H a = some (.lst vs) := (S.has a _ h).2
theorem Sub.tup {a : Addr} {vs : List V} (S : Sub T lk G H) (h : G a = some (.tup vs)) : H a = some (.tup vs) := (S.has a _ h).2
end
end GN

/-! the state as data; expressions, tests, arguments -/
namespace GN
open PySem PySem.Spec PyProof.Rows L2

/-- what is known of a slot: nothing, the data it holds, its very value -/
inductive Sl where
  | un | d (x : PyData) | v (x : V) | dv (x : PyData) (y : V)
def slOk (G : Hp) : Sl → Option V → Prop
  | .un, _ => True
  | .d x, o => ∃ v, o = some v ∧ rep G x v
  | .v x, o => o = some x
  | .dv x y, o => o = some y ∧ rep G x y
theorem slOk_mono {G G' : Hp} (g : ∀ b o, G b = some o → G' b = some o) : ∀ {s : Sl} {o : Option V}, slOk G s o → slOk G' s o
  | .un, _, _ => True.intro
  | .d x, _, h => let ⟨v, e, r⟩ := h; ⟨v, e, rep_mono g x v r⟩
  | .v _, _, h => h
  | .dv x y, _, h => ⟨h.1, rep_mono g x y h.2⟩
structure Rel (G : Hp) (ρ : List Sl) (σ : L2.St) : Prop where
  len : ρ.length = σ.length
  ats : ∀ (i : Nat) (s : Sl), ρ[i]? = some s → ∃ o, σ[i]? = some o ∧ slOk G s o
section
variable {G G' : Hp} {ρ ρ' : List Sl} {σ : L2.St}
theorem Rel.mono (R : Rel G ρ σ) (g : ∀ b o, G b = some o → G' b = some o) : Rel G' ρ σ :=
  ⟨R.len, fun i s e => let ⟨o, h1, h2⟩ := R.ats i s e; ⟨o, h1, slOk_mono g h2⟩⟩
theorem Rel.get (R : Rel G ρ σ) {i : Nat} {x : PyData} (e : ρ[i]? = some (.d x)) : ∃ v, σ[i]? = some (some v) ∧ rep G x v := by
  obtain ⟨o, h1, v, rfl, r⟩ := R.ats i _ e
  exact ⟨v, h1, r⟩
theorem Rel.getv (R : Rel G ρ σ) {i : Nat} {x : V} (e : ρ[i]? = some (.v x)) : σ[i]? = some (some x) := by
  obtain ⟨o, h1, h2⟩ := R.ats i _ e
  cases (show o = some x from h2)
  exact h1
theorem Rel.set (R : Rel G ρ σ) {i : Nat} {s : Sl} {o : Option V} (h : slOk G s o) : Rel G (ρ.set i s) (σ.set i o) := by
  refine ⟨by rw [List.length_set, List.length_set]; exact R.len, fun j s' e => ?_⟩
  by_cases q : i = j
  · subst q
    by_cases hi : i < ρ.length
    · rw [List.getElem?_set_self hi] at e
      cases e
      exact ⟨o, List.getElem?_set_self (by rw [← R.len]; exact hi), h⟩
    · rw [List.getElem?_eq_none (by rw [List.length_set]; omega)] at e
      cases e
  · rw [List.getElem?_set_ne q] at e
    rw [List.getElem?_set_ne q]
    exact R.ats j s' e
theorem Rel.setd (R : Rel G ρ σ) {i : Nat} {x : PyData} {v : V} (h : rep G x v) : Rel G (ρ.set i (.d x)) (σ.set i (some v)) := R.set (s := .d x) (o := some v) ⟨v, rfl, h⟩
/-- less is known -/
def Wk : List Sl → List Sl → Prop
  | [], [] => True
  | s :: r, s' :: r' => (s' = .un ∨ s' = s) ∧ Wk r r'
  | _, _ => False
theorem Wk.len : ∀ {ρ ρ' : List Sl}, Wk ρ ρ' → ρ'.length = ρ.length
  | [], [], _ => rfl
  | _ :: _, _ :: _, h => by rw [List.length_cons, List.length_cons, Wk.len h.2]
  | [], _ :: _, h => h.elim
  | _ :: _, [], h => h.elim
theorem Wk.at : ∀ {ρ ρ' : List Sl} {i : Nat} {s' : Sl}, Wk ρ ρ' → ρ'[i]? = some s' → ∃ s, ρ[i]? = some s ∧ (s' = .un ∨ s' = s)
  | [], [], _, _, _, e => by simp at e
  | s :: r, s2 :: r', 0, s', h, e => by
    obtain rfl := Option.some.inj e
    exact ⟨s, rfl, h.1⟩
  | s :: r, s2 :: r', i + 1, s', h, e => Wk.at (i := i) h.2 e
  | [], _ :: _, _, _, h, _ => h.elim
  | _ :: _, [], _, _, h, _ => h.elim
theorem Wk.refl : ∀ {ρ : List Sl}, Wk ρ ρ
  | [] => True.intro
  | _ :: r => ⟨.inr rfl, Wk.refl⟩
theorem Rel.weak (R : Rel G ρ σ) (w : Wk ρ ρ') : Rel G ρ' σ := by
  refine ⟨w.len.trans R.len, fun i s' e => ?_⟩
  obtain ⟨s, h1, h2⟩ := w.at e
  obtain ⟨o, h3, h4⟩ := R.ats i s h1
  refine ⟨o, h3, ?_⟩
  rcases h2 with rfl | rfl
  · exact True.intro
  · exact h4
/-- the slots of a block's own names forgotten -/
def wipeS (ρ : List Sl) : List Nat → List Sl
  | [] => ρ
  | v :: vs => (wipeS ρ vs).set v .un
theorem Rel.wipe (R : Rel G ρ σ) : ∀ vs : List Nat, Rel G (wipeS ρ vs) (L2.wipe σ vs)
  | [] => R
  | _ :: vs => (R.wipe vs).set True.intro
def startS (n : Nat) (ds : List PyData) : List Sl := ds.map .d ++ List.replicate (n - ds.length) .un
theorem rel_vals : ∀ {ds : List PyData} {vs : List V}, reps G ds vs → Rel G (ds.map .d) (vs.map some)
  | [], _, h => by
    cases (show _ = _ from h)
    exact ⟨rfl, fun i s e => by simp at e⟩
  | d :: ds, _, h => by
    obtain ⟨v, us, rfl, h1, h2⟩ := h
    have ih := rel_vals h2
    refine ⟨by rw [List.map_cons, List.map_cons, List.length_cons, List.length_cons, ih.len], fun i s e => ?_⟩
    cases i with
    | zero =>
      obtain rfl := Option.some.inj e
      exact ⟨some v, rfl, v, rfl, h1⟩
    | succ i => exact ih.ats i s e
theorem Rel.start {N : List Str} {ds : List PyData} {vs : List V} (h : reps G ds vs) : Rel G (startS N.length ds) (L2.start N vs) := by
  have R := rel_vals h
  have hl := reps_length h
  unfold startS L2.start
  rw [hl]
  refine ⟨by rw [List.length_append, List.length_append, R.len, List.length_replicate, List.length_replicate], fun i s e => ?_⟩
  by_cases hi : i < (ds.map Sl.d).length
  · rw [List.getElem?_append_left hi] at e
    rw [List.getElem?_append_left (by rw [← R.len]; exact hi)]
    exact R.ats i s e
  · rw [List.getElem?_append_right (by omega)] at e
    obtain ⟨h1, h2⟩ := List.getElem?_eq_some_iff.mp e
    rw [List.getElem_replicate] at h2
    subst h2
    rw [List.length_replicate] at h1
    refine ⟨none, ?_, True.intro⟩
    rw [List.getElem?_append_right (by rw [← R.len]; omega), ← R.len]
    exact List.getElem?_replicate_of_lt h1
end

/-! ### readings over data -/
section
variable (T : Tb) (lk : Lk)
def tD (ρ : List Sl) (d : PyData) : TE := fun σ H Q => ∃ G, Sub T lk G H ∧ Rel G ρ σ ∧ ∀ v G' H', Ext T lk G H G' H' → rep G' d v → Q v H'
def tT (ρ : List Sl) (b : Bool) : TT := fun σ H Q => ∃ G, Sub T lk G H ∧ Rel G ρ σ ∧ ∀ G' H', Ext T lk G H G' H' → Q b H'
def tA (ρ : List Sl) (ds : List PyData) : TA := fun σ H Q => ∃ G, Sub T lk G H ∧ Rel G ρ σ ∧ ∀ vs G' H', Ext T lk G H G' H' → reps G' ds vs → Q vs H'
/-- two values to one, a list of values to one -/
def RD2 (r : R2) (da db d : PyData) : Prop := ∀ (x y : V) (G H : Hp) (Q : VK), Sub T lk G H → rep G da x → rep G db y → (∀ v G' H', Ext T lk G H G' H' → rep G' d v → Q v H') → r x y H Q
def RD1 (r : V → Hp → VK → Prop) (da d : PyData) : Prop := ∀ (x : V) (G H : Hp) (Q : VK), Sub T lk G H → rep G da x → (∀ v G' H', Ext T lk G H G' H' → rep G' d v → Q v H') → r x H Q
def RDA (r : List V → Hp → VK → Prop) (ds : List PyData) (d : PyData) : Prop := ∀ (vs : List V) (G H : Hp) (Q : VK), Sub T lk G H → reps G ds vs → (∀ v G' H', Ext T lk G H G' H' → rep G' d v → Q v H') → r vs H Q
end
section
variable {X : Cx} {e : Expr} {t u : TE}
theorem pe_imp (h : PE X e t) (i : ∀ σ H Q, u σ H Q → t σ H Q) : PE X e u := ⟨fun pins s σ H Q I q => h.run pins s σ H Q I (i σ H Q q)⟩
theorem pt_imp {t u : TT} (h : PT X e t) (i : ∀ σ H Q, u σ H Q → t σ H Q) : PT X e u := ⟨fun pins s σ H Q I q => h.run pins s σ H Q I (i σ H Q q)⟩
theorem pw_imp {t u : TT} (h : PW X e t) (i : ∀ σ H Q, u σ H Q → t σ H Q) : PW X e u := ⟨fun wh pins s σ H Q I q => h.run wh pins s σ H Q I (i σ H Q q)⟩
theorem pa_imp {es : List Expr} {t u : TA} (h : PA X es t) (i : ∀ σ H Q, u σ H Q → t σ H Q) : PA X es u := ⟨fun pos pins s σ H Q I q => h.run pos pins s σ H Q I (i σ H Q q)⟩
theorem pe_no : PE X e (fun _ _ _ => False) := ⟨fun _ _ _ _ _ _ h => h.elim⟩
theorem pt_no : PT X e (fun _ _ _ => False) := ⟨fun _ _ _ _ _ _ h => h.elim⟩
theorem pw_no : PW X e (fun _ _ _ => False) := ⟨fun _ _ _ _ _ _ _ h => h.elim⟩
end

section
variable {T : Tb} {lk : Lk} {X : Cx} {ρ : List Sl} {e a b c : Expr} {es : List Expr} {pos : Pos} {d da db dc : PyData} {ds : List PyData}

theorem td2 {r : R2} (h : RD2 T lk r da db d) (σ : L2.St) (H : Hp) (Q : VK) (q : tD T lk ρ d σ H Q) : tOp r (tD T lk ρ da) (tD T lk ρ db) σ H Q := by
  obtain ⟨G, S, R, q⟩ := q
  refine ⟨G, S, R, fun x G1 H1 E1 r1 => ⟨G1, E1.sub, R.mono E1.gg, fun y G2 H2 E2 r2 => ?_⟩⟩
  exact h x y G2 H2 Q E2.sub (rep_mono E2.gg _ _ r1) r2 fun v G' H' E3 r3 => q v G' H' (E1.trans (E2.trans E3)) r3
theorem td1 {r : V → Hp → VK → Prop} (h : RD1 T lk r da d) (σ : L2.St) (H : Hp) (Q : VK) (q : tD T lk ρ d σ H Q) : tUn r (tD T lk ρ da) σ H Q := by
  obtain ⟨G, S, R, q⟩ := q
  exact ⟨G, S, R, fun x G1 H1 E1 r1 => h x G1 H1 Q E1.sub r1 fun v G' H' E3 r3 => q v G' H' (E1.trans E3) r3⟩
theorem tda {r : List V → Hp → VK → Prop} (h : RDA T lk r ds d) (σ : L2.St) (H : Hp) (Q : VK) (q : tD T lk ρ d σ H Q) : tCB r (tA T lk ρ ds) σ H Q := by
  obtain ⟨G, S, R, q⟩ := q
  exact ⟨G, S, R, fun x G1 H1 E1 r1 => h x G1 H1 Q E1.sub r1 fun v G' H' E3 r3 => q v G' H' (E1.trans E3) r3⟩

/-! names, constants -/
theorem ed_var (i : Nat) {x : Str} (hd : ρ[i]? = some (.d d) := by rfl) (hN : X.N[i]? = some x := by rfl) (hv : Vis X.env.scope x := by first | exact Or.inl rfl | exact Or.inr (Or.inl rfl) | exact Or.inr (Or.inr rfl))
    (h1 : (x == ("__debug__" : Str)) = false := by decide) (h2 : (x == ("__classdict__" : Str)) = false := by decide) : PE X (.Name x pos) (tD T lk ρ d) :=
  pe_imp (pe_var (i := i) hN hv h1 h2) fun σ H Q ⟨G, S, R, q⟩ => by
    obtain ⟨v, e, r⟩ := R.get hd
    exact ⟨v, e, q v G H (.refl S) r⟩
theorem ed_int {i : Int} {j : Nat} : PE X (.Constant (.int i) j pos) (tD T lk ρ (.int i)) := pe_imp pe_int fun σ H Q ⟨G, S, R, q⟩ => q _ G H (.refl S) rfl
theorem ed_bl {i : Bool} {j : Nat} : PE X (.Constant (.bool i) j pos) (tD T lk ρ (.bool i)) := pe_imp pe_bl fun σ H Q ⟨G, S, R, q⟩ => q _ G H (.refl S) rfl
theorem ed_non {j : Nat} : PE X (.Constant .none j pos) (tD T lk ρ .none) := pe_imp pe_non fun σ H Q ⟨G, S, R, q⟩ => q _ G H (.refl S) rfl
theorem ed_str {i : Str} {j : Nat} : PE X (.Constant (.str i) j pos) (tD T lk ρ (.str i)) := pe_imp pe_str fun σ H Q ⟨G, S, R, q⟩ => q _ G H (.refl S) rfl

/-! operators -/
theorem ed_op {op : Operator} {r : R2} (ho : OpR X (binaryOp op) r) (hr : RD2 T lk r da db d) (ha : PE X a (tD T lk ρ da)) (hb : PE X b (tD T lk ρ db)) : PE X (.BinOp a op b pos) (tD T lk ρ d) :=
  pe_imp (pe_op ho ha hb) (td2 hr)
theorem rd_i0 {g : Int → Int → V} {i j : Int} (h : ∀ G : Hp, rep G d (g i j)) : RD2 T lk (rI0 g) (.int i) (.int j) d := fun x y G H Q S r1 r2 q =>
  ⟨i, j, r1, r2, q _ G H (.refl S) (h G)⟩
theorem rd_i {C : Int → Int → Prop} {g : Int → Int → V} {i j : Int} (hc : C i j) (h : ∀ G : Hp, rep G d (g i j)) : RD2 T lk (rI C g) (.int i) (.int j) d := fun x y G H Q S r1 r2 q =>
  ⟨i, j, r1, r2, hc, q _ G H (.refl S) (h G)⟩
theorem ed_add {i j : Int} (ha : PE X a (tD T lk ρ (.int i))) (hb : PE X b (tD T lk ρ (.int j))) : PE X (.BinOp a .Add b pos) (tD T lk ρ (.int (i + j))) := ed_op op_add (rd_i0 fun _ => rfl) ha hb
theorem ed_sub {i j : Int} (ha : PE X a (tD T lk ρ (.int i))) (hb : PE X b (tD T lk ρ (.int j))) : PE X (.BinOp a .Sub b pos) (tD T lk ρ (.int (i - j))) := ed_op op_sub (rd_i0 fun _ => rfl) ha hb
theorem ed_mul {i j : Int} (ha : PE X a (tD T lk ρ (.int i))) (hb : PE X b (tD T lk ρ (.int j))) (h : CMul i j) : PE X (.BinOp a .Mult b pos) (tD T lk ρ (.int (i * j))) := ed_op op_mul (rd_i h fun _ => rfl) ha hb
theorem ed_fdiv {i j : Int} (ha : PE X a (tD T lk ρ (.int i))) (hb : PE X b (tD T lk ρ (.int j))) (h : CDiv i j) : PE X (.BinOp a .FloorDiv b pos) (tD T lk ρ (.int (i / j))) := ed_op op_fdiv (rd_i h fun _ => rfl) ha hb
theorem ed_mod {i j : Int} (ha : PE X a (tD T lk ρ (.int i))) (hb : PE X b (tD T lk ρ (.int j))) (h : 0 < j) : PE X (.BinOp a .Mod b pos) (tD T lk ρ (.int (i % j))) := ed_op op_mod (rd_i h fun _ => rfl) ha hb
theorem ed_un {op : UnaryOp} {r : V → Hp → VK → Prop} (ho : UnR X (unaryOp op) r) (hr : RD1 T lk r da d) (ha : PE X a (tD T lk ρ da)) : PE X (.UnaryOp op a pos) (tD T lk ρ d) := pe_imp (pe_un ho ha) (td1 hr)
theorem ed_neg {i : Int} (ha : PE X a (tD T lk ρ (.int i))) : PE X (.UnaryOp .USub a pos) (tD T lk ρ (.int (-i))) := ed_un (da := .int i) un_neg (fun x G H Q S r q => ⟨i, r, q _ G H (.refl S) rfl⟩) ha

/-! comparisons, as values and as tests -/
theorem ed_cmp {op : CmpOp} {r : R2} (ho : OpR X (compareOp op) r) (hr : RD2 T lk r da db d) (ha : PE X a (tD T lk ρ da)) (hb : PE X b (tD T lk ρ db)) (hm : behindInMarks op b = false := by first | exact nomark _ | rfl) : PE X (.Compare a [op] [b] pos) (tD T lk ρ d) :=
  pe_imp (pe_cmpR ho ha hb hm) (td2 hr)
theorem tt_of {te : TE} {k : Bool} (h : ∀ σ H Q, tD T lk ρ (.bool k) σ H Q → te σ H Q) (σ : L2.St) (H : Hp) (Q : Bool → Hp → Prop) (q : tT T lk ρ k σ H Q) : tTest te σ H Q := by
  obtain ⟨G, S, R, q⟩ := q
  exact h σ H _ ⟨G, S, R, fun v G' H' E r => ⟨k, r, q G' H' E⟩⟩
theorem et_cmp {op : CmpOp} {r : R2} {k : Bool} (ho : OpR X (compareOp op) r) (hr : RD2 T lk r da db (.bool k)) (ha : PE X a (tD T lk ρ da)) (hb : PE X b (tD T lk ρ db)) (hm : behindInMarks op b = false := by first | exact nomark _ | rfl) : PT X (.Compare a [op] [b] pos) (tT T lk ρ k) :=
  pt_imp (pt_cmpR ho ha hb hm) (tt_of (td2 hr))
/-- an expression that gives a bool, as a test -/
theorem et_val {k : Bool} (h : PE X e (tD T lk ρ (.bool k))) (he : ∀ whole, isTrue e X.env whole = (do let v ← whole; standAt e.pos; holding [v] (truthy v)) := by intro _; rfl) : PT X e (tT T lk ρ k) :=
  pt_imp (pt_val h he) fun σ H Q ⟨G, S, R, q⟩ => ⟨G, S, R, fun v G' H' E r => ⟨k, r, q G' H' E⟩⟩
theorem rd_eq {i j : Int} : RD2 T lk rEq (.int i) (.int j) (.bool (decide (i = j))) := fun x y G H Q S r1 r2 q => by
  cases (show x = .int i from r1)
  cases (show y = .int j from r2)
  refine ⟨rfl, q _ G H (.refl S) ?_⟩
  show V.bl _ = V.bl _
  congr 1
  exact decide_eq_decide.mpr ⟨V.int.inj, congrArg V.int⟩
theorem rd_ne {i j : Int} : RD2 T lk rNe (.int i) (.int j) (.bool (!decide (i = j))) := fun x y G H Q S r1 r2 q => by
  cases (show x = .int i from r1)
  cases (show y = .int j from r2)
  refine ⟨rfl, q _ G H (.refl S) ?_⟩
  show V.bl _ = V.bl _
  congr 2
  exact decide_eq_decide.mpr ⟨V.int.inj, congrArg V.int⟩
theorem rd_eqB {i j : Bool} : RD2 T lk rEq (.bool i) (.bool j) (.bool (decide (i = j))) := fun x y G H Q S r1 r2 q => by
  cases (show x = .bl i from r1)
  cases (show y = .bl j from r2)
  refine ⟨rfl, q _ G H (.refl S) ?_⟩
  show V.bl _ = V.bl _
  congr 1
  exact decide_eq_decide.mpr ⟨V.bl.inj, congrArg V.bl⟩
def isNo : PyData → Bool
  | .none => true
  | _ => false
theorem isNo_rep {G : Hp} : ∀ {d : PyData} {v : V}, rep G d v → decide (v = .non) = isNo d
  | .none, _, h => by cases (show _ = _ from h); rfl
  | .bool _, _, h => by cases (show _ = _ from h); rfl
  | .int _, _, h => by cases (show _ = _ from h); rfl
  | .str _, _, h => by cases (show _ = _ from h); rfl
  | .list _, _, h => by obtain ⟨_, _, rfl, _⟩ := h; rfl
  | .tuple _, _, h => by obtain ⟨_, _, rfl, _⟩ := h; rfl
  | .dict _, _, h => by obtain ⟨_, _, _, rfl, _⟩ := h; rfl
theorem rd_isN : RD2 T lk (fun x y H Q => y = .non ∧ Q (.bl (decide (x = .non))) H) da .none (.bool (isNo da)) := fun x y G H Q S r1 r2 q =>
  ⟨r2, q _ G H (.refl S) (by rw [isNo_rep r1]; exact rfl)⟩
theorem rd_notN : RD2 T lk (fun x y H Q => y = .non ∧ Q (.bl (!decide (x = .non))) H) da .none (.bool (!isNo da)) := fun x y G H Q S r1 r2 q =>
  ⟨r2, q _ G H (.refl S) (by rw [isNo_rep r1]; exact rfl)⟩

/-! and, or, not, if -/
theorem ew_one {op : BoolOp} {k : Bool} (ha : PT X a (tT T lk ρ k)) (h : op = .And ∨ op = .Or) : PW X (.BoolOp op [a] pos) (tT T lk ρ k) := by
  rcases h with rfl | rfl
  · exact pw_and1 ha
  · exact pw_or1 ha
variable {rest : List Expr} {k : Bool}
theorem ew_andT (ha : PT X a (tT T lk ρ true)) (hb : PW X (.BoolOp .And (b :: rest) pos) (tT T lk ρ k)) : PW X (.BoolOp .And (a :: b :: rest) pos) (tT T lk ρ k) :=
  pw_imp (pw_and ha hb) fun σ H Q ⟨G, S, R, q⟩ => ⟨G, S, R, fun G1 H1 E1 => iteT ⟨G1, E1.sub, R.mono E1.gg, fun G2 H2 E2 => q G2 H2 (E1.trans E2)⟩⟩
theorem ew_andF (ha : PT X a (tT T lk ρ false)) : PW X (.BoolOp .And (a :: b :: rest) pos) (tT T lk ρ false) :=
  pw_imp (pw_and ha pw_no) fun σ H Q ⟨G, S, R, q⟩ => ⟨G, S, R, fun G1 H1 E1 => iteF (q G1 H1 E1)⟩
theorem ew_orF (ha : PT X a (tT T lk ρ false)) (hb : PW X (.BoolOp .Or (b :: rest) pos) (tT T lk ρ k)) : PW X (.BoolOp .Or (a :: b :: rest) pos) (tT T lk ρ k) :=
  pw_imp (pw_or ha hb) fun σ H Q ⟨G, S, R, q⟩ => ⟨G, S, R, fun G1 H1 E1 => iteF ⟨G1, E1.sub, R.mono E1.gg, fun G2 H2 E2 => q G2 H2 (E1.trans E2)⟩⟩
theorem ew_orT (ha : PT X a (tT T lk ρ true)) : PW X (.BoolOp .Or (a :: b :: rest) pos) (tT T lk ρ true) :=
  pw_imp (pw_or ha pw_no) fun σ H Q ⟨G, S, R, q⟩ => ⟨G, S, R, fun G1 H1 E1 => iteT (q G1 H1 E1)⟩
/-- two operands, whatever the first gives -/
theorem ew_and2 {i j : Bool} (ha : PT X a (tT T lk ρ i)) (hb : i = true → PT X b (tT T lk ρ j)) : PW X (.BoolOp .And [a, b] pos) (tT T lk ρ (i && j)) := by
  cases i with
  | true => exact ew_andT ha (ew_one (hb rfl) (.inl rfl))
  | false => exact ew_andF ha
theorem ew_or2 {i j : Bool} (ha : PT X a (tT T lk ρ i)) (hb : i = false → PT X b (tT T lk ρ j)) : PW X (.BoolOp .Or [a, b] pos) (tT T lk ρ (i || j)) := by
  cases i with
  | false => exact ew_orF ha (ew_one (hb rfl) (.inr rfl))
  | true => exact ew_orT ha
theorem et_not (ha : PT X a (tT T lk ρ k)) : PT X (.UnaryOp .Not a pos) (tT T lk ρ (!k)) :=
  pt_imp (pt_not ha) fun σ H Q ⟨G, S, R, q⟩ => ⟨G, S, R, fun G1 H1 E1 => q G1 H1 E1⟩
theorem ed_not (ha : PE X a (tD T lk ρ (.bool k))) : PE X (.UnaryOp .Not a pos) (tD T lk ρ (.bool (!k))) :=
  pe_imp (pe_not ha) fun σ H Q ⟨G, S, R, q⟩ => ⟨G, S, R, fun v G1 H1 E1 r => ⟨k, r, q _ G1 H1 E1 rfl⟩⟩
theorem ed_one {op : BoolOp} (ha : PE X a (tD T lk ρ d)) : PE X (.BoolOp op [a] pos) (tD T lk ρ d) := pe_one ha
theorem ed_andT (ha : PE X a (tD T lk ρ (.bool true))) (hb : PE X (.BoolOp .And (b :: rest) pos) (tD T lk ρ d)) : PE X (.BoolOp .And (a :: b :: rest) pos) (tD T lk ρ d) :=
  pe_imp (pe_and ha hb) fun σ H Q ⟨G, S, R, q⟩ => ⟨G, S, R, fun v G1 H1 E1 r => ⟨true, r, iteT ⟨G1, E1.sub, R.mono E1.gg, fun v2 G2 H2 E2 r2 => q v2 G2 H2 (E1.trans E2) r2⟩⟩⟩
theorem ed_andF (ha : PE X a (tD T lk ρ (.bool false))) : PE X (.BoolOp .And (a :: b :: rest) pos) (tD T lk ρ (.bool false)) :=
  pe_imp (pe_and ha pe_no) fun σ H Q ⟨G, S, R, q⟩ => ⟨G, S, R, fun v G1 H1 E1 r => ⟨false, r, iteF (q _ G1 H1 E1 rfl)⟩⟩
theorem ed_orF (ha : PE X a (tD T lk ρ (.bool false))) (hb : PE X (.BoolOp .Or (b :: rest) pos) (tD T lk ρ d)) : PE X (.BoolOp .Or (a :: b :: rest) pos) (tD T lk ρ d) :=
  pe_imp (pe_or ha hb) fun σ H Q ⟨G, S, R, q⟩ => ⟨G, S, R, fun v G1 H1 E1 r => ⟨false, r, iteF ⟨G1, E1.sub, R.mono E1.gg, fun v2 G2 H2 E2 r2 => q v2 G2 H2 (E1.trans E2) r2⟩⟩⟩
theorem ed_orT (ha : PE X a (tD T lk ρ (.bool true))) : PE X (.BoolOp .Or (a :: b :: rest) pos) (tD T lk ρ (.bool true)) :=
  pe_imp (pe_or ha pe_no) fun σ H Q ⟨G, S, R, q⟩ => ⟨G, S, R, fun v G1 H1 E1 r => ⟨true, r, iteT (q _ G1 H1 E1 rfl)⟩⟩
theorem ed_and2 {i j : Bool} (ha : PE X a (tD T lk ρ (.bool i))) (hb : i = true → PE X b (tD T lk ρ (.bool j))) : PE X (.BoolOp .And [a, b] pos) (tD T lk ρ (.bool (i && j))) := by
  cases i with
  | true => exact ed_andT ha (ed_one (hb rfl))
  | false => exact ed_andF ha
theorem ed_or2 {i j : Bool} (ha : PE X a (tD T lk ρ (.bool i))) (hb : i = false → PE X b (tD T lk ρ (.bool j))) : PE X (.BoolOp .Or [a, b] pos) (tD T lk ρ (.bool (i || j))) := by
  cases i with
  | false => exact ed_orF ha (ed_one (hb rfl))
  | true => exact ed_orT ha
theorem ed_if (hc : PT X c (tT T lk ρ k)) (ha : k = true → PE X a (tD T lk ρ d)) (hb : k = false → PE X b (tD T lk ρ d)) : PE X (.IfExp c a b pos) (tD T lk ρ d) := by
  cases k with
  | true => exact pe_imp (pe_ifExp hc (ha rfl) pe_no) fun σ H Q ⟨G, S, R, q⟩ => ⟨G, S, R, fun G1 H1 E1 => iteT ⟨G1, E1.sub, R.mono E1.gg, fun v2 G2 H2 E2 r2 => q v2 G2 H2 (E1.trans E2) r2⟩⟩
  | false => exact pe_imp (pe_ifExp hc pe_no (hb rfl)) fun σ H Q ⟨G, S, R, q⟩ => ⟨G, S, R, fun G1 H1 E1 => iteF ⟨G1, E1.sub, R.mono E1.gg, fun v2 G2 H2 E2 r2 => q v2 G2 H2 (E1.trans E2) r2⟩⟩

/-! a < b < c -/
theorem td_chain {r r' : R2} {j : Bool} (h : RD2 T lk r da db (.bool k)) (h' : k = true → RD2 T lk r' db dc (.bool j)) (σ : L2.St) (H : Hp) (Q : VK) (q : tD T lk ρ (.bool (k && j)) σ H Q) : tChain r r' (tD T lk ρ da) (tD T lk ρ db) (tD T lk ρ dc) σ H Q := by
  obtain ⟨G, S, R, q⟩ := q
  refine ⟨G, S, R, fun x G1 H1 E1 r1 => ⟨G1, E1.sub, R.mono E1.gg, fun y G2 H2 E2 r2 => ?_⟩⟩
  have E12 := E1.trans E2
  refine h x y G2 H2 _ E2.sub (rep_mono E2.gg _ _ r1) r2 fun z G3 H3 E3 r3 => ⟨k, r3, ?_⟩
  cases k with
  | true =>
    refine iteT ⟨G3, E3.sub, R.mono (E12.trans E3).gg, fun w G4 H4 E4 r4 => ?_⟩
    exact h' rfl y w G4 H4 _ E4.sub (rep_mono (E3.trans E4).gg _ _ r2) r4 fun v G' H' E5 r5 => q v G' H' ((E12.trans E3).trans (E4.trans E5)) r5
  | false => exact iteF (q _ G3 H3 (E12.trans E3) rfl)
theorem et_chain {op op' : CmpOp} {r r' : R2} {j n : Bool} (ho : OpR X (compareOp op) r) (ho' : OpR X (compareOp op') r') (h : RD2 T lk r da db (.bool k)) (h' : k = true → RD2 T lk r' db dc (.bool j)) (hn : (k && j) = n) (ha : PE X a (tD T lk ρ da)) (hb : PE X b (tD T lk ρ db)) (hc : PE X c (tD T lk ρ dc))
    (hm : lastMarks [op, op'] [b, c] = false := by with_unfolding_all rfl) : PT X (.Compare a [op, op'] [b, c] pos) (tT T lk ρ n) := by
  subst hn
  exact pt_imp (pt_chain ho ho' ha hb hc hm) (tt_of (td_chain h h'))
end
end GN

/-! subscripts, displays, calls -/
namespace GN
open PySem PySem.Spec PyProof.Rows L2

/-- a tuple or a list -/
def sq (k : Bool) (xs : List PyData) : PyData := match k with
  | true => .tuple xs
  | false => .list xs
def soq (k : Bool) (vs : List V) : HO := match k with
  | true => .tup vs
  | false => .lst vs
theorem rep_sq {G : Hp} {k : Bool} {xs : List PyData} {v : V} (h : rep G (sq k xs) v) : ∃ a vs, v = .ref a ∧ G a = some (soq k vs) ∧ reps G xs vs := by
  cases k with
  | true => exact h
  | false => exact h
theorem rep_ref {G : Hp} {d : PyData} {a : Addr} {o : HO} (h : rep G d (.ref a)) : ∃ u, G a = some u := by
  cases d with
  | none => cases h
  | bool b => cases h
  | int b => cases h
  | str b => cases h
  | list ds => obtain ⟨b, vs, e, h, _⟩ := h; cases e; exact ⟨_, h⟩
  | tuple ds => obtain ⟨b, vs, e, h, _⟩ := h; cases e; exact ⟨_, h⟩
  | dict ds => obtain ⟨b, _, vs, e, h, _⟩ := h; cases e; exact ⟨_, h⟩
theorem atI_reps {G : Hp} {xs : List PyData} {vs : List V} {i : Int} {d : PyData} (r : reps G xs vs) (h : atI xs i = some d) : ∃ v, atI vs i = some v ∧ rep G d v := by
  unfold atI at h ⊢
  rw [reps_length r]
  cases q : ixN xs.length i with
  | none => rw [q] at h; cases h
  | some j =>
    rw [q] at h
    exact reps_at r h
def dget (ks : List (PyData × PyData)) (j : Int) : Option PyData := (ks.find? fun p => match p.1 with | .int i => decide (i = j) | _ => false).map (·.2)
/-- t[lo:hi] -/
def cutP (xs : List PyData) (lo hi : Option Int) : List PyData := (xs.drop (HT.sIx xs.length 0 lo)).take (HT.sIx xs.length xs.length hi - HT.sIx xs.length 0 lo)
theorem reps_cut {G : Hp} {xs : List PyData} {vs : List V} (lo hi : Option Int) (r : reps G xs vs) : reps G (cutP xs lo hi) (cutV vs lo hi) := by
  unfold cutP cutV
  rw [reps_length r]
  exact reps_take _ (reps_drop _ r)

section
variable {T : Tb} {lk : Lk} {X : Cx} {ρ : List Sl} {e a b c : Expr} {es : List Expr} {pos : Pos} {d da db dc : PyData} {ds xs : List PyData}
theorem rd_ix {K : PySem.W.Frag} {k : Bool} {i : Int} (h : atI xs i = some d) : RD2 T lk (rIx K) (sq k xs) (.int i) d := fun x y G H Q S r1 r2 q => by
  obtain ⟨p, vs, rfl, hp, r⟩ := rep_sq r1
  cases (show y = .int i from r2)
  obtain ⟨v, hv, rv⟩ := atI_reps r h
  cases k with
  | true => exact .inr (.inl ⟨p, vs, i, v, rfl, rfl, S.sqT hp, hv, q v G H (.refl S) rv⟩)
  | false => exact .inl ⟨p, vs, i, v, rfl, rfl, S.sqL hp, hv, q v G H (.refl S) rv⟩
theorem ed_ix {k : Bool} {i : Int} (ha : PE X a (tD T lk ρ (sq k xs))) (hb : PE X b (tD T lk ρ (.int i))) (h : atI xs i = some d) (hs : PlainIx b := by intro _ _; rfl) : PE X (.Subscript a b pos) (tD T lk ρ d) :=
  pe_imp (pe_ix ix_seq ha hb hs) (td2 (rd_ix h))
/-- of a tuple, of a list, as they are written -/
theorem ed_ixT {i : Int} (ha : PE X a (tD T lk ρ (.tuple xs))) (hb : PE X b (tD T lk ρ (.int i))) (h : atI xs i = some d) (hs : PlainIx b := by intro _ _; rfl) : PE X (.Subscript a b pos) (tD T lk ρ d) :=
  ed_ix (k := true) ha hb h hs
theorem ed_ixL {i : Int} (ha : PE X a (tD T lk ρ (.list xs))) (hb : PE X b (tD T lk ρ (.int i))) (h : atI xs i = some d) (hs : PlainIx b := by intro _ _; rfl) : PE X (.Subscript a b pos) (tD T lk ρ d) :=
  ed_ix (k := false) ha hb h hs
theorem ed_dget {ks : List (PyData × PyData)} {i : Int} (hu : X.A.units + 1 < cLine) (ha : PE X a (tD T lk ρ (.dict ks))) (hb : PE X b (tD T lk ρ (.int i))) (h : dget ks i = some d) (hs : NoSl b := by intro _ _; rfl) : PE X (.Subscript a b pos) (tD T lk ρ d) :=
  pe_imp (pe_dget hu ha hb hs) fun σ H Q ⟨G, S, R, q⟩ => by
    refine ⟨G, S, R, fun x G1 H1 E1 r1 => ⟨G1, E1.sub, R.mono E1.gg, fun y G2 H2 E2 r2 => ?_⟩⟩
    obtain ⟨p, od, ws, rfl, hp, r⟩ := rep_mono E2.gg _ _ r1
    cases (show y = .int i from r2)
    obtain ⟨v, hv, rv⟩ := (repk_get (j := i) r).1 d h
    exact ⟨p, v, rfl, .inl ⟨ws, Sum.inl i, Has.rdD (E2.sub.has _ _ hp), rfl, hv.symm⟩, q v G2 H2 (E1.trans E2) rv⟩
theorem et_din {ks : List (PyData × PyData)} {i : Int} (hu : X.A.units + 1 < cLine) (ha : PE X a (tD T lk ρ (.int i))) (hb : PE X b (tD T lk ρ (.dict ks))) (hm : behindInMarks .In b = false := by rfl) : PT X (.Compare a [.In] [b] pos) (tT T lk ρ (dget ks i).isSome) :=
  pt_imp (pt_cmp (pc_din hu ha hb) hm) fun σ H Q ⟨G, S, R, q⟩ => by
    refine ⟨G, S, R, fun y G1 H1 E1 r1 => ⟨G1, E1.sub, R.mono E1.gg, fun x G2 H2 E2 r2 => ?_⟩⟩
    obtain ⟨p, od, ws, rfl, hp, r⟩ := r2
    cases (show y = .int i from r1)
    refine ⟨p, valV ws (Sum.inl i), rfl, .inl ⟨ws, Sum.inl i, Has.rdD (E2.sub.has _ _ hp), rfl, rfl⟩, _, rfl, ?_⟩
    have e : (valV ws (Sum.inl i)).isSome = (dget ks i).isSome := by
      cases hq : dget ks i with
      | none =>
        rw [(repk_get (j := i) r).2 (by unfold dget at hq; exact Option.map_eq_none_iff.mp hq)]
        rfl
      | some d =>
        obtain ⟨v, hv, _⟩ := (repk_get (j := i) r).1 d hq
        rw [hv]
        rfl
    rw [e]
    exact q G2 H2 (E1.trans E2)

/-! parts of a tuple, of a list -/
variable {lo hi : Option Expr}
def tO (T : Tb) (lk : Lk) (ρ : List Sl) (o : Option Int) : TO := fun σ H Q => ∃ G, Sub T lk G H ∧ Rel G ρ σ ∧ ∀ G' H', Ext T lk G H G' H' → Q o H'
theorem po_imp {e : Option Expr} {t u : TO} (h : PO X e t) (i : ∀ σ H Q, u σ H Q → t σ H Q) : PO X e u := ⟨fun pins s σ H Q I q => h.run pins s σ H Q I (i σ H Q q)⟩
theorem eo_none : PO X none (tO T lk ρ none) := po_imp po_none fun σ H Q ⟨G, S, R, q⟩ => q G H (.refl S)
theorem eo_some {i : Int} (h : PE X e (tD T lk ρ (.int i))) : PO X (some e) (tO T lk ρ (some i)) := po_imp (po_some h) fun σ H Q ⟨G, S, R, q⟩ => ⟨G, S, R, fun v G1 H1 E1 r => ⟨i, r, q G1 H1 E1⟩⟩
theorem ed_cutT {l u : Option Int} {p2 : Pos} (he : PE X e (tD T lk ρ (.tuple xs))) (hl : PO X lo (tO T lk ρ l)) (hu : PO X hi (tO T lk ρ u)) : PE X (.Subscript e (.Slice lo hi none p2) pos) (tD T lk ρ (.tuple (cutP xs l u))) :=
  pe_imp (pe_slice sl_tupA he hl hu) fun σ H Q ⟨G, S, R, q⟩ => by
    refine ⟨G, S, R, fun x G1 H1 E1 r1 => ⟨G1, E1.sub, R.mono E1.gg, fun G2 H2 E2 => ⟨G2, E2.sub, R.mono (E1.trans E2).gg, fun G3 H3 E3 => ?_⟩⟩⟩
    obtain ⟨p, vs, rfl, hp, r⟩ := rep_mono (E2.trans E3).gg _ _ r1
    have E := E1.trans (E2.trans E3)
    refine ⟨p, vs, rfl, E3.sub.sqT hp, fun hw => ?_, fun _ t ht => ?_⟩
    · have hc : cutV vs l u = vs := by
        unfold cutV
        rw [hw.1, hw.2, List.drop_zero, Nat.sub_zero, List.take_length]
      have r3 := reps_cut l u r
      rw [hc] at r3
      exact q _ G3 H3 E ⟨p, vs, rfl, hp, r3⟩
    · have E4 := Ext.lay (o := .tup (cutV vs l u)) E3.sub ht True.intro
      exact q _ _ _ (E.trans E4) ⟨t, _, rfl, upd_same, reps_mono E4.gg _ _ (reps_cut l u r)⟩
theorem ed_cutL {l u : Option Int} {p2 : Pos} (he : PE X e (tD T lk ρ (.list xs))) (hl : PO X lo (tO T lk ρ l)) (hu : PO X hi (tO T lk ρ u)) : PE X (.Subscript e (.Slice lo hi none p2) pos) (tD T lk ρ (.list (cutP xs l u))) :=
  pe_imp (pe_slice sl_list he hl hu) fun σ H Q ⟨G, S, R, q⟩ => by
    refine ⟨G, S, R, fun x G1 H1 E1 r1 => ⟨G1, E1.sub, R.mono E1.gg, fun G2 H2 E2 => ⟨G2, E2.sub, R.mono (E1.trans E2).gg, fun G3 H3 E3 => ?_⟩⟩⟩
    obtain ⟨p, vs, rfl, hp, r⟩ := rep_mono (E2.trans E3).gg _ _ r1
    have E := E1.trans (E2.trans E3)
    refine ⟨p, vs, rfl, E3.sub.sqL hp, fun t ht => ?_⟩
    have E4 := Ext.lay (o := .lst (cutV vs l u)) E3.sub ht True.intro
    exact q _ _ _ (E.trans E4) ⟨t, _, rfl, upd_same, reps_mono E4.gg _ _ (reps_cut l u r)⟩

/-! arguments, displays -/
theorem ea_nil : PA X [] (tA T lk ρ []) := pa_imp pa_nil fun σ H Q ⟨G, S, R, q⟩ => q [] G H (.refl S) rfl
theorem ea_cons (ha : PE X e (tD T lk ρ d)) (hr : PA X es (tA T lk ρ ds)) (hs : starEach (e :: es) X.env = (false, eval e X.env) :: starEach es X.env := by rfl) : PA X (e :: es) (tA T lk ρ (d :: ds)) :=
  pa_imp (pa_cons ha hr hs) fun σ H Q ⟨G, S, R, q⟩ => ⟨G, S, R, fun v G1 H1 E1 r1 => ⟨G1, E1.sub, R.mono E1.gg, fun vs G2 H2 E2 r2 => q _ G2 H2 (E1.trans E2) ⟨v, vs, rfl, rep_mono E2.gg _ _ r1, r2⟩⟩⟩
theorem sz_ok {n : Nat} (h : n ≤ 100000) : n ≤ sizeLine := Nat.le_trans h (by decide)
theorem ed_tup {k : Nat} (h : PA X es (tA T lk ρ ds)) (hz : ds.length ≤ 100000 := by exact Nat.le_of_ble_eq_true rfl) : PE X (.Tuple es k pos) (tD T lk ρ (.tuple ds)) :=
  pe_imp (pe_tup h) fun σ H Q ⟨G, S, R, q⟩ => ⟨G, S, R, fun vs G1 H1 E1 r1 => ⟨by rw [reps_length r1]; exact sz_ok hz, fun p hp => by
    have E2 := Ext.lay (o := .tup vs) E1.sub hp True.intro
    exact q _ _ _ (E1.trans E2) ⟨p, vs, rfl, upd_same, reps_mono E2.gg _ _ r1⟩⟩⟩
theorem ed_lst (h : PA X es (tA T lk ρ ds)) (hz : ds.length ≤ 100000 := by exact Nat.le_of_ble_eq_true rfl) : PE X (.List es pos) (tD T lk ρ (.list ds)) :=
  pe_imp (pe_lst h) fun σ H Q ⟨G, S, R, q⟩ => ⟨G, S, R, fun vs G1 H1 E1 r1 => ⟨by rw [reps_length r1]; exact sz_ok hz, fun p hp => by
    have E2 := Ext.lay (o := .lst vs) E1.sub hp True.intro
    exact q _ _ _ (E1.trans E2) ⟨p, vs, rfl, upd_same, reps_mono E2.gg _ _ r1⟩⟩⟩

/-! calls of built-ins -/
theorem ed_callB {x : Str} {id : String} {p : Pos} {r : List V → Hp → VK → Prop} (hc : CallR X (.builtin id) r) (hr : RDA T lk r ds d) (hm : X.mg x = none) (ha : PA X (e :: es) (tA T lk ρ ds)) (hg : Gl X x := by rfl) (hv : bootBuiltins x = some (.builtin id) := by decide +kernel)
    (hn : x ≠ "__name__" := by decide) (hdb : (x == ("__debug__" : Str)) = false := by decide) (he : starEach (e :: es) X.env = (false, eval e X.env) :: starEach es X.env := by rfl) (hpl : (backTo pos (starEach es X.env)).any (·.1) = false := by rfl) :
    PE X (.Call (.Name x p) (e :: es) [] pos) (tD T lk ρ d) := pe_imp (pe_callB hc hg hm hv ha hn hdb he hpl) (tda hr)
theorem ed_callTy {x : Str} {id : String} {p : Pos} {r : List V → Hp → VK → Prop} (hc : CallR X (.type id) r) (hr : RDA T lk r ds d) (hm : X.mg x = none) (ha : PA X (e :: es) (tA T lk ρ ds)) (hg : Gl X x := by rfl) (hv : bootBuiltins x = some (.type id) := by decide +kernel)
    (hn : x ≠ "__name__" := by decide) (hdb : (x == ("__debug__" : Str)) = false := by decide) (he : starEach (e :: es) X.env = (false, eval e X.env) :: starEach es X.env := by rfl) (hpl : (backTo pos (starEach es X.env)).any (·.1) = false := by rfl) :
    PE X (.Call (.Name x p) (e :: es) [] pos) (tD T lk ρ d) := pe_imp (pe_callTy hc hg hm hv ha hn hdb he hpl) (tda hr)
end
end GN

/-! what is walked, targets, statements, loops, comprehensions -/
namespace GN
open PySem PySem.Spec PyProof.Rows L2

/-! ### statements -/
inductive Out where
  | nx (ρ : List Sl) | rt (d : PyData) | bk (ρ : List Sl) | ct (ρ : List Sl)
section
variable (T : Tb) (lk : Lk)
def OutK (G H : Hp) (D : Ends) : Out → Prop
  | .nx ρ => ∀ σ' G' H', Ext T lk G H G' H' → Rel G' ρ σ' → D.nx σ' H'
  | .rt d => ∀ v G' H', Ext T lk G H G' H' → rep G' d v → D.rt v H'
  | .bk ρ => ∀ σ' G' H', Ext T lk G H G' H' → Rel G' ρ σ' → D.bk σ' H'
  | .ct ρ => ∀ σ' G' H', Ext T lk G H G' H' → Rel G' ρ σ' → D.ct σ' H'
def tS (ρ : List Sl) (o : Out) : TS := fun D σ H => ∃ G, Sub T lk G H ∧ Rel G ρ σ ∧ OutK T lk G H D o
def tG (x : PyData) (ρ ρ' : List Sl) : TG := fun v σ H Q => ∃ G, Sub T lk G H ∧ Rel G ρ σ ∧ rep G x v ∧ ∀ σ' G' H', Ext T lk G H G' H' → Rel G' ρ' σ' → Q σ' H'
/-- .. the other slots as they were -/
def tGw (vs : List Nat) (x : PyData) (ρ ρ' : List Sl) : TG := fun v σ H Q => ∃ G, Sub T lk G H ∧ Rel G ρ σ ∧ rep G x v ∧ ∀ σ' G' H', Ext T lk G H G' H' → Rel G' ρ' σ' → L2.wipe σ' vs = L2.wipe σ vs → Q σ' H'
/-- an iterator that yields the data xs -/
def Steps (J : It) (G1 : Hp) (xs : List PyData) : Prop := ∀ G2 H2, (∀ b o, G1 b = some o → G2 b = some o) → Sub T lk G2 H2 →
  (∀ i d, xs[i]? = some d → J.go i H2 ∧ ∀ x H', J.yld i H2 x H' → ∃ G3, Ext T lk G2 H2 G3 H' ∧ rep G3 d x) ∧ ∀ i, xs.length ≤ i → J.stop i H2
def tI (ρ : List Sl) (xs : List PyData) : TI := fun σ H R => ∃ G, Sub T lk G H ∧ Rel G ρ σ ∧ ∀ J G' H', Ext T lk G H G' H' → Steps T lk J G' xs → R J H'
end
section
variable {T : Tb} {lk : Lk} {X : Cx} {ρ ρ' ρ2 : List Sl} {e a b c : Expr} {es : List Expr} {pos : Pos} {d da db dc : PyData} {ds xs : List PyData} {o : Out} {st : Stmt} {sts : List Stmt}
theorem OutK.up {G H G1 H1 : Hp} {D : Ends} : ∀ {o : Out}, Ext T lk G H G1 H1 → OutK T lk G H D o → OutK T lk G1 H1 D o
  | .nx _, E, k => fun σ' G' H' E' r => k σ' G' H' (E.trans E') r
  | .rt _, E, k => fun σ' G' H' E' r => k σ' G' H' (E.trans E') r
  | .bk _, E, k => fun σ' G' H' E' r => k σ' G' H' (E.trans E') r
  | .ct _, E, k => fun σ' G' H' E' r => k σ' G' H' (E.trans E') r
theorem ps_imp {t u : TS} (h : PS X st t) (i : ∀ D σ H, u D σ H → t D σ H) : PS X st u := ⟨fun pins s σ H D I q => h.run pins s σ H D I (i D σ H q)⟩
theorem pss_imp {t u : TS} (h : PSs X sts t) (i : ∀ D σ H, u D σ H → t D σ H) : PSs X sts u := ⟨fun pins s σ H D I q => h.run pins s σ H D I (i D σ H q)⟩
theorem pi_imp {tg it : Expr} {t u : TI} (h : PI X tg it t) (i : ∀ σ H Q, u σ H Q → t σ H Q) : PI X tg it u := ⟨fun pins s σ H Q I q => h.run pins s σ H Q I (i σ H Q q)⟩
theorem pg_imp {tg : Expr} {t u : TG} (h : PG X tg t) (i : ∀ v σ H Q, u v σ H Q → t v σ H Q) : PG X tg u := ⟨fun pins s σ H v w Q I r q => h.run pins s σ H v w Q I r (i v σ H Q q)⟩
theorem es_weak (h : PS X st (tS T lk ρ' o)) (w : Wk ρ ρ') : PS X st (tS T lk ρ o) := ps_imp h fun D σ H ⟨G, S, R, q⟩ => ⟨G, S, R.weak w, q⟩
theorem ess_weak (h : PSs X sts (tS T lk ρ' o)) (w : Wk ρ ρ') : PSs X sts (tS T lk ρ o) := pss_imp h fun D σ H ⟨G, S, R, q⟩ => ⟨G, S, R.weak w, q⟩
theorem ess_out (h : PSs X sts (tS T lk ρ (.nx ρ'))) (w : Wk ρ' ρ2) : PSs X sts (tS T lk ρ (.nx ρ2)) := pss_imp h fun D σ H ⟨G, S, R, q⟩ => ⟨G, S, R, fun σ' G' H' E r => q σ' G' H' E (r.weak w)⟩
theorem es_out (h : PS X st (tS T lk ρ (.nx ρ'))) (w : Wk ρ' ρ2) : PS X st (tS T lk ρ (.nx ρ2)) := ps_imp h fun D σ H ⟨G, S, R, q⟩ => ⟨G, S, R, fun σ' G' H' E r => q σ' G' H' E (r.weak w)⟩
theorem ess_nil : PSs X [] (tS T lk ρ (.nx ρ)) := pss_imp pss_nil fun D σ H ⟨G, S, R, q⟩ => q σ G H (.refl S) R
theorem ess_cons (h1 : PS X st (tS T lk ρ (.nx ρ'))) (h2 : PSs X sts (tS T lk ρ' o)) : PSs X (st :: sts) (tS T lk ρ o) :=
  pss_imp (pss_cons h1 h2) fun D σ H ⟨G, S, R, q⟩ => ⟨G, S, R, fun σ' G' H' E r => ⟨G', E.sub, r, q.up E⟩⟩
theorem ess_one (h1 : PS X st (tS T lk ρ o)) : PSs X [st] (tS T lk ρ o) := pss_one h1
/-- the statement leaves the block -/
theorem ess_rt (h1 : PS X st (tS T lk ρ (.rt d))) : PSs X (st :: sts) (tS T lk ρ (.rt d)) :=
  pss_imp (pss_cons h1 pss_never) fun D σ H ⟨G, S, R, q⟩ => ⟨G, S, R, q⟩
theorem ess_bk (h1 : PS X st (tS T lk ρ (.bk ρ'))) : PSs X (st :: sts) (tS T lk ρ (.bk ρ')) :=
  pss_imp (pss_cons h1 pss_never) fun D σ H ⟨G, S, R, q⟩ => ⟨G, S, R, q⟩
theorem es_bk : PS X (.Break pos) (tS T lk ρ (.bk ρ)) := ps_imp ps_break fun D σ H ⟨G, S, R, q⟩ => q σ G H (.refl S) R
theorem es_ret (h : PE X e (tD T lk ρ d)) : PS X (.Return (some e) pos) (tS T lk ρ (.rt d)) := ps_imp (ps_ret h) fun D σ H ⟨G, S, R, q⟩ => ⟨G, S, R, q⟩
theorem es_set (i : Nat) {x : Str} {p : Pos} (h : PE X e (tD T lk ρ d)) (hN : X.N.Nodup) (hi : X.N[i]? = some x := by rfl) (hx : Loc X.env.scope x := by first | exact .inl rfl | exact .inr rfl) (hs : swapsWith e (some (.Name x p)) pos.line X.env = pure false := by rfl)
    (hf : X.fn x = true ∨ X.env.scope.names.lookup x = some .local := by first | exact .inl rfl | exact .inr rfl) : PS X (.Assign [.Name x p] e pos) (tS T lk ρ (.nx (ρ.set i (.d d)))) :=
  ps_imp (ps_set hN hi hx h hs hf) fun D σ H ⟨G, S, R, q⟩ => ⟨G, S, R, fun v G' H' E r => q _ G' H' E ((R.mono E.gg).setd r)⟩
theorem es_if {k : Bool} {p q : List Stmt} (hc : PT X c (tT T lk ρ k)) (h1 : k = true → PSs X p (tS T lk ρ o)) (h2 : k = false → PSs X q (tS T lk ρ o)) : PS X (.If c p q pos) (tS T lk ρ o) := by
  cases k with
  | true => exact ps_imp (ps_if hc (h1 rfl) pss_never) fun D σ H ⟨G, S, R, q⟩ => ⟨G, S, R, fun G' H' E => iteT ⟨G', E.sub, R.mono E.gg, q.up E⟩⟩
  | false => exact ps_imp (ps_if hc pss_never (h2 rfl)) fun D σ H ⟨G, S, R, q⟩ => ⟨G, S, R, fun G' H' E => iteF ⟨G', E.sub, R.mono E.gg, q.up E⟩⟩
/-! ### targets -/
theorem eg_name (i : Nat) {x : Str} {y : PyData} (hN : X.N.Nodup) (hi : X.N[i]? = some x := by rfl) (hx : Loc X.env.scope x := by first | exact .inl rfl | exact .inr rfl)
    (hf : X.fn x = true ∨ X.env.scope.names.lookup x = some .local := by first | exact .inl rfl | exact .inr rfl) : PG X (.Name x pos) (tG T lk y ρ (ρ.set i (.d y))) :=
  pg_imp (pg_name hN hi hx hf) fun v σ H Q ⟨G, S, R, r, q⟩ => q _ G H (.refl S) (R.setd r)
theorem eg_nameW (i : Nat) {x : Str} {y : PyData} (hN : X.N.Nodup) (hi : X.N[i]? = some x := by rfl) (hx : Loc X.env.scope x := by first | exact .inl rfl | exact .inr rfl)
    (hf : X.fn x = true ∨ X.env.scope.names.lookup x = some .local := by first | exact .inl rfl | exact .inr rfl) : PG X (.Name x pos) (tGw T lk [i] y ρ (ρ.set i (.d y))) :=
  pg_imp (pg_name hN hi hx hf) fun v σ H Q ⟨G, S, R, r, q⟩ => q _ G H (.refl S) (R.setd r) (by
    show (σ.set i (some v)).set i none = σ.set i none
    rw [List.set_set])
theorem gtup2 {K : PySem.W.Frag} {i j : Nat} {x y : PyData} {v : V} {σ : L2.St} {H G : Hp} {Q : L2.St → Hp → Prop} (S : Sub T lk G H) (r : rep G (.tuple [x, y]) v)
    (q : ∀ v1 v2, rep G x v1 → rep G y v2 → Q ((σ.set i (some v1)).set j (some v2)) H) : gTup K 2 (gCons (gName i) (gCons (gName j) gNil)) v σ H Q := by
  obtain ⟨p, vs, rfl, hp, r⟩ := r
  obtain ⟨v1, us, rfl, r1, r⟩ := r
  obtain ⟨v2, us, rfl, r2, r⟩ := r
  cases (show us = [] from r)
  exact ⟨p, [v1, v2], rfl, S.sqT hp, rfl, v1, [v2], rfl, v2, [], rfl, rfl, q v1 v2 r1 r2⟩
theorem eg_tup2 (i j : Nat) {x1 x2 : Str} {y z : PyData} {k : Nat} {p1 p2 : Pos} (hc : X.calm = true) (hN : X.N.Nodup) (hi : X.N[i]? = some x1 := by rfl) (hj : X.N[j]? = some x2 := by rfl) (hx : Loc X.env.scope x1 := by first | exact .inl rfl | exact .inr rfl) (hy : Loc X.env.scope x2 := by first | exact .inl rfl | exact .inr rfl)
    (hf : X.fn x1 = true ∨ X.env.scope.names.lookup x1 = some .local := by first | exact .inl rfl | exact .inr rfl) (hf2 : X.fn x2 = true ∨ X.env.scope.names.lookup x2 = some .local := by first | exact .inl rfl | exact .inr rfl) :
    PG X (.Tuple [.Name x1 p1, .Name x2 p2] k pos) (tG T lk (.tuple [y, z]) ρ ((ρ.set i (.d y)).set j (.d z))) :=
  pg_imp (pg_tup (n := 2) hc (pgs_cons (pg_name hN hi hx hf) (pgs_cons (pg_name hN hj hy hf2) pgs_nil))) fun v σ H Q ⟨G, S, R, r, q⟩ =>
    gtup2 S r fun v1 v2 r1 r2 => q _ G H (.refl S) ((R.setd r1).setd r2)
theorem eg_tup2W (i j : Nat) {x1 x2 : Str} {y z : PyData} {k : Nat} {p1 p2 : Pos} (hc : X.calm = true) (hN : X.N.Nodup) (hij : i ≠ j := by decide) (hi : X.N[i]? = some x1 := by rfl) (hj : X.N[j]? = some x2 := by rfl) (hx : Loc X.env.scope x1 := by first | exact .inl rfl | exact .inr rfl) (hy : Loc X.env.scope x2 := by first | exact .inl rfl | exact .inr rfl)
    (hf : X.fn x1 = true ∨ X.env.scope.names.lookup x1 = some .local := by first | exact .inl rfl | exact .inr rfl) (hf2 : X.fn x2 = true ∨ X.env.scope.names.lookup x2 = some .local := by first | exact .inl rfl | exact .inr rfl) :
    PG X (.Tuple [.Name x1 p1, .Name x2 p2] k pos) (tGw T lk [i, j] (.tuple [y, z]) ρ ((ρ.set i (.d y)).set j (.d z))) :=
  pg_imp (pg_tup (n := 2) hc (pgs_cons (pg_name hN hi hx hf) (pgs_cons (pg_name hN hj hy hf2) pgs_nil))) fun v σ H Q ⟨G, S, R, r, q⟩ =>
    gtup2 S r fun v1 v2 r1 r2 => q _ G H (.refl S) ((R.setd r1).setd r2) (by
      show (((σ.set i (some v1)).set j (some v2)).set j none).set i none = (σ.set j none).set i none
      rw [List.set_set, List.set_comm _ _ hij, List.set_set])
theorem es_asg {tg : Expr} (h : PE X e (tD T lk ρ d)) (hg : PG X tg (tG T lk d ρ ρ')) (hs : swapsWithSole [tg] e pos.line X.env = pure false := by rfl) (hw : swappedStores [tg] e X.env = pure none := by rfl)
    (h1 : (assignEach [tg] X.env).map (·.2) = [assign tg X.env] := by rfl) : PS X (.Assign [tg] e pos) (tS T lk ρ (.nx ρ')) :=
  ps_imp (ps_asg h hg hs hw h1) fun D σ H ⟨G, S, R, q⟩ => ⟨G, S, R, fun v G' H' E r => ⟨G', E.sub, R.mono E.gg, r, fun σ' G2 H2 E2 R2 => q σ' G2 H2 (E.trans E2) R2⟩⟩
theorem es_par (i j : Nat) {x y : Str} {px py pt : Pos} {kt k2 : Nat} {pt2 : Pos} (hc : X.calm = true) (hN : X.N.Nodup) (h : PA X [a, b] (tA T lk ρ [da, db])) (hi : X.N[i]? = some x := by rfl) (hj : X.N[j]? = some y := by rfl) (hij : i ≠ j := by decide)
    (hx : X.env.scope.names.lookup x = some .local := by rfl) (hy : X.env.scope.names.lookup y = some .local := by rfl)
    (hw : swappedStores [.Tuple [.Name x px, .Name y py] kt pt] (.Tuple [a, b] k2 pt2) X.env = pure (some [x, y]) := by rfl)
    (hs : swapsWithSole [.Tuple [.Name x px, .Name y py] kt pt] (.Tuple [a, b] k2 pt2) pos.line X.env = pure false := by rfl) :
    PS X (.Assign [.Tuple [.Name x px, .Name y py] kt pt] (.Tuple [a, b] k2 pt2) pos) (tS T lk ρ (.nx ((ρ.set i (.d da)).set j (.d db)))) :=
  ps_imp (ps_par hc hN hi hj hij hx hy h hw hs) fun D σ H ⟨G, S, R, q⟩ => ⟨G, S, R, fun vs G' H' E r => by
    obtain ⟨v1, us, rfl, r1, r⟩ := r
    obtain ⟨v2, us, rfl, r2, r⟩ := r
    cases (show us = [] from r)
    exact ⟨v1, v2, rfl, q _ G' H' E (((R.mono E.gg).setd r1).setd r2)⟩⟩
theorem es_par3 (i j l : Nat) {x y z : Str} {px py pz pt : Pos} {kt k2 : Nat} {pt2 : Pos} (hc : X.calm = true) (hN : X.N.Nodup) (h : PA X [a, b, c] (tA T lk ρ [da, db, dc])) (hi : X.N[i]? = some x := by rfl) (hj : X.N[j]? = some y := by rfl) (hl : X.N[l]? = some z := by rfl)
    (hij : i ≠ j := by decide) (hil : i ≠ l := by decide) (hjl : j ≠ l := by decide)
    (hx : X.env.scope.names.lookup x = some .local := by rfl) (hy : X.env.scope.names.lookup y = some .local := by rfl) (hz : X.env.scope.names.lookup z = some .local := by rfl)
    (hw : swappedStores [.Tuple [.Name x px, .Name y py, .Name z pz] kt pt] (.Tuple [a, b, c] k2 pt2) X.env = pure (some [x, y, z]) := by rfl)
    (hs : swapsWithSole [.Tuple [.Name x px, .Name y py, .Name z pz] kt pt] (.Tuple [a, b, c] k2 pt2) pos.line X.env = pure false := by rfl) :
    PS X (.Assign [.Tuple [.Name x px, .Name y py, .Name z pz] kt pt] (.Tuple [a, b, c] k2 pt2) pos) (tS T lk ρ (.nx (((ρ.set i (.d da)).set j (.d db)).set l (.d dc)))) :=
  ps_imp (ps_par3 hc hN hi hj hl hij hil hjl hx hy hz h hw hs) fun D σ H ⟨G, S, R, q⟩ => ⟨G, S, R, fun vs G' H' E r => by
    obtain ⟨v1, us, rfl, r1, r⟩ := r
    obtain ⟨v2, us, rfl, r2, r⟩ := r
    obtain ⟨v3, us, rfl, r3, r⟩ := r
    cases (show us = [] from r)
    exact ⟨v1, v2, v3, rfl, q _ G' H' E ((((R.mono E.gg).setd r1).setd r2).set ⟨v3, rfl, r3⟩)⟩⟩

/-! ### what is walked -/
theorem steps_list {K : PySem.W.Frag} {p : Addr} {vs : List V} {G : Hp} (hp : G p = some (.lst vs)) (r : reps G xs vs) : Steps T lk (Itl K p) G xs := fun G2 H2 g S => by
  have h2 := g p _ hp
  have r2 := reps_mono g _ _ r
  refine ⟨fun i d hd => ?_, fun i hi => ⟨vs, S.sqL h2, by rw [reps_length r]; exact hi⟩⟩
  obtain ⟨v, hv, rv⟩ := reps_at r2 hd
  refine ⟨⟨vs, v, S.sqL h2, hv⟩, fun x H' y => ?_⟩
  obtain ⟨rfl, y⟩ := y
  obtain rfl := Option.some.inj ((y vs (S.sqL h2)).symm.trans hv)
  exact ⟨G2, .refl S, rv⟩
theorem steps_tup {K : PySem.W.Frag} {p : Addr} {vs : List V} {G : Hp} (hp : G p = some (.tup vs)) (r : reps G xs vs) : Steps T lk (Itt K p) G xs := fun G2 H2 g S => by
  have h2 := g p _ hp
  have r2 := reps_mono g _ _ r
  refine ⟨fun i d hd => ?_, fun i hi => ⟨vs, S.sqT h2, by rw [reps_length r]; exact hi⟩⟩
  obtain ⟨v, hv, rv⟩ := reps_at r2 hd
  refine ⟨⟨vs, v, S.sqT h2, hv⟩, fun x H' y => ?_⟩
  obtain ⟨rfl, y⟩ := y
  obtain rfl := Option.some.inj ((y vs (S.sqT h2)).symm.trans hv)
  exact ⟨G2, .refl S, rv⟩
theorem ei_list {tg : Expr} (h : PE X e (tD T lk ρ (.list xs))) : PI X tg e (tI T lk ρ xs) := pi_imp (pi_list h) fun σ H Rk ⟨G, S, R, q⟩ => ⟨G, S, R, fun v G' H' E r => by
  obtain ⟨p, vs, rfl, hp, r⟩ := r
  exact ⟨p, rfl, ⟨vs, E.sub.sqL hp⟩, q _ G' H' E (steps_list hp r)⟩⟩
theorem ei_tup {tg : Expr} (h : PE X e (tD T lk ρ (.tuple xs))) : PI X tg e (tI T lk ρ xs) := pi_imp (pi_tup h) fun σ H Rk ⟨G, S, R, q⟩ => ⟨G, S, R, fun v G' H' E r => by
  obtain ⟨p, vs, rfl, hp, r⟩ := r
  exact ⟨p, rfl, ⟨vs, E.sub.sqT hp⟩, q _ G' H' E (steps_tup hp r)⟩⟩
theorem ei_sq {k : Bool} {tg : Expr} (h : PE X e (tD T lk ρ (sq k xs))) : PI X tg e (tI T lk ρ xs) := by
  cases k with
  | true => exact ei_tup h
  | false => exact ei_list h
def rangeP (n : Nat) : List PyData := (List.range n).map fun (i : Nat) => PyData.int (i : Int)
theorem rangeP_len (n : Nat) : (rangeP n).length = n := by unfold rangeP; rw [List.length_map, List.length_range]
theorem rangeP_at {n i : Nat} {d : PyData} (h : (rangeP n)[i]? = some d) : i < n ∧ d = .int (i : Int) := by
  unfold rangeP at h
  rw [List.getElem?_map] at h
  cases q : (List.range n)[i]? with
  | none => rw [q] at h; cases h
  | some j =>
    rw [q] at h
    obtain ⟨h1, h2⟩ := List.getElem?_eq_some_iff.mp q
    rw [List.length_range] at h1
    rw [List.getElem_range] at h2
    subst h2
    exact ⟨h1, (Option.some.inj h).symm⟩
theorem ei_range {tg : Expr} {p : Pos} {n : Nat} (hm : X.mg "range" = none) (h : PA X [a] (tA T lk ρ [.int (n : Int)])) (hz : n ≤ 100000) (hg : Gl X "range" := by rfl) (hs : starEach [a] X.env = [(false, eval a X.env)] := by rfl) : PI X tg (.Call (.Name "range" p) [a] [] pos) (tI T lk ρ (rangeP n)) :=
  pi_imp (pi_range1 hg hm h hs) fun σ H Rk ⟨G, S, R, q⟩ => ⟨G, S, R, fun v G' H' E r => by
    obtain ⟨v1, us, rfl, r1, r⟩ := r
    cases (show us = [] from r)
    cases (show v1 = V.int _ from r1)
    refine ⟨(n : Int), rfl, by omega, by omega, q _ G' H' E fun G2 H2 g S2 => ⟨fun i d hd => ?_, fun i hi => ?_⟩⟩
    · obtain ⟨h1, rfl⟩ := rangeP_at hd
      refine ⟨by show i < (n : Int).toNat; omega, fun x H' y => ?_⟩
      obtain ⟨rfl, rfl⟩ := y
      refine ⟨G2, .refl S2, ?_⟩
      show V.int ((0 : Int) + i) = V.int i
      rw [Int.zero_add]
    · rw [rangeP_len] at hi
      show (n : Int).toNat ≤ i
      omega⟩
def enumP : Nat → List PyData → List PyData
  | _, [] => []
  | n, d :: ds => .tuple [.int (n : Int), d] :: enumP (n + 1) ds
theorem enumP_at : ∀ {ds : List PyData} {n i : Nat} {x : PyData}, (enumP n ds)[i]? = some x → ∃ d, ds[i]? = some d ∧ x = .tuple [.int ((n + i : Nat) : Int), d]
  | [], _, _, _, h => by simp [enumP] at h
  | d :: ds, n, 0, x, h => ⟨d, rfl, (Option.some.inj h).symm⟩
  | d :: ds, n, i + 1, x, h => by
    obtain ⟨d', h1, h2⟩ := enumP_at (ds := ds) (n := n + 1) (i := i) h
    exact ⟨d', h1, by rw [h2, show n + 1 + i = n + (i + 1) by omega]⟩
theorem enumP_len : ∀ (ds : List PyData) (n : Nat), (enumP n ds).length = ds.length
  | [], _ => rfl
  | d :: ds, n => by show (enumP (n + 1) ds).length + 1 = _; rw [enumP_len ds]; rfl
theorem ei_enum {elts : List Expr} {kk : Nat} {p tpos : Pos} (hm : X.mg "enumerate" = none) (h : PA X [a] (tA T lk ρ [.list xs])) (hg : Gl X "enumerate" := by rfl) (hs : starEach [a] X.env = [(false, eval a X.env)] := by rfl) :
    PI X (.Tuple elts kk tpos) (.Call (.Name "enumerate" p) [a] [] pos) (tI T lk ρ (enumP 0 xs)) :=
  pi_imp (pi_enum hg hm h hs) fun σ H Rk ⟨G, S, R, q⟩ => ⟨G, S, R, fun v G' H' E r => by
    obtain ⟨v1, us, rfl, r1, r⟩ := r
    cases (show us = [] from r)
    obtain ⟨p, vs, rfl, hp, r⟩ := r1
    refine ⟨p, vs, rfl, E.sub.sqL hp, q _ G' H' E fun G2 H2 g S2 => ?_⟩
    have h2 := g p _ hp
    have r2 := reps_mono g _ _ r
    refine ⟨fun i d hd => ?_, fun i hi => ⟨vs, S2.sqL h2, by rw [reps_length r]; rw [enumP_len] at hi; exact hi⟩⟩
    obtain ⟨d', hd', rfl⟩ := enumP_at hd
    obtain ⟨v, hv, rv⟩ := reps_at r2 hd'
    refine ⟨⟨vs, v, S2.sqL h2, hv⟩, fun x H' y => ?_⟩
    obtain ⟨t, x', rfl, ht, rfl, y⟩ := y
    obtain rfl := Option.some.inj ((y vs (S2.sqL h2)).symm.trans hv)
    have E3 := Ext.lay (o := .tup [.int (i : Nat), x']) S2 ht True.intro
    refine ⟨_, E3, t, _, rfl, upd_same, .int (i : Nat), _, rfl, ?_, x', [], rfl, rep_mono E3.gg _ _ rv, rfl⟩
    rw [Nat.zero_add]
    exact rfl⟩
def zipP : List PyData → List PyData → List PyData
  | x :: xs, y :: ys => .tuple [x, y] :: zipP xs ys
  | _, _ => []
theorem zipP_at : ∀ {xs ys : List PyData} {i : Nat} {z : PyData}, (zipP xs ys)[i]? = some z → ∃ x y, xs[i]? = some x ∧ ys[i]? = some y ∧ z = .tuple [x, y]
  | [], _, _, _, h => by simp [zipP] at h
  | _ :: _, [], _, _, h => by simp [zipP] at h
  | x :: xs, y :: ys, 0, z, h => ⟨x, y, rfl, rfl, (Option.some.inj h).symm⟩
  | x :: xs, y :: ys, i + 1, z, h => zipP_at (xs := xs) (ys := ys) (i := i) h
theorem zipP_len : ∀ (xs ys : List PyData) (i : Nat), (zipP xs ys).length ≤ i → xs.length ≤ i ∨ ys.length ≤ i
  | [], _, _, _ => .inl (Nat.zero_le _)
  | _ :: _, [], _, _ => .inr (Nat.zero_le _)
  | x :: xs, y :: ys, 0, h => absurd h (by simp [zipP])
  | x :: xs, y :: ys, i + 1, h => by
    rcases zipP_len xs ys i (Nat.le_of_succ_le_succ h) with z | z
    · exact .inl (Nat.succ_le_succ z)
    · exact .inr (Nat.succ_le_succ z)
theorem ei_zip {k : Bool} {ys : List PyData} {elts : List Expr} {kk : Nat} {p tpos : Pos} (hm : X.mg "zip" = none) (h : PA X [a, b] (tA T lk ρ [sq k xs, sq k ys])) (hg : Gl X "zip" := by rfl)
    (hs : starEach [a, b] X.env = (false, eval a X.env) :: starEach [b] X.env := by rfl) (hpl : (backTo pos (starEach [b] X.env)).any (·.1) = false := by rfl) :
    PI X (.Tuple elts kk tpos) (.Call (.Name "zip" p) [a, b] [] pos) (tI T lk ρ (zipP xs ys)) :=
  pi_imp (RZ.pi_zipA hg hm h hs hpl) fun σ H Rk ⟨G, S, R, q⟩ => ⟨G, S, R, fun v G' H' E r => by
    obtain ⟨v1, us, rfl, r1, r⟩ := r
    obtain ⟨v2, us, rfl, r2, r⟩ := r
    cases (show us = [] from r)
    obtain ⟨p1, vs1, rfl, hp1, q1⟩ := rep_sq r1
    obtain ⟨p2, vs2, rfl, hp2, q2⟩ := rep_sq r2
    clear r1 r2
    have fin : ∀ {G2 H2 : Hp} (g : ∀ b o, G' b = some o → G2 b = some o) (S2 : Sub T lk G2 H2) {i : Nat} {d : PyData}, (zipP xs ys)[i]? = some d → ∃ x y v w, vs1[i]? = some v ∧ vs2[i]? = some w ∧ d = .tuple [x, y] ∧ rep G2 x v ∧ rep G2 y w := fun {G2 H2} g S2 {i d} hd => by
      obtain ⟨x, y, hx, hy, rfl⟩ := zipP_at hd
      obtain ⟨v, hv, rv⟩ := reps_at (reps_mono g _ _ q1) hx
      obtain ⟨w, hw, rw'⟩ := reps_at (reps_mono g _ _ q2) hy
      exact ⟨x, y, v, w, hv, hw, rfl, rv, rw'⟩
    have lay : ∀ {G2 H2 : Hp} (S2 : Sub T lk G2 H2) {x y : PyData} {v w : V} {t : Addr}, H2 t = none → rep G2 x v → rep G2 y w → ∃ G3, Ext T lk G2 H2 G3 (upd H2 t (.tup [v, w])) ∧ rep G3 (.tuple [x, y]) (.ref t) := fun {G2 H2} S2 {x y v w t} ht rv rw' => by
      have E3 := Ext.lay (o := .tup [v, w]) S2 ht True.intro
      exact ⟨_, E3, t, _, rfl, upd_same, v, _, rfl, rep_mono E3.gg _ _ rv, w, [], rfl, rep_mono E3.gg _ _ rw', rfl⟩
    cases k with
    | false =>
      refine ⟨p1, p2, vs1, vs2, rfl, .inl ⟨E.sub.sqL hp1, E.sub.sqL hp2, q _ G' H' E fun G2 H2 g S2 => ⟨fun i d hd => ?_, fun i hi => ?_⟩⟩⟩
      · obtain ⟨x, y, v, w, hv, hw, rfl, rv, rw'⟩ := fin g S2 hd
        refine ⟨⟨vs1, vs2, v, w, S2.sqL (g _ _ hp1), S2.sqL (g _ _ hp2), hv, hw⟩, fun z H' y => ?_⟩
        obtain ⟨t, x', y', rfl, ht, rfl, y1, y2⟩ := y
        obtain rfl := Option.some.inj ((y1 vs1 (S2.sqL (g _ _ hp1))).symm.trans hv)
        obtain rfl := Option.some.inj ((y2 vs2 (S2.sqL (g _ _ hp2))).symm.trans hw)
        exact lay S2 ht rv rw'
      · exact ⟨vs1, vs2, S2.sqL (g _ _ hp1), S2.sqL (g _ _ hp2), by rw [reps_length q1, reps_length q2]; exact zipP_len xs ys i hi⟩
    | true =>
      refine ⟨p1, p2, vs1, vs2, rfl, .inr ⟨E.sub.sqT hp1, E.sub.sqT hp2, q _ G' H' E fun G2 H2 g S2 => ⟨fun i d hd => ?_, fun i hi => ?_⟩⟩⟩
      · obtain ⟨x, y, v, w, hv, hw, rfl, rv, rw'⟩ := fin g S2 hd
        refine ⟨⟨vs1, vs2, v, w, S2.sqT (g _ _ hp1), S2.sqT (g _ _ hp2), hv, hw⟩, fun z H' y => ?_⟩
        obtain ⟨t, x', y', rfl, ht, rfl, y1, y2⟩ := y
        obtain rfl := Option.some.inj ((y1 vs1 (S2.sqT (g _ _ hp1))).symm.trans hv)
        obtain rfl := Option.some.inj ((y2 vs2 (S2.sqT (g _ _ hp2))).symm.trans hw)
        exact lay S2 ht rv rw'
      · exact ⟨vs1, vs2, S2.sqT (g _ _ hp1), S2.sqT (g _ _ hp2), by rw [reps_length q1, reps_length q2]; exact zipP_len xs ys i hi⟩⟩
end
end GN

/-! loops, comprehensions, calls of defs -/
namespace GN
open PySem PySem.Spec PyProof.Rows L2

section
variable {T : Tb} {lk : Lk} {X : Cx} {ρ ρ' ρ2 : List Sl} {e a b c : Expr} {es : List Expr} {pos : Pos} {d da db dc : PyData} {ds xs : List PyData} {o : Out} {st : Stmt} {sts : List Stmt}

/-! ### for -/
/-- how the loop ends: it runs out, or the turn m leaves it -/
def EndF (body : Nat → Out → Prop) (f : Nat → List Sl) (xs : List PyData) (m : Nat) (fin : Out) : Prop :=
  (m = xs.length ∧ fin = .nx (f m)) ∨ (m < xs.length ∧ ((∃ d, fin = .rt d ∧ body m (.rt d)) ∨ ∃ ρb, fin = .nx ρb ∧ body m (.bk ρb)))
theorem es_forX {tg iter : Expr} {body : List Stmt} (f f' : Nat → List Sl) (m : Nat) (fin : Out) (hp : PassesOwn (model X.prog X.w) X.A X.env X.xe) (hc : X.calm = true) (hi : PI X tg iter (tI T lk ρ xs)) (h0 : Wk ρ (f 0)) (hm : m ≤ xs.length)
    (hg : ∀ i x, xs[i]? = some x → i ≤ m → PG X tg (tG T lk x (f i) (f' i)))
    (hb : ∀ i x, xs[i]? = some x → i < m → PSs X body (tS T lk (f' i) (.nx (f (i + 1)))) ∨ PSs X body (tS T lk (f' i) (.ct (f (i + 1)))))
    (he : EndF (fun i o => PSs X body (tS T lk (f' i) o)) f xs m fin)
    (hs : ∀ x, foldedSetIterable iter X.env x = pure x := by intro _; rfl) : PS X (.For tg iter body [] pos) (tS T lk ρ fin) := by
  have hgU : PG X tg (fun v σ H Q => ∃ i x, xs[i]? = some x ∧ i ≤ m ∧ tG T lk x (f i) (f' i) v σ H Q) := ⟨fun pins s σ H v u Q I r ⟨i, x, hx, him, q⟩ => (hg i x hx him).run pins s σ H v u Q I r q⟩
  have hbU : PSs X body (fun D σ H => ∃ i o, PSs X body (tS T lk (f' i) o) ∧ tS T lk (f' i) o D σ H) := ⟨fun pins s σ H D I ⟨i, o, hx, q⟩ => hx.run pins s σ H D I q⟩
  refine ps_imp (ps_for hp hc hi hgU hbU hs) fun D σ H ⟨G, S, R, q⟩ => ⟨G, S, R, fun J G1 H1 E1 st => ?_⟩
  refine ⟨fun i k σ2 H2 => i + k = xs.length ∧ i ≤ m ∧ ∃ G2, Ext T lk G H G2 H2 ∧ (∀ b o, G1 b = some o → G2 b = some o) ∧ Rel G2 (f i) σ2, ⟨xs.length, by omega, Nat.zero_le _, G1, E1, fun _ _ z => z, (R.mono E1.gg).weak h0⟩, ?_⟩
  rintro i k σ2 H2 ⟨hik, him, G2, E2, g2, R2⟩
  obtain ⟨st1, st2⟩ := st G2 H2 g2 E2.sub
  have turn : i < xs.length → ∃ x, xs[i]? = some x ∧ J.go i H2 ∧ ∀ x' H', J.yld i H2 x' H' → ∃ G3, Ext T lk G2 H2 G3 H' ∧ rep G3 x x' := fun h => by
    have hx := List.getElem?_eq_getElem h
    obtain ⟨h1, h2⟩ := st1 i _ hx
    exact ⟨_, hx, h1, h2⟩
  by_cases hlt : i < m
  · obtain ⟨x, hx, go, yl⟩ := turn (by omega)
    refine .inr ⟨go, fun σ3 H3 => ∃ G3, Ext T lk G H G3 H3 ∧ (∀ b o, G1 b = some o → G3 b = some o) ∧ Rel G3 (f (i + 1)) σ3, fun σ' H' ⟨G3, E3, g3, R3⟩ => ⟨k - 1, by omega, by omega, hlt, G3, E3, g3, R3⟩, fun v H' y => ?_⟩
    obtain ⟨G3, E3, rv⟩ := yl v H' y
    refine ⟨i, x, hx, him, G3, E3.sub, R2.mono E3.gg, rv, fun σ4 G4 H4 E4 R4 => ?_⟩
    have next : ∀ σ' G' H', Ext T lk G4 H4 G' H' → Rel G' (f (i + 1)) σ' → ∃ G3, Ext T lk G H G3 H' ∧ (∀ b o, G1 b = some o → G3 b = some o) ∧ Rel G3 (f (i + 1)) σ' := fun σ' G' H' E' R' =>
      ⟨G', E2.trans (E3.trans (E4.trans E')), fun b o z => E'.gg b o (E4.gg b o (E3.gg b o (g2 b o z))), R'⟩
    rcases hb i x hx hlt with h | h
    · exact ⟨i, _, h, G4, E4.sub, R4, next⟩
    · exact ⟨i, _, h, G4, E4.sub, R4, next⟩
  · have him2 : i = m := by omega
    subst him2
    rcases he with ⟨e1, rfl⟩ | ⟨hlen, he⟩
    · exact .inl ⟨st2 i (by omega), q σ2 G2 H2 E2 R2⟩
    · obtain ⟨x, hx, go, yl⟩ := turn hlen
      refine .inr ⟨go, fun _ _ => False, fun _ _ z => z.elim, fun v H' y => ?_⟩
      obtain ⟨G3, E3, rv⟩ := yl v H' y
      refine ⟨i, x, hx, him, G3, E3.sub, R2.mono E3.gg, rv, fun σ4 G4 H4 E4 R4 => ?_⟩
      rcases he with ⟨d, rfl, h⟩ | ⟨ρb, rfl, h⟩
      · exact ⟨i, _, h, G4, E4.sub, R4, fun v G' H' E' r => q v G' H' (E2.trans (E3.trans (E4.trans E'))) r⟩
      · exact ⟨i, _, h, G4, E4.sub, R4, fun σ' G' H' E' r => q σ' G' H' (E2.trans (E3.trans (E4.trans E'))) r⟩
/-- every turn goes on -/
theorem es_for {tg iter : Expr} {body : List Stmt} (f f' : Nat → List Sl) (hp : PassesOwn (model X.prog X.w) X.A X.env X.xe) (hc : X.calm = true) (hi : PI X tg iter (tI T lk ρ xs)) (h0 : Wk ρ (f 0))
    (hg : ∀ i x, xs[i]? = some x → PG X tg (tG T lk x (f i) (f' i)))
    (hb : ∀ i x, xs[i]? = some x → PSs X body (tS T lk (f' i) (.nx (f (i + 1)))))
    (hs : ∀ x, foldedSetIterable iter X.env x = pure x := by intro _; rfl) : PS X (.For tg iter body [] pos) (tS T lk ρ (.nx (f xs.length))) :=
  es_forX f f' xs.length _ hp hc hi h0 (Nat.le_refl _) (fun i x hx _ => hg i x hx) (fun i x hx _ => .inl (hb i x hx)) (.inl ⟨rfl, rfl⟩) hs

/-! ### comprehensions -/
theorem wipe_set {σ : L2.St} : ∀ (vs : List Nat) (v : Nat), (L2.wipe σ vs).set v none = L2.wipe (σ.set v none) vs
  | [], _ => rfl
  | w :: vs, v => by
    show ((L2.wipe σ vs).set w none).set v none = (L2.wipe (σ.set v none) vs).set w none
    rw [← wipe_set vs v]
    by_cases h : v = w
    · subst h; rfl
    · exact List.set_comm _ _ (Ne.symm h)
theorem wipe_twice {σ : L2.St} : ∀ vs : List Nat, L2.wipe (L2.wipe σ vs) vs = L2.wipe σ vs
  | [] => rfl
  | v :: vs => by
    show (L2.wipe ((L2.wipe σ vs).set v none) vs).set v none = (L2.wipe σ vs).set v none
    rw [← wipe_set, wipe_twice vs, List.set_set]
/-- the items that pass -/
def picked (n : Nat) (t : Nat → Bool) (y : Nat → PyData) : List PyData := ((List.range n).filter t).map y
theorem picked_yes {n : Nat} {t : Nat → Bool} {y : Nat → PyData} (h : t n = true) : picked (n + 1) t y = picked n t y ++ [y n] := by
  unfold picked
  rw [List.range_succ, List.filter_append, List.map_append, List.filter_cons, if_pos h]
  rfl
theorem picked_no {n : Nat} {t : Nat → Bool} {y : Nat → PyData} (h : t n = false) : picked (n + 1) t y = picked n t y := by
  unfold picked
  rw [List.range_succ, List.filter_append, List.map_append, List.filter_cons, if_neg (by rw [h]; decide)]
  exact List.append_nil _
theorem picked_len (n : Nat) (t : Nat → Bool) (y : Nat → PyData) : (picked n t y).length ≤ n := by
  unfold picked
  rw [List.length_map]
  have h := List.length_filter_le t (List.range n)
  rw [List.length_range] at h
  exact h
theorem pts_imp {ifs : List Expr} {t u : TT} (h : PTs X ifs t) (i : ∀ σ H Q, u σ H Q → t σ H Q) : PTs X ifs u := ⟨fun pins s σ H Q I q => h.run pins s σ H Q I (i σ H Q q)⟩
theorem ets_nil : PTs X [] (tT T lk ρ true) := pts_imp pts_nil fun σ H Q ⟨G, S, R, q⟩ => q G H (.refl S)
theorem ets_one {k : Bool} (h : PT X c (tT T lk ρ k)) : PTs X [c] (tT T lk ρ k) := pts_one h

/-- what a list comprehension reads, over data -/
theorem lc_read {vs : List Nat} {f' : Nat → List Sl} {t : Nat → Bool} {y : Nat → PyData} (hz : xs.length ≤ 100000) (σ : L2.St) (H : Hp) (Q : VK) (q : tD T lk ρ (.list (picked xs.length t y)) σ H Q) :
    tLc (tI T lk ρ xs) (fun v σ H Q => ∃ i x, xs[i]? = some x ∧ tGw T lk vs x (wipeS ρ vs) (f' i) v σ H Q) (fun σ H Q => ∃ i x, xs[i]? = some x ∧ tT T lk (f' i) (t i) σ H Q) (fun σ H Q => ∃ i x, xs[i]? = some x ∧ t i = true ∧ tD T lk (f' i) (y i) σ H Q) vs σ H Q := by
  obtain ⟨G, S, R, q⟩ := q
  refine ⟨G, S, R, fun J G1 H1 E1 st D hD => ?_⟩
  have gD : G1 D = none := E1.sub.fresh hD
  have E1' : Ext T lk G1 H1 G1 (upd H1 D (.lst [])) := .off E1.sub hD
  refine ⟨fun i k H2 => i + k = xs.length ∧ ∃ G2 acc, Ext T lk G1 H1 G2 H2 ∧ G2 D = none ∧ H2 D = some (.lst acc) ∧ reps G2 (picked i t y) acc, ⟨xs.length, by omega, G1, [], E1', gD, upd_same, rfl⟩, ?_⟩
  rintro i k H2 ⟨hik, G2, acc, E2, g2, hD2, racc⟩
  obtain ⟨st1, st2⟩ := st G2 H2 E2.gg E2.sub
  by_cases hlt : i < xs.length
  · have hx := List.getElem?_eq_getElem hlt
    obtain ⟨go, yl⟩ := st1 i _ hx
    refine .inr ⟨go, fun H3 => ∃ G3 acc, Ext T lk G1 H1 G3 H3 ∧ G3 D = none ∧ H3 D = some (.lst acc) ∧ reps G3 (picked (i + 1) t y) acc, fun H' ⟨G3, ac, E3, g3, h3, r3⟩ => ⟨k - 1, by omega, by omega, G3, ac, E3, g3, h3, r3⟩, fun v H' yy => ?_⟩
    obtain ⟨G3, E3, rv⟩ := yl v H' yy
    refine ⟨i, _, hx, G3, E3.sub, ((R.mono E1.gg).mono (fun b o z => E3.gg b o (E2.gg b o z))).wipe vs, rv, fun σ4 G4 H4 E4 R4 hw => ⟨by rw [hw, wipe_twice], i, _, hx, G4, E4.sub, R4, fun G5 H5 E5 => ?_⟩⟩
    have E35 := E3.trans (E4.trans E5)
    have hD5 : H5 D = some (.lst acc) := E35.keep hD2 True.intro
    have g5 : G5 D = none := (E35.frK hD2 True.intro).trans g2
    cases ht : t i with
    | true =>
      refine iteT ⟨i, _, hx, ht, G5, E5.sub, R4.mono E5.gg, fun w G6 H6 E6 rw' => ?_⟩
      have E36 := E35.trans E6
      have hD6 : H6 D = some (.lst acc) := E36.keep hD2 True.intro
      have g6 : G6 D = none := (E36.frK hD2 True.intro).trans g2
      refine ⟨acc, hD6, ?_, G6, acc ++ [w], (E2.trans E36).mut hD hD6 True.intro g6, g6, upd_same, ?_⟩
      · rw [reps_length racc]
        exact Nat.lt_of_le_of_lt (Nat.le_trans (picked_len i t y) (Nat.le_trans (Nat.le_of_lt hlt) hz)) (by decide)
      · rw [picked_yes ht]
        exact reps_app (reps_mono E36.gg _ _ racc) ⟨w, [], rfl, rw', rfl⟩
    | false =>
      refine iteF ⟨G5, acc, E2.trans E35, g5, hD5, ?_⟩
      rw [picked_no ht]
      exact reps_mono E35.gg _ _ racc
  · have hi : i = xs.length := by omega
    subst hi
    refine .inl ⟨st2 _ (Nat.le_refl _), ?_⟩
    have Ea := E2.adopt hD hD2 True.intro g2
    exact q _ _ _ (E1.trans Ea) ⟨D, acc, rfl, upd_same, reps_mono (rep_upd g2) _ _ racc⟩
theorem ed_lc {elt tg iter : Expr} {ifs : List Expr} {scope : Scope} {own : List (Str × Nat)} (f' : Nat → List Sl) (t : Nat → Bool) (y : Nat → PyData) (hc : X.calm = true) (hN : X.N.Nodup) (hi : PI X tg iter (tI T lk ρ xs)) (hz : xs.length ≤ 100000)
    (hg : ∀ i x, xs[i]? = some x → ∀ (s : Shared) (H : Hp) (C : Addr) (cl : List (Str × Addr)) (fp : List Addr), PG (X.blk s H scope (compEnvC scope cl C X.env) fp) tg (tGw T lk (own.map (·.2)) x (wipeS ρ (own.map (·.2))) (f' i)))
    (ht : ∀ i x, xs[i]? = some x → ∀ (s : Shared) (H : Hp) (C : Addr) (cl : List (Str × Addr)) (fp : List Addr), PTs (X.blk s H scope (compEnvC scope cl C X.env) fp) ifs (tT T lk (f' i) (t i)))
    (he : ∀ i x, xs[i]? = some x → t i = true → ∀ (s : Shared) (H : Hp) (C : Addr) (cl : List (Str × Addr)) (fp : List Addr), PE (X.blk s H scope (compEnvC scope cl C X.env) fp) elt (tD T lk (f' i) (y i)))
    (ok : BlkOk X.N X.env.scope scope own) (hs : ∀ x, foldedSetIterable iter X.env x = pure x := by intro _; rfl) :
    PE X (.ListComp elt [⟨tg, iter, ifs, 0⟩] scope pos) (tD T lk ρ (.list (picked xs.length t y))) :=
  pe_imp (pe_lc hc hN hi ok (fun s H C cl fp => ⟨fun pins s' σ H' v u Q I r ⟨i, x, hx, q⟩ => (hg i x hx s H C cl fp).run pins s' σ H' v u Q I r q⟩)
    (fun s H C cl fp => ⟨fun pins s' σ H' Q I ⟨i, x, hx, q⟩ => (ht i x hx s H C cl fp).run pins s' σ H' Q I q⟩)
    (fun s H C cl fp => ⟨fun pins s' σ H' Q I ⟨i, x, hx, h, q⟩ => (he i x hx h s H C cl fp).run pins s' σ H' Q I q⟩) hs) (lc_read hz)
theorem es_setLc {j : Nat} {z : Str} {py spos : Pos} {elt tg iter : Expr} {ifs : List Expr} {scope : Scope} {own : List (Str × Nat)} (f' : Nat → List Sl) (t : Nat → Bool) (y : Nat → PyData) (hc : X.calm = true) (hN : X.N.Nodup) (hi : PI X tg iter (tI T lk ρ xs)) (hz : xs.length ≤ 100000)
    (hg : ∀ i x, xs[i]? = some x → ∀ (s : Shared) (H : Hp) (C : Addr) (cl : List (Str × Addr)) (fp : List Addr), PG (X.blk s H scope (compEnvC scope cl C X.env) fp) tg (tGw T lk (own.map (·.2)) x (wipeS ρ (own.map (·.2))) (f' i)))
    (ht : ∀ i x, xs[i]? = some x → ∀ (s : Shared) (H : Hp) (C : Addr) (cl : List (Str × Addr)) (fp : List Addr), PTs (X.blk s H scope (compEnvC scope cl C X.env) fp) ifs (tT T lk (f' i) (t i)))
    (he : ∀ i x, xs[i]? = some x → t i = true → ∀ (s : Shared) (H : Hp) (C : Addr) (cl : List (Str × Addr)) (fp : List Addr), PE (X.blk s H scope (compEnvC scope cl C X.env) fp) elt (tD T lk (f' i) (y i)))
    (ok : BlkOk X.N X.env.scope scope own) (hy : X.N[j]? = some z) (hyl : X.env.scope.names.lookup z = some .local)
    (hsw : swapsWith (.ListComp elt [⟨tg, iter, ifs, 0⟩] scope pos) (some (.Name z py)) spos.line X.env = pure true) (hs : ∀ x, foldedSetIterable iter X.env x = pure x := by intro _; rfl) :
    PS X (.Assign [.Name z py] (.ListComp elt [⟨tg, iter, ifs, 0⟩] scope pos) spos) (tS T lk ρ (.nx (ρ.set j (.d (.list (picked xs.length t y)))))) :=
  ps_imp (ps_setLc (i := j) hc hN hy hyl hsw hi ok (fun s H C cl fp => ⟨fun pins s' σ H' v u Q I r ⟨i, x, hx, q⟩ => (hg i x hx s H C cl fp).run pins s' σ H' v u Q I r q⟩)
    (fun s H C cl fp => ⟨fun pins s' σ H' Q I ⟨i, x, hx, q⟩ => (ht i x hx s H C cl fp).run pins s' σ H' Q I q⟩)
    (fun s H C cl fp => ⟨fun pins s' σ H' Q I ⟨i, x, hx, h, q⟩ => (he i x hx h s H C cl fp).run pins s' σ H' Q I q⟩) hs) fun D σ H ⟨G, S, R, q⟩ => lc_read hz σ H _ ⟨G, S, R, fun v G' H' E r => q _ G' H' E ((R.mono E.gg).setd r)⟩
end
end GN

/-! built-ins over data; defs and their calls -/
namespace GN
open PySem PySem.Spec PyProof.Rows L2

section
variable {T : Tb} {lk : Lk} {X : Cx} {ρ ρ' ρ2 : List Sl} {e a b c : Expr} {es : List Expr} {pos p : Pos} {d da db dc : PyData} {ds xs ys : List PyData} {o : Out} {st : Stmt} {sts : List Stmt}
theorem sub_seq {K : PySem.W.Frag} {G H : Hp} {k : Bool} {q : Addr} {vs : List V} (S : Sub T lk G H) (h : G q = some (soq k vs)) : SqL K H q vs ∨ SqT K H q vs := by
  cases k with
  | true => exact .inr (S.sqT h)
  | false => exact .inl (S.sqL h)
theorem ed_len {k : Bool} (hm : X.mg "len" = none) (ha : PE X a (tD T lk ρ (sq k xs))) (hg : Gl X "len" := by rfl) (he : starEach [a] X.env = (false, eval a X.env) :: starEach [] X.env := by rfl) : PE X (.Call (.Name "len" p) [a] [] pos) (tD T lk ρ (.int (xs.length : Int))) :=
  ed_callB (d := .int (xs.length : Int)) call_len_seq (fun vs G H Q S r q => by
    obtain ⟨v1, us, rfl, r1, r⟩ := r
    cases (show us = [] from r)
    obtain ⟨q1, ws, rfl, hp, r2⟩ := rep_sq r1
    refine ⟨q1, ws, rfl, sub_seq S hp, ?_⟩
    rw [reps_length r2]
    exact q _ G H (.refl S) rfl) hm (ea_cons ha ea_nil he) hg PySem.boot_len (by decide) (by decide) he rfl
theorem two_ints {G : Hp} {i j : Int} {vs : List V} (r : reps G [.int i, .int j] vs) : vs = [.int i, .int j] := by
  obtain ⟨v1, us, rfl, r1, r⟩ := r
  obtain ⟨v2, us, rfl, r2, r⟩ := r
  cases (show us = [] from r)
  cases (show v1 = .int i from r1)
  cases (show v2 = .int j from r2)
  rfl
theorem ed_max2 {i j : Int} (hc : X.calm = true) (hm : X.mg "max" = none) (ha : PE X a (tD T lk ρ (.int i))) (hb : PE X b (tD T lk ρ (.int j))) (hg : Gl X "max" := by rfl) (he : starEach [a, b] X.env = (false, eval a X.env) :: starEach [b] X.env := by rfl)
    (he2 : starEach [b] X.env = (false, eval b X.env) :: starEach [] X.env := by rfl) (hpl : (backTo pos (starEach [b] X.env)).any (·.1) = false := by rfl) : PE X (.Call (.Name "max" p) [a, b] [] pos) (tD T lk ρ (.int (if j > i then j else i))) :=
  ed_callB (d := .int (if j > i then j else i)) (call_max2 hc) (fun vs G H Q S r q => ⟨i, j, two_ints r, q _ G H (.refl S) rfl⟩) hm (ea_cons ha (ea_cons hb ea_nil he2) he) hg (by decide +kernel) (by decide) (by decide) he hpl
theorem ed_min2 {i j : Int} (hc : X.calm = true) (hm : X.mg "min" = none) (ha : PE X a (tD T lk ρ (.int i))) (hb : PE X b (tD T lk ρ (.int j))) (hg : Gl X "min" := by rfl) (he : starEach [a, b] X.env = (false, eval a X.env) :: starEach [b] X.env := by rfl)
    (he2 : starEach [b] X.env = (false, eval b X.env) :: starEach [] X.env := by rfl) (hpl : (backTo pos (starEach [b] X.env)).any (·.1) = false := by rfl) : PE X (.Call (.Name "min" p) [a, b] [] pos) (tD T lk ρ (.int (if j < i then j else i))) :=
  ed_callB (d := .int (if j < i then j else i)) (call_min2 hc) (fun vs G H Q S r q => ⟨i, j, two_ints r, q _ G H (.refl S) rfl⟩) hm (ea_cons ha (ea_cons hb ea_nil he2) he) hg (by decide +kernel) (by decide) (by decide) he hpl
theorem one_of {G : Hp} {x : PyData} {vs : List V} (r : reps G [x] vs) : ∃ v, vs = [v] ∧ rep G x v := by
  obtain ⟨v1, us, rfl, r1, r⟩ := r
  cases (show us = [] from r)
  exact ⟨v1, rfl, r1⟩
theorem ed_abs {i : Int} (hm : X.mg "abs" = none) (ha : PE X a (tD T lk ρ (.int i))) (hg : Gl X "abs" := by rfl) (he : starEach [a] X.env = (false, eval a X.env) :: starEach [] X.env := by rfl) : PE X (.Call (.Name "abs" p) [a] [] pos) (tD T lk ρ (.int (if i < 0 then -i else i))) :=
  ed_callB (d := .int (if i < 0 then -i else i)) call_abs (fun vs G H Q S r q => by
    obtain ⟨v, rfl, rr⟩ := one_of r
    cases (show v = .int i from rr)
    exact ⟨i, rfl, q _ G H (.refl S) rfl⟩) hm (ea_cons ha ea_nil he) hg (by decide +kernel) (by decide) (by decide) he rfl
theorem ed_intI {i : Int} (hm : X.mg "int" = none) (ha : PE X a (tD T lk ρ (.int i))) (hg : Gl X "int" := by rfl) (he : starEach [a] X.env = (false, eval a X.env) :: starEach [] X.env := by rfl) : PE X (.Call (.Name "int" p) [a] [] pos) (tD T lk ρ (.int i)) :=
  ed_callTy (d := .int i) call_int1 (fun vs G H Q S r q => by
    obtain ⟨v, rfl, rr⟩ := one_of r
    cases (show v = .int i from rr)
    exact .inl ⟨i, rfl, q _ G H (.refl S) rfl⟩) hm (ea_cons ha ea_nil he) hg (by decide +kernel) (by decide) (by decide) he rfl
theorem ed_intB {i : Bool} (hm : X.mg "int" = none) (ha : PE X a (tD T lk ρ (.bool i))) (hg : Gl X "int" := by rfl) (he : starEach [a] X.env = (false, eval a X.env) :: starEach [] X.env := by rfl) : PE X (.Call (.Name "int" p) [a] [] pos) (tD T lk ρ (.int (if i then 1 else 0))) :=
  ed_callTy (d := .int (if i then 1 else 0)) call_int1 (fun vs G H Q S r q => by
    obtain ⟨v, rfl, rr⟩ := one_of r
    cases (show v = .bl i from rr)
    exact .inr ⟨i, rfl, q _ G H (.refl S) rfl⟩) hm (ea_cons ha ea_nil he) hg (by decide +kernel) (by decide) (by decide) he rfl
/-- tuple(a list), tuple(a tuple) -/
theorem ed_tupleOf {k : Bool} (hm : X.mg "tuple" = none) (ha : PE X a (tD T lk ρ (sq k xs))) (hg : Gl X "tuple" := by rfl) (he : starEach [a] X.env = (false, eval a X.env) :: starEach [] X.env := by rfl) : PE X (.Call (.Name "tuple" p) [a] [] pos) (tD T lk ρ (.tuple xs)) :=
  ed_callTy (d := .tuple xs) call_tuple_of (fun vs G H Q S r q => by
    obtain ⟨v, rfl, rr⟩ := one_of r
    obtain ⟨q1, ws, rfl, hp, r2⟩ := rep_sq rr
    refine ⟨q1, ws, rfl, ?_⟩
    cases k with
    | true => exact .inr ⟨S.sqT hp, q _ G H (.refl S) ⟨q1, ws, rfl, hp, r2⟩⟩
    | false =>
      refine .inl ⟨S.sqL hp, fun l hl => ?_⟩
      have E := Ext.lay (o := .tup ws) S hl True.intro
      exact q _ _ _ E ⟨l, ws, rfl, upd_same, reps_mono E.gg _ _ r2⟩) hm (ea_cons ha ea_nil he) hg (by decide +kernel) (by decide) (by decide) he rfl
theorem ed_listOf {k : Bool} (hm : X.mg "list" = none) (ha : PE X a (tD T lk ρ (sq k xs))) (hg : Gl X "list" := by rfl) (he : starEach [a] X.env = (false, eval a X.env) :: starEach [] X.env := by rfl) : PE X (.Call (.Name "list" p) [a] [] pos) (tD T lk ρ (.list xs)) :=
  ed_callTy (d := .list xs) call_list_of (fun vs G H Q S r q => by
    obtain ⟨v, rfl, rr⟩ := one_of r
    obtain ⟨q1, ws, rfl, hp, r2⟩ := rep_sq rr
    refine ⟨q1, ws, rfl, sub_seq S hp, fun l hl => ?_⟩
    have E := Ext.lay (o := .lst ws) S hl True.intro
    exact q _ _ _ E ⟨l, ws, rfl, upd_same, reps_mono E.gg _ _ r2⟩) hm (ea_cons ha ea_nil he) hg (by decide +kernel) (by decide) (by decide) he rfl
theorem ed_sum {ns : List Int} (hc : X.calm = true) (hm : X.mg "sum" = none) (ha : PE X a (tD T lk ρ (.list (ns.map .int)))) (hg : Gl X "sum" := by rfl) (he : starEach [a] X.env = (false, eval a X.env) :: starEach [] X.env := by rfl) : PE X (.Call (.Name "sum" p) [a] [] pos) (tD T lk ρ (.int ns.sum)) :=
  ed_callB (d := .int ns.sum) (cr_sum hc) (fun vs G H Q S r q => by
    obtain ⟨v, rfl, rr⟩ := one_of r
    obtain ⟨q1, ws, rfl, hp, r2⟩ := rr
    rw [reps_ints_eq r2] at hp
    exact ⟨q1, ns, rfl, S.sqL hp, q _ G H (.refl S) rfl⟩) hm (ea_cons ha ea_nil he) hg (by decide +kernel) (by decide) (by decide) he rfl
theorem reps_bls_eq {G : Hp} : ∀ {bs : List Bool} {vs : List V}, reps G (bs.map PyData.bool) vs → vs = bs.map V.bl
  | [], _, h => h
  | n :: r, _, h => by
    obtain ⟨v, us, rfl, h1, h2⟩ := h
    cases (show v = V.bl n from h1)
    rw [reps_bls_eq h2]
    rfl
theorem ed_all {bs : List Bool} (hc : X.calm = true) (hm : X.mg "all" = none) (ha : PE X a (tD T lk ρ (.list (bs.map .bool)))) (hg : Gl X "all" := by rfl) (he : starEach [a] X.env = (false, eval a X.env) :: starEach [] X.env := by rfl) : PE X (.Call (.Name "all" p) [a] [] pos) (tD T lk ρ (.bool (bs.all id))) :=
  ed_callB (d := .bool (bs.all id)) (cr_all hc) (fun vs G H Q S r q => by
    obtain ⟨v, rfl, rr⟩ := one_of r
    obtain ⟨q1, ws, rfl, hp, r2⟩ := rr
    rw [reps_bls_eq r2] at hp
    exact ⟨q1, bs, rfl, S.sqL hp, q _ G H (.refl S) rfl⟩) hm (ea_cons ha ea_nil he) hg (by decide +kernel) (by decide) (by decide) he rfl
theorem ed_gcd {i j : Int} (hm : X.mg "gcd" = some (.builtin "math.gcd")) (ha : PE X a (tD T lk ρ (.int i))) (hb : PE X b (tD T lk ρ (.int j))) (hg : Gl X "gcd" := by rfl) (he : starEach [a, b] X.env = (false, eval a X.env) :: starEach [b] X.env := by rfl)
    (he2 : starEach [b] X.env = (false, eval b X.env) :: starEach [] X.env := by rfl) (hpl : (backTo pos (starEach [b] X.env)).any (·.1) = false := by rfl) : PE X (.Call (.Name "gcd" p) [a, b] [] pos) (tD T lk ρ (.int ((Nat.gcd i.natAbs j.natAbs : Nat) : Int))) :=
  pe_imp (pe_callBfun cr_gcd hg hm (ea_cons ha (ea_cons hb ea_nil he2) he) (by decide) he hpl) (tda (d := .int ((Nat.gcd i.natAbs j.natAbs : Nat) : Int)) fun vs G H Q S r q => ⟨i, j, two_ints r, q _ G H (.refl S) rfl⟩)

/-! isinstance -/
def tyN : PyData → String
  | .none => "NoneType"
  | .bool _ => "bool"
  | .int _ => "int"
  | .str _ => "str"
  | .list _ => "list"
  | .tuple _ => "tuple"
  | .dict _ => "dict"
theorem tyX_of {K : PySem.W.Frag} {G H : Hp} (S : Sub T lk G H) : ∀ {d : PyData} {v : V}, rep G d v → TyX K H v (.type (tyN d))
  | .none, _, h => by cases (show _ = _ from h); exact .base .non
  | .bool b, _, h => by cases (show _ = _ from h); exact .base (.bl b)
  | .int b, _, h => by cases (show _ = _ from h); exact .base (.int b)
  | .str b, _, h => by cases (show _ = _ from h); exact .base (.str b)
  | .list _, _, h => by obtain ⟨_, _, rfl, h, _⟩ := h; exact .base (.lst (S.lst h))
  | .tuple _, _, h => by obtain ⟨_, _, rfl, h, _⟩ := h; exact .base (.tup (S.tup h))
  | .dict _, _, h => by
    obtain ⟨_, _, _, rfl, h, _⟩ := h
    exact .fDict (Has.at (S.has _ _ h))
theorem ed_isi2 {A B : String} {i j n : Bool} {pA pB pt : Pos} {kt : Nat} (hm : X.mg "isinstance" = none) (hA : X.mg (Str.ofString A) = none) (hB : X.mg (Str.ofString B) = none) (ha : PE X a (tD T lk ρ d)) (ki : kitB (tyN d) A = some i) (kj : kitB (tyN d) B = some j) (hn : (i || j) = n)
    (gA : Gl X (Str.ofString A) := by rfl) (gB : Gl X (Str.ofString B) := by rfl) (vA : bootBuiltins (Str.ofString A) = some (.type A) := by decide +kernel) (vB : bootBuiltins (Str.ofString B) = some (.type B) := by decide +kernel)
    (nA : Str.ofString A ≠ "__name__" := by decide) (nB : Str.ofString B ≠ "__name__" := by decide) (dA : (Str.ofString A == ("__debug__" : Str)) = false := by decide) (dB : (Str.ofString B == ("__debug__" : Str)) = false := by decide) (hg : Gl X "isinstance" := by rfl)
    (he : starEach [a, .Tuple [.Name (Str.ofString A) pA, .Name (Str.ofString B) pB] kt pt] X.env = (false, eval a X.env) :: starEach [.Tuple [.Name (Str.ofString A) pA, .Name (Str.ofString B) pB] kt pt] X.env := by rfl) :
    PE X (.Call (.Name "isinstance" p) [a, .Tuple [.Name (Str.ofString A) pA, .Name (Str.ofString B) pB] kt pt] [] pos) (tD T lk ρ (.bool n)) := by
  subst hn
  exact pe_imp (pe_callB call_isiT hg hm (by decide +kernel) (pa_cons ha (pa_cons (pe_tup (pa_cons (pe_bltn (v := .ty A) gA hA vA rfl nA dA) (pa_cons (pe_bltn (v := .ty B) gB hB vB rfl nB dB) pa_nil))) pa_nil) he) (by decide) (by decide) he rfl) fun σ H Q ⟨G, S, R, q⟩ =>
    ⟨G, S, R, fun x G1 H1 E1 r1 => ⟨by show 2 ≤ sizeLine; decide, fun t ht => by
      have E2 := Ext.off (o := .tup [.ty A, .ty B]) E1.sub ht
      refine ⟨x, t, [.ty A, .ty B], .type (tyN d), [.type A, .type B], i || j, rfl, upd_same, .cons (.ty A) (.cons (.ty B) .nil), tyX_of E2.sub r1, ?_, q _ _ _ (E1.trans E2) rfl⟩
      refine kitAny_cons (kit_ty ki) (fun hi => ?_) (fun hi => by rw [hi]; rfl)
      subst hi
      exact kitAny_cons (kit_ty kj) (fun hj => by subst hj; exact kitAny_nil) (fun hj => by rw [hj]; rfl)⟩⟩
theorem ed_isi1 {A : String} {i : Bool} {pA : Pos} (hm : X.mg "isinstance" = none) (hA : X.mg (Str.ofString A) = none) (ha : PE X a (tD T lk ρ d)) (ki : kitB (tyN d) A = some i)
    (gA : Gl X (Str.ofString A) := by rfl) (vA : bootBuiltins (Str.ofString A) = some (.type A) := by decide +kernel)
    (nA : Str.ofString A ≠ "__name__" := by decide) (dA : (Str.ofString A == ("__debug__" : Str)) = false := by decide) (hg : Gl X "isinstance" := by rfl)
    (he : starEach [a, .Name (Str.ofString A) pA] X.env = (false, eval a X.env) :: starEach [.Name (Str.ofString A) pA] X.env := by rfl) :
    PE X (.Call (.Name "isinstance" p) [a, .Name (Str.ofString A) pA] [] pos) (tD T lk ρ (.bool i)) :=
  pe_imp (pe_callB call_isi hg hm (by decide +kernel) (pa_cons ha (pa_cons (pe_bltn (v := .ty A) gA hA vA rfl nA dA) pa_nil) he) (by decide) (by decide) he rfl) fun σ H Q ⟨G, S, R, q⟩ =>
    ⟨G, S, R, fun x G1 H1 E1 r1 => ⟨x, .ty A, .type (tyN d), .type A, i, rfl, .ty A, tyX_of E1.sub r1, kit_ty ki, q _ _ _ E1 rfl⟩⟩

/-! == of data, in -/
mutual
def noDict : PyData → Bool
  | .none => true
  | .bool _ => true
  | .int _ => true
  | .str _ => true
  | .list ds => noDicts ds
  | .tuple ds => noDicts ds
  | .dict _ => false
def noDicts : List PyData → Bool
  | [] => true
  | d :: ds => noDict d && noDicts ds
end
mutual
theorem dp_of {K : PySem.W.Frag} {G H : Hp} (S : Sub T lk G H) : ∀ (d : PyData) (v : V), noDict d = true → rep G d v → Dp K H v d
  | .none, _, _, h => by cases (show _ = _ from h); exact .non
  | .bool b, _, _, h => by cases (show _ = _ from h); exact .bl b
  | .int b, _, _, h => by cases (show _ = _ from h); exact .int b
  | .str b, _, _, h => by cases (show _ = _ from h); exact .str b
  | .list ds, _, n, h => by obtain ⟨a, vs, rfl, h, r⟩ := h; exact .lst (S.sqL h) (dps_of S ds vs n r)
  | .tuple ds, _, n, h => by obtain ⟨a, vs, rfl, h, r⟩ := h; exact .tup (S.sqT h) (dps_of S ds vs n r)
  | .dict _, _, n, _ => by cases n
theorem dps_of {K : PySem.W.Frag} {G H : Hp} (S : Sub T lk G H) : ∀ (ds : List PyData) (vs : List V), noDicts ds = true → reps G ds vs → DpAll K H vs ds
  | [], _, _, h => by cases (show _ = _ from h); exact .nil
  | d :: ds, _, n, h => by
    obtain ⟨v, us, rfl, h1, h2⟩ := h
    have n2 : (noDict d && noDicts ds) = true := n
    rw [Bool.and_eq_true] at n2
    exact .cons (dp_of S d v n2.1 h1) (dps_of S ds us n2.2 h2)
end
theorem rd_eqD {K : PySem.W.Frag} (n1 : noDict da = true) (n2 : noDict db = true) (s1 : SeqAt.shaped da = true) (s2 : SeqAt.shaped db = true) : RD2 T lk (rEqD K) da db (.bool (PyData.eqv da db)) := fun x y G H Q S r1 r2 q =>
  ⟨da, db, dp_of S _ _ n1 r1, dp_of S _ _ n2 r2, s1, s2, q _ G H (.refl S) rfl⟩
theorem rd_neD {K : PySem.W.Frag} (n1 : noDict da = true) (n2 : noDict db = true) (s1 : SeqAt.shaped da = true) (s2 : SeqAt.shaped db = true) : RD2 T lk (rNeD K) da db (.bool (!PyData.eqv da db)) := fun x y G H Q S r1 r2 q =>
  ⟨da, db, dp_of S _ _ n1 r1, dp_of S _ _ n2 r2, s1, s2, q _ G H (.refl S) rfl⟩
theorem rd_inD {K : PySem.W.Frag} (n1 : noDict da = true) (n2 : noDict (.list ds) = true) (s1 : SeqAt.shaped da = true) (s2 : SeqAt.shaped (.list ds) = true) : RD2 T lk (rInD K) da (.list ds) (.bool (ds.any fun z => PyData.eqv z da)) := fun x y G H Q S r1 r2 q =>
  ⟨da, ds, dp_of S _ _ n1 r1, dp_of S _ _ n2 r2, s1, s2, q _ G H (.refl S) rfl⟩
theorem flat_ints : ∀ ns : List Int, (ns.map V.int).all flatV = true
  | [] => rfl
  | n :: r => by
    show (flatV (.int n) && (r.map V.int).all flatV) = true
    rw [flat_ints r]
    rfl
theorem inV_ints (i : Int) : ∀ ns : List Int, inV (.int i) (ns.map V.int) = decide (i ∈ ns)
  | [] => rfl
  | n :: r => by
    have ih := inV_ints i r
    unfold inV at ih ⊢
    rw [List.map_cons, List.any_cons, ih]
    have h : eqV (.int n) (.int i) = decide (n = i) := by
      show (n == i) = decide (n = i)
      exact Bool.beq_eq_decide_eq n i
    rw [h]
    by_cases q : n = i
    · subst q
      simp
    · rw [decide_eq_false q, Bool.false_or]
      exact decide_eq_decide.mpr ⟨fun z => List.mem_cons_of_mem _ z, fun z => (List.mem_cons.mp z).resolve_left fun w => q w.symm⟩
theorem rd_inI {K : PySem.W.Frag} {k : Bool} {i : Int} {ns : List Int} : RD2 T lk (rIn K false) (.int i) (sq k (ns.map .int)) (.bool (decide (i ∈ ns))) := fun x y G H Q S r1 r2 q => by
  cases (show x = .int i from r1)
  obtain ⟨q1, ws, rfl, hp, r3⟩ := rep_sq r2
  rw [reps_ints_eq r3] at hp
  refine ⟨q1, _, rfl, sub_seq S hp, rfl, flat_ints ns, ?_⟩
  rw [inV_ints]
  exact q _ G H (.refl S) rfl
theorem rd_ninI {K : PySem.W.Frag} {k : Bool} {i : Int} {ns : List Int} : RD2 T lk (rIn K true) (.int i) (sq k (ns.map .int)) (.bool (!decide (i ∈ ns))) := fun x y G H Q S r1 r2 q => by
  cases (show x = .int i from r1)
  obtain ⟨q1, ws, rfl, hp, r3⟩ := rep_sq r2
  rw [reps_ints_eq r3] at hp
  refine ⟨q1, _, rfl, sub_seq S hp, rfl, flat_ints ns, ?_⟩
  rw [inV_ints]
  exact q _ G H (.refl S) rfl
theorem rd_ltT {K : PySem.W.Frag} {ns ms : List Int} : RD2 T lk (rLtT K) (.tuple (ns.map .int)) (.tuple (ms.map .int)) (.bool (HT.lexLt ns ms)) := fun x y G H Q S r1 r2 q => by
  obtain ⟨q1, ws, rfl, hp, r3⟩ := r1
  obtain ⟨q2, ws2, rfl, hp2, r4⟩ := r2
  rw [reps_ints_eq r3] at hp
  rw [reps_ints_eq r4] at hp2
  exact ⟨q1, q2, ns, ms, rfl, rfl, S.sqT hp, S.sqT hp2, q _ G H (.refl S) rfl⟩
/-! tuple + tuple, list + list, list * n -/
theorem ed_catT (hz : xs.length + ys.length ≤ 100000) (ha : PE X a (tD T lk ρ (.tuple xs))) (hb : PE X b (tD T lk ρ (.tuple ys))) : PE X (.BinOp a .Add b pos) (tD T lk ρ (.tuple (xs ++ ys))) :=
  ed_op op_catA (fun x y G H Q S r1 r2 q => by
    obtain ⟨q1, ws, rfl, hp, r3⟩ := r1
    obtain ⟨q2, ws2, rfl, hp2, r4⟩ := r2
    refine ⟨q1, q2, ws, ws2, rfl, rfl, S.sqT hp, S.sqT hp2, by rw [reps_length r3, reps_length r4]; exact sz_ok hz, fun e => ?_, fun _ e => ?_, fun _ _ t ht => ?_⟩
    · subst e
      have r5 := reps_app r3 r4
      exact q _ G H (.refl S) ⟨q2, ws2, rfl, hp2, r5⟩
    · subst e
      have r5 := reps_app r3 r4
      rw [List.append_nil] at r5
      exact q _ G H (.refl S) ⟨q1, ws, rfl, hp, r5⟩
    · have E := Ext.lay (o := .tup (ws ++ ws2)) S ht True.intro
      exact q _ _ _ E ⟨t, _, rfl, upd_same, reps_mono E.gg _ _ (reps_app r3 r4)⟩) ha hb
theorem ed_catL (hz : xs.length + ys.length ≤ 100000) (ha : PE X a (tD T lk ρ (.list xs))) (hb : PE X b (tD T lk ρ (.list ys))) : PE X (.BinOp a .Add b pos) (tD T lk ρ (.list (xs ++ ys))) :=
  ed_op op_cat (fun x y G H Q S r1 r2 q => by
    obtain ⟨q1, ws, rfl, hp, r3⟩ := r1
    obtain ⟨q2, ws2, rfl, hp2, r4⟩ := r2
    refine ⟨q1, q2, ws, ws2, rfl, rfl, S.lst hp, S.lst hp2, by rw [reps_length r3, reps_length r4]; exact sz_ok hz, fun t ht => ?_⟩
    have E := Ext.lay (o := .lst (ws ++ ws2)) S ht True.intro
    exact q _ _ _ E ⟨t, _, rfl, upd_same, reps_mono E.gg _ _ (reps_app r3 r4)⟩) ha hb
theorem reps_rep {G : Hp} {vs : List V} (r : reps G xs vs) : ∀ n : Nat, reps G (List.replicate n xs).flatten (List.replicate n vs).flatten
  | 0 => rfl
  | n + 1 => by
    rw [List.replicate_succ, List.replicate_succ, List.flatten_cons, List.flatten_cons]
    exact reps_app r (reps_rep r n)
theorem ed_rep {n : Nat} (hz : xs.length * n ≤ 100000) (hn : n ≤ 100000) (ha : PE X a (tD T lk ρ (.list xs))) (hb : PE X b (tD T lk ρ (.int (n : Int)))) : PE X (.BinOp a .Mult b pos) (tD T lk ρ (.list (List.replicate n xs).flatten)) :=
  ed_op op_rep (fun x y G H Q S r1 r2 q => by
    obtain ⟨q1, ws, rfl, hp, r3⟩ := r1
    cases (show y = .int (n : Int) from r2)
    refine ⟨q1, n, ws, rfl, rfl, S.lst hp, by omega, by omega, by rw [reps_length r3]; exact sz_ok hz, fun t ht => ?_⟩
    have E := Ext.lay (o := .lst (List.replicate n ws).flatten) S ht True.intro
    exact q _ _ _ E ⟨t, _, rfl, upd_same, reps_mono E.gg _ _ (reps_rep r3 n)⟩) ha hb
end

/-! ### a def's promise over data -/
/-- from data to data; al: a dict may be walked around the call -/
def spD (T : Tb) (al : Bool) (rel : List PyData → PyData → Prop) : Sp := fun vs H Q _ => ∃ lk G ds d, (al = true ∨ lk = none) ∧ Sub T lk G H ∧ reps G ds vs ∧ rel ds d ∧ ∀ v G' H', Ext T lk G H G' H' → rep G' d v → Q v H'
/-- a def that keeps it stands at the module's name x -/
structure Cal (P : Program) (w : World) (K : PySem.W.Frag) (mg : Str → Option Value) (base : Heap) (T : Tb) (k : Nat) (al : Bool) (x : Str) (rel : List PyData → PyData → Prop) : Prop where
  ex : ∃ (f : Addr) (fd : FuncData) (ps : List Str), mg x = some (.ref f) ∧ PySem.W.keepIn K (.ref f) = true ∧ Binds K fd ps [] ∧ FnOk P w K mg base CX0 k f fd ps (spD T al rel)
section
variable {P : Program} {w : World} {K : PySem.W.Frag} {mg : Str → Option Value} {base : Heap} {T : Tb} {al : Bool} {rel : List PyData → PyData → Prop} {k : Nat} {x : Str}
theorem Cal.mono {j : Nat} (C : Cal P w K mg base T j al x rel) (h : j ≤ k) : Cal P w K mg base T k al x rel := by
  obtain ⟨f, fd, ps, h1, h2, h3, h4⟩ := C.ex
  exact ⟨f, fd, ps, h1, h2, h3, h4.mono h⟩
/-- THE RULE for a def over data -/
theorem data_fn {qual : Str} {st : Stmt} {f : Addr} {fd : FuncData} {N ps : List Str} (F : Fun K x qual st f fd) (S : FnScope N ps (defScope st)) (len : ∀ ds d, rel ds d → ds.length = ps.length)
    (body : ∀ (cdv : Value) (A : Around) (outer : List Env) (s : Shared) (H : Hp) (E : XK) (lk : Lk) (ds : List PyData) (d : PyData), (al = true ∨ lk = none) → Room k (A.deeper (envOfC qual (defScope st) s.heap.objs.size f cdv)) → rel ds d →
      PSs (cxOf CX0 P w K mg base N qual (defScope st) f cdv A outer s H E).nox (defBody st) (tS T lk (startS N.length ds) (.rt d))) :
    FnOk P w K mg base CX0 (k + 1) f fd ps (spD T al rel) := by
  refine F.ok S (fun vs H Q E h => ?_) fun cdv A outer s H vs Q E hr h => ?_
  · obtain ⟨lk, G, ds, d, _, _, r, hrel, _⟩ := h
    rw [reps_length r]
    exact len ds d hrel
  · obtain ⟨lk, G, ds, d, hal, Sb, r, hrel, q⟩ := h
    exact ⟨_, body cdv A outer s H E lk ds d hal hr hrel, G, Sb, Rel.start r, q⟩
/-- .. that ends without a return -/
theorem data_fnN {qual : Str} {st : Stmt} {f : Addr} {fd : FuncData} {N ps : List Str} (F : Fun K x qual st f fd) (S : FnScope N ps (defScope st)) (len : ∀ ds d, rel ds d → ds.length = ps.length) (hno : ∀ ds d, rel ds d → d = .none)
    (body : ∀ (cdv : Value) (A : Around) (outer : List Env) (s : Shared) (H : Hp) (E : XK) (lk : Lk) (ds : List PyData) (d : PyData), (al = true ∨ lk = none) → Room k (A.deeper (envOfC qual (defScope st) s.heap.objs.size f cdv)) → rel ds d →
      ∃ ρ', PSs (cxOf CX0 P w K mg base N qual (defScope st) f cdv A outer s H E).nox (defBody st) (tS T lk (startS N.length ds) (.nx ρ'))) :
    FnOk P w K mg base CX0 (k + 1) f fd ps (spD T al rel) := by
  refine F.ok S (fun vs H Q E h => ?_) fun cdv A outer s H vs Q E hr h => ?_
  · obtain ⟨lk, G, ds, d, _, _, r, hrel, _⟩ := h
    rw [reps_length r]
    exact len ds d hrel
  · obtain ⟨lk, G, ds, d, hal, Sb, r, hrel, q⟩ := h
    obtain ⟨ρ', h⟩ := body cdv A outer s H E lk ds d hal hr hrel
    obtain rfl := hno ds d hrel
    exact ⟨_, h, G, Sb, Rel.start r, fun σ' G' H' E' _ => q .non G' H' E' rfl⟩
end
section
variable {T : Tb} {lk : Lk} {X : Cx} {ρ : List Sl} {e : Expr} {es : List Expr} {pos p : Pos} {d : PyData} {ds : List PyData} {k : Nat} {x : Str} {al : Bool} {rel : List PyData → PyData → Prop}
theorem ed_call (C : Cal X.prog X.w X.K X.mg X.base T k al x rel) (hr : Room k X.A) (ha : PA X (e :: es) (tA T lk ρ ds)) (hrel : rel ds d) (hal : al = true ∨ lk = none := by first | exact .inl rfl | exact .inr rfl) (hg : Gl X x := by rfl) (hdb : (x == ("__debug__" : Str)) = false := by decide)
    (he : starEach (e :: es) X.env = (false, eval e X.env) :: starEach es X.env := by rfl) (hpl : (backTo pos (starEach es X.env)).any (·.1) = false := by rfl) : PE X (.Call (.Name x p) (e :: es) [] pos) (tD T lk ρ d) := by
  obtain ⟨f, fd, ps, h1, h2, h3, h4⟩ := C.ex
  exact pe_imp (pe_call h4 hr hg h1 h2 h3 .nil pass0 ha hdb he hpl) fun σ H Q ⟨G, S, R, q⟩ => ⟨G, S, R, fun vs G1 H1 E1 r1 => by
    show spD T al rel (vs ++ []) H1 Q _
    rw [List.append_nil]
    exact ⟨lk, G1, ds, d, hal, E1.sub, r1, hrel, fun v G' H' E2 r2 => q v G' H' (E1.trans E2) r2⟩⟩
end
end GN

/-! the text by places; the scopes -/
namespace GN
open PySem PySem.Spec PyProof.Rows L2
def topS (i : Nat) : Stmt := PySem.Challenge.pw_glidenames_k13_whole_greatest_chains_jud.main.body.getD i (.Pass ⟨0, 0, 0, 0⟩)
abbrev s_tuple_of : Stmt := topS 6
abbrev N_tuple_of : List Str := ["thing", "part"]
theorem sc_tuple_of : FnScope N_tuple_of ["thing"] (defScope s_tuple_of) :=
  ⟨rfl, rfl, rfl, by decide +kernel, rfl, by decide +kernel, by decide +kernel⟩
abbrev s_fraction : Stmt := topS 8
abbrev N_fraction : List Str := ["top", "below", "most"]
theorem sc_fraction : FnScope N_fraction ["top", "below"] (defScope s_fraction) :=
  ⟨rfl, rfl, rfl, by decide +kernel, rfl, by decide +kernel, by decide +kernel⟩
abbrev s_is_less : Stmt := topS 9
abbrev N_is_less : List Str := ["one", "other"]
theorem sc_is_less : FnScope N_is_less ["one", "other"] (defScope s_is_less) :=
  ⟨rfl, rfl, rfl, by decide +kernel, rfl, by decide +kernel, by decide +kernel⟩
abbrev s_sure_one : Stmt := topS 11
abbrev N_sure_one : List Str := ["own", "name"]
theorem sc_sure_one : FnScope N_sure_one ["own", "name"] (defScope s_sure_one) :=
  ⟨rfl, rfl, rfl, by decide +kernel, rfl, by decide +kernel, by decide +kernel⟩
abbrev s_rank_of : Stmt := topS 12
abbrev N_rank_of : List Str := ["own", "axis", "name", "tether"]
theorem sc_rank_of : FnScope N_rank_of ["own", "axis", "name"] (defScope s_rank_of) :=
  ⟨rfl, rfl, rfl, by decide +kernel, rfl, by decide +kernel, by decide +kernel⟩
abbrev s_is_before : Stmt := topS 13
abbrev N_is_before : List Str := ["own", "sides", "axis", "one", "other"]
theorem sc_is_before : FnScope N_is_before ["own", "sides", "axis", "one", "other"] (defScope s_is_before) :=
  ⟨rfl, rfl, rfl, by decide +kernel, rfl, by decide +kernel, by decide +kernel⟩
abbrev s_length_of : Stmt := topS 14
abbrev N_length_of : List Str := ["chart", "chain", "axis", "names", "name"]
theorem sc_length_of : FnScope N_length_of ["chart", "chain"] (defScope s_length_of) :=
  ⟨rfl, rfl, rfl, by decide +kernel, rfl, by decide +kernel, by decide +kernel⟩
abbrev s_need_by : Stmt := topS 15
abbrev N_need_by : List Str := ["own", "axis", "first", "last", "length"]
theorem sc_need_by : FnScope N_need_by ["own", "axis", "first", "last", "length"] (defScope s_need_by) :=
  ⟨rfl, rfl, rfl, by decide +kernel, rfl, by decide +kernel, by decide +kernel⟩
abbrev s_way_by : Stmt := topS 16
abbrev N_way_by : List Str := ["own", "axis", "first", "last"]
theorem sc_way_by : FnScope N_way_by ["own", "axis", "first", "last"] (defScope s_way_by) :=
  ⟨rfl, rfl, rfl, by decide +kernel, rfl, by decide +kernel, by decide +kernel⟩
abbrev s_number_by : Stmt := topS 17
abbrev N_number_by : List Str := ["own", "axis", "first", "last", "length", "need", "way"]
theorem sc_number_by : FnScope N_number_by ["own", "axis", "first", "last", "length"] (defScope s_number_by) :=
  ⟨rfl, rfl, rfl, by decide +kernel, rfl, by decide +kernel, by decide +kernel⟩
abbrev s_number_of : Stmt := topS 18
abbrev N_number_of : List Str := ["chart", "chain"]
theorem sc_number_of : FnScope N_number_of ["chart", "chain"] (defScope s_number_of) :=
  ⟨rfl, rfl, rfl, by decide +kernel, rfl, by decide +kernel, by decide +kernel⟩
abbrev s_is_later : Stmt := topS 19
abbrev N_is_later : List Str := ["one", "other"]
theorem sc_is_later : FnScope N_is_later ["one", "other"] (defScope s_is_later) :=
  ⟨rfl, rfl, rfl, by decide +kernel, rfl, by decide +kernel, by decide +kernel⟩
abbrev s_in_order : Stmt := topS 20
abbrev N_in_order : List Str := ["own", "lot", "axis"]
theorem sc_in_order : FnScope N_in_order ["own", "lot", "axis"] (defScope s_in_order) :=
  ⟨rfl, rfl, rfl, by decide +kernel, rfl, by decide +kernel, by decide +kernel⟩
abbrev s_lengths_from : Stmt := topS 21
abbrev N_lengths_from : List Str := ["own", "sides", "order", "axis", "first", "found", "name", "ways", "one"]
theorem sc_lengths_from : FnScope N_lengths_from ["own", "sides", "order", "axis", "first"] (defScope s_lengths_from) :=
  ⟨rfl, rfl, rfl, by decide +kernel, rfl, by decide +kernel, by decide +kernel⟩
abbrev s_tables_of : Stmt := topS 22
abbrev N_tables_of : List Str := ["own", "sides", "lot", "found", "axis", "order", "first"]
theorem sc_tables_of : FnScope N_tables_of ["own", "sides", "lot"] (defScope s_tables_of) :=
  ⟨rfl, rfl, rfl, by decide +kernel, rfl, by decide +kernel, by decide +kernel⟩
abbrev s_names_back : Stmt := topS 23
abbrev N_names_back : List Str := ["row", "last", "names"]
theorem sc_names_back : FnScope N_names_back ["row", "last"] (defScope s_names_back) :=
  ⟨rfl, rfl, rfl, by decide +kernel, rfl, by decide +kernel, by decide +kernel⟩
abbrev s_greatest_in : Stmt := topS 24
abbrev N_greatest_in : List Str := ["own", "sides", "lot", "best", "axis", "table", "first", "last", "number"]
theorem sc_greatest_in : FnScope N_greatest_in ["own", "sides", "lot"] (defScope s_greatest_in) :=
  ⟨rfl, rfl, rfl, by decide +kernel, rfl, by decide +kernel, by decide +kernel⟩
abbrev s_greatest_chain : Stmt := topS 25
abbrev N_greatest_chain : List Str := ["chart", "sides", "lot", "own", "told", "names"]
theorem sc_greatest_chain : FnScope N_greatest_chain ["chart", "sides", "lot"] (defScope s_greatest_chain) :=
  ⟨rfl, rfl, rfl, by decide +kernel, rfl, by decide +kernel, by decide +kernel⟩
abbrev s_through_in : Stmt := topS 26
abbrev N_through_in : List Str := ["own", "sides", "lot", "name", "best", "axis", "table", "first", "ahead", "last", "number", "names", "one"]
theorem sc_through_in : FnScope N_through_in ["own", "sides", "lot", "name"] (defScope s_through_in) :=
  ⟨rfl, rfl, rfl, by decide +kernel, rfl, by decide +kernel, by decide +kernel⟩
abbrev s_through : Stmt := topS 27
abbrev N_through : List Str := ["chart", "sides", "lot", "name", "own", "told", "names"]
theorem sc_through : FnScope N_through ["chart", "sides", "lot", "name"] (defScope s_through) :=
  ⟨rfl, rfl, rfl, by decide +kernel, rfl, by decide +kernel, by decide +kernel⟩
abbrev s_law_box : Stmt := topS 29
abbrev N_law_box : List Str := ["_law_script", "_law_k", "_law_cell"]
theorem sc_law_box : FnScope N_law_box ["_law_script", "_law_k"] (defScope s_law_box) :=
  ⟨rfl, rfl, rfl, by decide +kernel, rfl, by decide +kernel, by decide +kernel⟩
abbrev s_law_take : Stmt := topS 30
abbrev N_law_take : List Str := ["_law_tin", "_law_below", "_law_drawn", "_law_once", "_law_broad", "_law_twice"]
theorem sc_law_take : FnScope N_law_take ["_law_tin", "_law_below"] (defScope s_law_take) :=
  ⟨rfl, rfl, rfl, by decide +kernel, rfl, by decide +kernel, by decide +kernel⟩
abbrev s_law_cells : Stmt := topS 31
abbrev N_law_cells : List Str := ["_law_script", "_law_limit", "_law_numbers_so", "_law_k", "_law_cell", "_law_spot"]
theorem sc_law_cells : FnScope N_law_cells ["_law_script", "_law_limit"] (defScope s_law_cells) :=
  ⟨rfl, rfl, rfl, by decide +kernel, rfl, by decide +kernel, by decide +kernel⟩
abbrev s_law_same : Stmt := topS 32
abbrev N_law_same : List Str := ["_law_got", "_law_goal", "_law_mine", "_law_own"]
theorem sc_law_same : FnScope N_law_same ["_law_got", "_law_goal"] (defScope s_law_same) :=
  ⟨rfl, rfl, rfl, by decide +kernel, rfl, by decide +kernel, by decide +kernel⟩
abbrev s_law_lists : Stmt := topS 33
abbrev N_law_lists : List Str := ["_law_matter", "_law_own"]
theorem sc_law_lists : FnScope N_law_lists ["_law_matter"] (defScope s_law_lists) :=
  ⟨rfl, rfl, rfl, by decide +kernel, rfl, by decide +kernel, by decide +kernel⟩
abbrev s_law_low : Stmt := topS 34
abbrev N_law_low : List Str := ["_law_top", "_law_below", "_law_one", "_law_other", "_law_lap"]
theorem sc_law_low : FnScope N_law_low ["_law_top", "_law_below"] (defScope s_law_low) :=
  ⟨rfl, rfl, rfl, by decide +kernel, rfl, by decide +kernel, by decide +kernel⟩
abbrev s_law_under : Stmt := topS 35
abbrev N_law_under : List Str := ["_law_one", "_law_other"]
theorem sc_law_under : FnScope N_law_under ["_law_one", "_law_other"] (defScope s_law_under) :=
  ⟨rfl, rfl, rfl, by decide +kernel, rfl, by decide +kernel, by decide +kernel⟩
abbrev s_law_of : Stmt := topS 36
abbrev N_law_of : List Str := ["_law_tin", "_law_goods"]
theorem sc_law_of : FnScope N_law_of ["_law_tin", "_law_goods"] (defScope s_law_of) :=
  ⟨rfl, rfl, rfl, by decide +kernel, rfl, by decide +kernel, by decide +kernel⟩
abbrev s_law_tether : Stmt := topS 37
abbrev N_law_tether : List Str := ["_law_tin", "_law_far", "_law_left", "_law_more", "_law_off"]
theorem sc_law_tether : FnScope N_law_tether ["_law_tin", "_law_far"] (defScope s_law_tether) :=
  ⟨rfl, rfl, rfl, by decide +kernel, rfl, by decide +kernel, by decide +kernel⟩
abbrev s_law_chart : Stmt := topS 38
abbrev N_law_chart : List Str := ["_law_tin", "_law_limit", "_law_many", "_law_names", "_law_flanks", "_law_other", "_law_lap", "_law_one"]
theorem sc_law_chart : FnScope N_law_chart ["_law_tin", "_law_limit"] (defScope s_law_chart) :=
  ⟨rfl, rfl, rfl, by decide +kernel, rfl, by decide +kernel, by decide +kernel⟩
abbrev s_law_lot : Stmt := topS 39
abbrev N_law_lot : List Str := ["_law_tin", "_law_many", "_law_name"]
theorem sc_law_lot : FnScope N_law_lot ["_law_tin", "_law_many"] (defScope s_law_lot) :=
  ⟨rfl, rfl, rfl, by decide +kernel, rfl, by decide +kernel, by decide +kernel⟩
abbrev s_law_before : Stmt := topS 40
abbrev N_law_before : List Str := ["_law_chart_here", "_law_flanks", "_law_axis", "_law_one", "_law_other", "_law_near", "_law_far"]
theorem sc_law_before : FnScope N_law_before ["_law_chart_here", "_law_flanks", "_law_axis", "_law_one", "_law_other"] (defScope s_law_before) :=
  ⟨rfl, rfl, rfl, by decide +kernel, rfl, by decide +kernel, by decide +kernel⟩
abbrev s_law_chains : Stmt := topS 41
abbrev N_law_chains : List Str := ["_law_chart_here", "_law_flanks", "_law_lot_here", "_law_axis", "_law_found", "_law_newest", "_law_lap", "_law_longer", "_law_row", "_law_name"]
theorem sc_law_chains : FnScope N_law_chains ["_law_chart_here", "_law_flanks", "_law_lot_here", "_law_axis"] (defScope s_law_chains) :=
  ⟨rfl, rfl, rfl, by decide +kernel, rfl, by decide +kernel, by decide +kernel⟩
abbrev s_law_length : Stmt := topS 42
abbrev N_law_length : List Str := ["_law_chart_here", "_law_axis", "_law_row", "_law_name"]
theorem sc_law_length : FnScope N_law_length ["_law_chart_here", "_law_axis", "_law_row"] (defScope s_law_length) :=
  ⟨rfl, rfl, rfl, by decide +kernel, rfl, by decide +kernel, by decide +kernel⟩
abbrev s_law_number : Stmt := topS 43
abbrev N_law_number : List Str := ["_law_chart_here", "_law_axis", "_law_row", "_law_first", "_law_last", "_law_need", "_law_way"]
theorem sc_law_number : FnScope N_law_number ["_law_chart_here", "_law_axis", "_law_row"] (defScope s_law_number) :=
  ⟨rfl, rfl, rfl, by decide +kernel, rfl, by decide +kernel, by decide +kernel⟩
abbrev s_law_greatest : Stmt := topS 44
abbrev N_law_greatest : List Str := ["_law_chart_here", "_law_flanks", "_law_lot_here", "_law_name", "_law_best", "_law_axis", "_law_row", "_law_number_here"]
theorem sc_law_greatest : FnScope N_law_greatest ["_law_chart_here", "_law_flanks", "_law_lot_here", "_law_name"] (defScope s_law_greatest) :=
  ⟨rfl, rfl, rfl, by decide +kernel, rfl, by decide +kernel, by decide +kernel⟩
abbrev s_law_is_chain : Stmt := topS 45
abbrev N_law_is_chain : List Str := ["_law_chart_here", "_law_flanks", "_law_lot_here", "_law_thing", "_law_own"]
theorem sc_law_is_chain : FnScope N_law_is_chain ["_law_chart_here", "_law_flanks", "_law_lot_here", "_law_thing"] (defScope s_law_is_chain) :=
  ⟨rfl, rfl, rfl, by decide +kernel, rfl, by decide +kernel, by decide +kernel⟩
abbrev s_law_heard : Stmt := topS 46
abbrev N_law_heard : List Str := ["_law_chart_here", "_law_flanks", "_law_lot_here", "_law_name", "error"]
theorem sc_law_heard : FnScope N_law_heard ["_law_chart_here", "_law_flanks", "_law_lot_here", "_law_name"] (defScope s_law_heard) :=
  ⟨rfl, rfl, rfl, by decide +kernel, rfl, by decide +kernel, by decide +kernel⟩
abbrev s_law_hand_right : Stmt := topS 47
abbrev N_law_hand_right : List Str := ["_law_still", "_law_flat", "_law_chart_here", "_law_flanks", "_law_got", "_law_goal"]
theorem sc_law_hand_right : FnScope N_law_hand_right [] (defScope s_law_hand_right) :=
  ⟨rfl, rfl, rfl, by decide +kernel, rfl, by decide +kernel, by decide +kernel⟩
abbrev s_law_right : Stmt := topS 48
abbrev N_law_right : List Str := ["_law_tin", "_law_chart_here", "_law_flanks", "_law_lot_here", "_law_soft", "_law_mild", "_law_told", "_law_name"]
theorem sc_law_right : FnScope N_law_right ["_law_tin"] (defScope s_law_right) :=
  ⟨rfl, rfl, rfl, by decide +kernel, rfl, by decide +kernel, by decide +kernel⟩
abbrev s_law : Stmt := topS 49
abbrev N_law : List Str := ["_law_script"]
theorem sc_law : FnScope N_law ["_law_script"] (defScope s_law) :=
  ⟨rfl, rfl, rfl, by decide +kernel, rfl, by decide +kernel, by decide +kernel⟩

/-! ### what the top has left -/
/-- the def of the statement st stands at the module's name x -/
def Def (K : PySem.W.Frag) (mg : Str → Option Value) (x : Str) (st : Stmt) (ps : List Str) : Prop := ∃ (f : Addr) (fd : FuncData), Fun K x x st f fd ∧ mg x = some (.ref f) ∧ Binds K fd ps []
structure Txt (K : PySem.W.Frag) (mg : Str → Option Value) : Prop where
  d_tuple_of : Def K mg "tuple_of" s_tuple_of ["thing"]
  d_fraction : Def K mg "fraction" s_fraction ["top", "below"]
  d_is_less : Def K mg "is_less" s_is_less ["one", "other"]
  d_sure_one : Def K mg "sure_one" s_sure_one ["own", "name"]
  d_rank_of : Def K mg "rank_of" s_rank_of ["own", "axis", "name"]
  d_is_before : Def K mg "is_before" s_is_before ["own", "sides", "axis", "one", "other"]
  d_length_of : Def K mg "length_of" s_length_of ["chart", "chain"]
  d_need_by : Def K mg "need_by" s_need_by ["own", "axis", "first", "last", "length"]
  d_way_by : Def K mg "way_by" s_way_by ["own", "axis", "first", "last"]
  d_number_by : Def K mg "number_by" s_number_by ["own", "axis", "first", "last", "length"]
  d_number_of : Def K mg "number_of" s_number_of ["chart", "chain"]
  d_is_later : Def K mg "is_later" s_is_later ["one", "other"]
  d_in_order : Def K mg "in_order" s_in_order ["own", "lot", "axis"]
  d_lengths_from : Def K mg "lengths_from" s_lengths_from ["own", "sides", "order", "axis", "first"]
  d_tables_of : Def K mg "tables_of" s_tables_of ["own", "sides", "lot"]
  d_names_back : Def K mg "names_back" s_names_back ["row", "last"]
  d_greatest_in : Def K mg "greatest_in" s_greatest_in ["own", "sides", "lot"]
  d_greatest_chain : Def K mg "greatest_chain" s_greatest_chain ["chart", "sides", "lot"]
  d_through_in : Def K mg "through_in" s_through_in ["own", "sides", "lot", "name"]
  d_through : Def K mg "through" s_through ["chart", "sides", "lot", "name"]
  d_law_box : Def K mg "_law_box" s_law_box ["_law_script", "_law_k"]
  d_law_take : Def K mg "_law_take" s_law_take ["_law_tin", "_law_below"]
  d_law_cells : Def K mg "_law_cells" s_law_cells ["_law_script", "_law_limit"]
  d_law_same : Def K mg "_law_same" s_law_same ["_law_got", "_law_goal"]
  d_law_lists : Def K mg "_law_lists" s_law_lists ["_law_matter"]
  d_law_low : Def K mg "_law_low" s_law_low ["_law_top", "_law_below"]
  d_law_under : Def K mg "_law_under" s_law_under ["_law_one", "_law_other"]
  d_law_of : Def K mg "_law_of" s_law_of ["_law_tin", "_law_goods"]
  d_law_tether : Def K mg "_law_tether" s_law_tether ["_law_tin", "_law_far"]
  d_law_chart : Def K mg "_law_chart" s_law_chart ["_law_tin", "_law_limit"]
  d_law_lot : Def K mg "_law_lot" s_law_lot ["_law_tin", "_law_many"]
  d_law_before : Def K mg "_law_before" s_law_before ["_law_chart_here", "_law_flanks", "_law_axis", "_law_one", "_law_other"]
  d_law_chains : Def K mg "_law_chains" s_law_chains ["_law_chart_here", "_law_flanks", "_law_lot_here", "_law_axis"]
  d_law_length : Def K mg "_law_length" s_law_length ["_law_chart_here", "_law_axis", "_law_row"]
  d_law_number : Def K mg "_law_number" s_law_number ["_law_chart_here", "_law_axis", "_law_row"]
  d_law_greatest : Def K mg "_law_greatest" s_law_greatest ["_law_chart_here", "_law_flanks", "_law_lot_here", "_law_name"]
  d_law_is_chain : Def K mg "_law_is_chain" s_law_is_chain ["_law_chart_here", "_law_flanks", "_law_lot_here", "_law_thing"]
  d_law_heard : Def K mg "_law_heard" s_law_heard ["_law_chart_here", "_law_flanks", "_law_lot_here", "_law_name"]
  d_law_hand_right : Def K mg "_law_hand_right" s_law_hand_right []
  d_law_right : Def K mg "_law_right" s_law_right ["_law_tin"]
  d_law : Def K mg "law" s_law ["_law_script"]
  n_len : mg "len" = none
  n_max : mg "max" = none
  n_min : mg "min" = none
  n_sum : mg "sum" = none
  n_abs : mg "abs" = none
  n_int : mg "int" = none
  n_list : mg "list" = none
  n_tuple : mg "tuple" = none
  n_isinstance : mg "isinstance" = none
  n_bool : mg "bool" = none
  n_str : mg "str" = none
  n_all : mg "all" = none
  n_zip : mg "zip" = none
  n_range : mg "range" = none
  n_enumerate : mg "enumerate" = none
  n_sorted : mg "sorted" = none
  n_ValueError : mg "ValueError" = none
  g_gcd : mg "gcd" = some (.builtin "math.gcd")
section
variable {P : Program} {w : World} {K : PySem.W.Frag} {mg : Str → Option Value} {base : Heap} {T : Tb} {al : Bool} {rel : List PyData → PyData → Prop} {k : Nat} {x : Str} {st : Stmt} {ps : List Str}
theorem Def.cal (D : Def K mg x st ps) (ok : ∀ f fd, Fun K x x st f fd → FnOk P w K mg base CX0 k f fd ps (spD T al rel)) : Cal P w K mg base T k al x rel := by
  obtain ⟨f, fd, h1, h2, h3⟩ := D
  exact ⟨f, fd, ps, h2, h1.kp, h3, ok f fd h1⟩
end
end GN

/-! maps, sides as data; the small defs -/
namespace GN
open PySem PySem.Spec PyProof.Rows L2

structure Te where
  (a c b d : Int)
structure Nm where
  (w h : Int)
  (ac dn : Te)
def noTe : Te := ⟨0, 0, 0, 0⟩
def noNm : Nm := ⟨1, 1, noTe, noTe⟩
abbrev Ch := List Nm
abbrev Sd := List (List Int)
def nm (C : Ch) (i : Nat) : Nm := C.getD i noNm
def te (C : Ch) (ax i : Nat) : Te := if ax = 0 then (nm C i).ac else (nm C i).dn
def sz (C : Ch) (ax i : Nat) : Int := if ax = 0 then (nm C i).w else (nm C i).h
def rk (C : Ch) (ax i : Nat) : Int := (te C ax i).a + (te C ax i).b
def sd (S : Sd) (i j : Nat) : Int := (S.getD (max i j) []).getD (min i j) 0
def before (C : Ch) (S : Sd) (ax i j : Nat) : Bool := if i = j then false else if sd S i j ≠ (ax : Int) then false else HT.lexLt [rk C ax i, i] [rk C ax j, j]
def lenC (C : Ch) (ax : Nat) (ns : List Nat) : Int := (ns.dropLast.map fun i => sz C ax i).sum
def needC (C : Ch) (ax f l : Nat) (n : Int) : Int := n - (te C ax f).c - (te C ax l).d
def wayC (C : Ch) (ax f l : Nat) : Int := (te C ax l).b - (te C ax f).a
def frac (t b : Int) : Int × Int := (t / ((Nat.gcd t.natAbs b.natAbs : Nat) : Int), b / ((Nat.gcd t.natAbs b.natAbs : Nat) : Int))
abbrev Num := Option (Int × Int)
def numB (C : Ch) (ax f l : Nat) (n : Int) : Num := if needC C ax f l n ≤ 0 then some (0, 1) else if 0 < wayC C ax f l then some (frac (needC C ax f l n) (wayC C ax f l)) else none
def less (p q : Int × Int) : Bool := decide (p.1 * q.2 < q.1 * p.2)
def later : Num → Num → Bool
  | none, o => o.isSome
  | some _, none => false
  | some p, some q => less q p

/-! as data -/
def eI (i : Nat) : PyData := .int (i : Int)
def eT (k : Bool) (t : Te) : PyData := sq k [.int t.a, .int t.c, .int t.b, .int t.d]
def eN (k : Bool) (n : Nm) : PyData := sq k [.int n.w, .int n.h, eT k n.ac, eT k n.dn]
def eC (k : Bool) (C : Ch) : PyData := sq k (C.map (eN k))
def eS (k : Bool) (S : Sd) : PyData := sq k (S.map fun r => sq k (r.map PyData.int))
def eL (k : Bool) (L : List Nat) : PyData := sq k (L.map eI)
def eF (p : Int × Int) : PyData := .tuple [.int p.1, .int p.2]
def eO : Num → PyData
  | none => .none
  | some p => eF p
def eCh (ax : Nat) (ns : List Nat) : PyData := .tuple [eI ax, eL true ns]

theorem at_ch {k : Bool} {C : Ch} {i : Nat} (h : i < C.length) : atI (C.map (eN k)) (i : Int) = some (eN k (nm C i)) := by
  refine atI_nat ?_
  rw [List.getElem?_map, List.getElem?_eq_getElem h]
  unfold nm
  rw [List.getD_eq_getElem?_getD, List.getElem?_eq_getElem h]
  rfl
theorem at_te {k : Bool} {C : Ch} {ax i : Nat} (h : ax ≤ 1) : atI [PyData.int (nm C i).w, .int (nm C i).h, eT k (nm C i).ac, eT k (nm C i).dn] (2 + (ax : Int)) = some (eT k (te C ax i)) := by
  have h2 : ax = 0 ∨ ax = 1 := by omega
  rcases h2 with rfl | rfl
  · rfl
  · rfl
theorem at_sz {k : Bool} {C : Ch} {ax i : Nat} (h : ax ≤ 1) : atI [PyData.int (nm C i).w, .int (nm C i).h, eT k (nm C i).ac, eT k (nm C i).dn] (ax : Int) = some (.int (sz C ax i)) := by
  have h2 : ax = 0 ∨ ax = 1 := by omega
  rcases h2 with rfl | rfl
  · rfl
  · rfl

section
variable {T : Tb} {lk : Lk} {X : Cx} {ρ : List Sl} {e a b c : Expr} {pos p2 p3 p4 p5 p6 : Pos} {C : Ch} {k : Bool} {ax i : Nat}
/-- own[name][2 + axis] -/
theorem ed_te {j : Nat} (ha : PE X a (tD T lk ρ (eC k C))) (hb : PE X b (tD T lk ρ (.int (i : Int)))) (hc : PE X c (tD T lk ρ (.int (ax : Int)))) (hi : i < C.length) (hx : ax ≤ 1) (hs : PlainIx b := by intro _ _; rfl) :
    PE X (.Subscript (.Subscript a b p2) (.BinOp (.Constant (.int 2) j p3) .Add c p4) pos) (tD T lk ρ (eT k (te C ax i))) :=
  ed_ix (k := k) (ed_ix ha hb (at_ch hi) hs) (ed_add ed_int hc) (at_te hx)
theorem ed_sz (ha : PE X a (tD T lk ρ (eC k C))) (hb : PE X b (tD T lk ρ (.int (i : Int)))) (hc : PE X c (tD T lk ρ (.int (ax : Int)))) (hi : i < C.length) (hx : ax ≤ 1) (hs : PlainIx b := by intro _ _; rfl) (hs2 : PlainIx c := by intro _ _; rfl) :
    PE X (.Subscript (.Subscript a b p2) c pos) (tD T lk ρ (.int (sz C ax i))) :=
  ed_ix (k := k) (ed_ix ha hb (at_ch hi) hs) hc (at_sz hx) hs2
end

/-! ### the small defs -/
section
variable {P : Program} {w : World} {K : PySem.W.Frag} {mg : Str → Option Value} {base : Heap} {T : Tb}

def rFrac (ds : List PyData) (d : PyData) : Prop := ∃ t b : Int, ds = [.int t, .int b] ∧ 0 < b ∧ b < 1000000 ∧ d = eF (frac t b)
theorem gcd_ok {t b : Int} (h : 0 < b) (h2 : b < 1000000) : CDiv t ((Nat.gcd t.natAbs b.natAbs : Nat) : Int) := by
  have h1 : 0 < Nat.gcd t.natAbs b.natAbs := Nat.gcd_pos_of_pos_right _ (by omega)
  have h3 : Nat.gcd t.natAbs b.natAbs ≤ b.natAbs := Nat.le_of_dvd (by omega) (Nat.gcd_dvd_right _ _)
  exact ⟨by omega, by omega⟩
theorem ea2 {T : Tb} {lk : Lk} {X : Cx} {ρ : List Sl} {a b : Expr} {da db : PyData} (ha : PE X a (tD T lk ρ da)) (hb : PE X b (tD T lk ρ db)) (hs : starEach [a, b] X.env = (false, eval a X.env) :: starEach [b] X.env := by rfl) (hs2 : starEach [b] X.env = (false, eval b X.env) :: starEach [] X.env := by rfl) :
    PA X [a, b] (tA T lk ρ [da, db]) := ea_cons ha (ea_cons hb ea_nil hs2) hs
theorem et_gt {T : Tb} {lk : Lk} {X : Cx} {ρ : List Sl} {a b : Expr} {pos : Pos} {i j : Int} {k : Bool} (ha : PE X a (tD T lk ρ (.int i))) (hb : PE X b (tD T lk ρ (.int j))) (hk : decide (j < i) = k) : PT X (.Compare a [.Gt] [b] pos) (tT T lk ρ k) := by
  subst hk
  exact et_cmp op_gt (rd_i0 fun _ => rfl) ha hb
theorem et_le {T : Tb} {lk : Lk} {X : Cx} {ρ : List Sl} {a b : Expr} {pos : Pos} {i j : Int} {k : Bool} (ha : PE X a (tD T lk ρ (.int i))) (hb : PE X b (tD T lk ρ (.int j))) (hk : decide (i ≤ j) = k) : PT X (.Compare a [.LtE] [b] pos) (tT T lk ρ k) := by
  subst hk
  exact et_cmp op_le (rd_i0 fun _ => rfl) ha hb
theorem et_eq {T : Tb} {lk : Lk} {X : Cx} {ρ : List Sl} {a b : Expr} {pos : Pos} {i j : Int} {k : Bool} (ha : PE X a (tD T lk ρ (.int i))) (hb : PE X b (tD T lk ρ (.int j))) (hk : decide (i = j) = k) : PT X (.Compare a [.Eq] [b] pos) (tT T lk ρ k) := by
  subst hk
  exact et_cmp op_eq rd_eq ha hb
theorem et_ne {T : Tb} {lk : Lk} {X : Cx} {ρ : List Sl} {a b : Expr} {pos : Pos} {i j : Int} {k : Bool} (ha : PE X a (tD T lk ρ (.int i))) (hb : PE X b (tD T lk ρ (.int j))) (hk : (!decide (i = j)) = k) : PT X (.Compare a [.NotEq] [b] pos) (tT T lk ρ k) := by
  subst hk
  exact et_cmp op_ne rd_ne ha hb
theorem et_isN {T : Tb} {lk : Lk} {X : Cx} {ρ : List Sl} {a : Expr} {pos p2 : Pos} {j : Nat} {d : PyData} {k : Bool} (ha : PE X a (tD T lk ρ d)) (hk : isNo d = k) : PT X (.Compare a [.Is] [.Constant .none j p2] pos) (tT T lk ρ k) := by
  subst hk
  exact et_cmp op_isN rd_isN ha ed_non
theorem et_notN {T : Tb} {lk : Lk} {X : Cx} {ρ : List Sl} {a : Expr} {pos p2 : Pos} {j : Nat} {d : PyData} {k : Bool} (ha : PE X a (tD T lk ρ d)) (hk : (!isNo d) = k) : PT X (.Compare a [.IsNot] [.Constant .none j p2] pos) (tT T lk ρ k) := by
  subst hk
  exact et_cmp op_notN rd_notN ha ed_non
variable (Z : Txt K mg)
include Z
theorem c_fraction : Cal P w K mg base T 1 true "fraction" rFrac := Z.d_fraction.cal fun f fd F => by
  refine data_fn F sc_fraction (fun ds d h => by obtain ⟨t, b, rfl, _⟩ := h; rfl) fun cdv A outer s H E lk ds d hal hr h => ?_
  obtain ⟨t, b, rfl, h1, h2, rfl⟩ := h
  refine ess_cons (es_if (et_eq (ed_var 1) ed_int rfl) (fun h => absurd (of_decide_eq_true h) (by omega)) fun _ => ess_nil) ?_
  refine ess_cons (es_set 2 (ed_if (k := true) (d := .int ((Nat.gcd t.natAbs b.natAbs : Nat) : Int)) (et_gt (ed_var 1) ed_int (decide_eq_true h1)) (fun _ => ed_gcd Z.g_gcd (ed_var 0) (ed_var 1)) fun z => nomatch z) sc_fraction.nd) ?_
  exact ess_one (es_ret (ed_tup (ea2 (ed_fdiv (ed_var 0) (ed_var 2) (gcd_ok h1 h2)) (ed_fdiv (ed_var 1) (ed_var 2) (gcd_ok h1 h2)))))
/-- numbers that may be multiplied -/
def sm (i : Int) : Prop := -(2 ^ 64) < i ∧ i < 2 ^ 64
def rLess (ds : List PyData) (d : PyData) : Prop := ∃ p q : Int × Int, ds = [eF p, eF q] ∧ sm p.1 ∧ sm q.1 ∧ d = .bool (less p q)
theorem c_is_less : Cal P w K mg base T 1 true "is_less" rLess := Z.d_is_less.cal fun f fd F => by
  refine data_fn F sc_is_less (fun ds d h => by obtain ⟨t, b, rfl, _⟩ := h; rfl) fun cdv A outer s H E lk ds d hal hr h => ?_
  obtain ⟨p, q, rfl, h1, h2, rfl⟩ := h
  exact ess_one (es_ret (ed_cmp op_lt (rd_i0 fun _ => rfl) (ed_mul (ed_ixT (ed_var 0) ed_int rfl) (ed_ixT (ed_var 1) ed_int rfl) (.inl h1)) (ed_mul (ed_ixT (ed_var 1) ed_int rfl) (ed_ixT (ed_var 0) ed_int rfl) (.inl h2))))
def rRank (ds : List PyData) (d : PyData) : Prop := ∃ (k : Bool) (C : Ch) (ax i : Nat), ds = [eC k C, eI ax, eI i] ∧ ax ≤ 1 ∧ i < C.length ∧ d = .tuple [.int (rk C ax i), eI i]
theorem c_rank_of : Cal P w K mg base T 1 true "rank_of" rRank := Z.d_rank_of.cal fun f fd F => by
  refine data_fn F sc_rank_of (fun ds d h => by obtain ⟨k, C, ax, i, rfl, _⟩ := h; rfl) fun cdv A outer s H E lk ds d hal hr h => ?_
  obtain ⟨k, C, ax, i, rfl, h1, h2, rfl⟩ := h
  refine ess_cons (es_set 3 (ed_te (ed_var 0) (ed_var 2) (ed_var 1) h2 h1) sc_rank_of.nd) ?_
  exact ess_one (es_ret (ed_tup (ea2 (ed_add (ed_ix (ed_var 3) ed_int rfl) (ed_ix (ed_var 3) ed_int rfl)) (ed_var 2))))
end
end GN

/-! who stands before whom, chains' numbers -/
namespace GN
open PySem PySem.Spec PyProof.Rows L2

structure WS (C : Ch) (S : Sd) : Prop where
  len : S.length = C.length
  row : ∀ j, j < C.length → (S.getD j []).length = j
section
variable {T : Tb} {lk : Lk} {X : Cx} {ρ : List Sl} {e a b c : Expr} {pos p p2 p3 p4 p5 p6 : Pos} {C : Ch} {S : Sd} {k : Bool} {ax i j : Nat}
theorem ed_maxN (hc : X.calm = true) (hm : X.mg "max" = none) (ha : PE X a (tD T lk ρ (.int (i : Int)))) (hb : PE X b (tD T lk ρ (.int (j : Int)))) (hg : Gl X "max" := by rfl) (he : starEach [a, b] X.env = (false, eval a X.env) :: starEach [b] X.env := by rfl)
    (he2 : starEach [b] X.env = (false, eval b X.env) :: starEach [] X.env := by rfl) (hpl : (backTo pos (starEach [b] X.env)).any (·.1) = false := by rfl) : PE X (.Call (.Name "max" p) [a, b] [] pos) (tD T lk ρ (.int ((max i j : Nat) : Int))) := by
  have h := ed_max2 (p := p) (pos := pos) hc hm ha hb hg he he2 hpl
  have e : (if (j : Int) > (i : Int) then (j : Int) else (i : Int)) = ((max i j : Nat) : Int) := by
    split <;> omega
  rw [e] at h
  exact h
theorem ed_minN (hc : X.calm = true) (hm : X.mg "min" = none) (ha : PE X a (tD T lk ρ (.int (i : Int)))) (hb : PE X b (tD T lk ρ (.int (j : Int)))) (hg : Gl X "min" := by rfl) (he : starEach [a, b] X.env = (false, eval a X.env) :: starEach [b] X.env := by rfl)
    (he2 : starEach [b] X.env = (false, eval b X.env) :: starEach [] X.env := by rfl) (hpl : (backTo pos (starEach [b] X.env)).any (·.1) = false := by rfl) : PE X (.Call (.Name "min" p) [a, b] [] pos) (tD T lk ρ (.int ((min i j : Nat) : Int))) := by
  have h := ed_min2 (p := p) (pos := pos) hc hm ha hb hg he he2 hpl
  have e : (if (j : Int) < (i : Int) then (j : Int) else (i : Int)) = ((min i j : Nat) : Int) := by
    split <;> omega
  rw [e] at h
  exact h
theorem getD_at {α : Type} {l : List α} {i : Nat} {d : α} (h : i < l.length) : l[i]? = some (l.getD i d) := by
  rw [List.getD_eq_getElem?_getD, List.getElem?_eq_getElem h]
  rfl
/-- sides[max(..)][min(..)] -/
theorem ed_sd (W : WS C S) (hne : i ≠ j) (hi : i < C.length) (hj : j < C.length) (ha : PE X a (tD T lk ρ (eS k S))) (hb : PE X b (tD T lk ρ (.int ((max i j : Nat) : Int)))) (hc : PE X c (tD T lk ρ (.int ((min i j : Nat) : Int)))) (hs : PlainIx b := by intro _ _; rfl) (hs2 : PlainIx c := by intro _ _; rfl) :
    PE X (.Subscript (.Subscript a b p2) c pos) (tD T lk ρ (.int (sd S i j))) := by
  have hmax : max i j < C.length := by omega
  have h1 : (S.map fun r => sq k (r.map PyData.int))[max i j]? = some (sq k ((S.getD (max i j) []).map PyData.int)) := by
    rw [List.getElem?_map, getD_at (d := []) (by rw [W.len]; exact hmax)]
    rfl
  have h2 : ((S.getD (max i j) []).map PyData.int)[min i j]? = some (.int (sd S i j)) := by
    rw [List.getElem?_map, getD_at (d := 0) (by rw [W.row _ hmax]; omega)]
    rfl
  exact ed_ix (k := k) (ed_ix ha hb (atI_nat h1) hs) hc (atI_nat h2) hs2
theorem ea3 {a b c : Expr} {da db dc : PyData} (ha : PE X a (tD T lk ρ da)) (hb : PE X b (tD T lk ρ db)) (hc : PE X c (tD T lk ρ dc)) (hs : starEach [a, b, c] X.env = (false, eval a X.env) :: starEach [b, c] X.env := by rfl) (hs2 : starEach [b, c] X.env = (false, eval b X.env) :: starEach [c] X.env := by rfl)
    (hs3 : starEach [c] X.env = (false, eval c X.env) :: starEach [] X.env := by rfl) : PA X [a, b, c] (tA T lk ρ [da, db, dc]) := ea_cons ha (ea2 hb hc hs2 hs3) hs
theorem ea4 {a b c d : Expr} {da db dc dd : PyData} (ha : PE X a (tD T lk ρ da)) (hb : PE X b (tD T lk ρ db)) (hc : PE X c (tD T lk ρ dc)) (hd : PE X d (tD T lk ρ dd)) (hs : starEach [a, b, c, d] X.env = (false, eval a X.env) :: starEach [b, c, d] X.env := by rfl)
    (hs2 : starEach [b, c, d] X.env = (false, eval b X.env) :: starEach [c, d] X.env := by rfl) (hs3 : starEach [c, d] X.env = (false, eval c X.env) :: starEach [d] X.env := by rfl) (hs4 : starEach [d] X.env = (false, eval d X.env) :: starEach [] X.env := by rfl) :
    PA X [a, b, c, d] (tA T lk ρ [da, db, dc, dd]) := ea_cons ha (ea3 hb hc hd hs2 hs3 hs4) hs
theorem ea5 {a b c d e : Expr} {da db dc dd de : PyData} (ha : PE X a (tD T lk ρ da)) (hb : PE X b (tD T lk ρ db)) (hc : PE X c (tD T lk ρ dc)) (hd : PE X d (tD T lk ρ dd)) (he : PE X e (tD T lk ρ de)) (hs : starEach [a, b, c, d, e] X.env = (false, eval a X.env) :: starEach [b, c, d, e] X.env := by rfl)
    (hs2 : starEach [b, c, d, e] X.env = (false, eval b X.env) :: starEach [c, d, e] X.env := by rfl) (hs3 : starEach [c, d, e] X.env = (false, eval c X.env) :: starEach [d, e] X.env := by rfl) (hs4 : starEach [d, e] X.env = (false, eval d X.env) :: starEach [e] X.env := by rfl)
    (hs5 : starEach [e] X.env = (false, eval e X.env) :: starEach [] X.env := by rfl) : PA X [a, b, c, d, e] (tA T lk ρ [da, db, dc, dd, de]) := ea_cons ha (ea4 hb hc hd he hs2 hs3 hs4 hs5) hs
end

section
variable {P : Program} {w : World} {K : PySem.W.Frag} {mg : Str → Option Value} {base : Heap} {T : Tb}
def rBefore (ds : List PyData) (d : PyData) : Prop := ∃ (k k2 : Bool) (C : Ch) (S : Sd) (ax i j : Nat), ds = [eC k C, eS k2 S, eI ax, eI i, eI j] ∧ WS C S ∧ ax ≤ 1 ∧ i < C.length ∧ j < C.length ∧ d = .bool (before C S ax i j)
def rNeed (ds : List PyData) (d : PyData) : Prop := ∃ (k : Bool) (C : Ch) (ax f l : Nat) (n : Int), ds = [eC k C, eI ax, eI f, eI l, .int n] ∧ ax ≤ 1 ∧ f < C.length ∧ l < C.length ∧ d = .int (needC C ax f l n)
def rWay (ds : List PyData) (d : PyData) : Prop := ∃ (k : Bool) (C : Ch) (ax f l : Nat), ds = [eC k C, eI ax, eI f, eI l] ∧ ax ≤ 1 ∧ f < C.length ∧ l < C.length ∧ d = .int (wayC C ax f l)
def rNumB (ds : List PyData) (d : PyData) : Prop := ∃ (k : Bool) (C : Ch) (ax f l : Nat) (n : Int), ds = [eC k C, eI ax, eI f, eI l, .int n] ∧ ax ≤ 1 ∧ f < C.length ∧ l < C.length ∧ wayC C ax f l < 1000000 ∧ d = eO (numB C ax f l n)
def smO : Num → Prop
  | none => True
  | some p => sm p.1
def rLater (ds : List PyData) (d : PyData) : Prop := ∃ p q : Num, ds = [eO p, eO q] ∧ smO p ∧ smO q ∧ d = .bool (later p q)
def rSure (ds : List PyData) (d : PyData) : Prop := ∃ (k : Bool) (C : Ch) (i : Nat), ds = [eC k C, eI i] ∧ i < C.length ∧ d = .none
variable (Z : Txt K mg)
include Z
theorem c_is_before : Cal P w K mg base T 2 true "is_before" rBefore := Z.d_is_before.cal fun f fd F => by
  refine data_fn F sc_is_before (fun ds d h => by obtain ⟨k, k2, C, S, ax, i, j, rfl, _⟩ := h; rfl) fun cdv A outer s H E lk ds d hal hr h => ?_
  obtain ⟨k, k2, C, S, ax, i, j, rfl, W, h1, h2, h3, rfl⟩ := h
  by_cases hij : i = j
  · have e : before C S ax i j = false := if_pos hij
    rw [e]
    exact ess_rt (es_if (k := true) (PW.pt (ew_orT (et_eq (ed_var 3) (ed_var 4) (decide_eq_true (by rw [hij]))))) (fun _ => ess_one (es_ret ed_bl)) fun z => nomatch z)
  · have hne : decide ((i : Int) = (j : Int)) = false := decide_eq_false fun z => hij (by omega)
    by_cases hs : sd S i j = (ax : Int)
    · have e : before C S ax i j = HT.lexLt [rk C ax i, i] [rk C ax j, j] := by
        unfold before
        rw [if_neg hij, if_neg (fun z => z hs)]
      rw [e]
      refine ess_cons (es_if (k := false) (PW.pt (ew_orF (et_eq (ed_var 3) (ed_var 4) hne) (ew_one (et_ne (ed_sd W hij h2 h3 (ed_var 1) (ed_maxN rfl Z.n_max (ed_var 3) (ed_var 4)) (ed_minN rfl Z.n_min (ed_var 3) (ed_var 4))) (ed_var 2) (by rw [decide_eq_true hs]; rfl)) (.inr rfl)))) (fun z => nomatch z) fun _ => ess_nil) ?_
      exact ess_one (es_ret (ed_cmp (op_ltT hr.units0) (rd_ltT (ns := [rk C ax i, i]) (ms := [rk C ax j, j])) (ed_call (c_rank_of Z) (hr.mono (by decide)) (ea3 (ed_var 0) (ed_var 2) (ed_var 3)) ⟨k, C, ax, i, rfl, h1, h2, rfl⟩)
        (ed_call (c_rank_of Z) (hr.mono (by decide)) (ea3 (ed_var 0) (ed_var 2) (ed_var 4)) ⟨k, C, ax, j, rfl, h1, h3, rfl⟩)))
    · have e : before C S ax i j = false := by
        unfold before
        rw [if_neg hij, if_pos hs]
      rw [e]
      exact ess_rt (es_if (k := true) (PW.pt (ew_orF (et_eq (ed_var 3) (ed_var 4) hne) (ew_one (et_ne (ed_sd W hij h2 h3 (ed_var 1) (ed_maxN rfl Z.n_max (ed_var 3) (ed_var 4)) (ed_minN rfl Z.n_min (ed_var 3) (ed_var 4))) (ed_var 2) (by rw [decide_eq_false hs]; rfl)) (.inr rfl)))) (fun _ => ess_one (es_ret ed_bl)) fun z => nomatch z)
theorem c_need_by : Cal P w K mg base T 1 true "need_by" rNeed := Z.d_need_by.cal fun f fd F => by
  refine data_fn F sc_need_by (fun ds d h => by obtain ⟨k, C, ax, f, l, n, rfl, _⟩ := h; rfl) fun cdv A outer s H E lk ds d hal hr h => ?_
  obtain ⟨k, C, ax, f, l, n, rfl, h1, h2, h3, rfl⟩ := h
  exact ess_one (es_ret (ed_sub (ed_sub (ed_var 4) (ed_ix (ed_te (ed_var 0) (ed_var 2) (ed_var 1) h2 h1) ed_int rfl)) (ed_ix (ed_te (ed_var 0) (ed_var 3) (ed_var 1) h3 h1) ed_int rfl)))
theorem c_way_by : Cal P w K mg base T 1 true "way_by" rWay := Z.d_way_by.cal fun f fd F => by
  refine data_fn F sc_way_by (fun ds d h => by obtain ⟨k, C, ax, f, l, rfl, _⟩ := h; rfl) fun cdv A outer s H E lk ds d hal hr h => ?_
  obtain ⟨k, C, ax, f, l, rfl, h1, h2, h3, rfl⟩ := h
  exact ess_one (es_ret (ed_sub (ed_ix (ed_te (ed_var 0) (ed_var 3) (ed_var 1) h3 h1) ed_int rfl) (ed_ix (ed_te (ed_var 0) (ed_var 2) (ed_var 1) h2 h1) ed_int rfl)))
theorem c_number_by : Cal P w K mg base T 2 true "number_by" rNumB := Z.d_number_by.cal fun f fd F => by
  refine data_fn F sc_number_by (fun ds d h => by obtain ⟨k, C, ax, f, l, n, rfl, _⟩ := h; rfl) fun cdv A outer s H E lk ds d hal hr h => ?_
  obtain ⟨k, C, ax, f, l, n, rfl, h1, h2, h3, hw, rfl⟩ := h
  refine ess_cons (es_par 5 6 rfl sc_number_by.nd (ea2 (ed_call (c_need_by Z) (hr.mono (by decide)) (ea5 (ed_var 0) (ed_var 1) (ed_var 2) (ed_var 3) (ed_var 4)) ⟨k, C, ax, f, l, n, rfl, h1, h2, h3, rfl⟩)
    (ed_call (c_way_by Z) (hr.mono (by decide)) (ea4 (ed_var 0) (ed_var 1) (ed_var 2) (ed_var 3)) ⟨k, C, ax, f, l, rfl, h1, h2, h3, rfl⟩))) ?_
  unfold numB
  by_cases hn : needC C ax f l n ≤ 0
  · rw [if_pos hn]
    exact ess_rt (es_if (k := true) (et_le (ed_var 5) ed_int (decide_eq_true hn)) (fun _ => ess_one (es_ret (ed_tup (ea2 ed_int ed_int)))) fun z => nomatch z)
  · rw [if_neg hn]
    refine ess_cons (es_if (k := false) (et_le (ed_var 5) ed_int (decide_eq_false hn)) (fun z => nomatch z) fun _ => ess_nil) ?_
    by_cases hy : 0 < wayC C ax f l
    · rw [if_pos hy]
      exact ess_one (es_ret (ed_if (k := true) (et_gt (ed_var 6) ed_int (decide_eq_true hy)) (fun _ => ed_call (c_fraction Z) (hr.mono (by decide)) (ea2 (ed_var 5) (ed_var 6)) ⟨_, _, rfl, hy, hw, rfl⟩) fun z => nomatch z))
    · rw [if_neg hy]
      exact ess_one (es_ret (ed_if (k := false) (et_gt (ed_var 6) ed_int (decide_eq_false hy)) (fun z => nomatch z) fun _ => ed_non))
theorem c_is_later : Cal P w K mg base T 2 true "is_later" rLater := Z.d_is_later.cal fun f fd F => by
  refine data_fn F sc_is_later (fun ds d h => by obtain ⟨p, q, rfl, _⟩ := h; rfl) fun cdv A outer s H E lk ds d hal hr h => ?_
  obtain ⟨p, q, rfl, h1, h2, rfl⟩ := h
  cases p with
  | none =>
    have e : later none q = (true && !isNo (eO q)) := by cases q <;> rfl
    rw [e]
    exact ess_rt (es_if (k := true) (PW.pt (ew_orT (et_isN (ed_var 0) rfl))) (fun _ => ess_one (es_ret (ed_and2 (ed_cmp op_isN rd_isN (ed_var 0) ed_non) fun _ => ed_cmp op_notN rd_notN (ed_var 1) ed_non))) fun z => nomatch z)
  | some p =>
    cases q with
    | none => exact ess_rt (es_if (k := true) (PW.pt (ew_orF (et_isN (ed_var 0) rfl) (ew_one (et_isN (ed_var 1) rfl) (.inr rfl)))) (fun _ => ess_one (es_ret (ed_andF (ed_cmp op_isN rd_isN (ed_var 0) ed_non)))) fun z => nomatch z)
    | some q =>
      refine ess_cons (es_if (k := false) (PW.pt (ew_orF (et_isN (ed_var 0) rfl) (ew_one (et_isN (ed_var 1) rfl) (.inr rfl)))) (fun z => nomatch z) fun _ => ess_nil) ?_
      exact ess_one (es_ret (ed_call (c_is_less Z) (hr.mono (by decide)) (ea2 (ed_var 1) (ed_var 0)) ⟨q, p, rfl, h2, h1, rfl⟩))
theorem c_sure_one : Cal P w K mg base T 1 true "sure_one" rSure := Z.d_sure_one.cal fun f fd F => by
  refine data_fnN F sc_sure_one (fun ds d h => by obtain ⟨k, C, i, rfl, _⟩ := h; rfl) (fun ds d h => by obtain ⟨k, C, i, rfl, _, rfl⟩ := h; rfl) fun cdv A outer s H E lk ds d hal hr h => ?_
  obtain ⟨k, C, i, rfl, h1, rfl⟩ := h
  refine ⟨_, ess_one (es_if (k := false) (et_not (k := true) (et_chain (k := true) (j := true) op_le op_lt (rd_i0 fun _ => ?_) (fun _ => rd_i0 fun _ => ?_) rfl ed_int (ed_var 1) (ed_len (k := k) (xs := C.map (eN k)) Z.n_len (ed_var 0)))) (fun z => nomatch z) fun _ => ess_nil)⟩
  · show V.bl _ = V.bl true
    rw [decide_eq_true (by omega)]
  · show V.bl _ = V.bl true
    rw [List.length_map, decide_eq_true (by omega)]
end
end GN

/-! loops and comprehensions over lists that are encoded item by item -/
namespace GN
open PySem PySem.Spec PyProof.Rows L2
section
variable {α : Type}
theorem range_get (L : List α) (d0 : α) : (List.range L.length).map (fun i => L.getD i d0) = L := by
  apply List.ext_getElem
  · rw [List.length_map, List.length_range]
  · intro i h1 h2
    rw [List.getElem_map, List.getElem_range, List.getD_eq_getElem?_getD, List.getElem?_eq_getElem h2]
    rfl
theorem picked_map (L : List α) (d0 : α) (t : α → Bool) (g : α → PyData) : picked L.length (fun i => t (L.getD i d0)) (fun i => g (L.getD i d0)) = (L.filter t).map g := by
  have h : ((List.range L.length).filter fun i => t (L.getD i d0)).map (fun i => g (L.getD i d0)) = (((List.range L.length).map fun i => L.getD i d0).filter t).map g := by
    rw [List.filter_map, List.map_map]
    rfl
  unfold picked
  rw [h, range_get]
theorem enc_at {L : List α} {enc : α → PyData} {i : Nat} {x : PyData} (d0 : α) (h : (L.map enc)[i]? = some x) : L[i]? = some (L.getD i d0) ∧ L.getD i d0 ∈ L ∧ x = enc (L.getD i d0) := by
  rw [List.getElem?_map] at h
  cases q : L[i]? with
  | none => rw [q] at h; cases h
  | some z =>
    have e : L.getD i d0 = z := by rw [List.getD_eq_getElem?_getD, q]; rfl
    rw [q] at h
    rw [e]
    exact ⟨rfl, List.mem_of_getElem? q, (Option.some.inj h).symm⟩
end
section
variable {α : Type} {T : Tb} {lk : Lk} {X : Cx} {ρ : List Sl} {pos : Pos}
theorem ed_lcM {x : Str} {px : Pos} {elt iter : Expr} {ifs : List Expr} {scope : Scope} (j : Nat) (L : List α) (enc : α → PyData) (t : α → Bool) (g : α → PyData) (hc : X.calm = true) (hN : X.N.Nodup) (hi : PI X (.Name x px) iter (tI T lk ρ (L.map enc))) (hz : L.length ≤ 100000)
    (hg : ∀ z ∈ L, ∀ (s : Shared) (H : Hp) (C : Addr) (cl : List (Str × Addr)) (fp : List Addr), PG (X.blk s H scope (compEnvC scope cl C X.env) fp) (.Name x px) (tGw T lk [j] (enc z) (wipeS ρ [j]) ((wipeS ρ [j]).set j (.d (enc z)))))
    (ht : ∀ z ∈ L, ∀ (s : Shared) (H : Hp) (C : Addr) (cl : List (Str × Addr)) (fp : List Addr), PTs (X.blk s H scope (compEnvC scope cl C X.env) fp) ifs (tT T lk ((wipeS ρ [j]).set j (.d (enc z))) (t z)))
    (he : ∀ z ∈ L, t z = true → ∀ (s : Shared) (H : Hp) (C : Addr) (cl : List (Str × Addr)) (fp : List Addr), PE (X.blk s H scope (compEnvC scope cl C X.env) fp) elt (tD T lk ((wipeS ρ [j]).set j (.d (enc z))) (g z)))
    (ok : BlkOk X.N X.env.scope scope [(x, j)]) (hs : ∀ x, foldedSetIterable iter X.env x = pure x := by intro _; rfl) : PE X (.ListComp elt [⟨.Name x px, iter, ifs, 0⟩] scope pos) (tD T lk ρ (.list ((L.filter t).map g))) := by
  cases L with
  | nil => exact ed_lc (own := [(x, j)]) (fun _ => ρ) (fun _ => true) (fun _ => .none) hc hN hi hz (fun i z h => by simp at h) (fun i z h => by simp at h) (fun i z h => by simp at h) ok hs
  | cons z0 r =>
    rw [← picked_map _ z0 t g, ← List.length_map (as := z0 :: r) (f := enc)]
    exact ed_lc (own := [(x, j)]) (fun i => (wipeS ρ [j]).set j (.d (enc ((z0 :: r).getD i z0)))) _ _ hc hN hi (by rw [List.length_map]; exact hz)
      (fun i y h s H C cl fp => by obtain ⟨_, h2, rfl⟩ := enc_at z0 h; exact hg _ h2 s H C cl fp)
      (fun i y h s H C cl fp => by obtain ⟨_, h2, rfl⟩ := enc_at z0 h; exact ht _ h2 s H C cl fp)
      (fun i y h q s H C cl fp => by obtain ⟨_, h2, rfl⟩ := enc_at z0 h; exact he _ h2 q s H C cl fp) ok hs
/-- without tests -/
theorem ed_lcA {x : Str} {px : Pos} {elt iter : Expr} {scope : Scope} (j : Nat) (L : List α) (enc : α → PyData) (g : α → PyData) (hc : X.calm = true) (hN : X.N.Nodup) (hi : PI X (.Name x px) iter (tI T lk ρ (L.map enc))) (hz : L.length ≤ 100000)
    (hg : ∀ z ∈ L, ∀ (s : Shared) (H : Hp) (C : Addr) (cl : List (Str × Addr)) (fp : List Addr), PG (X.blk s H scope (compEnvC scope cl C X.env) fp) (.Name x px) (tGw T lk [j] (enc z) (wipeS ρ [j]) ((wipeS ρ [j]).set j (.d (enc z)))))
    (he : ∀ z ∈ L, ∀ (s : Shared) (H : Hp) (C : Addr) (cl : List (Str × Addr)) (fp : List Addr), PE (X.blk s H scope (compEnvC scope cl C X.env) fp) elt (tD T lk ((wipeS ρ [j]).set j (.d (enc z))) (g z)))
    (ok : BlkOk X.N X.env.scope scope [(x, j)]) (hs : ∀ x, foldedSetIterable iter X.env x = pure x := by intro _; rfl) : PE X (.ListComp elt [⟨.Name x px, iter, [], 0⟩] scope pos) (tD T lk ρ (.list (L.map g))) := by
  have h := ed_lcM (pos := pos) (ifs := []) j L enc (fun _ => true) g hc hN hi hz hg (fun z hz s H C cl fp => ets_nil) (fun z hz _ => he z hz) ok hs
  rw [List.filter_eq_self.mpr fun _ _ => rfl] at h
  exact h
/-- a for over a list, by what the taken part makes of the slots; pre0: what is taken ahead of the turn that leaves -/
theorem es_forL {tg iter : Expr} {body : List Stmt} (L : List α) (enc : α → PyData) (F : List α → List Sl) (F' : List α → α → List Sl) (hp : PassesOwn (model X.prog X.w) X.A X.env X.xe) (hc : X.calm = true) (hi : PI X tg iter (tI T lk ρ (L.map enc))) (h0 : Wk ρ (F []))
    (hg : ∀ pre z post, L = pre ++ z :: post → PG X tg (tG T lk (enc z) (F pre) (F' pre z)))
    (hb : ∀ pre z post, L = pre ++ z :: post → PSs X body (tS T lk (F' pre z) (.nx (F (pre ++ [z])))))
    (hs : ∀ x, foldedSetIterable iter X.env x = pure x := by intro _; rfl) : PS X (.For tg iter body [] pos) (tS T lk ρ (.nx (F L))) := by
  cases L with
  | nil => exact es_for (fun _ => F []) (fun _ => F []) hp hc hi h0 (fun i x h => by simp at h) (fun i x h => by simp at h) hs
  | cons z0 r =>
    have h := es_for (pos := pos) (body := body) (fun i => F ((z0 :: r).take i)) (fun i => F' ((z0 :: r).take i) ((z0 :: r).getD i z0)) hp hc hi h0 (fun i x h => ?_) (fun i x h => ?_) hs
    · rw [List.length_map, List.take_length] at h
      exact h
    · obtain ⟨h1, _, rfl⟩ := enc_at z0 h
      exact hg _ _ ((z0 :: r).drop (i + 1)) (by
        obtain ⟨hl, he⟩ := List.getElem?_eq_some_iff.mp h1
        rw [← he, List.getElem_cons_drop hl, List.take_append_drop])
    · obtain ⟨h1, _, rfl⟩ := enc_at z0 h
      have h2 := hb ((z0 :: r).take i) ((z0 :: r).getD i z0) ((z0 :: r).drop (i + 1)) (by
        obtain ⟨hl, he⟩ := List.getElem?_eq_some_iff.mp h1
        rw [← he, List.getElem_cons_drop hl, List.take_append_drop])
      have e : (z0 :: r).take (i + 1) = (z0 :: r).take i ++ [(z0 :: r).getD i z0] := by rw [List.take_add_one, h1]; rfl
      rw [e]
      exact h2
/-- .. left by a return in the turn of z1 -/
theorem es_forLR {tg iter : Expr} {body : List Stmt} (L pre1 post1 : List α) (z1 : α) (hL : L = pre1 ++ z1 :: post1) (d : PyData) (enc : α → PyData) (F : List α → List Sl) (F' : List α → α → List Sl) (hp : PassesOwn (model X.prog X.w) X.A X.env X.xe) (hc : X.calm = true) (hi : PI X tg iter (tI T lk ρ (L.map enc))) (h0 : Wk ρ (F []))
    (hg : ∀ pre z post, L = pre ++ z :: post → PG X tg (tG T lk (enc z) (F pre) (F' pre z)))
    (hb : ∀ pre z post, pre1 = pre ++ z :: post → PSs X body (tS T lk (F' pre z) (.nx (F (pre ++ [z])))))
    (he : PSs X body (tS T lk (F' pre1 z1) (.rt d)))
    (hs : ∀ x, foldedSetIterable iter X.env x = pure x := by intro _; rfl) : PS X (.For tg iter body [] pos) (tS T lk ρ (.rt d)) := by
  have hlen : pre1.length < (L.map enc).length := by
    rw [List.length_map, hL, List.length_append, List.length_cons]
    omega
  have tk : ∀ i, i ≤ pre1.length → L.take i = pre1.take i := fun i hi => by rw [hL, List.take_append_of_le_length hi]
  refine es_forX (fun i => F (L.take i)) (fun i => F' (L.take i) (L.getD i z1)) pre1.length (.rt d) hp hc hi h0 (Nat.le_of_lt hlen) (fun i x h _ => ?_) (fun i x h hi2 => .inl ?_) (.inr ⟨hlen, .inl ⟨d, rfl, ?_⟩⟩) hs
  · obtain ⟨h1, _, rfl⟩ := enc_at z1 h
    exact hg _ _ (L.drop (i + 1)) (by
      obtain ⟨hl, he⟩ := List.getElem?_eq_some_iff.mp h1
      rw [← he, List.getElem_cons_drop hl, List.take_append_drop])
  · obtain ⟨h1, _, rfl⟩ := enc_at z1 h
    have e0 : L[i]? = pre1[i]? := by rw [hL, List.getElem?_append_left hi2]
    have e1 : pre1[i]? = some (L.getD i z1) := by rw [← e0]; exact h1
    have h2 := hb (pre1.take i) (L.getD i z1) (pre1.drop (i + 1)) (by
      obtain ⟨hl, he⟩ := List.getElem?_eq_some_iff.mp e1
      rw [← he, List.getElem_cons_drop hl, List.take_append_drop])
    show PSs X body (tS T lk (F' (L.take i) (L.getD i z1)) (.nx (F (L.take (i + 1)))))
    have e : pre1.take (i + 1) = pre1.take i ++ [L.getD i z1] := by rw [List.take_add_one, e1]; rfl
    rw [tk i (Nat.le_of_lt hi2), tk (i + 1) hi2, e]
    exact h2
  · show PSs X body (tS T lk (F' (L.take pre1.length) (L.getD pre1.length z1)) (.rt d))
    have e1 : L.take pre1.length = pre1 := by rw [tk _ (Nat.le_refl _), List.take_length]
    have e2 : L.getD pre1.length z1 = z1 := by
      rw [List.getD_eq_getElem?_getD, hL, List.getElem?_append_right (Nat.le_refl _), Nat.sub_self]
      rfl
    rw [e1, e2]
    exact he
/-- a for over range(n) -/
theorem es_forR {n : Nat} {tg iter : Expr} {body : List Stmt} (f f' : Nat → List Sl) (hp : PassesOwn (model X.prog X.w) X.A X.env X.xe) (hc : X.calm = true) (hi : PI X tg iter (tI T lk ρ (rangeP n))) (h0 : Wk ρ (f 0))
    (hg : ∀ i, i < n → PG X tg (tG T lk (eI i) (f i) (f' i)))
    (hb : ∀ i, i < n → PSs X body (tS T lk (f' i) (.nx (f (i + 1)))))
    (hs : ∀ x, foldedSetIterable iter X.env x = pure x := by intro _; rfl) : PS X (.For tg iter body [] pos) (tS T lk ρ (.nx (f n))) := by
  have h := es_for (pos := pos) (body := body) f f' hp hc hi h0 (fun i x hx => by obtain ⟨h1, rfl⟩ := rangeP_at hx; exact hg i h1) (fun i x hx => by obtain ⟨h1, rfl⟩ := rangeP_at hx; exact hb i h1) hs
  rw [rangeP_len] at h
  exact h
end
end GN

/-! lengths, numbers of chains; data turned to tuples, to lists; the law's own reckoning -/
namespace GN
open PySem PySem.Spec PyProof.Rows L2

theorem cut_last {α : Type} (L : List α) (g : α → PyData) : cutP (L.map g) none (some (-1)) = L.dropLast.map g := by
  unfold cutP
  have h1 : HT.sIx (L.map g).length 0 none = 0 := rfl
  have h2 : HT.sIx (L.map g).length (L.map g).length (some (-1)) = L.length - 1 := by
    show (if (-1 : Int) < 0 then ((-1 : Int) + ((L.map g).length : Int)).toNat else min (-1 : Int).toNat (L.map g).length) = L.length - 1
    rw [if_pos (by decide), List.length_map]
    omega
  rw [h1, h2, List.drop_zero, Nat.sub_zero, List.dropLast_eq_take, List.map_take]
theorem ed_butLast {α : Type} {L : List α} {g : α → PyData} {T : Tb} {lk : Lk} {X : Cx} {ρ : List Sl} {e : Expr} {pos p2 p3 p4 : Pos} {j : Nat} (h : PE X e (tD T lk ρ (.tuple (L.map g)))) :
    PE X (.Subscript e (.Slice none (some (.UnaryOp .USub (.Constant (.int 1) j p4) p3)) none p2) pos) (tD T lk ρ (.tuple (L.dropLast.map g))) := by
  rw [← cut_last]
  exact ed_cutT h eo_none (eo_some (ed_neg ed_int))
theorem ed_sumM {α : Type} {L : List α} {g : α → Int} {T : Tb} {lk : Lk} {X : Cx} {ρ : List Sl} {a : Expr} {pos p : Pos} (hc : X.calm = true) (hm : X.mg "sum" = none) (ha : PE X a (tD T lk ρ (.list (L.map fun i => .int (g i))))) (hg : Gl X "sum" := by rfl) (he : starEach [a] X.env = (false, eval a X.env) :: starEach [] X.env := by rfl) : PE X (.Call (.Name "sum" p) [a] [] pos) (tD T lk ρ (.int (L.map g).sum)) := by
  refine ed_sum (ns := L.map g) hc hm ?_ hg he
  rw [List.map_map]
  exact ha
theorem at_eI {L : List Nat} {i : Nat} {z : Nat} (h : L[i]? = some z) : (L.map eI)[i]? = some (eI z) := by rw [List.getElem?_map, h]; rfl
theorem at_last {L : List Nat} (h : L ≠ []) : atI (L.map eI) (-1) = some (eI (L.getLast h)) := by
  have e : L.map eI = L.dropLast.map eI ++ [eI (L.getLast h)] := by
    rw [← List.map_singleton, ← List.map_append, List.dropLast_concat_getLast]
  rw [e]
  exact atI_last _ _
theorem at_head {L : List Nat} (h : L ≠ []) : atI (L.map eI) 0 = some (eI (L.head h)) := by
  cases L with
  | nil => exact absurd rfl h
  | cons a r => exact atI_nat (j := 0) rfl
theorem all_true {α : Type} (L : List α) : L.filter (fun _ => true) = L := List.filter_eq_self.mpr fun _ _ => rfl
def numC (C : Ch) (ax : Nat) (ns : List Nat) : Num := numB C ax (ns.headD 0) (ns.getLastD 0) (lenC C ax ns)
theorem headD_eq {L : List Nat} (h : L ≠ []) : L.headD 0 = L.head h := by
  cases L with
  | nil => exact absurd rfl h
  | cons a r => rfl
theorem getLastD_eq {L : List Nat} (h : L ≠ []) : L.getLastD 0 = L.getLast h := by
  cases L with
  | nil => exact absurd rfl h
  | cons a r => rw [List.getLastD_eq_getLast?, List.getLast?_eq_getLast h]; rfl

section
variable {P : Program} {w : World} {K : PySem.W.Frag} {mg : Str → Option Value} {base : Heap} {T : Tb}
/-- names of a map, not too many -/
structure InC (C : Ch) (ns : List Nat) : Prop where
  lt : ∀ i ∈ ns, i < C.length
  sh : ns.length ≤ 1000
def rLenC (ds : List PyData) (d : PyData) : Prop := ∃ (k : Bool) (C : Ch) (ax : Nat) (ns : List Nat), ds = [eC k C, eCh ax ns] ∧ ax ≤ 1 ∧ InC C ns ∧ d = .int (lenC C ax ns)
def rNumC (ds : List PyData) (d : PyData) : Prop := ∃ (k : Bool) (C : Ch) (ax : Nat) (ns : List Nat), ds = [eC k C, eCh ax ns] ∧ ax ≤ 1 ∧ InC C ns ∧ ns ≠ [] ∧ wayC C ax (ns.headD 0) (ns.getLastD 0) < 1000000 ∧ d = eO (numC C ax ns)
variable (Z : Txt K mg)
include Z
theorem c_length_of : Cal P w K mg base T 1 true "length_of" rLenC := Z.d_length_of.cal fun f fd F => by
  refine data_fn F sc_length_of (fun ds d h => by obtain ⟨k, C, ax, ns, rfl, _⟩ := h; rfl) fun cdv A outer s H E lk ds d hal hr h => ?_
  obtain ⟨k, C, ax, ns, rfl, h1, h2, rfl⟩ := h
  refine ess_cons (es_asg (ed_var 1) (eg_tup2 2 3 rfl sc_length_of.nd)) ?_
  exact ess_one (es_ret (ed_sumM rfl Z.n_sum (ed_lcA 4 ns.dropLast eI (fun i => .int (sz C ax i)) rfl sc_length_of.nd (ei_tup (ed_butLast (ed_var 3))) (by rw [List.length_dropLast]; have := h2.sh; omega)
    (fun z _ _ _ _ _ _ => eg_nameW 4 sc_length_of.nd) (fun z hz _ _ _ _ _ => ed_sz (ed_var 0) (ed_var 4) (ed_var 2) (h2.lt z ((List.dropLast_sublist ns).mem hz)) h1) (blkOk_by (N := N_length_of) (sc := defScope s_length_of) (by decide +kernel)))))
theorem c_number_of : Cal P w K mg base T 3 true "number_of" rNumC := Z.d_number_of.cal fun f fd F => by
  refine data_fn F sc_number_of (fun ds d h => by obtain ⟨k, C, ax, ns, rfl, _⟩ := h; rfl) fun cdv A outer s H E lk ds d hal hr h => ?_
  obtain ⟨k, C, ax, ns, rfl, h1, h2, h3, h4, rfl⟩ := h
  have hh := h2.lt _ (List.head_mem h3)
  have hl := h2.lt _ (List.getLast_mem h3)
  refine ess_one (es_ret (ed_call (c_number_by Z) (hr.mono (by decide)) (ea5 (ed_var 0) (ed_ixT (ed_var 1) ed_int rfl) (ed_ixT (xs := ns.map eI) (ed_ixT (ed_var 1) ed_int rfl) ed_int (at_head h3)) (ed_ixT (xs := ns.map eI) (ed_ixT (ed_var 1) ed_int rfl) (ed_neg ed_int) (at_last h3))
    (ed_call (c_length_of Z) (hr.mono (by decide)) (ea2 (ed_var 0) (ed_var 1)) ⟨k, C, ax, ns, rfl, h1, h2, rfl⟩)) ⟨k, C, ax, ns.head h3, ns.getLast h3, lenC C ax ns, rfl, h1, hh, hl, ?_, ?_⟩))
  · rw [← headD_eq h3, ← getLastD_eq h3]
    exact h4
  · unfold numC
    rw [headD_eq h3, getLastD_eq h3]
end

/-! ### data turned to tuples, to lists -/
def atom : PyData → Bool
  | .none => true
  | .bool _ => true
  | .int _ => true
  | .str _ => true
  | _ => false
def fine : Nat → PyData → Prop
  | 0, d => atom d = true
  | n + 1, d => atom d = true ∨ ∃ k ds, d = sq k ds ∧ ds.length ≤ 1000 ∧ ∀ x ∈ ds, fine n x
mutual
def tup : PyData → PyData
  | .list ds => .tuple (tups ds)
  | .tuple ds => .tuple (tups ds)
  | d => d
def tups : List PyData → List PyData
  | [] => []
  | d :: ds => tup d :: tups ds
end
mutual
def lis : PyData → PyData
  | .list ds => .list (liss ds)
  | .tuple ds => .list (liss ds)
  | d => d
def liss : List PyData → List PyData
  | [] => []
  | d :: ds => lis d :: liss ds
end
theorem tups_map : ∀ ds : List PyData, tups ds = ds.map tup
  | [] => rfl
  | d :: ds => by rw [List.map_cons, ← tups_map ds]; rfl
theorem liss_map : ∀ ds : List PyData, liss ds = ds.map lis
  | [] => rfl
  | d :: ds => by rw [List.map_cons, ← liss_map ds]; rfl
theorem tup_sq (k : Bool) (ds : List PyData) : tup (sq k ds) = .tuple (ds.map tup) := by
  rw [← tups_map]
  cases k <;> rfl
theorem lis_sq (k : Bool) (ds : List PyData) : lis (sq k ds) = .list (ds.map lis) := by
  rw [← liss_map]
  cases k <;> rfl
def isL : PyData → Bool
  | .list _ => true
  | _ => false
def isT : PyData → Bool
  | .tuple _ => true
  | _ => false
def isB : PyData → Bool
  | .bool _ => true
  | _ => false
def isS : PyData → Bool
  | .str _ => true
  | _ => false
def isI : PyData → Bool
  | .int _ => true
  | .bool _ => true
  | _ => false
theorem kit_list (d : PyData) : kitB (tyN d) "list" = some (isL d) := by cases d <;> simp only [tyN, isL] <;> decide +kernel
theorem kit_tuple (d : PyData) : kitB (tyN d) "tuple" = some (isT d) := by cases d <;> simp only [tyN, isT] <;> decide +kernel
theorem kit_bool (d : PyData) : kitB (tyN d) "bool" = some (isB d) := by cases d <;> simp only [tyN, isB] <;> decide +kernel
theorem kit_str (d : PyData) : kitB (tyN d) "str" = some (isS d) := by cases d <;> simp only [tyN, isS] <;> decide +kernel
theorem kit_int (d : PyData) : kitB (tyN d) "int" = some (isI d) := by cases d <;> simp only [tyN, isI] <;> decide +kernel
theorem atom_no {x : PyData} (h : atom x = true) : (isL x || isT x) = false := by cases x <;> first | rfl | exact absurd (show false = true from h) (by decide)
theorem atom_tup {x : PyData} (h : atom x = true) : tup x = x := by cases x <;> first | rfl | exact absurd (show false = true from h) (by decide)
theorem atom_lis {x : PyData} (h : atom x = true) : lis x = x := by cases x <;> first | rfl | exact absurd (show false = true from h) (by decide)
theorem sq_yes (k : Bool) (es : List PyData) : (isL (sq k es) || isT (sq k es)) = true := by cases k <;> rfl
section
variable {P : Program} {w : World} {K : PySem.W.Frag} {mg : Str → Option Value} {base : Heap} {T : Tb}
def rTup (n : Nat) (ds : List PyData) (d : PyData) : Prop := ∃ x, ds = [x] ∧ fine n x ∧ d = tup x
def rLis (n : Nat) (ds : List PyData) (d : PyData) : Prop := ∃ x, ds = [x] ∧ fine n x ∧ d = lis x
theorem fine_sq {n : Nat} {k : Bool} {ds : List PyData} (h : fine n (sq k ds)) : ∃ m, n = m + 1 ∧ ds.length ≤ 1000 ∧ ∀ x ∈ ds, fine m x := by
  cases n with
  | zero => cases k <;> exact absurd (show false = true from h) (by decide)
  | succ m =>
    rcases h with h | ⟨k', ds', e, h1, h2⟩
    · cases k <;> exact absurd (show false = true from h) (by decide)
    · refine ⟨m, rfl, ?_⟩
      have e' : ds = ds' := by
        cases k <;> cases k'
        · exact PyData.list.inj e
        · exact nomatch e
        · exact nomatch e
        · exact PyData.tuple.inj e
      subst e'
      exact ⟨h1, h2⟩
theorem fine_cases {n : Nat} {x : PyData} (h : fine n x) : atom x = true ∨ ∃ k ds, x = sq k ds := by
  cases n with
  | zero => exact .inl h
  | succ m =>
    rcases h with h | ⟨k, ds, e, _⟩
    · exact .inl h
    · exact .inr ⟨k, ds, e⟩
variable (Z : Txt K mg)
include Z
theorem c_tuple_of : ∀ n : Nat, Cal P w K mg base T (n + 1) true "tuple_of" (rTup n) := by
  intro n
  have low : ∀ {f : Addr} {fd : FuncData} {cdv : Value} {A : Around} {outer : List Env} {s : Shared} {H : Hp} {E : XK} {lk : Lk} {x : PyData}, atom x = true → PSs (cxOf CX0 P w K mg base N_tuple_of "tuple_of" (defScope s_tuple_of) f cdv A outer s H E).nox (defBody s_tuple_of) (tS T lk (startS N_tuple_of.length [x]) (.rt (tup x))) := by
    intro f fd cdv A outer s H E lk x h
    rw [atom_tup h]
    refine ess_cons (es_if (k := false) (et_val (ed_isi2 (A := "list") (B := "tuple") Z.n_isinstance Z.n_list Z.n_tuple (ed_var 0) (kit_list x) (kit_tuple x) (atom_no h))) (fun z => nomatch z) fun _ => ess_nil) ?_
    exact ess_one (es_ret (ed_var 0))
  induction n with
  | zero =>
    refine Z.d_tuple_of.cal fun f fd F => data_fn F sc_tuple_of (fun ds d h => by obtain ⟨x, rfl, _⟩ := h; rfl) fun cdv A outer s H E lk ds d hal hr h => ?_
    obtain ⟨x, rfl, h1, rfl⟩ := h
    exact low (fd := fd) h1
  | succ n ih =>
    refine Z.d_tuple_of.cal fun f fd F => data_fn F sc_tuple_of (fun ds d h => by obtain ⟨x, rfl, _⟩ := h; rfl) fun cdv A outer s H E lk ds d hal hr h => ?_
    obtain ⟨x, rfl, h1, rfl⟩ := h
    rcases fine_cases h1 with h2 | ⟨k, es, rfl⟩
    · exact low (fd := fd) h2
    · obtain ⟨m, e, h3, h4⟩ := fine_sq h1
      obtain rfl : n = m := by omega
      rw [tup_sq]
      exact ess_rt (es_if (k := true) (et_val (ed_isi2 (A := "list") (B := "tuple") Z.n_isinstance Z.n_list Z.n_tuple (ed_var 0) (kit_list _) (kit_tuple _) (sq_yes k es))) (fun _ => ess_one (es_ret (ed_tupleOf (k := false) Z.n_tuple (ed_lcA 1 es id tup rfl sc_tuple_of.nd (ei_sq (k := k) (by rw [List.map_id]; exact ed_var 0)) (by omega) (fun z _ _ _ _ _ _ => eg_nameW 1 sc_tuple_of.nd)
        (fun z hz _ _ _ _ _ => ed_call ih hr (ea_cons (ed_var 1) ea_nil) ⟨z, rfl, h4 z hz, rfl⟩) (blkOk_by (N := N_tuple_of) (sc := defScope s_tuple_of) (by decide +kernel)))))) fun z => nomatch z)
theorem c_law_lists : ∀ n : Nat, Cal P w K mg base T (n + 1) true "_law_lists" (rLis n) := by
  intro n
  have low : ∀ {f : Addr} {fd : FuncData} {cdv : Value} {A : Around} {outer : List Env} {s : Shared} {H : Hp} {E : XK} {lk : Lk} {x : PyData}, atom x = true → PSs (cxOf CX0 P w K mg base N_law_lists "_law_lists" (defScope s_law_lists) f cdv A outer s H E).nox (defBody s_law_lists) (tS T lk (startS N_law_lists.length [x]) (.rt (lis x))) := by
    intro f fd cdv A outer s H E lk x h
    rw [atom_lis h]
    exact ess_one (es_ret (ed_if (k := false) (et_val (ed_isi2 (A := "list") (B := "tuple") Z.n_isinstance Z.n_list Z.n_tuple (ed_var 0) (kit_list x) (kit_tuple x) (atom_no h))) (fun z => nomatch z) fun _ => ed_var 0))
  induction n with
  | zero =>
    refine Z.d_law_lists.cal fun f fd F => data_fn F sc_law_lists (fun ds d h => by obtain ⟨x, rfl, _⟩ := h; rfl) fun cdv A outer s H E lk ds d hal hr h => ?_
    obtain ⟨x, rfl, h1, rfl⟩ := h
    exact low (fd := fd) h1
  | succ n ih =>
    refine Z.d_law_lists.cal fun f fd F => data_fn F sc_law_lists (fun ds d h => by obtain ⟨x, rfl, _⟩ := h; rfl) fun cdv A outer s H E lk ds d hal hr h => ?_
    obtain ⟨x, rfl, h1, rfl⟩ := h
    rcases fine_cases h1 with h2 | ⟨k, es, rfl⟩
    · exact low (fd := fd) h2
    · obtain ⟨m, e, h3, h4⟩ := fine_sq h1
      obtain rfl : n = m := by omega
      rw [lis_sq]
      exact ess_one (es_ret (ed_if (k := true) (et_val (ed_isi2 (A := "list") (B := "tuple") Z.n_isinstance Z.n_list Z.n_tuple (ed_var 0) (kit_list _) (kit_tuple _) (sq_yes k es))) (fun _ => ed_lcA 1 es id lis rfl sc_law_lists.nd (ei_sq (k := k) (by rw [List.map_id]; exact ed_var 0)) (by omega) (fun z _ _ _ _ _ _ => eg_nameW 1 sc_law_lists.nd)
        (fun z hz _ _ _ _ _ => ed_call ih hr (ea_cons (ed_var 1) ea_nil) ⟨z, rfl, h4 z hz, rfl⟩) (blkOk_by (N := N_law_lists) (sc := defScope s_law_lists) (by decide +kernel))) fun z => nomatch z))
end
end GN

/-! equal data; Euclid's steps; the law's own lengths and numbers -/
namespace GN
open PySem PySem.Spec PyProof.Rows L2

/-! ### Euclid -/
def eus : Nat → Nat → Nat → Nat × Nat
  | 0, a, b => (a, b)
  | n + 1, a, b => ((eus n a b).2, (eus n a b).1 % (eus n a b).2)
theorem eus_gcd (a b : Nat) : ∀ n, (∀ i, i < n → (eus i a b).2 ≠ 0) → Nat.gcd (eus n a b).1 (eus n a b).2 = Nat.gcd a b
  | 0, _ => rfl
  | n + 1, h => by
    have ih := eus_gcd a b n fun i hi => h i (Nat.lt_succ_of_lt hi)
    show Nat.gcd (eus n a b).2 ((eus n a b).1 % (eus n a b).2) = _
    rw [← ih, Nat.gcd_comm (eus n a b).1, Nat.gcd_rec (eus n a b).2 (eus n a b).1, Nat.gcd_comm]
theorem eus_dec (a b : Nat) : ∀ n, (∀ i, i < n → (eus i a b).2 ≠ 0) → (eus n a b).2 + n ≤ b
  | 0, _ => Nat.le_refl _
  | n + 1, h => by
    have ih := eus_dec a b n fun i hi => h i (Nat.lt_succ_of_lt hi)
    have h2 : (eus n a b).1 % (eus n a b).2 < (eus n a b).2 := Nat.mod_lt _ (Nat.pos_of_ne_zero (h n (Nat.lt_succ_self n)))
    show (eus n a b).1 % (eus n a b).2 + (n + 1) ≤ b
    omega
theorem first_zero (P : Nat → Prop) [DecidablePred P] : ∀ n, (∃ i, i ≤ n ∧ P i) → ∃ m, m ≤ n ∧ P m ∧ ∀ i, i < m → ¬ P i
  | 0, ⟨i, hi, h⟩ => ⟨0, Nat.le_refl _, by rw [show i = 0 by omega] at h; exact h, fun i hi => absurd hi (Nat.not_lt_zero _)⟩
  | n + 1, ⟨i, hi, h⟩ => by
    by_cases q : ∃ i, i ≤ n ∧ P i
    · obtain ⟨m, h1, h2, h3⟩ := first_zero P n q
      exact ⟨m, by omega, h2, h3⟩
    · have e : i = n + 1 := by
        by_cases z : i ≤ n
        · exact absurd ⟨i, z, h⟩ q
        · omega
      subst e
      exact ⟨n + 1, Nat.le_refl _, h, fun j hj z => q ⟨j, by omega, z⟩⟩
theorem eus_end (a b : Nat) : ∃ m, m ≤ b ∧ (eus m a b).2 = 0 ∧ (∀ i, i < m → (eus i a b).2 ≠ 0) ∧ (eus m a b).1 = Nat.gcd a b := by
  have ex : ∃ i, i ≤ b ∧ (eus i a b).2 = 0 := Decidable.byContradiction fun q => by
    have h : ∀ i, i ≤ b → (eus i a b).2 ≠ 0 := fun i hi z => q ⟨i, hi, z⟩
    have h2 := eus_dec a b b fun i hi => h i (Nat.le_of_lt hi)
    exact h b (Nat.le_refl _) (by omega)
  obtain ⟨m, h1, h2, h3⟩ := first_zero (fun i => (eus i a b).2 = 0) b ex
  refine ⟨m, h1, h2, h3, ?_⟩
  have h4 := eus_gcd a b m h3
  rw [h2, Nat.gcd_zero_right] at h4
  exact h4

section
variable {P : Program} {w : World} {K : PySem.W.Frag} {mg : Str → Option Value} {base : Heap} {T : Tb}
def rSame (n : Nat) (ds : List PyData) (d : PyData) : Prop := ∃ x, ds = [x, x] ∧ fine n x ∧ d = .bool true
theorem rd_same {T : Tb} {lk : Lk} : ∀ {d : PyData}, atom d = true → RD2 T lk rEq d d (.bool true)
  | .none, _ => fun x y G H Q S r1 r2 q => by cases (show _ = _ from r1); cases (show _ = _ from r2); exact ⟨rfl, q _ G H (.refl S) rfl⟩
  | .bool b, _ => fun x y G H Q S r1 r2 q => by cases (show _ = _ from r1); cases (show _ = _ from r2); exact ⟨rfl, q _ G H (.refl S) (by rw [decide_eq_true rfl]; exact rfl)⟩
  | .int b, _ => fun x y G H Q S r1 r2 q => by cases (show _ = _ from r1); cases (show _ = _ from r2); exact ⟨rfl, q _ G H (.refl S) (by rw [decide_eq_true rfl]; exact rfl)⟩
  | .str b, _ => fun x y G H Q S r1 r2 q => by cases (show _ = _ from r1); cases (show _ = _ from r2); exact ⟨rfl, q _ G H (.refl S) (by rw [decide_eq_true rfl]; exact rfl)⟩
theorem rd_neB {T : Tb} {lk : Lk} {i : Bool} : RD2 T lk rNe (.bool i) (.bool i) (.bool false) := fun x y G H Q S r1 r2 q => by
  cases (show x = .bl i from r1)
  cases (show y = .bl i from r2)
  exact ⟨rfl, q _ G H (.refl S) (by rw [decide_eq_true rfl]; exact rfl)⟩
theorem rd_eqBB {T : Tb} {lk : Lk} {i : Bool} : RD2 T lk rEq (.bool i) (.bool i) (.bool true) := fun x y G H Q S r1 r2 q => by
  cases (show x = .bl i from r1)
  cases (show y = .bl i from r2)
  exact ⟨rfl, q _ G H (.refl S) (by rw [decide_eq_true rfl]; exact rfl)⟩
theorem zip_same : ∀ (es : List PyData), zipP es es = es.map fun x => .tuple [x, x]
  | [] => rfl
  | x :: es => by show PyData.tuple [x, x] :: zipP es es = _; rw [zip_same es]; rfl
theorem all_rep : ∀ n : Nat, (List.replicate n true).all id = true
  | 0 => rfl
  | n + 1 => by rw [List.replicate_succ, List.all_cons, all_rep n]; rfl
variable (Z : Txt K mg)
include Z
theorem c_law_same : ∀ n : Nat, Cal P w K mg base T (n + 1) true "_law_same" (rSame n) := by
  intro n
  have low : ∀ {f : Addr} {fd : FuncData} {cdv : Value} {A : Around} {outer : List Env} {s : Shared} {H : Hp} {E : XK} {lk : Lk} {x : PyData}, atom x = true → PSs (cxOf CX0 P w K mg base N_law_same "_law_same" (defScope s_law_same) f cdv A outer s H E).nox (defBody s_law_same) (tS T lk (startS N_law_same.length [x, x]) (.rt (.bool true))) := by
    intro f fd cdv A outer s H E lk x h
    refine ess_cons (es_if (k := false) (et_val (ed_isi2 (A := "list") (B := "tuple") Z.n_isinstance Z.n_list Z.n_tuple (ed_var 1) (kit_list x) (kit_tuple x) (atom_no h))) (fun z => nomatch z) fun _ => ess_nil) ?_
    by_cases hi : isNo x = true ∨ (isB x || isS x) = true
    · refine ess_rt (es_if (k := true) (PW.pt ?_) (fun _ => ess_one (es_ret (ed_andT (ed_cmp op_eq (rd_same h) (ed_var 0) (ed_var 1)) (ed_andT (ed_cmp op_eq rd_eqBB (ed_isi1 (A := "bool") Z.n_isinstance Z.n_bool (ed_var 0) (kit_bool x)) (ed_isi1 (A := "bool") Z.n_isinstance Z.n_bool (ed_var 1) (kit_bool x)))
        (ed_one (ed_cmp op_eq rd_eqBB (ed_cmp op_isN rd_isN (ed_var 0) ed_non) (ed_cmp op_isN rd_isN (ed_var 1) ed_non))))))) fun z => nomatch z)
      by_cases h1 : isNo x = true
      · exact ew_orT (et_isN (ed_var 1) h1)
      · exact ew_orF (et_isN (ed_var 1) (Bool.eq_false_iff.mpr h1)) (ew_one (et_val (ed_isi2 (A := "bool") (B := "str") Z.n_isinstance Z.n_bool Z.n_str (ed_var 1) (kit_bool x) (kit_str x) (hi.resolve_left h1))) (.inr rfl))
    · have h1 : isNo x = false := Bool.eq_false_iff.mpr fun z => hi (.inl z)
      have h2 : (isB x || isS x) = false := Bool.eq_false_iff.mpr fun z => hi (.inr z)
      have h3 : isI x = true := by cases x <;> first | rfl | exact absurd h1 (by decide) | exact absurd (show true = false from h2) (by decide) | exact absurd (show false = true from h) (by decide)
      have h4 : isB x = false := by cases x <;> first | rfl | exact absurd (show true = false from h2) (by decide)
      refine ess_cons (es_if (k := false) (PW.pt (ew_orF (et_isN (ed_var 1) h1) (ew_one (et_val (ed_isi2 (A := "bool") (B := "str") Z.n_isinstance Z.n_bool Z.n_str (ed_var 1) (kit_bool x) (kit_str x) h2)) (.inr rfl)))) (fun z => nomatch z) fun _ => ess_nil) ?_
      exact ess_one (es_ret (ed_andT (ed_isi1 (A := "int") Z.n_isinstance Z.n_int (ed_var 0) ((kit_int x).trans (by rw [h3]))) (ed_andT (ed_not (k := false) (ed_isi1 (A := "bool") Z.n_isinstance Z.n_bool (ed_var 0) ((kit_bool x).trans (by rw [h4])))) (ed_one (ed_cmp op_eq (rd_same h) (ed_var 0) (ed_var 1))))))
  induction n with
  | zero =>
    refine Z.d_law_same.cal fun f fd F => data_fn F sc_law_same (fun ds d h => by obtain ⟨x, rfl, _⟩ := h; rfl) fun cdv A outer s H E lk ds d hal hr h => ?_
    obtain ⟨x, rfl, h1, rfl⟩ := h
    exact low (fd := fd) h1
  | succ n ih =>
    refine Z.d_law_same.cal fun f fd F => data_fn F sc_law_same (fun ds d h => by obtain ⟨x, rfl, _⟩ := h; rfl) fun cdv A outer s H E lk ds d hal hr h => ?_
    obtain ⟨x, rfl, h1, rfl⟩ := h
    rcases fine_cases h1 with h2 | ⟨k, es, rfl⟩
    · exact low (fd := fd) h2
    · obtain ⟨m, e, h3, h4⟩ := fine_sq h1
      obtain rfl : n = m := by omega
      refine ess_rt (es_if (k := true) (et_val (ed_isi2 (A := "list") (B := "tuple") Z.n_isinstance Z.n_list Z.n_tuple (ed_var 1) (kit_list _) (kit_tuple _) (sq_yes k es))) (fun _ => ?_) fun z => nomatch z)
      refine ess_cons (es_if (k := false) (PW.pt (ew_orF (et_cmp op_ne rd_neB (ed_isi1 (A := "list") Z.n_isinstance Z.n_list (ed_var 0) (kit_list _)) (ed_isi1 (A := "list") Z.n_isinstance Z.n_list (ed_var 1) (kit_list _)))
        (ew_one (et_cmp op_ne rd_neB (ed_isi1 (A := "tuple") Z.n_isinstance Z.n_tuple (ed_var 0) (kit_tuple _)) (ed_isi1 (A := "tuple") Z.n_isinstance Z.n_tuple (ed_var 1) (kit_tuple _))) (.inr rfl)))) (fun z => nomatch z) fun _ => ess_nil) ?_
      have hz : (zipP es es).length = es.length := by rw [zip_same, List.length_map]
      have e2 : picked (zipP es es).length (fun _ => true) (fun _ => .bool true) = (List.replicate es.length true).map PyData.bool := by
        unfold picked
        rw [hz, List.filter_eq_self.mpr fun _ _ => rfl, List.map_replicate]
        have hc := List.map_const (l := List.range es.length) (b := PyData.bool true)
        rw [List.length_range] at hc
        exact hc
      refine ess_one (es_ret (ed_andT (b := .Call _ _ _ _) (ed_cmp op_eq (by rw [show (true : Bool) = decide ((es.length : Int) = (es.length : Int)) from (decide_eq_true rfl).symm]; exact rd_eq) (ed_len (k := k) (xs := es) Z.n_len (ed_var 0)) (ed_len (k := k) (xs := es) Z.n_len (ed_var 1))) (ed_one ?_)))
      rw [← all_rep es.length]
      refine ed_all rfl Z.n_all ?_
      rw [← e2]
      exact ed_lc (own := [("_law_mine", 2), ("_law_own", 3)]) (xs := zipP es es) (fun i => [.d (sq k es), .d (sq k es), .d (es.getD i .none), .d (es.getD i .none)]) (fun _ => true) (fun _ => .bool true) rfl sc_law_same.nd (ei_zip (k := k) Z.n_zip (ea2 (ed_var 0) (ed_var 1))) (by omega)
        (fun i x hx s H C cl fp => by
          rw [zip_same] at hx
          obtain ⟨_, _, rfl⟩ := enc_at .none hx
          exact eg_tup2W 2 3 rfl sc_law_same.nd)
        (fun i x hx s H C cl fp => ets_nil)
        (fun i x hx _ s H C cl fp => by
          rw [zip_same] at hx
          obtain ⟨_, hm, rfl⟩ := enc_at .none hx
          exact ed_call ih hr (ea2 (ed_var 2) (ed_var 3)) ⟨_, rfl, h4 _ hm, rfl⟩)
        (blkOk_by (N := N_law_same) (sc := defScope s_law_same) (by decide +kernel))
/-! ### Euclid's steps, numbers -/
def rLow (ds : List PyData) (d : PyData) : Prop := ∃ t b : Int, ds = [.int t, .int b] ∧ 0 < t ∧ 0 < b ∧ b < 500 ∧ d = eF (frac t b)
theorem c_law_low : Cal P w K mg base T 1 true "_law_low" rLow := Z.d_law_low.cal fun f fd F => by
  refine data_fn F sc_law_low (fun ds d h => by obtain ⟨t, b, rfl, _⟩ := h; rfl) fun cdv A outer s H E lk ds d hal hr h => ?_
  obtain ⟨t, b, rfl, ht, hb, hb2, rfl⟩ := h
  obtain ⟨m, m1, m2, m3, m4⟩ := eus_end t.natAbs b.natAbs
  have e1 : (if t < 0 then -t else t) = ((eus 0 t.natAbs b.natAbs).1 : Int) := by
    show (if t < 0 then -t else t) = ((t.natAbs : Nat) : Int)
    split <;> omega
  have e2 : b = ((eus 0 t.natAbs b.natAbs).2 : Int) := by
    show b = ((b.natAbs : Nat) : Int)
    omega
  refine ess_cons (es_par 2 3 rfl sc_law_low.nd (ea2 (ed_abs Z.n_abs (ed_intI Z.n_int (ed_var 0))) (ed_intI Z.n_int (ed_var 1)))) ?_
  let f : Nat → List Sl := fun i => [.d (.int t), .d (.int b), .d (.int ((eus i t.natAbs b.natAbs).1 : Int)), .d (.int ((eus i t.natAbs b.natAbs).2 : Int)), .un]
  refine ess_cons (es_forX (ρ := [.d (.int t), .d (.int b), .d (.int (if t < 0 then -t else t)), .d (.int b), .un]) (xs := rangeP 600) f (fun i => (f i).set 4 (.d (.int (i : Int)))) m (.nx ((f m).set 4 (.d (.int (m : Int))))) PassesOwn.never rfl (ei_range Z.n_range (ea_cons ed_int ea_nil) (by omega)) ?_ ?_ ?_ ?_ ?_) ?_
  · rw [e1]
    exact ⟨.inr rfl, .inr rfl, .inr rfl, .inr (by rw [← e2]), .inr rfl, True.intro⟩
  · rw [rangeP_len]; omega
  · intro i x hx _
    obtain ⟨_, rfl⟩ := rangeP_at hx
    exact eg_name 4 sc_law_low.nd
  · intro i x hx hi
    refine .inl ?_
    have hne := m3 i hi
    refine ess_cons (es_if (k := false) (et_eq (ed_var 3) ed_int (decide_eq_false (by omega))) (fun z => nomatch z) fun _ => ess_nil) ?_
    refine ess_out (ess_one (es_par 2 3 rfl sc_law_low.nd (ea2 (ed_var 3) (ed_mod (ed_var 2) (ed_var 3) (by omega))))) ?_
    exact ⟨.inr rfl, .inr rfl, .inr rfl, .inr rfl, .inl rfl, True.intro⟩
  · refine .inr ⟨by rw [rangeP_len]; omega, .inr ⟨_, rfl, ?_⟩⟩
    exact ess_bk (es_if (k := true) (et_eq (ed_var 3) ed_int (decide_eq_true (by omega))) (fun _ => ess_one es_bk) fun z => nomatch z)
  · have hg := gcd_ok (t := t) hb (by omega)
    have e3 : ((eus m t.natAbs b.natAbs).1 : Int) = ((Nat.gcd t.natAbs b.natAbs : Nat) : Int) := by rw [m4]
    have hv : ∀ {X : Cx} {lk : Lk} {pos : Pos}, X.N[2]? = some ("_law_one" : Str) → Vis X.env.scope "_law_one" → PE X (.Name "_law_one" pos) (tD T lk ((f m).set 4 (.d (.int (m : Int)))) (.int ((Nat.gcd t.natAbs b.natAbs : Nat) : Int))) := fun {X lk pos} h1 h2 => by
      rw [← e3]
      exact ed_var 2 rfl h1 h2
    exact ess_one (es_ret (ed_tup (ea2 (ed_fdiv (ed_var 0) (hv rfl (.inl rfl)) hg) (ed_fdiv (ed_var 1) (hv rfl (.inl rfl)) hg))))
theorem c_law_under : Cal P w K mg base T 1 true "_law_under" rLess := Z.d_law_under.cal fun f fd F => by
  refine data_fn F sc_law_under (fun ds d h => by obtain ⟨t, b, rfl, _⟩ := h; rfl) fun cdv A outer s H E lk ds d hal hr h => ?_
  obtain ⟨p, q, rfl, h1, h2, rfl⟩ := h
  exact ess_one (es_ret (ed_cmp op_lt (rd_i0 fun _ => rfl) (ed_mul (ed_ixT (ed_var 0) ed_int rfl) (ed_ixT (ed_var 1) ed_int rfl) (.inl h1)) (ed_mul (ed_ixT (ed_var 1) ed_int rfl) (ed_ixT (ed_var 0) ed_int rfl) (.inl h2))))
def rLenL (ds : List PyData) (d : PyData) : Prop := ∃ (C : Ch) (ax : Nat) (ns : List Nat), ds = [eC true C, eI ax, eL true ns] ∧ ax ≤ 1 ∧ InC C ns ∧ d = .int (lenC C ax ns)
theorem c_law_length : Cal P w K mg base T 1 true "_law_length" rLenL := Z.d_law_length.cal fun f fd F => by
  refine data_fn F sc_law_length (fun ds d h => by obtain ⟨C, ax, ns, rfl, _⟩ := h; rfl) fun cdv A outer s H E lk ds d hal hr h => ?_
  obtain ⟨C, ax, ns, rfl, h1, h2, rfl⟩ := h
  exact ess_one (es_ret (ed_sumM rfl Z.n_sum (ed_lcA 3 ns.dropLast eI (fun i => .int (sz C ax i)) rfl sc_law_length.nd (ei_tup (ed_butLast (ed_var 2))) (by rw [List.length_dropLast]; have := h2.sh; omega)
    (fun z _ _ _ _ _ _ => eg_nameW 3 sc_law_length.nd) (fun z hz _ _ _ _ _ => ed_sz (ed_var 0) (ed_var 3) (ed_var 1) (h2.lt z ((List.dropLast_sublist ns).mem hz)) h1) (blkOk_by (N := N_law_length) (sc := defScope s_law_length) (by decide +kernel)))))
def rNumL (ds : List PyData) (d : PyData) : Prop := ∃ (C : Ch) (ax : Nat) (ns : List Nat), ds = [eC true C, eI ax, eL true ns] ∧ ax ≤ 1 ∧ InC C ns ∧ ns ≠ [] ∧ wayC C ax (ns.headD 0) (ns.getLastD 0) < 500 ∧ d = eO (numC C ax ns)
theorem c_law_number : Cal P w K mg base T 2 true "_law_number" rNumL := Z.d_law_number.cal fun f fd F => by
  refine data_fn F sc_law_number (fun ds d h => by obtain ⟨C, ax, ns, rfl, _⟩ := h; rfl) fun cdv A outer s H E lk ds d hal hr h => ?_
  obtain ⟨C, ax, ns, rfl, h1, h2, h3, h4, rfl⟩ := h
  have hh := h2.lt _ (List.head_mem h3)
  have hl := h2.lt _ (List.getLast_mem h3)
  have eh := headD_eq h3
  have el := getLastD_eq h3
  refine ess_cons (es_par 3 4 rfl sc_law_number.nd (ea2 (ed_te (ed_var 0) (ed_ixT (ed_var 2) ed_int (at_head h3)) (ed_var 1) hh h1) (ed_te (ed_var 0) (ed_ixT (ed_var 2) (ed_neg ed_int) (at_last h3)) (ed_var 1) hl h1))) ?_
  refine ess_cons (es_par 5 6 rfl sc_law_number.nd (ea2 (ed_sub (ed_sub (ed_call (c_law_length Z) (hr.mono (by decide)) (ea3 (ed_var 0) (ed_var 1) (ed_var 2)) ⟨C, ax, ns, rfl, h1, h2, rfl⟩) (ed_ixT (ed_var 3) ed_int rfl)) (ed_ixT (ed_var 4) ed_int rfl)) (ed_sub (ed_ixT (ed_var 4) ed_int rfl) (ed_ixT (ed_var 3) ed_int rfl)))) ?_
  rw [eh, el] at h4
  unfold numC numB
  rw [eh, el]
  by_cases hn : needC C ax (ns.head h3) (ns.getLast h3) (lenC C ax ns) ≤ 0
  · rw [if_pos hn]
    exact ess_rt (es_if (k := true) (et_le (ed_var 5) ed_int (decide_eq_true hn)) (fun _ => ess_one (es_ret (ed_tup (ea2 ed_int ed_int)))) fun z => nomatch z)
  · rw [if_neg hn]
    refine ess_cons (es_if (k := false) (et_le (ed_var 5) ed_int (decide_eq_false hn)) (fun z => nomatch z) fun _ => ess_nil) ?_
    by_cases hy : 0 < wayC C ax (ns.head h3) (ns.getLast h3)
    · rw [if_pos hy]
      exact ess_one (es_ret (ed_if (k := true) (et_gt (ed_var 6) ed_int (decide_eq_true hy)) (fun _ => ed_call (c_law_low Z) (hr.mono (by decide)) (ea2 (ed_var 5) (ed_var 6)) ⟨_, _, rfl, Int.not_le.mp hn, hy, h4, rfl⟩) fun z => nomatch z))
    · rw [if_neg hy]
      exact ess_one (es_ret (ed_if (k := false) (et_gt (ed_var 6) ed_int (decide_eq_false hy)) (fun z => nomatch z) fun _ => ed_non))
end
end GN

/-! the law's chains and its greatest number -/
namespace GN
open PySem PySem.Spec PyProof.Rows L2

def layer (C : Ch) (S : Sd) (L : List Nat) (ax : Nat) : Nat → List (List Nat)
  | 0 => L.map fun i => [i]
  | n + 1 => (layer C S L ax n).flatMap fun r => (L.filter fun i => before C S ax (r.getLastD 0) i).map fun i => r ++ [i]
def upto (C : Ch) (S : Sd) (L : List Nat) (ax : Nat) : Nat → List (List Nat)
  | 0 => []
  | n + 1 => upto C S L ax n ++ layer C S L ax n
def chains (C : Ch) (S : Sd) (L : List Nat) (ax : Nat) : List (List Nat) := upto C S L ax L.length
theorem flat_len {α β : Type} (f : α → List β) (m : Nat) : ∀ l : List α, (∀ x ∈ l, (f x).length ≤ m) → (l.flatMap f).length ≤ l.length * m
  | [], _ => Nat.zero_le _
  | x :: l, h => by
    rw [List.flatMap_cons, List.length_append, List.length_cons, Nat.succ_mul]
    have h1 := h x List.mem_cons_self
    have h2 := flat_len f m l fun y hy => h y (List.mem_cons_of_mem _ hy)
    omega
theorem layer_len {C : Ch} {S : Sd} {L : List Nat} {ax : Nat} (h : L.length ≤ 5) : ∀ n, (layer C S L ax n).length ≤ 5 ^ (n + 1)
  | 0 => by
    show (L.map fun i => [i]).length ≤ 5 ^ 1
    rw [List.length_map]
    exact h
  | n + 1 => by
    have ih := layer_len (C := C) (S := S) (ax := ax) h n
    have h2 := flat_len (fun r => (L.filter fun i => before C S ax (r.getLastD 0) i).map fun i => r ++ [i]) 5 (layer C S L ax n) fun r _ => by
      rw [List.length_map]
      exact Nat.le_trans (List.length_filter_le _ _) h
    have h3 : (layer C S L ax n).length * 5 ≤ 5 ^ (n + 1) * 5 := Nat.mul_le_mul_right 5 ih
    exact Nat.le_trans h2 h3
theorem upto_len {C : Ch} {S : Sd} {L : List Nat} {ax : Nat} (h : L.length ≤ 5) : ∀ n, n ≤ 5 → (upto C S L ax n).length ≤ n * 3125
  | 0, _ => Nat.le_refl _
  | n + 1, hn => by
    have ih := upto_len (C := C) (S := S) (ax := ax) h n (by omega)
    have h1 := layer_len (C := C) (S := S) (ax := ax) h n
    have h2 : 5 ^ (n + 1) ≤ 5 ^ 5 := Nat.pow_le_pow_right (by decide) hn
    have h3 : (5 : Nat) ^ 5 = 3125 := by decide
    show (upto C S L ax n ++ layer C S L ax n).length ≤ (n + 1) * 3125
    rw [List.length_append]
    omega
theorem layer_ok {C : Ch} {S : Sd} {L : List Nat} {ax : Nat} : ∀ n r, r ∈ layer C S L ax n → r.length = n + 1 ∧ ∀ i ∈ r, i ∈ L
  | 0, r, h => by
    obtain ⟨i, hi, rfl⟩ := List.mem_map.mp h
    exact ⟨rfl, fun j hj => by rw [List.mem_singleton.mp hj]; exact hi⟩
  | n + 1, r, h => by
    obtain ⟨q, hq, hr⟩ := List.mem_flatMap.mp h
    obtain ⟨i, hi, rfl⟩ := List.mem_map.mp hr
    obtain ⟨h1, h2⟩ := layer_ok n q hq
    refine ⟨by rw [List.length_append, h1]; rfl, fun j hj => ?_⟩
    rcases List.mem_append.mp hj with z | z
    · exact h2 j z
    · rw [List.mem_singleton.mp z]
      exact (List.mem_filter.mp hi).1
theorem upto_ok {C : Ch} {S : Sd} {L : List Nat} {ax : Nat} : ∀ n r, r ∈ upto C S L ax n → r ≠ [] ∧ r.length ≤ n ∧ ∀ i ∈ r, i ∈ L
  | 0, r, h => absurd (show r ∈ ([] : List (List Nat)) from h) (by simp)
  | n + 1, r, h => by
    rcases List.mem_append.mp h with z | z
    · obtain ⟨h1, h2, h3⟩ := upto_ok n r z
      exact ⟨h1, by omega, h3⟩
    · obtain ⟨h1, h2⟩ := layer_ok n r z
      exact ⟨fun e => (by rw [e] at h1; cases h1), by omega, h2⟩

/-- names of a map of five at most -/
structure Lot (C : Ch) (L : List Nat) : Prop where
  lt : ∀ i ∈ L, i < C.length
  sh : L.length ≤ 5
theorem chain_in {C : Ch} {S : Sd} {L : List Nat} {ax : Nat} {r : List Nat} (h : Lot C L) (hr : r ∈ chains C S L ax) : r ≠ [] ∧ InC C r := by
  obtain ⟨h1, h2, h3⟩ := upto_ok _ _ hr
  have := h.sh
  exact ⟨h1, fun i hi => h.lt i (h3 i hi), by omega⟩

theorem lexLt2 (a b : Int) (i j : Nat) (h : i ≠ j) : HT.lexLt [a, i] [b, j] = (decide (a < b) || (decide (a = b) && decide ((i : Int) < (j : Int)))) := by
  have hij : ¬ (i : Int) = (j : Int) := fun z => h (by omega)
  rw [HT.lexLt_cons, HT.lexLt_cons, if_neg hij]
  by_cases q : a = b
  · rw [if_pos q, decide_eq_true q, decide_eq_false (show ¬ a < b by omega)]
    rfl
  · rw [if_neg q, decide_eq_false q, Bool.false_and, Bool.or_false]

section
variable {α : Type} {T : Tb} {lk : Lk} {X : Cx} {ρ : List Sl} {a : Expr} {pos p : Pos}
theorem ed_lenM {k : Bool} {L : List α} {enc : α → PyData} (hm : X.mg "len" = none) (ha : PE X a (tD T lk ρ (sq k (L.map enc)))) (hg : Gl X "len" := by rfl) (he : starEach [a] X.env = (false, eval a X.env) :: starEach [] X.env := by rfl) : PE X (.Call (.Name "len" p) [a] [] pos) (tD T lk ρ (.int (L.length : Int))) := by
  rw [← List.length_map (as := L) (f := enc)]
  exact ed_len hm ha hg he
theorem map_app {α β : Type} (L : List α) (g : α → β) (f : β → PyData) : L.map (fun x => f (g x)) = (L.map g).map f := by
  rw [List.map_map]
  rfl
end
section
variable {P : Program} {w : World} {K : PySem.W.Frag} {mg : Str → Option Value} {base : Heap} {T : Tb}
def rBefL (ds : List PyData) (d : PyData) : Prop := ∃ (C : Ch) (S : Sd) (ax i j : Nat), ds = [eC true C, eS true S, eI ax, eI i, eI j] ∧ WS C S ∧ ax ≤ 1 ∧ i < C.length ∧ j < C.length ∧ d = .bool (before C S ax i j)
def rChains (ds : List PyData) (d : PyData) : Prop := ∃ (C : Ch) (S : Sd) (L : List Nat) (ax : Nat), ds = [eC true C, eS true S, eL true L, eI ax] ∧ WS C S ∧ ax ≤ 1 ∧ Lot C L ∧ d = .list ((chains C S L ax).map (eL true))
variable (Z : Txt K mg)
include Z
theorem c_law_before : Cal P w K mg base T 1 true "_law_before" rBefL := Z.d_law_before.cal fun f fd F => by
  refine data_fn F sc_law_before (fun ds d h => by obtain ⟨C, S, ax, i, j, rfl, _⟩ := h; rfl) fun cdv A outer s H E lk ds d hal hr h => ?_
  obtain ⟨C, S, ax, i, j, rfl, W, h1, h2, h3, rfl⟩ := h
  by_cases hij : i = j
  · have e : before C S ax i j = false := if_pos hij
    rw [e]
    exact ess_rt (es_if (k := true) (PW.pt (ew_orT (et_eq (ed_var 3) (ed_var 4) (decide_eq_true (by rw [hij]))))) (fun _ => ess_one (es_ret ed_bl)) fun z => nomatch z)
  · have hne : decide ((i : Int) = (j : Int)) = false := decide_eq_false fun z => hij (by omega)
    by_cases hs : sd S i j = (ax : Int)
    · have e : before C S ax i j = HT.lexLt [rk C ax i, i] [rk C ax j, j] := by
        unfold before
        rw [if_neg hij, if_neg (fun z => z hs)]
      rw [e, lexLt2 _ _ _ _ hij]
      refine ess_cons (es_if (k := false) (PW.pt (ew_orF (et_eq (ed_var 3) (ed_var 4) hne) (ew_one (et_ne (ed_sd W hij h2 h3 (ed_var 1) (ed_maxN rfl Z.n_max (ed_var 3) (ed_var 4)) (ed_minN rfl Z.n_min (ed_var 3) (ed_var 4))) (ed_var 2) (by rw [decide_eq_true hs]; rfl)) (.inr rfl)))) (fun z => nomatch z) fun _ => ess_nil) ?_
      refine ess_cons (es_par 5 6 rfl sc_law_before.nd (ea2 (ed_te (ed_var 0) (ed_var 3) (ed_var 2) h2 h1) (ed_te (ed_var 0) (ed_var 4) (ed_var 2) h3 h1))) ?_
      exact ess_one (es_ret (ed_or2 (ed_cmp op_lt (rd_i0 fun _ => rfl) (ed_add (ed_ixT (ed_var 5) ed_int rfl) (ed_ixT (ed_var 5) ed_int rfl)) (ed_add (ed_ixT (ed_var 6) ed_int rfl) (ed_ixT (ed_var 6) ed_int rfl))) fun _ =>
        ed_and2 (ed_cmp op_eq rd_eq (ed_add (ed_ixT (ed_var 5) ed_int rfl) (ed_ixT (ed_var 5) ed_int rfl)) (ed_add (ed_ixT (ed_var 6) ed_int rfl) (ed_ixT (ed_var 6) ed_int rfl))) fun _ => ed_cmp op_lt (rd_i0 fun _ => rfl) (ed_var 3) (ed_var 4)))
    · have e : before C S ax i j = false := by
        unfold before
        rw [if_neg hij, if_pos hs]
      rw [e]
      exact ess_rt (es_if (k := true) (PW.pt (ew_orF (et_eq (ed_var 3) (ed_var 4) hne) (ew_one (et_ne (ed_sd W hij h2 h3 (ed_var 1) (ed_maxN rfl Z.n_max (ed_var 3) (ed_var 4)) (ed_minN rfl Z.n_min (ed_var 3) (ed_var 4))) (ed_var 2) (by rw [decide_eq_false hs]; rfl)) (.inr rfl)))) (fun _ => ess_one (es_ret ed_bl)) fun z => nomatch z)
theorem c_law_chains : Cal P w K mg base T 2 true "_law_chains" rChains := Z.d_law_chains.cal fun f fd F => by
  refine data_fn F sc_law_chains (fun ds d h => by obtain ⟨C, S, L, ax, rfl, _⟩ := h; rfl) fun cdv A outer s H E lk ds d hal hr h => ?_
  obtain ⟨C, S, L, ax, rfl, W, h1, h2, rfl⟩ := h
  have sh := h2.sh
  let g : Nat → List Sl := fun n => [.d (eC true C), .d (eS true S), .d (eL true L), .d (eI ax), .d (.list ((upto C S L ax n).map (eL true))), .d (.list ((layer C S L ax n).map (eL true))), .un, .un, .un, .un]
  have hone : (L.map fun i => PyData.tuple [eI i]) = (layer C S L ax 0).map (eL true) := by
    show _ = (L.map fun i => [i]).map (eL true)
    rw [List.map_map]
    rfl
  refine ess_cons (ρ' := g 0) (es_out (es_par 4 5 rfl sc_law_chains.nd (ea2 (ed_lst ea_nil) (ed_lcA 9 L eI (fun i => .tuple [eI i]) rfl sc_law_chains.nd (ei_tup (ed_var 2)) (by omega) (fun z _ _ _ _ _ _ => eg_nameW 9 sc_law_chains.nd) (fun z hz _ _ _ _ _ => ed_tup (ea_cons (ed_var 9) ea_nil)) (blkOk_by (N := N_law_chains) (sc := defScope s_law_chains) (by decide +kernel))))) ?_) ?_
  · exact ⟨.inr rfl, .inr rfl, .inr rfl, .inr rfl, .inr rfl, .inr (by rw [← hone]), .inl rfl, .inl rfl, .inl rfl, .inl rfl, True.intro⟩
  refine ess_cons (es_forR (n := L.length) (ρ := g 0) g (fun n => (g n).set 6 (.d (eI n))) PassesOwn.never rfl (ei_range (n := L.length) Z.n_range (ea_cons (ed_lenM (k := true) (L := L) (enc := eI) Z.n_len (ed_var 2)) ea_nil) (by omega)) Wk.refl (fun n hn => eg_name 6 sc_law_chains.nd) fun n hn => ?_) ?_
  · have z1 := layer_len (C := C) (S := S) (L := L) (ax := ax) sh n
    have z2 : 5 ^ (n + 1) ≤ 5 ^ 5 := Nat.pow_le_pow_right (by decide) (by omega)
    have z3 : (5 : Nat) ^ 5 = 3125 := by decide
    have z4 := upto_len (C := C) (S := S) (L := L) (ax := ax) sh n (by omega)
    refine ess_cons (es_set 4 (ed_catL ?_ (ed_var 4) (ed_var 5)) sc_law_chains.nd) ?_
    · rw [List.length_map, List.length_map]
      omega
    rw [← List.map_append]
    refine ess_cons (es_set 7 (ed_lst ea_nil) sc_law_chains.nd) ?_
    let G : List (List Nat) → List Sl := fun pre => [.d (eC true C), .d (eS true S), .d (eL true L), .d (eI ax), .d (.list ((upto C S L ax (n + 1)).map (eL true))), .d (.list ((layer C S L ax n).map (eL true))), .un,
      .d (.list ((pre.flatMap fun r => (L.filter fun i => before C S ax (r.getLastD 0) i).map fun i => r ++ [i]).map (eL true))), .un, .un]
    refine ess_cons (es_forL (layer C S L ax n) (eL true) G (fun pre r => (G pre).set 8 (.d (eL true r))) PassesOwn.never rfl (ei_list (ed_var 5)) ?_ (fun pre r post e => eg_name 8 sc_law_chains.nd) fun pre r post e => ?_) ?_
    · exact ⟨.inr rfl, .inr rfl, .inr rfl, .inr rfl, .inr rfl, .inr rfl, .inl rfl, .inr rfl, .inl rfl, .inl rfl, True.intro⟩
    · have hrm : r ∈ layer C S L ax n := by rw [e]; exact List.mem_append_right _ List.mem_cons_self
      obtain ⟨r1, r2⟩ := layer_ok _ _ hrm
      have rne : r ≠ [] := fun z => by rw [z] at r1; cases r1
      have pl : pre.length ≤ (layer C S L ax n).length := by rw [e, List.length_append]; omega
      have z5 := flat_len (fun r => (L.filter fun i => before C S ax (r.getLastD 0) i).map fun i => r ++ [i]) 5 pre fun q _ => by
        rw [List.length_map]
        exact Nat.le_trans (List.length_filter_le _ _) sh
      have z6 := List.length_filter_le (fun i => before C S ax (r.getLastD 0) i) L
      have hel : (L.filter fun i => before C S ax (r.getLastD 0) i).map (fun i => PyData.tuple (r.map eI ++ [eI i])) = ((L.filter fun i => before C S ax (r.getLastD 0) i).map fun i => r ++ [i]).map (eL true) := by
        rw [List.map_map]
        refine List.map_congr_left fun i _ => ?_
        show PyData.tuple (r.map eI ++ [eI i]) = PyData.tuple ((r ++ [i]).map eI)
        rw [List.map_append]
        rfl
      refine ess_out (ess_one (es_set 7 (ed_catL ?_ (ed_var 7) (ed_lcM 9 L eI (fun i => before C S ax (r.getLastD 0) i) (fun i => .tuple (r.map eI ++ [eI i])) rfl sc_law_chains.nd (ei_tup (ed_var 2)) (by omega) (fun z _ _ _ _ _ _ => eg_nameW 9 sc_law_chains.nd)
        (fun z hz _ _ _ _ _ => ets_one (et_val (ed_call (c_law_before Z) (hr.mono (by decide)) (ea5 (ed_var 0) (ed_var 1) (ed_var 3) (ed_ixT (xs := r.map eI) (ed_var 8) (ed_neg ed_int) (at_last rne)) (ed_var 9)) ⟨C, S, ax, r.getLast rne, z, rfl, W, h1, h2.lt _ (r2 _ (List.getLast_mem rne)), h2.lt _ hz, by rw [getLastD_eq rne]⟩)))
        (fun z hz _ _ _ _ _ _ => ed_catT (by rw [List.length_map]; have := r1; show r.length + 1 ≤ 100000; omega) (ed_var 8) (ed_tup (ea_cons (ed_var 9) ea_nil))) (blkOk_by (N := N_law_chains) (sc := defScope s_law_chains) (by decide +kernel)))) sc_law_chains.nd)) ?_
      · rw [List.length_map, List.length_map]
        omega
      · rw [hel, ← List.map_append]
        refine ⟨.inr rfl, .inr rfl, .inr rfl, .inr rfl, .inr rfl, .inr rfl, .inl rfl, .inr ?_, .inl rfl, .inl rfl, True.intro⟩
        rw [List.flatMap_append, List.flatMap_cons, List.flatMap_nil, List.append_nil]
    · refine ess_out (ess_one (es_set 5 (ed_var 7) sc_law_chains.nd)) ?_
      exact ⟨.inr rfl, .inr rfl, .inr rfl, .inr rfl, .inr rfl, .inr rfl, .inl rfl, .inl rfl, .inl rfl, .inl rfl, True.intro⟩
  · exact ess_one (es_ret (ed_var 4))
end
end GN

/-! the law's greatest number; what it takes for a chain -/
namespace GN
open PySem PySem.Spec PyProof.Rows L2

/-- small numbers -/
structure Bd (C : Ch) : Prop where
  sz : ∀ ax i, 0 ≤ sz C ax i ∧ sz C ax i ≤ 100
  te : ∀ ax i, -100 ≤ (te C ax i).a ∧ (te C ax i).b ≤ 100 ∧ -100 ≤ (te C ax i).c ∧ -100 ≤ (te C ax i).d
theorem sum_le (g : Nat → Int) (m : Int) (hg : ∀ i, 0 ≤ g i ∧ g i ≤ m) : ∀ l : List Nat, 0 ≤ (l.map g).sum ∧ (l.map g).sum ≤ l.length * m
  | [] => ⟨Int.le_refl _, by simp⟩
  | x :: l => by
    obtain ⟨h1, h2⟩ := sum_le g m hg l
    obtain ⟨h3, h4⟩ := hg x
    rw [List.map_cons, List.sum_cons, List.length_cons]
    refine ⟨by omega, ?_⟩
    have e : ((l.length + 1 : Nat) : Int) * m = l.length * m + m := by
      rw [Int.natCast_add, Int.add_mul]
      simp
    rw [e]
    omega
theorem way_lt {C : Ch} (B : Bd C) (ax f l : Nat) : wayC C ax f l < 500 := by
  have h1 := B.te ax f
  have h2 := B.te ax l
  unfold wayC
  omega
theorem num_sm {C : Ch} (B : Bd C) {ax : Nat} {f l : Nat} {n : Int} (hn : n ≤ 1000000) : smO (numB C ax f l n) := by
  unfold numB
  split
  · exact ⟨by show -(2 ^ 64 : Int) < 0; omega, by show (0 : Int) < 2 ^ 64; omega⟩
  · rename_i h1
    split
    · rename_i h2
      have hg := (gcd_ok (t := needC C ax f l n) h2 (by have := way_lt B ax f l; omega)).1
      have h3 := B.te ax f
      have h4 := B.te ax l
      have h5 : needC C ax f l n ≤ 2000000 := by unfold needC; omega
      have h6 : needC C ax f l n / ((Nat.gcd (needC C ax f l n).natAbs (wayC C ax f l).natAbs : Nat) : Int) ≤ needC C ax f l n := Int.ediv_le_self _ (by omega)
      have h7 : 0 ≤ needC C ax f l n / ((Nat.gcd (needC C ax f l n).natAbs (wayC C ax f l).natAbs : Nat) : Int) := Int.ediv_nonneg (by omega) (by omega)
      exact ⟨by show -(2 ^ 64 : Int) < _ / _; omega, by show _ / _ < (2 ^ 64 : Int); omega⟩
    · exact True.intro
theorem len_le {C : Ch} (B : Bd C) (ax : Nat) {ns : List Nat} (h : ns.length ≤ 1000) : 0 ≤ lenC C ax ns ∧ lenC C ax ns ≤ 100000 := by
  obtain ⟨h1, h2⟩ := sum_le (fun i => sz C ax i) 100 (B.sz ax) ns.dropLast
  rw [List.length_dropLast] at h2
  refine ⟨h1, Int.le_trans h2 ?_⟩
  omega
theorem numC_sm {C : Ch} (B : Bd C) {ax : Nat} {ns : List Nat} (h : InC C ns) : smO (numC C ax ns) := num_sm B (by have := len_le B ax h.sh; omega)

/-! the greatest -/
def pass (nm : Option Nat) (r : List Nat) : Bool := match nm with
  | none => true
  | some i => decide (i ∈ r)
def bad (C : Ch) (ax : Nat) (nm : Option Nat) (r : List Nat) : Bool := pass nm r && (numC C ax r).isNone
def stepG (C : Ch) (ax : Nat) (nm : Option Nat) (b : Int × Int) (r : List Nat) : Int × Int := if pass nm r then (match numC C ax r with
  | some q => if less b q then q else b
  | none => b) else b
def bst (C : Ch) (ax : Nat) (nm : Option Nat) (rs : List (List Nat)) (b : Int × Int) : Int × Int := rs.foldl (stepG C ax nm) b
def greatL (C : Ch) (S : Sd) (L : List Nat) (nm : Option Nat) : Num := if (chains C S L 0).any (bad C 0 nm) || (chains C S L 1).any (bad C 1 nm) then none else some (bst C 1 nm (chains C S L 1) (bst C 0 nm (chains C S L 0) (0, 1)))
theorem bst_snoc (C : Ch) (ax : Nat) (nm : Option Nat) (rs : List (List Nat)) (r : List Nat) (b : Int × Int) : bst C ax nm (rs ++ [r]) b = stepG C ax nm (bst C ax nm rs b) r := by
  unfold bst
  rw [List.foldl_append]
  rfl
theorem sm0 : sm (0 : Int) := ⟨by omega, by omega⟩
theorem stepG_sm {C : Ch} {ax : Nat} {nm : Option Nat} {b : Int × Int} {r : List Nat} (h : sm b.1) (h2 : smO (numC C ax r)) : sm (stepG C ax nm b r).1 := by
  unfold stepG
  split
  · cases q : numC C ax r with
    | none => exact h
    | some q' =>
      rw [q] at h2
      show sm (if less b q' = true then q' else b).1
      split
      · exact h2
      · exact h
  · exact h
theorem bst_sm {C : Ch} {ax : Nat} {nm : Option Nat} : ∀ (rs : List (List Nat)) {b : Int × Int}, sm b.1 → (∀ r ∈ rs, smO (numC C ax r)) → sm (bst C ax nm rs b).1
  | [], _, h, _ => h
  | r :: rs, b, h, h2 => bst_sm (b := stepG C ax nm b r) rs (stepG_sm h (h2 r List.mem_cons_self)) fun q hq => h2 q (List.mem_cons_of_mem _ hq)
def eNm : Option Nat → PyData
  | none => .none
  | some i => eI i
theorem first_bad (p : List Nat → Bool) : ∀ rs : List (List Nat), rs.any p = true → ∃ pre z post, rs = pre ++ z :: post ∧ p z = true ∧ ∀ r ∈ pre, p r = false
  | [], h => by simp at h
  | r :: rs, h => by
    by_cases q : p r = true
    · exact ⟨[], r, rs, rfl, q, fun x hx => by cases hx⟩
    · rw [List.any_cons, Bool.eq_false_iff.mpr q, Bool.false_or] at h
      obtain ⟨pre, z, post, e, h1, h2⟩ := first_bad p rs h
      refine ⟨r :: pre, z, post, by rw [e]; rfl, h1, fun x hx => ?_⟩
      rcases List.mem_cons.mp hx with rfl | hx
      · exact Bool.eq_false_iff.mpr q
      · exact h2 x hx
theorem ints_mem {i : Nat} {ns : List Nat} : decide ((i : Int) ∈ ns.map fun (j : Nat) => (j : Int)) = decide (i ∈ ns) := decide_eq_decide.mpr ⟨fun h => by
  obtain ⟨j, hj, e⟩ := List.mem_map.mp h
  rw [show i = j by omega]
  exact hj, fun h => List.mem_map.mpr ⟨i, h, rfl⟩⟩
theorem eL_ints (k : Bool) (ns : List Nat) : eL k ns = sq k ((ns.map fun (j : Nat) => (j : Int)).map PyData.int) := by
  unfold eL
  rw [List.map_map]
  rfl
theorem rd_inN {T : Tb} {lk : Lk} {K : PySem.W.Frag} {k : Bool} {i : Nat} {ns : List Nat} : RD2 T lk (rIn K false) (eI i) (eL k ns) (.bool (decide (i ∈ ns))) := by
  rw [eL_ints, ← ints_mem]
  exact rd_inI
theorem rd_ninN {T : Tb} {lk : Lk} {K : PySem.W.Frag} {k : Bool} {i : Nat} {ns : List Nat} : RD2 T lk (rIn K true) (eI i) (eL k ns) (.bool (!decide (i ∈ ns))) := by
  rw [eL_ints, ← ints_mem]
  exact rd_ninI

def forBody (s : Stmt) : List Stmt := match s with
  | .For _ _ b _ _ => b
  | _ => []
/-- the j-th statement in the body of the for that stands i-th -/
def inBody (l : List Stmt) (i j : Nat) : Stmt := (forBody (l.getD i (.Pass ⟨0, 0, 0, 0⟩))).getD j (.Pass ⟨0, 0, 0, 0⟩)
section
variable {P : Program} {w : World} {K : PySem.W.Frag} {mg : Str → Option Value} {base : Heap} {T : Tb}
def rGreatL (ds : List PyData) (d : PyData) : Prop := ∃ (C : Ch) (S : Sd) (L : List Nat) (nm : Option Nat), ds = [eC true C, eS true S, eL true L, eNm nm] ∧ WS C S ∧ Bd C ∧ Lot C L ∧ d = eO (greatL C S L nm)
variable (Z : Txt K mg)
include Z
theorem c_law_greatest : Cal P w K mg base T 3 true "_law_greatest" rGreatL := Z.d_law_greatest.cal fun f fd F => by
  refine data_fn F sc_law_greatest (fun ds d h => by obtain ⟨C, S, L, nm, rfl, _⟩ := h; rfl) fun cdv A outer s H E lk ds d hal hr h => ?_
  obtain ⟨C, S, L, nm, rfl, W, B, h2, rfl⟩ := h
  refine ess_cons (es_set 4 (ed_tup (ea2 ed_int ed_int)) sc_law_greatest.nd) ?_
  let R : Nat → (Int × Int) → List Sl := fun ax b => [.d (eC true C), .d (eS true S), .d (eL true L), .d (eNm nm), .d (eF b), .d (eI ax), .un, .un]
  -- what one turn of the rows does, from the best b
  have tst : ∀ (ax : Nat) (b : Int × Int) (r : List Nat) {k : Bool} {p1 p2 p3 p4 p5 p6 p7 : Pos} {j : Nat}, pass nm r = k → PT (cxOf CX0 P w K mg base N_law_greatest "_law_greatest" (defScope s_law_greatest) f cdv A outer s H E).nox
      (.BoolOp .Or [.Compare (.Name "_law_name" p1) [.Is] [.Constant .none j p2] p3, .Compare (.Name "_law_name" p4) [.In] [.Name "_law_row" p5] p6] p7) (tT T lk ((R ax b).set 6 (.d (eL true r))) k) := by
    intro ax b r k p1 p2 p3 p4 p5 p6 p7 j hk
    subst hk
    cases nm with
    | none => exact PW.pt (ew_orT (et_isN (ed_var 3) rfl))
    | some i => exact PW.pt (ew_orF (et_isN (ed_var 3) rfl) (ew_one (et_cmp op_in_seq rd_inN (ed_var 3) (ed_var 6)) (.inr rfl)))
  have turn : ∀ (ax : Nat) (b : Int × Int) (r : List Nat), ax ≤ 1 → r ∈ chains C S L ax → sm b.1 →
      (bad C ax nm r = false → PSs (cxOf CX0 P w K mg base N_law_greatest "_law_greatest" (defScope s_law_greatest) f cdv A outer s H E).nox (forBody (inBody (defBody s_law_greatest) 1 0)) (tS T lk ((R ax b).set 6 (.d (eL true r))) (.nx (R ax (stepG C ax nm b r))))) ∧
      (bad C ax nm r = true → PSs (cxOf CX0 P w K mg base N_law_greatest "_law_greatest" (defScope s_law_greatest) f cdv A outer s H E).nox (forBody (inBody (defBody s_law_greatest) 1 0)) (tS T lk ((R ax b).set 6 (.d (eL true r))) (.rt .none))) := by
    intro ax b r hx hr2 hs
    obtain ⟨rne, rin⟩ := chain_in h2 hr2
    constructor
    · intro hb
      cases hp : pass nm r with
      | false =>
        have e : stepG C ax nm b r = b := by unfold stepG; rw [hp]; rfl
        rw [e]
        refine ess_out (ess_one (es_if (k := false) (tst ax b r hp) (fun z => nomatch z) fun _ => ess_nil)) ?_
        exact ⟨.inr rfl, .inr rfl, .inr rfl, .inr rfl, .inr rfl, .inr rfl, .inl rfl, .inr rfl, True.intro⟩
      | true =>
        cases hq : numC C ax r with
        | none =>
          unfold bad at hb
          rw [hp, hq] at hb
          cases hb
        | some q =>
          have hsq : sm q.1 := by have h := numC_sm B (ax := ax) rin; rw [hq] at h; exact h
          have e : stepG C ax nm b r = if less b q then q else b := by unfold stepG; rw [hp, hq]; rfl
          rw [e]
          refine ess_out (ρ' := ((R ax (if less b q then q else b)).set 6 (.d (eL true r))).set 7 (.d (eF q))) (ess_one (es_if (k := true) (tst ax b r hp) (fun _ => ?_) fun z => nomatch z)) ?_
          · refine ess_cons (es_set 7 (d := eF q) (ed_call (c_law_number Z) (hr.mono (by decide)) (ea3 (ed_var 0) (ed_var 5) (ed_var 6)) ⟨C, ax, r, rfl, hx, rin, rne, way_lt B _ _ _, by rw [hq]; rfl⟩) sc_law_greatest.nd) ?_
            refine ess_cons (es_if (k := false) (et_isN (ed_var 7) rfl) (fun z => nomatch z) fun _ => ess_nil) ?_
            refine ess_one (es_set 4 (d := eF (if less b q then q else b)) (ed_if (k := less b q) (et_val (ed_call (c_law_under Z) (hr.mono (by decide)) (ea2 (ed_var 4) (ed_var 7)) ⟨b, q, rfl, hs, hsq, rfl⟩)) (fun z => ?_) fun z => ?_) sc_law_greatest.nd)
            · rw [if_pos z]; exact ed_var 7
            · rw [if_neg (by rw [z]; exact Bool.false_ne_true)]; exact ed_var 4
          · exact ⟨.inr rfl, .inr rfl, .inr rfl, .inr rfl, .inr rfl, .inr rfl, .inl rfl, .inl rfl, True.intro⟩
    · intro hb
      unfold bad at hb
      rw [Bool.and_eq_true] at hb
      obtain ⟨hp, hq⟩ := hb
      have hq' : numC C ax r = none := Option.isNone_iff_eq_none.mp hq
      refine ess_one (es_if (k := true) (tst ax b r hp) (fun _ => ?_) fun z => nomatch z)
      refine ess_cons (es_set 7 (d := .none) (ed_call (c_law_number Z) (hr.mono (by decide)) (ea3 (ed_var 0) (ed_var 5) (ed_var 6)) ⟨C, ax, r, rfl, hx, rin, rne, way_lt B _ _ _, by rw [hq']; rfl⟩) sc_law_greatest.nd) ?_
      exact ess_rt (es_if (k := true) (et_isN (ed_var 7) rfl) (fun _ => ess_one (es_ret ed_non)) fun z => nomatch z)
  have axs : ∀ {ax : Nat}, ax ∈ [0, 1] → ax ≤ 1 := fun {ax} h => by
    rcases List.mem_cons.mp h with rfl | h
    · omega
    · rw [List.mem_singleton.mp h]; omega
  have csm : ∀ (ax : Nat) (r : List Nat), r ∈ chains C S L ax → smO (numC C ax r) := fun ax r hr2 => numC_sm B (chain_in h2 hr2).2
  -- the rows of one axis: all good, or one bad
  have good : ∀ (ax : Nat) (b : Int × Int), ax ≤ 1 → sm b.1 → (chains C S L ax).any (bad C ax nm) = false → PSs (cxOf CX0 P w K mg base N_law_greatest "_law_greatest" (defScope s_law_greatest) f cdv A outer s H E).nox (forBody ((defBody s_law_greatest).getD 1 (.Pass ⟨0, 0, 0, 0⟩))) (tS T lk (R ax b) (.nx (R ax (bst C ax nm (chains C S L ax) b)))) := by
    intro ax b hx hs hb
    refine ess_one (es_forL (chains C S L ax) (eL true) (fun pre => R ax (bst C ax nm pre b)) (fun pre r => (R ax (bst C ax nm pre b)).set 6 (.d (eL true r))) PassesOwn.never rfl (ei_list (ed_call (c_law_chains Z) (hr.mono (by decide)) (ea4 (ed_var 0) (ed_var 1) (ed_var 2) (ed_var 5)) ⟨C, S, L, ax, rfl, W, hx, h2, rfl⟩)) Wk.refl (fun pre r post e => eg_name 6 sc_law_greatest.nd) fun pre r post e => ?_)
    have hm : r ∈ chains C S L ax := by rw [e]; exact List.mem_append_right _ List.mem_cons_self
    rw [bst_snoc]
    refine (turn ax _ r hx hm (bst_sm pre hs fun q hq => csm ax q (by rw [e]; exact List.mem_append_left _ hq))).1 ?_
    cases q : bad C ax nm r with
    | false => rfl
    | true => rw [List.any_eq_true.mpr ⟨r, hm, q⟩] at hb; cases hb
  have evil : ∀ (ax : Nat) (b : Int × Int), ax ≤ 1 → sm b.1 → (chains C S L ax).any (bad C ax nm) = true → PSs (cxOf CX0 P w K mg base N_law_greatest "_law_greatest" (defScope s_law_greatest) f cdv A outer s H E).nox (forBody ((defBody s_law_greatest).getD 1 (.Pass ⟨0, 0, 0, 0⟩))) (tS T lk (R ax b) (.rt .none)) := by
    intro ax b hx hs hb
    obtain ⟨pre1, z1, post1, e, hz, hp⟩ := first_bad _ _ hb
    have hm1 : z1 ∈ chains C S L ax := by rw [e]; exact List.mem_append_right _ List.mem_cons_self
    have hpre : ∀ q ∈ pre1, q ∈ chains C S L ax := fun q hq => by rw [e]; exact List.mem_append_left _ hq
    refine ess_one (es_forLR (chains C S L ax) pre1 post1 z1 e .none (eL true) (fun pre => R ax (bst C ax nm pre b)) (fun pre r => (R ax (bst C ax nm pre b)).set 6 (.d (eL true r))) PassesOwn.never rfl (ei_list (ed_call (c_law_chains Z) (hr.mono (by decide)) (ea4 (ed_var 0) (ed_var 1) (ed_var 2) (ed_var 5)) ⟨C, S, L, ax, rfl, W, hx, h2, rfl⟩)) Wk.refl (fun pre r post e => eg_name 6 sc_law_greatest.nd) (fun pre r post e2 => ?_) ?_)
    · have hm : r ∈ pre1 := by rw [e2]; exact List.mem_append_right _ List.mem_cons_self
      rw [bst_snoc]
      exact (turn ax _ r hx (hpre r hm) (bst_sm pre hs fun q hq => csm ax q (hpre q (by rw [e2]; exact List.mem_append_left _ hq)))).1 (hp r hm)
    · exact (turn ax _ z1 hx hm1 (bst_sm pre1 hs fun q hq => csm ax q (hpre q hq))).2 hz
  let F : List Nat → List Sl := fun pre => (R 0 (pre.foldl (fun b ax => bst C ax nm (chains C S L ax) b) (0, 1))).set 5 .un
  have hF0 : Wk ((startS N_law_greatest.length [eC true C, eS true S, eL true L, eNm nm]).set 4 (.d (.tuple [.int 0, .int 1]))) (F []) := ⟨.inr rfl, .inr rfl, .inr rfl, .inr rfl, .inr rfl, .inl rfl, .inl rfl, .inl rfl, True.intro⟩
  have s0 : sm (bst C 0 nm (chains C S L 0) (0, 1)).1 := bst_sm _ sm0 fun q hq => csm 0 q hq
  unfold greatL
  cases b0 : (chains C S L 0).any (bad C 0 nm) with
  | true =>
    refine ess_rt (es_forLR [0, 1] [] [1] 0 rfl .none eI F (fun pre ax => (F pre).set 5 (.d (eI ax))) PassesOwn.never rfl (ei_tup (ed_tup (ea2 ed_int ed_int))) hF0 (fun pre ax post e => eg_name 5 sc_law_greatest.nd) (fun pre ax post e => ?_) ?_)
    · cases pre <;> cases e
    · exact evil 0 (0, 1) (by omega) sm0 b0
  | false =>
    cases b1 : (chains C S L 1).any (bad C 1 nm) with
    | true =>
      refine ess_rt (es_forLR [0, 1] [0] [] 1 rfl .none eI F (fun pre ax => (F pre).set 5 (.d (eI ax))) PassesOwn.never rfl (ei_tup (ed_tup (ea2 ed_int ed_int))) hF0 (fun pre ax post e => eg_name 5 sc_law_greatest.nd) (fun pre ax post e => ?_) ?_)
      · have hpre : pre = [] ∧ ax = 0 := by
          cases pre with
          | nil => injection e with e1 e2; exact ⟨rfl, e1.symm⟩
          | cons a r => injection e with e1 e2; cases r <;> cases e2
        obtain ⟨rfl, rfl⟩ := hpre
        refine ess_out (good 0 (0, 1) (by omega) sm0 b0) ?_
        exact ⟨.inr rfl, .inr rfl, .inr rfl, .inr rfl, .inr rfl, .inl rfl, .inr rfl, .inr rfl, True.intro⟩
      · exact evil 1 _ (by omega) s0 b1
    | false =>
      refine ess_cons (es_forL [0, 1] eI F (fun pre ax => (F pre).set 5 (.d (eI ax))) PassesOwn.never rfl (ei_tup (ed_tup (ea2 ed_int ed_int))) hF0 (fun pre ax post e => eg_name 5 sc_law_greatest.nd) fun pre ax post e => ?_) ?_
      · have hpre : (pre = [] ∧ ax = 0) ∨ (pre = [0] ∧ ax = 1) := by
          cases pre with
          | nil => injection e with e1 e2; exact .inl ⟨rfl, e1.symm⟩
          | cons a r =>
            injection e with e1 e2
            cases r with
            | nil => injection e2 with e3 e4; exact .inr ⟨by rw [← e1], e3.symm⟩
            | cons a2 r2 => injection e2 with e3 e4; cases r2 <;> cases e4
        rcases hpre with ⟨rfl, rfl⟩ | ⟨rfl, rfl⟩
        · refine ess_out (good 0 (0, 1) (by omega) sm0 b0) ?_
          exact ⟨.inr rfl, .inr rfl, .inr rfl, .inr rfl, .inr rfl, .inl rfl, .inr rfl, .inr rfl, True.intro⟩
        · refine ess_out (good 1 _ (by omega) s0 b1) ?_
          exact ⟨.inr rfl, .inr rfl, .inr rfl, .inr rfl, .inr rfl, .inl rfl, .inr rfl, .inr rfl, True.intro⟩
      · exact ess_one (es_ret (ed_var 4))
end
end GN

/-! what the law takes for a chain -/
namespace GN
open PySem PySem.Spec PyProof.Rows L2

theorem noDicts_map {α : Type} (f : α → PyData) (h : ∀ x, noDict (f x) = true) : ∀ l : List α, noDicts (l.map f) = true
  | [] => rfl
  | x :: l => by
    show (noDict (f x) && noDicts (l.map f)) = true
    rw [h x, noDicts_map f h l]
    rfl
theorem canLays_map {α : Type} (f : α → PyData) (h : ∀ x, PyData.canLay0 (f x) = true) : ∀ l : List α, PyData.canLayAll0 (l.map f) = true
  | [] => rfl
  | x :: l => by
    show (PyData.canLay0 (f x) && PyData.canLayAll0 (l.map f)) = true
    rw [h x, canLays_map f h l]
    rfl
theorem depths_map {α : Type} (f : α → PyData) (n : Nat) (h : ∀ x, PyData.depth (f x) ≤ n) : ∀ l : List α, PyData.depthAll (l.map f) ≤ n
  | [] => Nat.zero_le _
  | x :: l => by
    show max (PyData.depth (f x)) (PyData.depthAll (l.map f)) ≤ n
    exact Nat.max_le.mpr ⟨h x, depths_map f n h l⟩
theorem eL_noDict (ns : List Nat) : noDict (eL true ns) = true := noDicts_map eI (fun _ => rfl) ns
theorem eL_lay (ns : List Nat) : PyData.canLay0 (eL true ns) = true := canLays_map eI (fun _ => rfl) ns
theorem eL_depth (ns : List Nat) : PyData.depth (eL true ns) ≤ 1 := by
  show PyData.depthAll (ns.map eI) + 1 ≤ 1
  have h := depths_map eI 0 (fun _ => Nat.le_refl _) ns
  omega
theorem eL_shaped (ns : List Nat) : SeqAt.shaped (eL true ns) = true := by
  unfold SeqAt.shaped
  rw [eL_lay, decide_eq_true (Nat.le_trans (eL_depth ns) (by decide))]
  rfl
theorem eLs_noDict (l : List (List Nat)) : noDict (.list (l.map (eL true))) = true := noDicts_map _ eL_noDict l
theorem eLs_shaped (l : List (List Nat)) : SeqAt.shaped (.list (l.map (eL true))) = true := by
  unfold SeqAt.shaped
  have h1 : PyData.canLay0 (.list (l.map (eL true))) = true := canLays_map _ eL_lay l
  have h2 : PyData.depth (.list (l.map (eL true))) ≤ 64 := by
    show PyData.depthAll (l.map (eL true)) + 1 ≤ 64
    have h := depths_map (eL true) 1 eL_depth l
    omega
  rw [h1, decide_eq_true h2]
  rfl
theorem hu65 {k : Nat} {A : Around} (r : Room k A) : A.units + 65 < cLine := by
  have := r.un
  omega
theorem rd_cast {T : Tb} {lk : Lk} {r : R2} {da db : PyData} {b n : Bool} (h : RD2 T lk r da db (.bool b)) (e : b = n) : RD2 T lk r da db (.bool n) := by
  rw [← e]
  exact h
section
variable {P : Program} {w : World} {K : PySem.W.Frag} {mg : Str → Option Value} {base : Heap} {T : Tb}
def rIsChain (ds : List PyData) (d : PyData) : Prop := ∃ (C : Ch) (S : Sd) (L : List Nat) (ax : Nat) (ns : List Nat), ds = [eC true C, eS true S, eL true L, eCh ax ns] ∧ WS C S ∧ Lot C L ∧ ax ≤ 1 ∧ ns ∈ chains C S L ax ∧ d = .bool true
variable (Z : Txt K mg)
include Z
theorem c_law_is_chain : Cal P w K mg base T 3 true "_law_is_chain" rIsChain := Z.d_law_is_chain.cal fun f fd F => by
  refine data_fn F sc_law_is_chain (fun ds d h => by obtain ⟨C, S, L, ax, ns, rfl, _⟩ := h; rfl) fun cdv A outer s H E lk ds d hal hr h => ?_
  obtain ⟨C, S, L, ax, ns, rfl, W, h2, h1, hm, rfl⟩ := h
  have hsh := (chain_in h2 hm).2.sh
  refine ess_cons (es_if (k := false) (PW.pt (ew_orF (et_not (k := true) (et_val (ed_isi1 (A := "tuple") Z.n_isinstance Z.n_tuple (ed_var 3) (kit_tuple _)))) (ew_orF (et_ne (ed_len (k := true) (xs := [eI ax, eL true ns]) Z.n_len (ed_var 3)) ed_int rfl)
    (ew_one (et_not (k := true) (et_val (ed_isi1 (A := "tuple") Z.n_isinstance Z.n_tuple (ed_ixT (ed_var 3) ed_int rfl) (kit_tuple (eL true ns))))) (.inr rfl))))) (fun z => nomatch z) fun _ => ess_nil) ?_
  refine ess_cons (es_if (k := false) (PW.pt (ew_orF (et_val (ed_isi1 (A := "bool") Z.n_isinstance Z.n_bool (ed_ixT (ed_var 3) ed_int rfl) (kit_bool (eI ax)))) (ew_orF (et_not (k := true) (et_val (ed_isi1 (A := "int") Z.n_isinstance Z.n_int (ed_ixT (ed_var 3) ed_int rfl) (kit_int (eI ax)))))
    (ew_one (et_not (k := true) (et_chain (k := true) (j := true) op_le op_le (rd_i0 fun _ => ?_) (fun _ => rd_i0 fun _ => ?_) rfl ed_int (ed_ixT (xs := [eI ax, eL true ns]) (d := .int (ax : Int)) (ed_var 3) ed_int rfl) ed_int)) (.inr rfl))))) (fun z => nomatch z) fun _ => ess_nil) ?_
  · show V.bl _ = V.bl true
    rw [decide_eq_true (by omega)]
  · show V.bl _ = V.bl true
    rw [decide_eq_true (by omega)]
  have hemp : (ns.filter fun _ => false).map eI = [] := by rw [List.filter_eq_nil_iff.mpr (fun _ _ => Bool.false_ne_true)]; rfl
  have hsm : SeqAt.shaped (.list []) = true := by decide +kernel
  refine ess_cons (es_if (k := false) (et_cmp (op_neD hr.units) (da := .list ((ns.filter fun _ => false).map eI)) (db := .list []) (by rw [hemp]; exact rd_neD rfl rfl hsm hsm) (ed_lcM 4 ns eI (fun _ => false) eI rfl sc_law_is_chain.nd (ei_tup (ed_ixT (ed_var 3) ed_int rfl)) (by omega) (fun z _ _ _ _ _ _ => eg_nameW 4 sc_law_is_chain.nd)
    (fun z hz _ _ _ _ _ => ets_one (PW.pt (ew_orF (et_val (ed_isi1 (A := "bool") Z.n_isinstance Z.n_bool (ed_var 4) (kit_bool (eI z)))) (ew_one (et_not (k := true) (et_val (ed_isi1 (A := "int") Z.n_isinstance Z.n_int (ed_var 4) (kit_int (eI z))))) (.inr rfl)))))
    (fun z hz q _ _ _ _ _ => nomatch q) (blkOk_by (N := N_law_is_chain) (sc := defScope s_law_is_chain) (by decide +kernel))) (ed_lst ea_nil)) (fun z => nomatch z) fun _ => ess_nil) ?_
  have hin : ((chains C S L ax).map (eL true)).any (fun z => PyData.eqv z (eL true ns)) = true := List.any_eq_true.mpr ⟨eL true ns, List.mem_map.mpr ⟨ns, hm, rfl⟩, SeqAt.eqv_refl _ (eL_lay ns)⟩
  exact ess_one (es_ret (ed_cmp (op_inD (hu65 hr)) (rd_cast (rd_inD (eL_noDict ns) (eLs_noDict _) (eL_shaped ns) (eLs_shaped _)) hin) (ed_ixT (xs := [eI ax, eL true ns]) (ed_var 3) ed_int rfl)
    (ed_call (c_law_chains Z) (hr.mono (by decide)) (ea4 (ed_var 0) (ed_var 1) (ed_var 2) (ed_ixT (xs := [eI ax, eL true ns]) (ed_var 3) ed_int rfl)) ⟨C, S, L, ax, rfl, W, h1, h2, rfl⟩)))
end
end GN

/-! sorted(lot, key=lambda) -/
namespace GN
open PySem PySem.Spec PyProof.Rows L2

theorem Rel.snoc {G : Hp} {ρ : List Sl} {σ : L2.St} {d : PyData} {v : V} (R : Rel G ρ σ) (r : rep G d v) : Rel G (ρ ++ [.d d]) (σ ++ [some v]) := by
  refine ⟨by rw [List.length_append, List.length_append, R.len]; rfl, fun i s e => ?_⟩
  by_cases hi : i < ρ.length
  · rw [List.getElem?_append_left hi] at e
    rw [List.getElem?_append_left (by rw [← R.len]; exact hi)]
    exact R.ats i s e
  · rw [List.getElem?_append_right (by omega)] at e
    rw [List.getElem?_append_right (by rw [← R.len]; omega), ← R.len]
    obtain ⟨h1, h2⟩ := List.getElem?_eq_some_iff.mp e
    have h3 : i - ρ.length = 0 := by rw [List.length_singleton] at h1; omega
    rw [h3] at e ⊢
    obtain rfl := Option.some.inj e
    exact ⟨some v, rfl, v, rfl, r⟩

/-! ### a lambda of one parameter -/
structure LamS1 (sc scope : Scope) (nm : Str) : Prop where
  kind : scope.kind = .function
  co : scope.isCoroutine = false
  gen : scope.isGenerator = false
  nocell : ∀ y ∈ scope.names, y.2 ≠ .cell
  own : ∀ y ∈ scope.names, y.2 = .local → y.1 = nm
  par : scope.names.lookup nm = some .local
  free : ∀ y ∈ scope.names, y.2 = .free → sc.names.lookup y.1 = some .cell ∨ sc.names.lookup y.1 = some .free
def lamS1B (sc scope : Scope) (nm : Str) : Bool :=
  decide (scope.kind = .function) && !scope.isCoroutine && !scope.isGenerator && decide (scope.names.lookup nm = some .local) &&
    scope.names.all fun y => !decide (y.2 = .cell) && (!decide (y.2 = .local) || decide (y.1 = nm)) && (!decide (y.2 = .free) || decide (sc.names.lookup y.1 = some .cell) || decide (sc.names.lookup y.1 = some .free))
theorem lamS1_by {sc scope : Scope} {nm : Str} (h : lamS1B sc scope nm = true) : LamS1 sc scope nm := by
  unfold lamS1B at h
  simp only [Bool.and_eq_true, Bool.or_eq_true, Bool.not_eq_true', decide_eq_true_eq, decide_eq_false_iff_not, List.all_eq_true] at h
  obtain ⟨⟨⟨⟨h1, h2⟩, h3⟩, h5⟩, h4⟩ := h
  refine ⟨h1, h2, h3, fun y hy => (h4 y hy).1.1, fun y hy e => ?_, h5, fun y hy e => ?_⟩
  · rcases (h4 y hy).1.2 with z | z
    · exact absurd e z
    · exact z
  · rcases (h4 y hy).2 with (z | z) | z
    · exact absurd e z
    · exact .inl z
    · exact .inr z
theorem LamS1.has {X : Cx} {scope : Scope} {nm : Str} (L : LamS1 X.env.scope scope nm) (ok : X.Ok) : ∀ y ∈ scope.names, y.2 = .free → ∃ c, X.env.cells.lookup y.1 = some c := fun y hy e => by
  rcases L.free y hy e with k | k
  · exact ok.has _ (.inl k)
  · exact ok.has _ (.inr k)
abbrev never : XK := fun _ _ _ => False
def lamCx1 (X : Cx) (A : Around) (outer : List Env) (s : Shared) (H : Hp) (scope : Scope) (f c' : Addr) (nm : Str) : Cx :=
  { LamX.lamCx X A outer s H never scope f c' with N := X.N ++ [nm] }

section
variable {X : Cx} {pins : List (Addr × Obj)} {σ : L2.St} {H : Hp} {s : Shared}
theorem lam_start1 {A : Around} {scope : Scope} {f c' : Addr} {nm : Str} {h₁ : Heap} {tk : Nat} {v : V} {u : Value} (I : Inv X pins σ H s) (L : LamS1 X.env.scope scope nm) (e0 : Env0 X.prog X.w X.K X.mg X.base A X.stack s H) (hd : A.handled = none)
    (hn : nm ∉ X.N) (r : RelV v u) (hns : h₁.Ns s.heap.objs.size fun y => ([(nm, u)] : List (Str × Value)).reverse.lookup y) (kp : ∀ b o, s.heap.get? b = some o → h₁.get? b = some o) :
    Inv (lamCx1 X A X.stack s H scope f c' nm) [] (σ ++ [some v]) H { s with heap := h₁, toks := tk } := by
  have hfree := L.has I.ok
  have cm : ∀ {y c}, (cloFrom X.env.cells scope.names []).lookup y = some c → X.env.cells.lookup y = some c := fun {y c} e => by
    rcases cloFrom_mem (PySem.mem_of_lookup e) with hm | ⟨h1, h2⟩
    · cases hm
    · obtain ⟨c1, hc⟩ := hfree _ h1 rfl
      have hc : X.env.cells.lookup y = some c1 := hc
      have e2 : c = c1 := by
        rw [h2, hc] <;> rfl
      rw [e2]
      exact hc
  have look : ∀ {y}, scope.names.lookup y = some .free → ∃ c, (cloFrom X.env.cells scope.names []).lookup y = some c := fun {y} hl => by
    have hy : (y, NameKind.free) ∈ scope.names := PySem.mem_of_lookup hl
    exact mem_lookup (cloFrom_has (cells := X.env.cells) (acc := []) hy)
  have cellK : ∀ {c : Addr} {v : Option Value}, s.heap.IsCell c v → h₁.IsCell c v := fun {c v} ⟨o, ho, hd⟩ => ⟨o, kp _ _ ho, hd⟩
  have noA : ∀ b : Addr, b ∉ (lamCx1 X A X.stack s H scope f c' nm).ex := fun b z => absurd (show b ∈ ([] : List Addr) from z) (by simp)
  refine ⟨⟨e0.mod, L.kind, rfl, rfl, Nat.le_refl _, fun y z c e1 e2 => I.ok.inj y z c (cm e1) (cm e2), fun y hy => ?_, fun y c z _ => ?_, fun _ => hd, Around.frames_deeper e0.frames, .inr ⟨rfl, rfl⟩, fun b z => absurd z (noA b), e0.bs, e0.bsz, fun b _ _ => noA b,
      fun b z => absurd z (noA b), e0.funs, e0.frf⟩,
    rfl, e0.bare, Un.kept kp, ⟨_, hns, fun i y v' e1 e2 e3 => ?_⟩, fun y c e => ?_, e0.hok.fresh (Nat.le_refl _), fun y c e => ?_, fun q hq => absurd (show q ∈ ([] : List (Addr × Obj)) ++ [] from hq) (by simp), e0.hok.kept kp, ?_⟩
  · have hy : scope.names.lookup y = some .cell ∨ scope.names.lookup y = some .free := hy
    rcases hy with hy | hy
    · exact absurd rfl (L.nocell _ (PySem.mem_of_lookup hy))
    · exact look hy
  · have z : false = true := z
    cases z
  · have e3 : Vis scope y := e3
    have e1 : (X.N ++ [nm])[i]? = some y := e1
    by_cases hi : i < X.N.length
    · rw [List.getElem?_append_left hi] at e1
      rw [List.getElem?_append_left (by rw [I.len]; exact hi)] at e2
      rcases e3 with k | k | k
      · have z := L.own _ (PySem.mem_of_lookup k) rfl
        have z : y = nm := z
        rw [z] at e1
        exact absurd (List.mem_of_getElem? e1) hn
      · exact absurd rfl (L.nocell _ (PySem.mem_of_lookup k))
      · obtain ⟨m, hn, hl⟩ := I.loc
        have hvis : Vis X.env.scope y := (L.free _ (PySem.mem_of_lookup k) rfl).elim (fun k => .inr (.inl k)) (fun k => .inr (.inr k))
        obtain ⟨w', r, q⟩ := hl i y v' e1 e2 hvis
        obtain ⟨c2, h2⟩ := look k
        refine ⟨w', r, .inr ⟨.inr k, c2, h2, ?_⟩⟩
        have c1 := cm h2
        rcases q with ⟨k', _⟩ | ⟨_, c3, e', z⟩
        · have k' : X.env.scope.names.lookup y = some .local := k'
          rcases L.free _ (PySem.mem_of_lookup k) rfl with k2 | k2 <;> rw [show X.env.scope.names.lookup y = _ from k2] at k' <;> cases k'
        · rw [c1] at e'
          cases e'
          exact cellK z
    · rw [List.getElem?_append_right (by omega)] at e1
      rw [List.getElem?_append_right (by rw [I.len]; omega), I.len] at e2
      obtain ⟨h1, _⟩ := List.getElem?_eq_some_iff.mp e1
      have h3 : i - X.N.length = 0 := by rw [List.length_singleton] at h1; omega
      rw [h3] at e1 e2
      obtain rfl : nm = y := Option.some.inj e1
      obtain rfl : v = v' := Option.some.inj (Option.some.inj e2)
      refine ⟨u, r, .inl ⟨L.par, ?_⟩⟩
      show ([(nm, u)] : List (Str × Value)).lookup nm = some u
      simp [List.lookup]
  · obtain ⟨w', z⟩ := I.cell y c (cm e)
    exact ⟨w', cellK z⟩
  · exact I.freeC y c (cm e)
  · show (σ ++ [some v]).length = (X.N ++ [nm]).length
    rw [List.length_append, List.length_append, I.len]
    rfl
/-- the lambda at f is called -/
theorem key_call {A : Around} {f c' : Addr} {pm ctv : Value} {params : Arguments} {body : Expr} {scope : Scope} {nm : Str} {k : Nat} {v : V} {u : Value} {t : TE} {Q : VK} {E : Value → Shared → Prop}
    (I : Inv X pins σ H s) (L : LamS1 X.env.scope scope nm) (hn : nm ∉ X.N) (hA : A = X.A.in1.in1) (hr : Room (k + 1) A)
    (hf : s.heap.get? f = some (PySem.W.kla_obj "<lambda>" (X.env.qual ++ "<lambda>") params body scope (cloFrom X.env.cells scope.names []) pm c' ctv)) (hc : H c' = some (LamX.CodeO c' (X.env.qual ++ "<lambda>")))
    (hbind : bindArgs (PySem.W.kla_fn "<lambda>" (X.env.qual ++ "<lambda>") params body scope (cloFrom X.env.cells scope.names []) pm (.ref c') ctv) ⟨[u], []⟩ = pure [(nm, u)])
    (r : RelV v u)
    (hbody : ∀ (s : Shared) (H : Hp), Room k (A.deeper (LamX.lamEnv X scope s.heap.objs.size f c')) → PE (lamCx1 X A X.stack s H scope f c' nm) body t) (h : t (σ ++ [some v]) H Q) :
    wpAny (model X.prog X.w) A (call (.ref f) [u]) (EP X pins σ Q) E s := by
  have e0 : Env0 X.prog X.w X.K X.mg X.base A X.stack s H := by
    rw [hA]
    exact I.env0.in1.in1
  obtain ⟨⟨oc, vs, tq, hoc, hdc, hvc⟩, _, _⟩ := I.hok c' _ hc
  have rc : codeAny (model X.prog X.w) A (.call (.ref f) ⟨[u], []⟩) (CR C8.CX0 X.stack X.prog X.w H s Q never) s := by
    refine PySem.W.kla_callFunE hr.depth hf rfl L.co L.gen rfl ⟨c', oc, vs, tq, rfl, hoc, hdc, hvc⟩ ?_
    rw [hbind]
    refine wpAny_pure (wpAny_newFunctionEnv (fun y hy => L.nocell y hy) (fun y hy => ?_) (fun h₁ hns hsb => ⟨I.nolimit.fresh _ hsb, ?_⟩) L.kind)
    · obtain rfl : y = (nm, u) := by simpa using hy
      exact L.par
    show codeAny _ _ (.expr body (LamX.lamEnv X scope s.heap.objs.size f c')) _ _
    have kp : ∀ b o, s.heap.get? b = some o → h₁.get? b = some o := fun b o e => hsb.extBut b o (Nat.ne_of_lt (Heap.lt_size e)) (Heap.get?_push_of_some _ e)
    have J : Inv (lamCx1 X A X.stack s H scope f c' nm) [] (σ ++ [some v]) H { s with heap := h₁, toks := s.toks + ([(nm, u)] : List (Str × Value)).length } :=
      lam_start1 I L e0 hr.hd hn r hns kp
    refine PySem.W.kla_codeExpr (wpAny_mono ((hbody s H (hr.deeper _)).run [] _ _ H Q J h) (fun v s' hq => ?_) fun e s' hq => ?_)
    · obtain ⟨w', H', J', rv, q⟩ := hq
      exact ⟨w', H', J'.os, J'.bare, J'.base, J'.hok, rv, q⟩
    · have ff : ∀ e s2, L2.CX X.prog X.w X.stack H s never e s2 → False := fun e s2 z => by
        obtain ⟨_, _, _, _, _, _, _, _, _, _, _, _, _, _, _, _, z⟩ := z
      exact wpAny_mono hq (fun _ s2 z => (ff _ _ z).elim) fun _ s2 z => (ff _ _ z).elim
  refine wpAny_call (codeAny_mono rc fun r s' hq => ?_)
  cases r with
  | error e => exact (show False from hq).elim
  | ok fl =>
    cases fl with
    | ret u => exact I.after hq
    | next => exact False.elim hq
    | brk => exact False.elim hq
    | cont => exact False.elim hq
end
end GN

/-! sorted by a key that is a pair of the rank and the thing itself -/
namespace GN
open PySem PySem.Spec PyProof.Rows L2

/-! ### plain: the order -/
def keyR (r : Int → Int) (n : Int) : Int × Int := (r n, n)
def insK (r : Int → Int) (x : Int) : List Int → List Int
  | [] => [x]
  | y :: l => if SrtO.lexB (keyR r y) (keyR r x) then y :: insK r x l else x :: y :: l
def srtK (r : Int → Int) : List Int → List Int
  | [] => []
  | x :: l => insK r x (srtK r l)
theorem insK_perm (r : Int → Int) (x : Int) : ∀ l, (insK r x l).Perm (x :: l)
  | [] => List.Perm.refl _
  | y :: l => by
    unfold insK
    split
    · exact ((insK_perm r x l).cons y).trans (List.Perm.swap x y l)
    · exact List.Perm.refl _
theorem srtK_perm (r : Int → Int) : ∀ l, (srtK r l).Perm l
  | [] => List.Perm.refl _
  | x :: l => (insK_perm r x _).trans ((srtK_perm r l).cons x)
def leK (r : Int → Int) (x y : Int) : Prop := SrtO.lexB (keyR r y) (keyR r x) = false
theorem leK_iff {r : Int → Int} {x y : Int} : leK r x y ↔ r x < r y ∨ (r x = r y ∧ x ≤ y) := by
  unfold leK
  rw [SrtO.lexB_no]
  show ¬ (r y < r x ∨ (r y = r x ∧ y < x)) ↔ _
  omega
theorem insK_srt {r : Int → Int} {x : Int} : ∀ {l}, l.Pairwise (leK r) → (insK r x l).Pairwise (leK r)
  | [], _ => List.pairwise_singleton _ _
  | y :: l, h => by
    obtain ⟨h1, h2⟩ := List.pairwise_cons.mp h
    unfold insK
    split
    · rename_i q
      refine List.pairwise_cons.mpr ⟨fun z hz => ?_, insK_srt h2⟩
      rcases List.mem_cons.mp ((insK_perm r x l).mem_iff.mp hz) with e | hz
      · rw [e, leK_iff]
        have := SrtO.lexB_iff.mp q
        have : r y < r x ∨ (r y = r x ∧ y < x) := this
        omega
      · exact h1 z hz
    · rename_i q
      have q : leK r x y := by
        unfold leK
        simpa using q
      refine List.pairwise_cons.mpr ⟨fun z hz => ?_, h⟩
      rcases List.mem_cons.mp hz with e | hz
      · rw [e]; exact q
      · have := h1 z hz
        rw [leK_iff] at this q ⊢
        omega
theorem srtK_srt (r : Int → Int) : ∀ l, (srtK r l).Pairwise (leK r)
  | [] => List.Pairwise.nil
  | x :: l => insK_srt (srtK_srt r l)
theorem srtK_eq {r : Int → Int} {l o : List Int} (p : o.Perm l) (h : o.Pairwise (leK r)) : o = srtK r l := by
  refine List.Perm.eq_of_pairwise (le := leK r) (fun a b _ _ h1 h2 => ?_) h (srtK_srt r l) (p.trans (srtK_perm r l).symm)
  rw [leK_iff] at h1 h2
  omega

/-! ### the walk -/
def eK (r : Int → Int) (n : Int) : PyData := eF (keyR r n)
section
variable {T : Tb} {lk : Lk} {G G' H H' : Hp}
theorem Ext.mutF {G0 H0 : Hp} {p : Addr} {ob : Obj} {u o : HO} (E : Ext T lk G0 H0 G H) (n : H0 p = none) (h : H p = some (.frz ob u)) (g : G p = none) : Ext T lk G0 H0 G (upd H p o) := by
  refine ⟨fun b w e q => by rw [upd_ne (ne_of_none e n)]; exact E.le b w e q, ⟨?_, fun b w e => ?_, E.sub.lck⟩, E.gg, E.fr⟩
  · exact tabs_mut E.sub.tb h (fun _ z => nomatch z) fun _ z => nomatch z
  · exact Has.move (E.sub.has b w e) fun x q _ => by
      rw [upd_ne (fun z => by subst z; rw [g] at e; cases e)]
      exact q
theorem vals_two {i j : Int} {us : List Value} (h : Vals [.int i, .int j] us) : ∃ t t', us = [.int i t, .int j t'] := by
  cases h with
  | cons a b =>
    obtain ⟨t, rfl⟩ := a
    cases b with
    | cons c d =>
      obtain ⟨t', rfl⟩ := c
      cases d
      exact ⟨t, t', rfl⟩
theorem pair_is {P : Program} {w : World} {h : Heap} {p : Int × Int} {v : V} {u : Value} (hok : HOk P w H h) (S : Sub T lk G H) (r : rep G (eF p) v) (rv : RelV v u) : Srt.IsPair h u p.1 p.2 := by
  obtain ⟨a, vs, rfl, ha, hr⟩ := r
  cases (show u = .ref a from rv)
  rw [two_ints hr] at ha
  obtain ⟨_, us, hv, o, ho, hc, n, hd⟩ := hok a _ (S.tup ha)
  obtain ⟨t, t', rfl⟩ := vals_two hv
  exact ⟨a, o, t, t', n, rfl, ho, hc, hd⟩
theorem pair_uniq {h : Heap} {u : Value} {x y x' y' : Int} (a : Srt.IsPair h u x y) (b : Srt.IsPair h u x' y') : x = x' ∧ y = y' := by
  obtain ⟨a, o, t, t2, n, rfl, ho, _, hd⟩ := a
  obtain ⟨a', o', s, s2, m, e, ho', _, hd'⟩ := b
  cases e
  rw [ho] at ho'
  cases ho'
  rw [hd] at hd'
  simp at hd'
  exact ⟨hd'.1.1.1, hd'.1.2.1⟩
/-- the pair that stands at the value -/
noncomputable def kOf (h : Heap) (v : Value) : Int × Int := open Classical in if q : ∃ p : Int × Int, Srt.IsPair h v p.1 p.2 then q.choose else (0, 0)
theorem kOf_eq {h : Heap} {v : Value} {p : Int × Int} (q : Srt.IsPair h v p.1 p.2) : kOf h v = p := by
  have e : ∃ p : Int × Int, Srt.IsPair h v p.1 p.2 := ⟨p, q⟩
  unfold kOf
  rw [dif_pos e]
  have z := pair_uniq e.choose_spec q
  exact Prod.ext z.1 z.2
theorem vals_at : ∀ {vs : List V} {us : List Value} {i : Nat} {u : Value}, Vals vs us → us[i]? = some u → ∃ v, vs[i]? = some v ∧ RelV v u
  | _, _, _, _, .nil, e => by simp at e
  | _, _, 0, _, .cons a b, e => by
    obtain rfl := Option.some.inj e
    exact ⟨_, rfl, a⟩
  | _, _, i + 1, _, .cons a b, e => vals_at (i := i) b e
/-- the keys and the things side by side -/
theorem zip_facts {P : Program} {w : World} {h : Heap} (hok : HOk P w H h) (S : Sub T lk G H) (r : Int → Int) : ∀ {ns : List Int} {ks : List V} {kus its : List Value}, reps G (ns.map (eK r)) ks → Vals ks kus → Vals (ns.map V.int) its →
    kus.length = ns.length ∧ its.length = ns.length ∧ (∀ p ∈ kus.zip its, ∃ n t, p.2 = .int n t ∧ Srt.IsPair h p.1 (keyR r n).1 (keyR r n).2) ∧ (kus.zip its).map (fun p => numOf p.2) = ns
  | [], _, _, _, h1, h2, h3 => by
    cases (show _ = _ from h1)
    cases h2
    cases h3
    exact ⟨rfl, rfl, fun p hp => by simp at hp, rfl⟩
  | n :: ns, _, _, _, h1, h2, h3 => by
    obtain ⟨v, us, rfl, r1, r2⟩ := h1
    cases h2 with
    | cons a b =>
      cases h3 with
      | cons c d =>
        obtain ⟨t, rfl⟩ := c
        obtain ⟨l1, l2, l3, l4⟩ := zip_facts hok S r r2 b d
        refine ⟨by rw [List.length_cons, List.length_cons, l1], by rw [List.length_cons, List.length_cons, l2], fun p hp => ?_, ?_⟩
        · rw [List.zip_cons_cons] at hp
          rcases List.mem_cons.mp hp with rfl | hp
          · exact ⟨n, t, rfl, pair_is hok S r1 a⟩
          · exact l3 p hp
        · rw [List.zip_cons_cons, List.map_cons, l4]
          rfl
theorem vals_nums : ∀ {l : List Value}, (∀ v ∈ l, ∃ n t, v = .int n t) → Vals ((l.map numOf).map V.int) l
  | [], _ => .nil
  | v :: l, h => by
    obtain ⟨n, t, rfl⟩ := h v List.mem_cons_self
    exact .cons ⟨t, rfl⟩ (vals_nums fun u hu => h u (List.mem_cons_of_mem _ hu))
end
section
variable {X : Cx} {pins : List (Addr × Obj)} {σ : L2.St} {H H0 : Hp} {G G0 : Hp} {s : Shared} {A : Around} {T : Tb} {lk : Lk} {a kS : Addr} {r : Int → Int} {ns : List Int} {its : List Value} {e1 : Nat} {R : PySem.Fin → Shared → Prop} {E : Value → Shared → Prop}
theorem srt_tail {st : SortSt} {ks : List V} {out : List Int} (I : Inv X pins σ H s) (nf : ∀ o' u', X.H_0 a ≠ some (.frz o' u')) (E0 : Ext T lk G0 H0 G H) (hk : H kS = some (.lst ks)) (hA : H a = some (.frz (seqObj "list" #[] e1) (.lst []))) (n0a : H0 a = none) (n0k : H0 kS = none) (ga : G a = none) (gk : G kS = none)
    (hv : Vals (out.map V.int) ((arrOf st).toList.map (·.2))) (hz : out.length ≤ 1000) (hf : failedOf st = none)
    (h : ∀ s' H', Inv X pins σ H' s' → Ext T lk G0 H0 G H' → H' a = some (.lst (out.map .int)) → R (.done (.ret .none)) s') :
    wpAny (model X.prog X.w) A (ksk_tail a false e1 (.ref kS) st) R E s := by
  have hka : a ≠ kS := fun z => by rw [z, hk] at hA; cases hA
  obtain ⟨z, kits, n, kv, kl, ke⟩ := I.lstM hk
  unfold ksk_tail
  try dsimp only
  refine wpAny_bind (listUpdate_at ke rfl ?_ (by rw [List.size_toArray, ← kl]; exact z) (Nat.zero_le _))
  have I1 := I.lset (its' := []) (f := fun _ => #[]) (t' := s.toks) (ys := []) hk ke rfl .nil (Nat.zero_le _)
  refine wpAny_bind (wpAny_letGo ?_)
  have hA1 : upd H kS (.lst []) a = some (.frz (seqObj "list" #[] e1) (.lst [])) := by rw [upd_ne hka]; exact hA
  have E1 : Ext T lk G0 H0 G (upd H kS (.lst [])) := E0.mut n0k hk True.intro gk
  obtain ⟨ho1, _⟩ := I1.hok a _ hA1
  refine wpAny_bind (seqEpoch_at ho1 rfl ?_)
  have hlen : ((arrOf st).map (·.2)).size = out.length := by
    have q := hv.length
    rw [List.length_map, List.length_map, Array.length_toList] at q
    rw [Array.size_map]
    exact q.symm
  refine wpAny_bind (listUpdate_at ho1 rfl ?_ (Nat.zero_le _) (by show ((arrOf st).map (·.2)).size ≤ _; rw [hlen, sizeLine_eq]; omega))
  rw [hf]
  simp only [bne_self_eq_false, Bool.false_eq_true, if_false]
  refine wpAny_pure ?_
  have I2 := (I1.unlock hA1 nf).lset (its := []) (its' := (arrOf st).toList.map (·.2)) (f := fun _ => (arrOf st).map (·.2)) (t' := s.toks) (ys := out.map V.int) upd_same ho1 (by show (arrOf st).map (·.2) = ((arrOf st).toList.map (·.2)).toArray; rw [← Array.toList_map, Array.toArray_toList]) hv (by rw [List.length_map, sizeLine_eq]; omega)
  exact h _ _ I2 ((E1.mutF (o := .lst []) n0a hA1 ga).mut n0a upd_same True.intro ga) upd_same
theorem srt_end {ks : List V} (I : Inv X pins σ H s) (nf : ∀ o' u', X.H_0 a ≠ some (.frz o' u')) (E0 : Ext T lk G0 H0 G H) (hk : H kS = some (.lst ks)) (hA : H a = some (.frz (seqObj "list" #[] e1) (.lst []))) (n0a : H0 a = none) (n0k : H0 kS = none) (ga : G a = none) (gk : G kS = none)
    {kus : List Value} (rk : reps G (ns.map (eK r)) ks) (kv : Vals ks kus) (hv : Vals (ns.map V.int) its) (hz : ns.length ≤ 1000)
    (h : ∀ s' H', Inv X pins σ H' s' → Ext T lk G0 H0 G H' → H' a = some (.lst ((srtK r ns).map .int)) → R (.done (.ret .none)) s') :
    wpAny (model X.prog X.w) A (ksk_end a false its.toArray e1 (.ref kS) kus.toArray) R E s := by
  obtain ⟨l1, l2, l3, l4⟩ := zip_facts I.hok E0.sub r rk kv hv
  have step : ∀ t : Sem PySem.Fin, wpAny (model X.prog X.w) A t R E s → wpAny (model X.prog X.w) A (if false = true then (do let _ ← rule "list.sort.reverse"; t) else t) R E s := fun t ht => ht
  have zl : (kus.toArray.zip its.toArray).toList = kus.zip its := by simp
  have kz : ∀ p ∈ kus.zip its, Srt.IsPair s.heap p.1 (kOf s.heap p.1).1 (kOf s.heap p.1).2 := fun p hp => by
    obtain ⟨n, t, _, q⟩ := l3 p hp
    rw [kOf_eq q]
    exact q
  have fin : ∀ st' : SortSt, SrtO.Srtd (SrtO.lt2 fun v u => SrtO.lexB (kOf s.heap v) (kOf s.heap u)) (arrOf st').toList → (arrOf st').toList.Perm (kus.zip its) →
      Vals ((srtK r ns).map V.int) ((arrOf st').toList.map (·.2)) := fun st' h1 h2 => by
    have m : ∀ p ∈ (arrOf st').toList, ∃ n t, p.2 = .int n t ∧ Srt.IsPair s.heap p.1 (keyR r n).1 (keyR r n).2 := fun p hp => l3 p (h2.mem_iff.mp hp)
    have e : ((arrOf st').toList.map (·.2)).map numOf = srtK r ns := by
      refine srtK_eq ?_ ?_
      · have q := h2.map (fun p : Keyed => numOf p.2)
        rw [l4] at q
        rw [List.map_map]
        exact q
      · rw [List.map_map, List.pairwise_map]
        refine h1.imp_of_mem fun {p q} hp hq z => ?_
        obtain ⟨n, t, e1, k1⟩ := m p hp
        obtain ⟨n', t', e1', k1'⟩ := m q hq
        show leK r (numOf p.2) (numOf q.2)
        rw [e1, e1']
        have z : SrtO.lexB (kOf s.heap q.1) (kOf s.heap p.1) = false := z
        rw [kOf_eq k1, kOf_eq k1'] at z
        exact z
    rw [← e]
    refine vals_nums fun v hv => ?_
    obtain ⟨p, hp, rfl⟩ := List.mem_map.mp hv
    obtain ⟨n, t, e, _⟩ := m p hp
    exact ⟨n, t, e⟩
  have lz : (srtK r ns).length ≤ 1000 := by rw [(srtK_perm r ns).length_eq]; exact hz
  unfold ksk_end
  try dsimp only
  refine step _ ?_
  by_cases h2 : its.toArray.size < 2
  · rw [if_pos h2, if_pos h2]
    refine wpAny_bind (wpAny_pure ?_)
    rw [StateT.run_pure]
    refine wpAny_bind (wpAny_pure ?_)
    try dsimp only
    refine srt_tail (st := SortSt.mk' general' (if false = true then (kus.toArray.zip its.toArray).reverse else kus.toArray.zip its.toArray) #[] 7 none) I nf E0 hk hA n0a n0k ga gk (fin _ ?_ ?_) lz rfl h
    · show SrtO.Srtd _ (kus.toArray.zip its.toArray).toList
      rw [zl]
      have hl : (kus.zip its).length ≤ 1 := by
        rw [List.length_zip, l1, l2]
        rw [List.size_toArray, l2] at h2
        omega
      match q : kus.zip its, hl with
      | [], _ => exact List.Pairwise.nil
      | [p], _ => exact List.pairwise_singleton _ _
      | _ :: _ :: l, hl => exact absurd hl (by rw [List.length_cons, List.length_cons]; omega)
    · show (kus.toArray.zip its.toArray).toList.Perm _
      rw [zl]
  · rw [if_neg h2, if_neg h2]
    rw [List.size_toArray] at h2
    have hp : ∀ v ∈ kus, Srt.IsPair s.heap v (kOf s.heap v).1 (kOf s.heap v).2 := fun v hv => by
      obtain ⟨i, hi, e⟩ := List.getElem_of_mem hv
      have hm : (v, its[i]'(by rw [l2, ← l1]; exact hi)) ∈ kus.zip its := by
        rw [← e]
        have q : i < (kus.zip its).length := by rw [List.length_zip, l1, l2]; omega
        have := List.getElem_mem q
        rw [List.getElem_zip] at this
        exact this
      exact kz _ hm
    obtain ⟨fs, f1, f2, f3⟩ := Srt.firsts_of fun v hm => ⟨_, _, hp v hm⟩
    refine wpAny_bind ?_
    refine PySem.W.kat_kind (T := .type "int") f1 (by omega) (fun f hm => ?_) (by rfl) ?_
    · obtain ⟨x, t, rfl⟩ := f3 f hm
      exact PySem.W.Looks.now
    have ee : (Value.type "int" != Value.type "tuple") = true := by first | decide +kernel | rfl | decide
    rw [ee]
    refine wpAny_bind (wpAny_mono (SrtO.wpS_sortO (st0 := SortSt.mk' (tuples' true) (kus.toArray.zip its.toArray) #[] 7 none) (P := fun p => p.1 ∈ kus) (lt := SrtO.lt2 fun v u => SrtO.lexB (kOf s.heap v) (kOf s.heap u))
      (Q := fun _ st' => SrtO.Srtd (SrtO.lt2 fun v u => SrtO.lexB (kOf s.heap v) (kOf s.heap u)) (arrOf st').toList ∧ (arrOf st').toList.Perm (kus.zip its) ∧ failedOf st' = none)
      (SrtO.swo2 (SrtO.swo_lex _)) (SrtO.pair_cmp hp) rfl (fun p hm => ?_) rfl rfl fun st' a1 a2 a3 => ⟨a1, by have q := a2.perm; rw [show (arrOf (SortSt.mk' (tuples' true) (kus.toArray.zip its.toArray) #[] 7 none)).toList = kus.zip its from zl] at q; exact q, a3⟩) ?_ fun _ _ e => e)
    · have hm : p ∈ (kus.toArray.zip its.toArray).toList := hm
      rw [zl] at hm
      exact (List.of_mem_zip hm).1
    rintro ⟨⟨⟩, st'⟩ s' ⟨rfl, hp1, hp2, hf⟩
    try dsimp only
    exact srt_tail I nf E0 hk hA n0a n0k ga gk (fin st' hp1 hp2) lz hf h
end
end GN

/-! sorted(lot, key=lambda): the keys, the call, the def -/
namespace GN
open PySem PySem.Spec PyProof.Rows L2

section
variable {X : Cx} {pins : List (Addr × Obj)} {σ : L2.St} {H H0 : Hp} {G G0 : Hp} {s : Shared} {A : Around} {T : Tb} {lk : Lk} {a kS : Addr} {r : Int → Int} {ns : List Int} {its : List Value} {e1 : Nat} {R : PySem.Fin → Shared → Prop} {E : Value → Shared → Prop} {g : Value}
/-- what the key's call answers -/
def Turn (X : Cx) (A : Around) (pins : List (Addr × Obj)) (σ : L2.St) (T : Tb) (lk : Lk) (G0 H0 : Hp) (r : Int → Int) (ns : List Int) (g : Value) : Prop :=
  ∀ n ∈ ns, ∀ (u : Value) (G' H' : Hp) (s' : Shared), RelV (.int n) u → Inv X pins σ H' s' → Ext T lk G0 H0 G' H' →
    wpAny (model X.prog X.w) A (call g [u]) (EP X pins σ fun y H2 => ∃ G2, Ext T lk G' H' G2 H2 ∧ rep G2 (eK r n) y) (fun _ _ => False) s'
theorem srt_rest (I : Inv X pins σ H s) (nf : ∀ o' u', X.H_0 a ≠ some (.frz o' u')) (E0 : Ext T lk G0 H0 G H) (hk : H kS = some (.lst [])) (hA : H a = some (.frz (seqObj "list" #[] e1) (.lst []))) (n0a : H0 a = none) (n0k : H0 kS = none) (ga : G a = none) (gk : G kS = none)
    (hv : Vals (ns.map V.int) its) (hz : ns.length ≤ 1000) (turn : Turn X A pins σ T lk G0 H0 r ns g)
    (h : ∀ s' G' H', Inv X pins σ H' s' → Ext T lk G0 H0 G' H' → G' a = none → H' a = some (.lst ((srtK r ns).map .int)) → R (.done (.ret .none)) s') :
    wpAny (model X.prog X.w) A (ksk_rest a g false its.toArray e1 (.ref kS)) R E s := by
  have hil : its.length = ns.length := by
    have q := hv.length
    rw [List.length_map] at q
    exact q.symm
  unfold ksk_rest
  refine wpAny_bind (wpAny_rule ?_)
  rw [List.forIn_toArray]
  refine wpAny_bind (ksk_fold (fun i s' => ∃ G' H' ks, Inv X pins σ H' s' ∧ Ext T lk G0 H0 G' H' ∧ H' kS = some (.lst ks) ∧ H' a = some (.frz (seqObj "list" #[] e1) (.lst [])) ∧ G' a = none ∧ G' kS = none ∧ reps G' ((ns.take i).map (eK r)) ks) its 0 s
    ⟨G, H, [], I, E0, hk, hA, ga, gk, rfl⟩ ?step ?done)
  case step =>
    rintro j x s' hx ⟨G', H', ks, I', E', hk', hA', ga', gk', rk'⟩
    simp only [Nat.zero_add] at rk' ⊢
    obtain ⟨v, hv1, rv⟩ := vals_at hv hx
    rw [List.getElem?_map] at hv1
    obtain ⟨n, hn, rfl⟩ := Option.map_eq_some_iff.mp hv1
    refine wpAny_bind (wpAny_attempt (wpAny_mono (turn n (List.mem_of_getElem? hn) x G' H' s' rv I' E') (fun u s'' he => ?_) fun _ _ hF => hF.elim))
    obtain ⟨y, H2, I2, ry, G2, E2, rp⟩ := he
    try dsimp only
    have hk2 := E2.keep hk' True.intro
    have hA2 : H2 a = _ := E2.le _ _ hA' fun _ z => nomatch z
    have gk2 : G2 kS = none := (E2.frK hk' True.intro).trans gk'
    have ga2 : G2 a = none := (E2.fr a _ hA' fun _ z => nomatch z).trans ga'
    obtain ⟨z, kits, n1, kv, kl, ke⟩ := I2.lstM hk2
    have hlen : ks.length ≤ 1000 := by
      rw [reps_length rk', List.length_map, List.length_take]
      omega
    refine wpAny_bind (listUpdate_at ke rfl ?_ (by rw [List.size_toArray, ← kl]; exact z) (by rw [Array.size_push, List.size_toArray, ← kl, sizeLine_eq]; omega))
    have I3 := I2.lset (its' := kits ++ [u]) (f := (·.push u)) (t' := s''.toks) (ys := ks ++ [y]) hk2 ke (by simp) (kv.append (.cons ry .nil)) (by rw [List.length_append, List.length_singleton, sizeLine_eq]; omega)
    have hka : a ≠ kS := fun z => by rw [z, hk2] at hA2; cases hA2
    refine wpAny_pure ⟨rfl, G2, _, ks ++ [y], I3, (E'.trans E2).mut n0k hk2 True.intro gk2, upd_same, by rw [upd_ne hka]; exact hA2, ga2, gk2, ?_⟩
    have ek : ns.take (j + 1) = ns.take j ++ [n] := by rw [List.take_add_one, hn]; simp
    rw [ek, List.map_append]
    exact reps_app (reps_mono E2.gg _ _ rk') ⟨y, [], rfl, rp, rfl⟩
  case done =>
    rintro s' ⟨G', H', ks, I', E', hk', hA', ga', gk', rk'⟩
    have e3 : ns.take (0 + its.length) = ns := List.take_of_length_le (by omega)
    rw [e3] at rk'
    obtain ⟨z, kits, n1, kv, kl, ke⟩ := I'.lstM hk'
    try dsimp only
    refine wpAny_bind (listItems_at ke rfl ?_)
    exact srt_end I' nf E' hk' hA' n0a n0k ga' gk' rk' kv hv hz fun s2 H2 I2 E2 h2 => h s2 G' H2 I2 E2 ga' h2
theorem srt_tree (I : Inv X pins σ H s) (E0 : Ext T lk G0 H0 G H) (ha : H a = some (.lst (ns.map .int))) (n0a : H0 a = none) (nt : ∀ b, s.heap.objs.size ≤ b → H0 b = none) (ga : G a = none) (hz : ns.length ≤ 1000) (turn : Turn X A pins σ T lk G0 H0 r ns g)
    (h : ∀ s' G' H', Inv X pins σ H' s' → Ext T lk G0 H0 G' H' → G' a = none → H' a = some (.lst ((srtK r ns).map .int)) → R (.done (.ret .none)) s') :
    wpAny (model X.prog X.w) A (ksk_tree a g false) R E s := by
  obtain ⟨z, its, n, hv, hl, e⟩ := I.lstM ha
  have nf := I.nofrz ha True.intro
  unfold ksk_tree
  refine wpAny_bind (listItems_at e rfl ?_)
  refine wpAny_bind (listUpdate_at e rfl ?_ (by rw [List.size_toArray, ← hl]; exact z) (Nat.zero_le _))
  have I1 := I.lset (its' := []) (f := fun _ => #[]) (t' := s.toks) (ys := []) ha e rfl .nil (Nat.zero_le _)
  obtain ⟨e1, ho1⟩ : ∃ e1, (s.heap.update a (Obj.mapSeq fun _ => (#[] : Array Value))).get? a = some (seqObj "list" #[] e1) := ⟨_, get?_update_seq e fun _ => #[]⟩
  refine wpAny_bind (seqEpoch_at ho1 rfl ?_)
  refine wpAny_bind (wpAny_newTuple ?_ (by show its.length ≤ _; rw [← hl]; exact z))
  have I2 := I1.kept (t' := s.toks) (h' := (s.heap.update a (Obj.mapSeq fun _ => (#[] : Array Value))).push (seqObj "tuple" its.toArray 0)) (fun b u q => Heap.get?_push_of_some _ q)
  refine wpAny_bind (wpAny_newList ?_ (Nat.zero_le _))
  have I3 := I2.lnew (its := []) (t' := s.toks) (ys := []) .nil (Nat.zero_le _)
  refine wpAny_holding ?_
  have hlt : a < s.heap.objs.size := Heap.lt_size e
  have hsz : ((s.heap.update a (Obj.mapSeq fun _ => (#[] : Array Value))).push (seqObj "tuple" its.toArray 0)).objs.size = s.heap.objs.size + 1 := by rw [size_push', Heap.size_update]
  have hka : a ≠ ((s.heap.update a (Obj.mapSeq fun _ => (#[] : Array Value))).push (seqObj "tuple" its.toArray 0)).objs.size := by rw [hsz]; exact Nat.ne_of_lt (Nat.lt_succ_of_lt hlt)
  have n0k : H0 ((s.heap.update a (Obj.mapSeq fun _ => (#[] : Array Value))).push (seqObj "tuple" its.toArray 0)).objs.size = none := nt _ (by rw [hsz]; omega)
  have hk1 : upd H a (.lst []) ((s.heap.update a (Obj.mapSeq fun _ => (#[] : Array Value))).push (seqObj "tuple" its.toArray 0)).objs.size = none := by
    rw [upd_ne hka.symm]
    exact I.hok.fresh (by rw [hsz]; omega)
  have E1 := E0.mut (o := .lst []) n0a ha True.intro ga
  have E2 := E1.trans (Ext.off (o := .lst []) E1.sub hk1)
  have ha2 : upd (upd H a (.lst [])) ((s.heap.update a (Obj.mapSeq fun _ => (#[] : Array Value))).push (seqObj "tuple" its.toArray 0)).objs.size (.lst []) a = some (.lst []) := by rw [upd_ne hka, upd_same]
  obtain ⟨od, I4⟩ := I3.lock ha2 True.intro
  have E3 := E2.mut (o := .frz od (.lst [])) n0a ha2 True.intro ga
  have hA : upd (upd (upd H a (.lst [])) ((s.heap.update a (Obj.mapSeq fun _ => (#[] : Array Value))).push (seqObj "tuple" its.toArray 0)).objs.size (.lst [])) a (.frz od (.lst [])) a = some (.frz od (.lst [])) := upd_same
  have hod : od = seqObj "list" #[] e1 := by
    have q := (I4.hok a _ hA).1
    have q2 : (((s.heap.update a (Obj.mapSeq fun _ => (#[] : Array Value))).push (seqObj "tuple" its.toArray 0)).push (seqObj "list" #[] 0)).get? a = some (seqObj "list" #[] e1) := Heap.get?_push_of_some _ (Heap.get?_push_of_some _ ho1)
    exact Option.some.inj (q.symm.trans q2)
  subst hod
  exact srt_rest I4 nf E3 (by rw [upd_ne hka.symm, upd_same]) hA n0a n0k ga (E1.sub.fresh hk1) hv hz turn h
theorem collect_tup {l : Addr} {vs : List Value} {Q : List Value → Shared → Prop} (hl : IsTup s.heap l vs.toArray)
    (h : Q vs { s with heap := (s.heap.push (seqObj "list" #[] 0)).update s.heap.objs.size (Obj.mapSeq (· ++ vs.toArray)) }) (hsz : vs.length ≤ sizeLine) :
    wpAny (model X.prog X.w) A (collect (.ref l)) Q E s := by
  obtain ⟨o, ho, hc, n, hd⟩ := id hl
  unfold collect
  refine wpAny_bind (wpAny_runValue (codeAny_builtin entry_proto_collect' ?_))
  show wpAny _ _ (do again (.builtin "list.__iadd__" ⟨[← newList [], .ref l], []⟩)) _ _ s
  refine wpAny_bind (wpAny_newList (wpAny_pure ⟨Code.quiet_builtin _ (by decide +kernel), codeAny_builtin entry_list_iadd' ?_⟩))
  show wpAny _ _ (Builtin.List.listExtendWith (.ref s.heap.objs.size) (.ref l) (.ref s.heap.objs.size)) _ _ { s with heap := s.heap.push (seqObj "list" #[] 0) }
  unfold Builtin.List.listExtendWith
  have ho' : (s.heap.push (seqObj "list" #[] 0)).get? l = some o := Heap.get?_push_of_some _ ho
  refine wpAny_bind (wpAny_typeOf (T := "tuple") ⟨o, ho', hc⟩ ?_)
  have ht : (Value.type "tuple" == Value.type "tuple") = true := by rfl
  rw [if_pos (by rw [ht]; simp)]
  refine wpAny_bind (listItems_at ho' hd ?_)
  refine wpAny_bind (listItems_at (xs := #[]) (n := 0) (Heap.get?_push_size _ rfl) rfl ?_)
  rw [if_neg (by simp)]
  refine wpAny_bind (listUpdate_at (xs := #[]) (n := 0) (Heap.get?_push_size _ rfl) rfl ?_ (Nat.zero_le _) (by show (#[] ++ vs.toArray).size ≤ sizeLine + 1; simp only [Array.size_append, List.size_toArray, List.length_nil]; omega))
  refine wpAny_pure ?_
  show wpAny (model X.prog X.w) A (do
      let o ← load s.heap.objs.size
      match o.data with
      | .seq xs _ => pure xs.toList
      | _ => unsupported "internal:collect") Q E { s with heap := (s.heap.push (seqObj "list" #[] 0)).update s.heap.objs.size (Obj.mapSeq (· ++ vs.toArray)) }
  refine wpAny_bind (wpAny_load (get?_update_seq (Heap.get?_push_size _ rfl) _) ?_)
  show wpAny _ _ (pure ((#[] : Array Value) ++ vs.toArray).toList) Q E _
  rw [show ((#[] : Array Value) ++ vs.toArray).toList = vs by simp]
  exact wpAny_pure h
/-- sorted(l, key=f) where l is a tuple of ints -/
theorem srt_call {l fa : Addr} {Q : Value → Shared → Prop} (I : Inv X pins σ H s) (S : Sub T lk G H) (hl : H l = some (.tup (ns.map .int))) (hz : ns.length ≤ 1000) (turn : Turn X A.in1.in1 pins σ T lk G H r ns (.ref fa))
    (h : ∀ s' G' H' D, Inv X pins σ H' s' → Ext T lk G H G' H' → G' D = none → H D = none → H' D = some (.lst ((srtK r ns).map .int)) → Q (.ref D) s') :
    wpAny (model X.prog X.w) A (call (.builtin "sorted") [.ref l] [(Str.ofString "key", .ref fa)]) Q E s := by
  obtain ⟨z, its, hv, ht⟩ := I.hok l _ hl
  have hil : its.length = ns.length := by
    have q := hv.length
    rw [List.length_map] at q
    exact q.symm
  have hiz : its.length ≤ sizeLine := by rw [sizeLine_eq]; omega
  refine call_function_entry_kw kind_sorted plain_sorted entry_sorted (ksk_s1 _ _) ?_
  unfold Builtin.«sorted»
  refine wpAny_bind (m := checkCount "sorted" 1 1 _) (wpAny_pure ?_)
  refine wpAny_bind (collect_tup (X := X) ht ?_ hiz)
  refine wpAny_bind (wpAny_newList ?_ hiz)
  have I1 := I.kept (t' := s.toks) (h' := (s.heap.push (seqObj "list" #[] 0)).update s.heap.objs.size (Obj.mapSeq (· ++ its.toArray))) fun b o q => by
    rw [Heap.get?_update_ne _ _ _ _ (Nat.ne_of_lt (Heap.lt_size q))]
    exact Heap.get?_push_of_some _ q
  have hsz : ((s.heap.push (seqObj "list" #[] 0)).update s.heap.objs.size (Obj.mapSeq (· ++ its.toArray))).objs.size = s.heap.objs.size + 1 := by
    rw [Heap.size_update, size_push']
  have I2 := I1.lnew (its := its) (t' := s.toks) hv (by rw [List.length_map, sizeLine_eq]; omega)
  have hD : H ((s.heap.push (seqObj "list" #[] 0)).update s.heap.objs.size (Obj.mapSeq (· ++ its.toArray))).objs.size = none := I.hok.fresh (by rw [hsz]; exact Nat.le_succ _)
  have gD := S.fresh hD
  have hoL : (((s.heap.push (seqObj "list" #[] 0)).update s.heap.objs.size (Obj.mapSeq (· ++ its.toArray))).push (seqObj "list" its.toArray 0)).get? ((s.heap.push (seqObj "list" #[] 0)).update s.heap.objs.size (Obj.mapSeq (· ++ its.toArray))).objs.size = some (seqObj "list" its.toArray 0) := Heap.get?_push_size _ rfl
  refine wpAny_bind (wpAny_holding (wpAny_call_entry_kw slot_list_sort ⟨_, hoL, rfl⟩ entry_list_sort ?body (ksk_l1 _ _)))
  case body =>
    rw [ksk_t1]
    refine srt_tree I2 (Ext.off S hD) upd_same hD (fun b hb => I.hok.fresh ?_) gD hz turn fun s' G' H' I3 E3 g3 h3 => ⟨_, rfl, ?_⟩
    · refine Nat.le_trans ?_ hb
      show _ ≤ (Heap.push _ _).objs.size
      rw [size_push', hsz]
      omega
    exact wpAny_pure ⟨_, rfl, h s' G' H' _ I3 E3 g3 hD h3⟩
end
end GN

/-! the rule for sorted(lot, key=lambda), in_order -/
namespace GN
open PySem PySem.Spec PyProof.Rows L2

/-- the maker of the lambda: its code object and table -/
structure Maker (mg : Str → Option Value) (base : Heap) (T : Tb) (q : Str) (c P : Addr) : Prop where
  tb : LamX.TabB base mg c P
  inT : (P, q) ∈ T
  un : ∀ p ∈ T, p.1 = P → p.2 = q
theorem Ext.adopt2 {T : Tb} {lk : Lk} {G H G' H' : Hp} {p : Addr} {o : HO} (E : Ext T lk G H G' H') (n : H p = none ∨ ∃ ps, H p = some (.tbl ps)) (h : H' p = some o) (k : Kt o) (g : G' p = none) : Ext T lk G H (upd G' p o) H' := by
  refine ⟨E.le, ⟨E.sub.tb, fun b u e => ?_, fun b ob z => ?_⟩, fun b u e => rep_upd g b u (E.gg b u e), fun b u e q => ?_⟩
  · by_cases hb : b = p
    · subst hb
      rw [upd_same] at e
      cases e
      exact Has.mk k h
    · rw [upd_ne hb] at e
      exact E.sub.has b u e
  · obtain ⟨ws, e⟩ := E.sub.lck b ob z
    exact ⟨ws, rep_upd g b _ e⟩
  · have nb : b ≠ p := fun z => by
      subst z
      rcases n with n | ⟨ps, n⟩
      · rw [n] at e; cases e
      · rw [n] at e; cases e; exact q _ rfl
    rw [upd_ne nb]
    exact E.fr b u e q
section
variable {X : Cx} {T : Tb} {lk : Lk} {ρ : List Sl} {e body : Expr} {params : Arguments} {scope : Scope} {lpos kpos p pos : Pos} {k : Nat} {nm : Str} {ns : List Int} {r : Int → Int} {c P : Addr}
theorem ed_sortKey (M : Maker X.mg X.base T (X.env.qual ++ "<lambda>") c P) (hcode : X.env.code = .ref c) (hm : X.mg "sorted" = none) (ha : PE X e (tD T lk ρ (.tuple (ns.map .int)))) (hz : ns.length ≤ 1000) (L : LamS1 X.env.scope scope nm) (hn : nm ∉ X.N) (hr : Room (k + 1) X.A.in1.in1)
    (hbind : ∀ (q : Str) (cl : List (Str × Addr)) (pm cv ctv u : Value), bindArgs (PySem.W.kla_fn "<lambda>" q params body scope cl pm cv ctv) ⟨[u], []⟩ = pure [(nm, u)])
    (hbody : ∀ n ∈ ns, ∀ (s : Shared) (H : Hp) (f c' : Addr), Room k (X.A.in1.in1.deeper (LamX.lamEnv X scope s.heap.objs.size f c')) → PE (lamCx1 X X.A.in1.in1 X.stack s H scope f c' nm) body (tD T lk (ρ ++ [.d (.int n)]) (eK r n)))
    (hdef : defaultsOf params X.env = ([], []) := by rfl) (hg : Gl X "sorted" := by rfl) (he : starEach [e] X.env = (false, eval e X.env) :: starEach [] X.env := by rfl) (he2 : backTo pos (starEach [e] X.env) = (false, eval e X.env) :: backTo pos (starEach [] X.env) := by rfl) (hpl : (backTo pos (starEach [e] X.env)).any (·.1) = false := by rfl)
    (hks : ∀ v : Value, ((backToKw pos (keywordEach [⟨some "key", .Lambda params body scope lpos, kpos⟩] X.env)).filterMap (·.1)).zip [v] = [(Str.ofString "key", v)] := by intro v; rfl)
    (hall : (backToKw pos (keywordEach [⟨some "key", .Lambda params body scope lpos, kpos⟩] X.env)).all (·.1.isSome) = true := by rfl) (hnone : (backToKw pos (keywordEach [⟨some "key", .Lambda params body scope lpos, kpos⟩] X.env)).any (·.1.isNone) = false := by rfl) :
    PE X (.Call (.Name "sorted" p) [e] [⟨some "key", .Lambda params body scope lpos, kpos⟩] pos) (tD T lk ρ (.list ((srtK r ns).map .int))) := by
  refine ⟨fun pins s σ H Q I h => ?_⟩
  obtain ⟨G, S, R, q⟩ := h
  have PA1 : PA X [e] (tA T lk ρ [.tuple (ns.map .int)]) := ea_cons ha ea_nil he
  refine wpAny_Call_Name_kw (ld_blt I hg hm (by rfl) ?_)
  refine PyProof.Rows.callWith_kw (thn (PA1.run pos pins s σ H (fun vs H1 => ∃ G1, Ext T lk G H G1 H1 ∧ reps G1 [.tuple (ns.map .int)] vs) I ⟨G, S, R, fun vs G' H' E r => ⟨G', E, r⟩⟩) fun us s1 ⟨vs, H1, I1, r1, G1, E1, q1⟩ => ?_) he2 hpl hall hnone
  obtain ⟨v, rfl, rv⟩ := one_of q1
  obtain ⟨u, rfl, ru⟩ := r1.one
  obtain ⟨l, ws, rfl, hl, rw'⟩ := rv
  rw [reps_ints_eq rw'] at hl
  obtain rfl : u = .ref l := ru
  show wpAny _ _ (evalAll ((backToKw pos (keywordEach [⟨some "key", .Lambda params body scope lpos, kpos⟩] X.env)).map (·.2))) _ _ _
  have hT := E1.sub.tb
  show wpAny _ _ (evalAll ((do let v ← eval (.Lambda params body scope lpos) X.env; standAt pos; pure v) :: [])) _ _ _
  refine PySem.wpAny_evalAll_cons (wpAny_bind ?_)
  refine LamX.lam_make2 I1 M.tb hcode M.inT M.un hT hdef (L.has I1.ok) fun fa c' pm ctv H2 s2 I2 eN T2 hf hfn hfr hco => ?_
  refine wpAny_bind (wpAny_standAt (wpAny_pure (PySem.wpAny_evalAll_nil ?_)))
  rw [hks]
  have S2 : Sub T lk G1 H2 := ⟨T2, fun b o e => Has.move (E1.sub.has b o e) fun u q n => eN b u q n, E1.sub.lck⟩
  have E2 : Ext T lk G1 H1 G1 H2 := ⟨fun b o e n => eN b o e n, S2, fun _ _ e => e, fun _ _ _ _ => rfl⟩
  have nL : fa ≠ X.env.locals := fun z => by
    obtain ⟨m, ⟨o, es, ep, ho, hd, _⟩, _⟩ := I2.loc
    rw [← z, hf] at ho
    cases ho
    cases hd
  have nF : fa ∉ X.fs := fun z => by
    rcases I2.ok.stk with e | ⟨e, _⟩
    · exact hfr (by rw [e]; exact z)
    · refine hfr ?_
      rw [e]
      obtain ⟨b, hb, hb2⟩ := List.mem_filterMap.mp z
      exact List.mem_filterMap.mpr ⟨b, List.mem_cons_of_mem _ hb, hb2⟩
  have I3 : Inv X ((fa, PySem.W.kla_obj "<lambda>" (X.env.qual ++ "<lambda>") params body scope (cloFrom X.env.cells scope.names []) pm c' ctv) :: pins) σ H2 s2 := I2.pins_of fun q hq => by
    rcases List.mem_cons.mp hq with rfl | hq
    · exact ⟨hf, hfn, nL, nF, fun _ z => nomatch z⟩
    · exact I2.pin q (List.mem_append_right _ hq)
  have hl2 : H2 l = some (.tup (ns.map V.int)) := S2.tup hl
  refine srt_call (r := r) I3 S2 hl2 hz (fun n hn' u' G' H' s' ru' I' E' => ?_) fun s' G' H' D I' E' g' n' h' => ?_
  · have hf' := (I'.pin _ (List.mem_append_right _ List.mem_cons_self)).1
    have hc' := E'.le _ _ hco LamX.codeO_ne
    refine key_call (k := k) (t := tD T lk (ρ ++ [.d (.int n)]) (eK r n)) I' L hn rfl hr hf' hc' (hbind _ _ _ _ _ _) ru' (fun s H hr => hbody n hn' s H fa c' hr) ?_
    exact ⟨G', E'.sub, ((R.mono E1.gg).mono E'.gg).snoc (v := .int n) rfl, fun v G'' H'' E r => ⟨G'', E, r⟩⟩
  · have I4 : Inv X pins σ H' s' := I'.pins_of fun q hq => I'.pin q (List.mem_append_right _ (List.mem_cons_of_mem _ hq))
    have E3 := ((E1.trans E2).trans E')
    exact ⟨.ref D, H', I4, rfl, q _ _ _ (E3.adopt2 ((E1.trans E2).back S n') h' True.intro g') ⟨D, _, rfl, upd_same, reps_ints _⟩⟩
end

/-! ### in_order -/
section
variable {P : Program} {w : World} {K : PySem.W.Frag} {mg : Str → Option Value} {base : Heap} {T : Tb} {al : Bool} {rel : List PyData → PyData → Prop} {k : Nat} {x : Str}
/-- a def whose code object is known -/
theorem data_fnC {qual : Str} {st : Stmt} {f : Addr} {fd : FuncData} {N ps : List Str} {cd : Value} (F : Fun K x qual st f fd) (hcd : fd.code = cd) (S : FnScope N ps (defScope st)) (len : ∀ ds d, rel ds d → ds.length = ps.length)
    (body : ∀ (A : Around) (outer : List Env) (s : Shared) (H : Hp) (E : XK) (lk : Lk) (ds : List PyData) (d : PyData), (al = true ∨ lk = none) → Room k (A.deeper (envOfC qual (defScope st) s.heap.objs.size f cd)) → rel ds d →
      PSs (cxOf CX0 P w K mg base N qual (defScope st) f cd A outer s H E).nox (defBody st) (tS T lk (startS N.length ds) (.rt d))) :
    FnOk P w K mg base CX0 (k + 1) f fd ps (spD T al rel) := by
  obtain ⟨oc, od, kV, doc, pm, an, cdv, ct, osl, rfl, lk, hc⟩ := F.ex
  cases (show cdv = cd from hcd)
  refine fn_of lk hc S (fun vs H Q E h => ?_) fun A outer s H vs Q E hr h => ?_
  · obtain ⟨lk, G, ds, d, _, _, r, hrel, _⟩ := h
    rw [reps_length r]
    exact len ds d hrel
  · obtain ⟨lk, G, ds, d, hal, Sb, r, hrel, q⟩ := h
    exact ⟨_, (body A outer s H E lk ds d hal hr hrel).nox, G, Sb, Rel.start r, q⟩
/-- the def that makes the lambda -/
structure Lam (K : PySem.W.Frag) (mg : Str → Option Value) (base : Heap) (T : Tb) : Prop where
  ex : ∃ (f : Addr) (fd : FuncData) (c Q : Addr), Fun K "in_order" "in_order" s_in_order f fd ∧ mg "in_order" = some (.ref f) ∧ Binds K fd ["own", "lot", "axis"] [] ∧ fd.code = .ref c ∧ Maker mg base T ("in_order" ++ ".<locals>." ++ "<lambda>") c Q
/-- the names of the lot by rank -/
def ordC (C : Ch) (ax : Nat) (L : List Nat) : List Nat := (srtK (fun n => rk C ax n.toNat) (L.map fun (i : Nat) => (i : Int))).map Int.toNat
theorem ordC_ints (C : Ch) (ax : Nat) (L : List Nat) : (srtK (fun n => rk C ax n.toNat) (L.map fun (i : Nat) => (i : Int))).map PyData.int = (ordC C ax L).map eI := by
  unfold ordC
  rw [List.map_map]
  refine List.map_congr_left fun n hn => ?_
  have q := (srtK_perm _ _).mem_iff.mp hn
  obtain ⟨i, _, rfl⟩ := List.mem_map.mp q
  rfl
def rOrd (ds : List PyData) (d : PyData) : Prop := ∃ (k : Bool) (C : Ch) (ax : Nat) (L : List Nat), ds = [eC k C, eL true L, eI ax] ∧ ax ≤ 1 ∧ L.length ≤ 1000 ∧ (∀ i ∈ L, i < C.length) ∧ d = eL false (ordC C ax L)
theorem c_in_order (Z : Txt K mg) (M : Lam K mg base T) : Cal P w K mg base T 5 true "in_order" rOrd := by
  obtain ⟨f, fd, c, Q, F, hm, hb, hc, mk⟩ := M.ex
  refine ⟨f, fd, _, hm, F.kp, hb, ?_⟩
  refine data_fnC F hc sc_in_order (fun ds d h => by obtain ⟨k, C, ax, L, rfl, _⟩ := h; rfl) fun A outer s H E lk ds d hal hr h => ?_
  obtain ⟨k, C, ax, L, rfl, h1, h2, h3, rfl⟩ := h
  rw [show eL false (ordC C ax L) = PyData.list ((srtK (fun n => rk C ax n.toNat) (L.map fun (i : Nat) => (i : Int))).map .int) by rw [ordC_ints]; rfl]
  rw [eL_ints]
  refine ess_one (es_ret (ed_sortKey (k := 1) (nm := "name") mk rfl Z.n_sorted (ed_var 1) ?_ (lamS1_by (sc := defScope s_in_order) (by decide +kernel)) (show ("name" : Str) ∉ N_in_order by decide +kernel) ?_ (fun q cl pm cv ctv u => rfl) fun n hn s2 H2 f2 c2 hr2 => ?_))
  · rw [List.length_map]
    exact h2
  · exact (Room.in1 hr).in1
  · obtain ⟨i, hi, rfl⟩ := List.mem_map.mp hn
    refine ed_call (c_rank_of Z) hr2 (ea_cons (ed_var 0) (ea2 (ed_var 2) (ed_var 3))) ⟨k, C, ax, i, rfl, h1, h3 i hi, ?_⟩
    rfl
end
end GN

/-! the greatest of a list of pairs -/
namespace PySem
section
variable {prog : Program} {w : World} {A : Around} {R : Result → Shared → Prop} {I S : Addr} {fp wr : List Addr} {n : Nat} {P : Nat → Value → Prop} {St : Nat → Heap → Prop} {Kh : Heap → Prop} {bt : Nat → Nat → Bool}
/-- the comparison where the heap holds what it held -/
def GtAt (prog : Program) (w : World) (A : Around) (Kh : Heap → Prop) (P : Nat → Value → Prop) (bt : Nat → Nat → Bool) : Prop :=
  ∀ i j vi vj (s : Shared) (Q : Value → Shared → Prop) (E : Value → Shared → Prop), Kh s.heap → P i vi → P j vj → Q (.bool (bt i j)) s → wpAny (model prog w) A (richCompare .Gt vi vj) Q E s
def KpAt (wr : List Addr) (S : Addr) (Kh : Heap → Prop) : Prop := ∀ h h', Kh h → (∀ b o, b ∉ wr → b ≠ S → h.get? b = some o → h'.get? b = some o) → Kh h'
theorem mx_loop (W : Walks prog w A.in1 I fp wr n P St) (hK : KpAt wr S Kh) (hcmp : GtAt prog w A.in1 Kh P bt) (hSf : S ∉ fp) :
    ∀ (k j : Nat) (s : Shared) (vb : Value) (c : Nat), n - (j + 1) = k → j + 1 ≤ n → Kh s.heap → St (j + 1) s.heap → P (argBest bt j) vb → s.heap.get? S = some { cls := .type "list", dict := none, data := .seq #[vb, vb] c, slots := #[] } →
    (∀ v h' tk, P (argBest bt (n - 1)) v → (∀ b o, b ∉ wr → b ≠ S → s.heap.get? b = some o → h'.get? b = some o) → R (.ok (.ret v)) { s with heap := h', toks := tk }) →
    codeAny (model prog w) A (.builtin "max.loop" ⟨[.ref I, .none, .ref S], []⟩) R s := by
  have hSw : S ∉ wr := fun h => hSf (W.sub _ h)
  have hname : (toString "max" ++ toString ".loop" : String) = "max.loop" := by decide
  intro k
  induction k with
  | zero =>
    intro j s vb c hk hj hh hst hPb hS hR
    have hin : j + 1 = n := by omega
    refine codeAny_builtin F.entry_max_loop ?_
    rw [Around.under_plainId F.plain_max_loop _]
    show wpAny _ A.in1 (seqItems? (.ref S) >>= _) _ _ s
    refine wpAny_bind (wpAny_seqItems hS rfl ?_)
    show wpAny _ A.in1 (tryCatch (pyNext (.ref I)) _ >>= _) _ _ s
    refine wpAny_bind (wpAny_tryCatch (W.done s _ _ (hin ▸ hst) fun h' tk hk' => ?_))
    have hS' := hk' S _ hSw hS
    show wpAny _ A.in1 (updateSeq S (fun _ => #[]) >>= _) _ _ _
    refine wpAny_bind ?_
    refine wpAny_updateSeq hS' rfl (wpAny_bind (wpAny_letGo (wpAny_pure ?_)))
    exact hR vb _ tk (by rw [← hin]; exact hPb) fun b o hbw hbS e => (Heap.get?_update_other _ _ (Ne.symm hbS)).trans (hk' b o hbw e)
  | succ k ih =>
    intro j s vb c hk hj hh hst hPb hS hR
    have hlt : j + 1 < n := by omega
    refine codeAny_builtin F.entry_max_loop ?_
    rw [Around.under_plainId F.plain_max_loop _]
    show wpAny _ A.in1 (seqItems? (.ref S) >>= _) _ _ s
    refine wpAny_bind (wpAny_seqItems hS rfl ?_)
    show wpAny _ A.in1 (tryCatch (pyNext (.ref I)) _ >>= _) _ _ s
    refine wpAny_bind (wpAny_tryCatch (W.item (j + 1) s _ _ hlt hst fun v h' tk hP hst' hk' => ?_))
    have hS' := hk' S _ hSw hS
    have hh' := hK _ _ hh fun b o x _ e => hk' b o x e
    show wpAny _ A.in1 (tryCatch (holding [v, v] (richCompare .Gt v vb >>= _)) _ >>= _) _ _ _
    refine wpAny_bind (wpAny_tryCatch (wpAny_holding (wpAny_bind (hcmp (j + 1) (argBest bt j) v vb _ _ _ hh' hP hPb ?_))))
    refine wpAny_bind (wpAny_holding (wpAny_truthy_bool ?_))
    refine wpAny_bind (wpAny_letGo (wpAny_pure ?_))
    cases hb : bt (j + 1) (argBest bt j) with
    | true =>
      simp only [if_true]
      refine wpAny_bind ?_
      refine wpAny_updateSeq hS' rfl (wpAny_bind (wpAny_letGo ?_))
      rw [hname]
      refine wpAny_pure ⟨plainId_quiet F.plain_max_loop _, ih (j + 1) _ v _ (by omega) hlt (hK _ _ hh' fun b o _ x e => (Heap.get?_update_other _ _ (Ne.symm x)).trans e) (W.frame _ _ _ hst' fun b hbf o e => ?_) (by simp only [argBest, hb, if_true]; exact hP) (Heap.get?_update_self _ hS' rfl)
        fun v' h'' tk'' hP' hk'' => ?_⟩
      · exact (Heap.get?_update_other _ _ (fun h : S = b => hSf (by rw [h]; exact hbf))).trans e
      · exact hR v' h'' tk'' hP' fun b o hbw hbS e => hk'' b o hbw hbS ((Heap.get?_update_other _ _ (Ne.symm hbS)).trans (hk' b o hbw e))
    | false =>
      simp only [Bool.false_eq_true, if_false]
      refine wpAny_bind (wpAny_letGo ?_)
      rw [hname]
      refine wpAny_pure ⟨plainId_quiet F.plain_max_loop _, ih (j + 1) _ vb c (by omega) hlt hh' hst' (by simp only [argBest, hb, Bool.false_eq_true, if_false]; exact hPb) hS' fun v' h'' tk'' hP' hk'' => ?_⟩
      exact hR v' h'' tk'' hP' fun b o hbw hbS e => hk'' b o hbw hbS (hk' b o hbw e)
theorem mx_first (W : Walks prog w A.in1 I fp wr n P St) (hK : KpAt wr S Kh) (hcmp : GtAt prog w A.in1 Kh P bt) (hSf : S ∉ fp) (hn : 0 < n) {s : Shared} {c : Nat} (hh : Kh s.heap) (hst : St 0 s.heap)
    (hS : s.heap.get? S = some { cls := .type "list", dict := none, data := .seq #[] c, slots := #[] })
    (hR : ∀ v h' tk, P (argBest bt (n - 1)) v → (∀ b o, b ∉ wr → b ≠ S → s.heap.get? b = some o → h'.get? b = some o) → R (.ok (.ret v)) { s with heap := h', toks := tk }) :
    codeAny (model prog w) A (.builtin "max.loop" ⟨[.ref I, .none, .ref S], []⟩) R s := by
  have hSw : S ∉ wr := fun h => hSf (W.sub _ h)
  have hname : (toString "max" ++ toString ".loop" : String) = "max.loop" := by decide
  refine codeAny_builtin F.entry_max_loop ?_
  rw [Around.under_plainId F.plain_max_loop _]
  show wpAny _ A.in1 (seqItems? (.ref S) >>= _) _ _ s
  refine wpAny_bind (wpAny_seqItems hS rfl ?_)
  show wpAny _ A.in1 (tryCatch (pyNext (.ref I)) _ >>= _) _ _ s
  refine wpAny_bind (wpAny_tryCatch (W.item 0 s _ _ hn hst fun v h' tk hP hst' hk' => ?_))
  have hS' := hk' S _ hSw hS
  have hh' := hK _ _ hh fun b o x _ e => hk' b o x e
  show wpAny _ A.in1 (updateSeq S (fun _ => #[v, v]) >>= _) _ _ _
  refine wpAny_bind ?_
  refine wpAny_updateSeq hS' rfl ?_
  rw [hname]
  refine wpAny_pure ⟨plainId_quiet F.plain_max_loop _, mx_loop W hK hcmp hSf _ 0 _ v _ rfl hn (hK _ _ hh' fun b o _ x e => (Heap.get?_update_other _ _ (Ne.symm x)).trans e) (W.frame _ _ _ hst' fun b hbf o e => ?_) hP (Heap.get?_update_self _ hS' rfl) fun v' h'' tk'' hP' hk'' => ?_⟩
  · exact (Heap.get?_update_other _ _ (fun h : S = b => hSf (by rw [h]; exact hbf))).trans e
  · exact hR v' h'' tk'' hP' fun b o hbw hbS e => hk'' b o hbw hbS ((Heap.get?_update_other _ _ (Ne.symm hbS)).trans (hk' b o hbw e))
end
section
variable {prog : Program} {w : World} {A : Around} {E : Value → Shared → Prop} {s : Shared}
theorem mx_call {l : Addr} {xs : Array Value} {bt : Nat → Nat → Bool} {Q : Value → Shared → Prop} (hh : A.handled = none) (hl : s.heap.IsList l xs) (hne : 0 < xs.size)
    (hcmp : ∀ h, (∀ b o, s.heap.get? b = some o → h.get? b = some o) → ∀ i j vi vj (s' : Shared) (Q : Value → Shared → Prop) (E : Value → Shared → Prop), s'.heap = h → xs[i]? = some vi → xs[j]? = some vj → Q (.bool (bt i j)) s' → wpAny (model prog w) A.in1 (richCompare .Gt vi vj) Q E s')
    (h : ∀ v h' tk, xs[argBest bt (xs.size - 1)]? = some v → (∀ b o, s.heap.get? b = some o → h'.get? b = some o) → Q v { s with heap := h', toks := tk }) :
    wpAny (model prog w) A (call (.builtin "max") [.ref l]) Q E s := by
  have hname : (toString "max" ++ toString ".loop" : String) = "max.loop" := by decide
  have hlt : l < s.heap.objs.size := by obtain ⟨_, e, _⟩ := hl; exact Heap.lt_size e
  refine call_function_tree F.kind_max F.plain_max F.entry_max (F.args_max1 _) ?_
  show wpAny _ A.in1 (Builtin.Builtins.bindParams "max" ["key", "default"] 0 ⟨[], []⟩ >>= _) _ _ s
  refine wpAny_bind (wpAny_of_eq (show Builtin.Builtins.bindParams "max" ["key", "default"] 0 ⟨[], []⟩ = pure [none, none] from rfl) ?_)
  refine wpAny_bind (wpAny_pure ?_)
  refine wpAny_bind (wpAny_pyIter_list hl ?_)
  refine wpAny_bind (wpAny_newObj_type ?_)
  have W : Walks prog w A.in1 s.heap.objs.size [s.heap.objs.size, l] [s.heap.objs.size] xs.size (fun i v => xs[i]? = some v) (fun i h => h.IsListIter s.heap.objs.size l i ∧ h.IsList l xs) := Walks.list (A := A.in1) hh _ l (Nat.ne_of_lt hlt) xs
  have e2 : (s.heap.push { cls := .type "list_iterator", data := .fields #[.ref l, .int 0 0] }).objs.size = s.heap.objs.size + 1 := by rw [Heap.size_push]
  have hSf : (s.heap.push { cls := .type "list_iterator", data := .fields #[.ref l, .int 0 0] }).objs.size ∉ [s.heap.objs.size, l] := fun hm => by
    rw [e2] at hm
    rcases List.mem_cons.mp hm with e | hm
    · omega
    · have := List.mem_singleton.mp hm
      exact absurd hlt (by rw [← this]; exact Nat.not_lt.mpr (Nat.le_succ _))
  have base : ∀ b o, s.heap.get? b = some o → ((s.heap.push { cls := .type "list_iterator", data := .fields #[.ref l, .int 0 0] }).push { cls := .type "list", dict := none, data := .seq #[] 0, slots := #[] }).get? b = some o := fun b o e => Heap.get?_push_of_some _ (Heap.get?_push_of_some _ e)
  rw [hname]
  refine wpAny_pure ⟨plainId_quiet F.plain_max_loop _, mx_first (Kh := fun h => ∀ b o, s.heap.get? b = some o → h.get? b = some o) (bt := bt) W (fun h h' a x b o e => ?_) (fun i j vi vj s' Q E k hi hj hq => hcmp s'.heap k i j vi vj s' Q E rfl hi hj hq) hSf hne base ?_ (Heap.get?_push_size _ rfl) fun v h' tk hP hk => ?_⟩
  · have hb : b < s.heap.objs.size := Heap.lt_size e
    refine x b o (fun z => ?_) (by rw [e2]; exact Nat.ne_of_lt (Nat.lt_succ_of_lt hb)) (a b o e)
    rw [List.mem_singleton.mp z] at hb
    exact Nat.lt_irrefl _ hb
  · exact ⟨⟨_, Heap.get?_push_of_some _ (Heap.get?_push_size _ rfl), rfl, rfl⟩, (hl.push _).push _⟩
  · refine h v h' tk hP fun b o e => ?_
    have hb : b < s.heap.objs.size := Heap.lt_size e
    refine hk b o (fun z => ?_) (by rw [e2]; exact Nat.ne_of_lt (Nat.lt_succ_of_lt hb)) (base b o e)
    rw [List.mem_singleton.mp z] at hb
    exact Nat.lt_irrefl _ hb
end
end PySem

/-! the greatest of a list of pairs, as data -/
namespace GN
open PySem PySem.Spec PyProof.Rows L2

def maxP : List (Int × Int) → Int × Int
  | [] => (0, 0)
  | p :: l => l.foldl (fun b q => if SrtO.lexB b q then q else b) p
theorem lexB_trans {a b c : Int × Int} (h1 : SrtO.lexB b a = false) (h2 : SrtO.lexB c b = false) : SrtO.lexB c a = false := by
  rw [SrtO.lexB_no] at *
  omega
theorem foldl_max : ∀ (l : List (Int × Int)) (p : Int × Int), (l.foldl (fun b q => if SrtO.lexB b q then q else b) p) ∈ p :: l ∧ ∀ q ∈ p :: l, SrtO.lexB (l.foldl (fun b q => if SrtO.lexB b q then q else b) p) q = false
  | [], p => ⟨List.mem_cons_self, fun q hq => by
    rw [List.mem_singleton.mp hq]
    show SrtO.lexB p p = false
    rw [SrtO.lexB_no]
    omega⟩
  | x :: l, p => by
    rw [List.foldl_cons]
    by_cases h : SrtO.lexB p x = true
    · rw [if_pos h]
      obtain ⟨h1, h2⟩ := foldl_max l x
      refine ⟨List.mem_cons_of_mem _ h1, fun q hq => ?_⟩
      rcases List.mem_cons.mp hq with rfl | hq
      · refine lexB_trans ?_ (h2 x List.mem_cons_self)
        rw [SrtO.lexB_iff] at h
        rw [SrtO.lexB_no]
        omega
      · exact h2 q hq
    · rw [if_neg h]
      obtain ⟨h1, h2⟩ := foldl_max l p
      refine ⟨?_, fun q hq => ?_⟩
      · rcases List.mem_cons.mp h1 with e | h1
        · rw [e]
          exact List.mem_cons_self
        · exact List.mem_cons_of_mem _ (List.mem_cons_of_mem _ h1)
      rcases List.mem_cons.mp hq with rfl | hq
      · exact h2 q List.mem_cons_self
      rcases List.mem_cons.mp hq with rfl | hq
      · exact lexB_trans (by simpa using h) (h2 p List.mem_cons_self)
      · exact h2 q (List.mem_cons_of_mem _ hq)
theorem maxP_mem {l : List (Int × Int)} (h : l ≠ []) : maxP l ∈ l := by
  cases l with
  | nil => exact absurd rfl h
  | cons p l => exact (foldl_max l p).1
theorem maxP_top {l : List (Int × Int)} : ∀ q ∈ l, SrtO.lexB (maxP l) q = false := by
  cases l with
  | nil => exact fun q hq => by simp at hq
  | cons p l => exact (foldl_max l p).2
theorem maxP_uniq {l : List (Int × Int)} {p : Int × Int} (h : p ∈ l) (h2 : ∀ q ∈ l, SrtO.lexB p q = false) : p = maxP l := by
  have a := h2 _ (maxP_mem (List.ne_nil_of_mem h))
  have b := maxP_top p h
  rw [SrtO.lexB_no] at a b
  have e1 : p.1 = (maxP l).1 := by omega
  have e2 : p.2 = (maxP l).2 := by omega
  exact Prod.ext e1 e2
def btP (ps : List (Int × Int)) (i j : Nat) : Bool := SrtO.lexB (ps.getD j (0, 0)) (ps.getD i (0, 0))
theorem argBest_top (ps : List (Int × Int)) : ∀ k, argBest (btP ps) k ≤ k ∧ ∀ j ≤ k, SrtO.lexB (ps.getD (argBest (btP ps) k) (0, 0)) (ps.getD j (0, 0)) = false
  | 0 => ⟨Nat.le_refl _, fun j hj => by
    obtain rfl : j = 0 := by omega
    show SrtO.lexB (ps.getD 0 (0, 0)) (ps.getD 0 (0, 0)) = false
    rw [SrtO.lexB_no]
    omega⟩
  | k + 1 => by
    obtain ⟨h1, h2⟩ := argBest_top ps k
    unfold argBest
    by_cases h : btP ps (k + 1) (argBest (btP ps) k) = true
    · rw [if_pos h]
      refine ⟨Nat.le_refl _, fun j hj => ?_⟩
      unfold btP at h
      by_cases e : j = k + 1
      · subst e
        rw [SrtO.lexB_no]
        omega
      · refine lexB_trans (h2 j (by omega)) ?_
        rw [SrtO.lexB_iff] at h
        rw [SrtO.lexB_no]
        unfold btP
        omega
    · rw [if_neg h]
      refine ⟨by omega, fun j hj => ?_⟩
      by_cases e : j = k + 1
      · subst e
        cases q : SrtO.lexB (ps.getD (argBest (btP ps) k) (0, 0)) (ps.getD (k + 1) (0, 0)) with
        | false => rfl
        | true => exact absurd q h
      · exact h2 j (by omega)
theorem gt_pair {prog : Program} {w : World} {A : Around} {s : Shared} {u v : Value} {p q : Int × Int} {Q : Value → Shared → Prop} {E : Value → Shared → Prop} (hu : A.units < cLine) (h1 : Srt.IsPair s.heap u p.1 p.2) (h2 : Srt.IsPair s.heap v q.1 q.2) (h : Q (.bool (SrtO.lexB q p)) s) :
    wpAny (model prog w) A (richCompare .Gt u v) Q E s := by
  obtain ⟨a, o, t, t2, n, rfl, ho, hc, hd⟩ := h1
  obtain ⟨a', o', t', t2', n', rfl, ho', hc', hd'⟩ := h2
  have R := Ob.RcOp.tuples_gt (A := A) (s := s) (l := a) (b := a') (items := #[.int p.1 t, .int p.2 t2]) (items2 := #[.int q.1 t', .int q.2 t2']) (e := fun j => if j = 0 then p.1 == q.1 else p.2 == q.2) (r := fun j => if j = 0 then decide (q.1 < p.1) else decide (q.2 < p.2))
    ⟨o, ho, hc, n, hd⟩ ⟨o', ho', hc', n', hd'⟩ hu (fun j g1 g2 => ?_) (fun j g1 g2 _ => ?_)
  · refine R prog w E Q ?_
    have e : Ob.lexAt (fun j => if j = 0 then p.1 == q.1 else p.2 == q.2) (fun j => if j = 0 then decide (q.1 < p.1) else decide (q.2 < p.2)) (decide ((#[.int p.1 t, .int p.2 t2] : Array Value).size > (#[.int q.1 t', .int q.2 t2'] : Array Value).size)) 0 (min (#[.int p.1 t, .int p.2 t2] : Array Value).size (#[.int q.1 t', .int q.2 t2'] : Array Value).size) = SrtO.lexB q p := by
      show (if (p.1 == q.1) = true then (if (p.2 == q.2) = true then decide (2 > 2) else decide (q.2 < p.2)) else decide (q.1 < p.1)) = _
      unfold SrtO.lexB
      by_cases e1 : p.1 = q.1
      · rw [if_pos (by simpa using e1), if_pos e1.symm]
        by_cases e2 : p.2 = q.2
        · rw [if_pos (by simpa using e2), e2]
          simp
        · rw [if_neg (by simpa using e2)]
      · rw [if_neg (by simpa using e1), if_neg (fun z => e1 z.symm)]
    rw [e]
    exact h
  · match j, g1 with
    | 0, _ => exact SeqAt.EqAt.int_int _ _ _ _
    | 1, _ => exact SeqAt.EqAt.int_int _ _ _ _
    | j + 2, g1 => exact absurd (show j + 2 < 2 from g1) (by omega)
  · match j, g1 with
    | 0, _ => exact Ob.RcOp.gt_int _ _ _ _
    | 1, _ => exact Ob.RcOp.gt_int _ _ _ _
    | j + 2, g1 => exact absurd (show j + 2 < 2 from g1) (by omega)
def rMaxP : List V → Hp → VK → Prop := fun vs H Q => ∃ (a : Addr) (ws : List V) (ps : List (Int × Int)), vs = [.ref a] ∧ H a = some (.lst ws) ∧ ps ≠ [] ∧ ws.length = ps.length ∧ (∀ (i : Nat) (p : Int × Int), ps[i]? = some p → ∃ q : Addr, ws[i]? = some (V.ref q) ∧ H q = some (.tup [.int p.1, .int p.2])) ∧
  ∀ (i : Nat) (w : V), ws[i]? = some w → ps[i]? = some (maxP ps) → Q w H
theorem call_maxP {X : Cx} (hc : X.calm = true) (hu : X.A.in1.units < cLine) : CallR X (.builtin "max") rMaxP := by
  intro pins s σ H vs us Q I r h
  obtain ⟨a, ws, ps, rfl, ha, hne, hl, hp, q⟩ := h
  obtain ⟨z, its, n, hv, hil, e⟩ := I.lstM ha
  rw [Vals.ref1 r]
  have hn : 0 < ps.length := List.length_pos_iff.mpr hne
  have hsz : its.toArray.size = ps.length := by rw [List.size_toArray, ← hil, hl]
  have pr : ∀ (i : Nat) (p : Int × Int), ps[i]? = some p → ∃ u, its[i]? = some u ∧ Srt.IsPair s.heap u p.1 p.2 := fun i p hi => by
    obtain ⟨qa, h1, h2⟩ := hp i p hi
    have hlt : i < its.length := by
      rw [← hil]
      exact (List.getElem?_eq_some_iff.mp h1).1
    obtain ⟨v, h3, h4⟩ := vals_at hv (List.getElem?_eq_getElem hlt)
    rw [h1] at h3
    obtain rfl := Option.some.inj h3
    refine ⟨_, List.getElem?_eq_getElem hlt, ?_⟩
    have h4 : its[i] = .ref qa := h4
    rw [h4]
    obtain ⟨_, us, hv2, o, ho, hoc, n2, hd⟩ := I.hok qa _ h2
    obtain ⟨t, t', rfl⟩ := vals_two hv2
    exact ⟨qa, o, t, t', n2, rfl, ho, hoc, hd⟩
  have at_ : ∀ i u, its.toArray[i]? = some u → Srt.IsPair s.heap u (ps.getD i (0, 0)).1 (ps.getD i (0, 0)).2 := fun i u hi => by
    have hi : its[i]? = some u := by simpa using hi
    have hlt : i < ps.length := by
      rw [← hl, hil]
      exact (List.getElem?_eq_some_iff.mp hi).1
    obtain ⟨u', h1, h2⟩ := pr i _ (List.getElem?_eq_getElem hlt)
    rw [hi] at h1
    obtain rfl := Option.some.inj h1
    rw [List.getD_eq_getElem?_getD, List.getElem?_eq_getElem hlt]
    exact h2
  refine mx_call (bt := btP ps) (I.ok.hd hc) (xs := its.toArray) ⟨_, e, rfl, n, rfl⟩ (by rw [hsz]; exact hn) (fun h keep i j vi vj s' Q E e hi hj hq => ?_) fun v h' tk hv' hk => ?_
  · subst e
    exact gt_pair hu ((at_ i vi hi).keeps fun b o x _ => keep b o x) ((at_ j vj hj).keeps fun b o x _ => keep b o x) hq
  · obtain ⟨b1, b2⟩ := argBest_top ps (its.toArray.size - 1)
    have hv' : its[argBest (btP ps) (its.toArray.size - 1)]? = some v := by simpa using hv'
    obtain ⟨w, hw, rw'⟩ := vals_at hv hv'
    have hlt : argBest (btP ps) (its.toArray.size - 1) < ps.length := by omega
    refine ⟨w, H, I.kept hk, rw', q _ w hw ?_⟩
    rw [List.getElem?_eq_getElem hlt]
    refine congrArg some (maxP_uniq (List.getElem_mem hlt) fun p hp' => ?_)
    obtain ⟨j, hj, rfl⟩ := List.getElem_of_mem hp'
    have := b2 j (by omega)
    rw [List.getD_eq_getElem?_getD, List.getD_eq_getElem?_getD, List.getElem?_eq_getElem hlt, List.getElem?_eq_getElem hj] at this
    exact this
theorem reps_pairs {T : Tb} {lk : Lk} {G H : Hp} (S : Sub T lk G H) : ∀ {ps : List (Int × Int)} {ws : List V}, reps G (ps.map eF) ws → ws.length = ps.length ∧ ∀ (i : Nat) (p : Int × Int), ps[i]? = some p → ∃ q, ws[i]? = some (.ref q) ∧ H q = some (.tup [.int p.1, .int p.2]) ∧ rep G (eF p) (.ref q)
  | [], _, h => by
    cases (show _ = _ from h)
    exact ⟨rfl, fun i p e => by simp at e⟩
  | p :: ps, _, h => by
    obtain ⟨v, us, rfl, h1, h2⟩ := h
    obtain ⟨l, ih⟩ := reps_pairs S h2
    refine ⟨by rw [List.length_cons, List.length_cons, l], fun i q e => ?_⟩
    cases i with
    | zero =>
      obtain rfl := Option.some.inj e
      have h0 := h1
      obtain ⟨a, vs, rfl, ha, hr⟩ := h1
      rw [two_ints hr] at ha
      exact ⟨a, rfl, S.tup ha, h0⟩
    | succ i => exact ih i q e
section
variable {T : Tb} {lk : Lk} {X : Cx} {ρ : List Sl} {a : Expr} {p pos : Pos}
theorem ed_maxP {ps : List (Int × Int)} (hc : X.calm = true) (hu : X.A.in1.units < cLine) (hm : X.mg "max" = none) (ha : PE X a (tD T lk ρ (.list (ps.map eF)))) (hne : ps ≠ []) (hg : Gl X "max" := by rfl) (he : starEach [a] X.env = (false, eval a X.env) :: starEach [] X.env := by rfl) : PE X (.Call (.Name "max" p) [a] [] pos) (tD T lk ρ (eF (maxP ps))) :=
  ed_callB (d := eF (maxP ps)) (call_maxP hc hu) (fun vs G H Q S r q => by
    obtain ⟨v, rfl, rr⟩ := one_of r
    obtain ⟨q1, ws, rfl, hp, r2⟩ := rr
    obtain ⟨l, ih⟩ := reps_pairs S r2
    refine ⟨q1, ws, ps, rfl, S.lst hp, hne, l, fun i p e => ?_, fun i w e1 e2 => ?_⟩
    · obtain ⟨qa, h1, h2, _⟩ := ih i p e
      exact ⟨qa, h1, h2⟩
    · obtain ⟨qa, h1, _, h3⟩ := ih i _ e2
      rw [e1] at h1
      obtain rfl := Option.some.inj h1
      exact q _ G H (.refl S) h3) hm (ea_cons ha ea_nil he) hg (by decide +kernel) (by decide) (by decide) he rfl
end
end GN

/-! an object that the code owns and writes -/
namespace GN
open PySem PySem.Spec PyProof.Rows L2

/-- what the owned object holds -/
inductive Co where
  | dk (ks : List (PyData × PyData)) | ls (ds : List PyData)
def coAt (G : Hp) : Co → HO → Prop
  | .dk ks, o => ∃ ws, o = .dK ws ∧ repk G ks ws
  | .ls ds, o => ∃ vs, o = .lst vs ∧ reps G ds vs
theorem coAt_mono {G G' : Hp} (g : ∀ b o, G b = some o → G' b = some o) : ∀ {c : Co} {o : HO}, coAt G c o → coAt G' c o
  | .dk _, _, ⟨ws, e, r⟩ => ⟨ws, e, repk_mono g _ _ r⟩
  | .ls _, _, ⟨vs, e, r⟩ => ⟨vs, e, reps_mono g _ _ r⟩
theorem coAt_kd {G : Hp} : ∀ {c : Co} {o : HO}, coAt G c o → Kd o
  | .dk _, _, ⟨ws, e, r⟩ => by subst e; exact True.intro
  | .ls _, _, ⟨vs, e, r⟩ => by subst e; exact True.intro
structure Own (T : Tb) (D : Addr) (G H : Hp) (c : Co) : Prop where
  sub : Sub T none G H
  off : G D = none
  at_ : ∃ o, H D = some o ∧ coAt G c o
/-- what grows, seen from ahead of the owned object -/
structure ExtO (T : Tb) (D : Addr) (G H G' H' : Hp) : Prop where
  ext : ∀ G0 H0, Ext T none G0 H0 G H → (∀ o, H0 D = some o → ∃ ps, o = .tbl ps) → Ext T none G0 H0 G' H'
  gg : ∀ b o, G b = some o → G' b = some o
section
variable {T : Tb} {D : Addr} {G H G' H' G1 H1 G2 H2 : Hp} {c c' : Co}
theorem ExtO.refl : ExtO T D G H G H := ⟨fun _ _ e _ => e, fun _ _ e => e⟩
theorem ExtO.trans (a : ExtO T D G H G1 H1) (b : ExtO T D G1 H1 G2 H2) : ExtO T D G H G2 H2 := ⟨fun G0 H0 e n => b.ext G0 H0 (a.ext G0 H0 e n) n, fun x o e => b.gg x o (a.gg x o e)⟩
theorem ExtO.of (E : Ext T none G H G1 H1) : ExtO T D G H G1 H1 := ⟨fun _ _ e _ => e.trans E, E.gg⟩
theorem Own.up (O : Own T D G H c) (E : Ext T none G H G1 H1) : Own T D G1 H1 c := by
  obtain ⟨o, h, k⟩ := O.at_
  exact ⟨E.sub, (E.frK h (coAt_kd k)).trans O.off, o, E.keep h (coAt_kd k), coAt_mono E.gg k⟩
/-- the owned object is written -/
theorem Own.put {o : HO} (O : Own T D G H c) (k : coAt G c' o) : Own T D G (upd H D o) c' ∧ ExtO T D G H G (upd H D o) := by
  obtain ⟨u, h, ku⟩ := O.at_
  refine ⟨⟨O.sub.mut h (coAt_kd ku) O.off, O.off, o, upd_same, k⟩, fun G0 H0 e n => ?_, fun _ _ e => e⟩
  refine ⟨fun b w e' q => ?_, O.sub.mut h (coAt_kd ku) O.off, e.gg, e.fr⟩
  have hb : b ≠ D := fun z => by
    subst z
    obtain ⟨ps, z⟩ := n _ e'
    exact q ps z
  rw [upd_ne hb]
  exact e.le b w e' q
end

section
variable {T : Tb} {X : Cx} {ρ ρ1 ρ2 ρ' : Addr → List Sl} {c c1 c2 c' : Co} {st : Stmt} {sts : List Stmt} {e a b : Expr} {es : List Expr} {pos : Pos} {d da db : PyData} {ds : List PyData}
/-- statements over an owned object -/
def tSo (T : Tb) (ρ : Addr → List Sl) (c : Co) (ρ' : Addr → List Sl) (c' : Co) : TS := fun Dn σ H => ∃ D G, Own T D G H c ∧ Rel G (ρ D) σ ∧ ∀ σ' G' H', ExtO T D G H G' H' → Own T D G' H' c' → Rel G' (ρ' D) σ' → Dn.nx σ' H'
/-- .. that end in a return of data -/
def tSoR (T : Tb) (ρ : Addr → List Sl) (c : Co) (d : PyData) (c' : Co) : TS := fun Dn σ H => ∃ D G, Own T D G H c ∧ Rel G (ρ D) σ ∧ ∀ v G' H', ExtO T D G H G' H' → Own T D G' H' c' → rep G' d v → Dn.rt v H'
theorem so_lift (h : ∀ D, PS X st (tS T none (ρ D) (.nx (ρ' D)))) : PS X st (tSo T ρ c ρ' c) := ⟨fun pins s σ H Dn I ⟨D, G, O, R, q⟩ =>
  (h D).run pins s σ H Dn I ⟨G, O.sub, R, fun σ' G' H' E R' => q σ' G' H' (.of E) (O.up E) R'⟩⟩
theorem so_ret (h : ∀ D, PS X st (tS T none (ρ D) (.rt d))) : PS X st (tSoR T ρ c d c) := ⟨fun pins s σ H Dn I ⟨D, G, O, R, q⟩ =>
  (h D).run pins s σ H Dn I ⟨G, O.sub, R, fun v G' H' E r => q v G' H' (.of E) (O.up E) r⟩⟩
theorem sso_nil : PSs X [] (tSo T ρ c ρ c) := pss_imp pss_nil fun Dn σ H ⟨D, G, O, R, q⟩ => q σ G H .refl O R
theorem sso_cons (h1 : PS X st (tSo T ρ c ρ1 c1)) (h2 : PSs X sts (tSo T ρ1 c1 ρ2 c2)) : PSs X (st :: sts) (tSo T ρ c ρ2 c2) :=
  pss_imp (pss_cons h1 h2) fun Dn σ H ⟨D, G, O, R, q⟩ => ⟨D, G, O, R, fun σ' G' H' E O' R' => ⟨D, G', O', R', fun σ2 G2 H2 E2 O2 R2 => q σ2 G2 H2 (E.trans E2) O2 R2⟩⟩
theorem sso_consR (h1 : PS X st (tSo T ρ c ρ1 c1)) (h2 : PSs X sts (tSoR T ρ1 c1 d c2)) : PSs X (st :: sts) (tSoR T ρ c d c2) :=
  pss_imp (pss_cons h1 h2) fun Dn σ H ⟨D, G, O, R, q⟩ => ⟨D, G, O, R, fun σ' G' H' E O' R' => ⟨D, G', O', R', fun v G2 H2 E2 O2 r => q v G2 H2 (E.trans E2) O2 r⟩⟩
theorem so_weak (h : PS X st (tSo T ρ1 c ρ2 c')) (w : ∀ D, Wk (ρ D) (ρ1 D)) : PS X st (tSo T ρ c ρ2 c') := ps_imp h fun Dn σ H ⟨D, G, O, R, q⟩ => ⟨D, G, O, R.weak (w D), q⟩
theorem sso_out (h : PSs X sts (tSo T ρ c ρ1 c')) (w : ∀ D, Wk (ρ1 D) (ρ2 D)) : PSs X sts (tSo T ρ c ρ2 c') := pss_imp h fun Dn σ H ⟨D, G, O, R, q⟩ => ⟨D, G, O, R, fun σ' G' H' E O' R' => q σ' G' H' E O' (R'.weak (w D))⟩
theorem so_if {t : Expr} {k : Bool} {p q : List Stmt} (hc : ∀ D, PT X t (tT T none (ρ D) k)) (h1 : k = true → PSs X p (tSo T ρ c ρ' c')) (h2 : k = false → PSs X q (tSo T ρ c ρ' c')) : PS X (.If t p q pos) (tSo T ρ c ρ' c') := by
  have hU : PT X t (fun σ H Q => ∃ D, tT T none (ρ D) k σ H Q) := ⟨fun pins s σ H Q I ⟨D, z⟩ => (hc D).run pins s σ H Q I z⟩
  cases k with
  | true => exact ps_imp (ps_if hU (h1 rfl) pss_never) fun Dn σ H ⟨D, G, O, R, q⟩ => ⟨D, G, O.sub, R, fun G' H' E => iteT ⟨D, G', O.up E, R.mono E.gg, fun σ2 G2 H2 E2 O2 R2 => q σ2 G2 H2 ((ExtO.of E).trans E2) O2 R2⟩⟩
  | false => exact ps_imp (ps_if hU pss_never (h2 rfl)) fun Dn σ H ⟨D, G, O, R, q⟩ => ⟨D, G, O.sub, R, fun G' H' E => iteF ⟨D, G', O.up E, R.mono E.gg, fun σ2 G2 H2 E2 O2 R2 => q σ2 G2 H2 ((ExtO.of E).trans E2) O2 R2⟩⟩
theorem so_for {tg iter : Expr} {body : List Stmt} {xs : List PyData} (f f' : Nat → Addr → List Sl) (K : Nat → Co) (hp : PassesOwn (model X.prog X.w) X.A X.env X.xe) (hc : X.calm = true) (hi : ∀ D, PI X tg iter (tI T none (ρ D) xs)) (h0 : ∀ D, Wk (ρ D) (f 0 D))
    (hg : ∀ i x D, xs[i]? = some x → PG X tg (tG T none x (f i D) (f' i D)))
    (hb : ∀ i x, xs[i]? = some x → PSs X body (tSo T (f' i) (K i) (f (i + 1)) (K (i + 1))))
    (hs : ∀ x, foldedSetIterable iter X.env x = pure x := by intro _; rfl) : PS X (.For tg iter body [] pos) (tSo T ρ (K 0) (f xs.length) (K xs.length)) := by
  have hiU : PI X tg iter (fun σ H Rk => ∃ D, tI T none (ρ D) xs σ H Rk) := ⟨fun pins s σ H Rk I ⟨D, z⟩ => (hi D).run pins s σ H Rk I z⟩
  have hgU : PG X tg (fun v σ H Q => ∃ i x D, xs[i]? = some x ∧ tG T none x (f i D) (f' i D) v σ H Q) := ⟨fun pins s σ H v u Q I r ⟨i, x, D, hx, q⟩ => (hg i x D hx).run pins s σ H v u Q I r q⟩
  have hbU : PSs X body (fun Dn σ H => ∃ i x, xs[i]? = some x ∧ tSo T (f' i) (K i) (f (i + 1)) (K (i + 1)) Dn σ H) := ⟨fun pins s σ H Dn I ⟨i, x, hx, q⟩ => (hb i x hx).run pins s σ H Dn I q⟩
  refine ps_imp (ps_for hp hc hiU hgU hbU hs) fun Dn σ H ⟨D, G, O, R, q⟩ => ⟨D, G, O.sub, R, fun J G1 H1 E1 st => ?_⟩
  refine ⟨fun i k σ2 H2 => i + k = xs.length ∧ ∃ G2, ExtO T D G H G2 H2 ∧ (∀ b o, G1 b = some o → G2 b = some o) ∧ Own T D G2 H2 (K i) ∧ Rel G2 (f i D) σ2, ⟨xs.length, by omega, G1, .of E1, fun _ _ z => z, O.up E1, (R.mono E1.gg).weak (h0 D)⟩, ?_⟩
  rintro i k σ2 H2 ⟨hik, G2, E2, g2, O2, R2⟩
  obtain ⟨st1, st2⟩ := st G2 H2 g2 O2.sub
  by_cases hlt : i < xs.length
  · have hx := List.getElem?_eq_getElem hlt
    obtain ⟨go, yl⟩ := st1 i _ hx
    refine .inr ⟨go, fun σ3 H3 => ∃ G3, ExtO T D G H G3 H3 ∧ (∀ b o, G1 b = some o → G3 b = some o) ∧ Own T D G3 H3 (K (i + 1)) ∧ Rel G3 (f (i + 1) D) σ3, fun σ' H' ⟨G3, E3, g3, O3, R3⟩ => ⟨k - 1, by omega, by omega, G3, E3, g3, O3, R3⟩, fun v H' y => ?_⟩
    obtain ⟨G3, E3, rv⟩ := yl v H' y
    refine ⟨i, _, D, hx, G3, E3.sub, R2.mono E3.gg, rv, fun σ4 G4 H4 E4 R4 => ?_⟩
    have E34 := E3.trans E4
    exact ⟨i, _, hx, D, G4, O2.up E34, R4, fun σ' G' H' E' O' R' => ⟨G', E2.trans ((ExtO.of E34).trans E'), fun b o z => E'.gg b o (E34.gg b o (g2 b o z)), O', R'⟩⟩
  · have hi' : i = xs.length := by omega
    subst hi'
    exact .inl ⟨st2 _ (Nat.le_refl _), q σ2 G2 H2 E2 O2 R2⟩

/-! ### the owned dict is walked -/
def All2 (P : Sl → Sl → Prop) : List Sl → List Sl → Prop
  | [], [] => True
  | s :: r, s' :: r' => P s s' ∧ All2 P r r'
  | _, _ => False
theorem All2.len {P : Sl → Sl → Prop} : ∀ {ρ ρ' : List Sl}, All2 P ρ ρ' → ρ'.length = ρ.length
  | [], [], _ => rfl
  | _ :: _, _ :: _, h => by rw [List.length_cons, List.length_cons, All2.len h.2]
  | [], _ :: _, h => h.elim
  | _ :: _, [], h => h.elim
theorem All2.at_ {P : Sl → Sl → Prop} : ∀ {ρ ρ' : List Sl} {i : Nat} {s' : Sl}, All2 P ρ ρ' → ρ'[i]? = some s' → ∃ s, ρ[i]? = some s ∧ P s s'
  | [], [], _, _, _, e => by simp at e
  | s :: r, s2 :: r', 0, s', h, e => by
    obtain rfl := Option.some.inj e
    exact ⟨s, rfl, h.1⟩
  | s :: r, s2 :: r', i + 1, s', h, e => All2.at_ (i := i) h.2 e
  | [], _ :: _, _, _, h, _ => h.elim
  | _ :: _, [], _, _, h, _ => h.elim
theorem rel_all2 {G G' : Hp} {P : Sl → Sl → Prop} {ρ ρ' : List Sl} {σ : L2.St} (R : Rel G ρ σ) (h : All2 P ρ ρ') (k : ∀ s s' o, P s s' → slOk G s o → slOk G' s' o) : Rel G' ρ' σ := by
  refine ⟨h.len.trans R.len, fun i s' e => ?_⟩
  obtain ⟨s, h1, h2⟩ := h.at_ e
  obtain ⟨o, h3, h4⟩ := R.ats i s h1
  exact ⟨o, h3, k s s' o h2 h4⟩
def InS (ks : List (PyData × PyData)) (D : Addr) (s s' : Sl) : Prop := s' = s ∨ (s = .v (.ref D) ∧ s' = .dv (.dict ks) (.ref D))
def OutS (s s' : Sl) : Prop := s' = .un ∨ (∃ x, s = .d x ∧ s' = .d x ∧ noDict x = true) ∨ (∃ x v, s = .dv x v ∧ s' = .v v) ∨ ∃ v, s = .v v ∧ s' = .v v
mutual
theorem rep_nd {G G' : Hp} (g : ∀ b o, G b = some o → (∀ od u, o ≠ .frz od u) → G' b = some o) : ∀ (d : PyData) (v : V), noDict d = true → rep G d v → rep G' d v
  | .none, _, _, h => h
  | .bool _, _, _, h => h
  | .int _, _, _, h => h
  | .str _, _, _, h => h
  | .list ds, _, n, h => by
    obtain ⟨a, vs, e, ha, hr⟩ := h
    exact ⟨a, vs, e, g a _ ha (fun _ _ z => nomatch z), reps_nd g ds vs n hr⟩
  | .tuple ds, _, n, h => by
    obtain ⟨a, vs, e, ha, hr⟩ := h
    exact ⟨a, vs, e, g a _ ha (fun _ _ z => nomatch z), reps_nd g ds vs n hr⟩
  | .dict _, _, n, _ => by cases n
theorem reps_nd {G G' : Hp} (g : ∀ b o, G b = some o → (∀ od u, o ≠ .frz od u) → G' b = some o) : ∀ (ds : List PyData) (vs : List V), noDicts ds = true → reps G ds vs → reps G' ds vs
  | [], _, _, h => h
  | d :: ds, _, n, h => by
    obtain ⟨v, us, e, h1, h2⟩ := h
    have n2 : (noDict d && noDicts ds) = true := n
    rw [Bool.and_eq_true] at n2
    exact ⟨v, us, e, rep_nd g d v n2.1 h1, reps_nd g ds us n2.2 h2⟩
end
def del (G : Hp) (D : Addr) : Hp := fun b => if b = D then none else G b
theorem del_ne {G : Hp} {D b : Addr} (h : b ≠ D) : del G D b = G b := if_neg h
theorem del_same {G : Hp} {D : Addr} : del G D D = none := if_pos rfl
theorem so_lock {ks : List (PyData × PyData)} {ρl ρl' : Addr → List Sl} (h : ∀ D, PS X st (tS T none (ρl D) (.nx (ρl' D)))) (hin : ∀ D, All2 (InS ks D) (ρ D) (ρl D)) (hout : ∀ D, All2 OutS (ρl' D) (ρ' D)) : PS X st (tSo T ρ (.dk ks) ρ' (.dk ks)) := by
  have hU : PS X st (fun Dn σ H => ∃ D, tS T none (ρl D) (.nx (ρl' D)) Dn σ H) := ⟨fun pins s σ H Dn I ⟨D, z⟩ => (h D).run pins s σ H Dn I z⟩
  refine ps_imp (ps_lock hU) fun Dn σ H ⟨D, G, O, R, q⟩ => ?_
  obtain ⟨o, hD, ws, rfl, rk⟩ := O.at_
  refine ⟨D, .dK ws, hD, True.intro, fun od => ⟨D, upd G D (.frz od (.dK ws)), ?_, ?_, fun σ' G2 H2 E R2 => ?_⟩⟩
  · refine ⟨tabs_mut O.sub.tb hD (fun _ z => nomatch z) (fun _ z => nomatch z), fun b u e => ?_, fun b ob z => nomatch z⟩
    by_cases hb : b = D
    · subst hb
      rw [upd_same] at e
      cases e
      exact ⟨True.intro, upd_same⟩
    · rw [upd_ne hb] at e
      exact Has.move (O.sub.has b u e) fun w q _ => by rw [upd_ne hb]; exact q
  · have g : ∀ b o, G b = some o → upd G D (.frz od (.dK ws)) b = some o := rep_upd O.off
    refine rel_all2 R (hin D) fun s s' o p k => ?_
    rcases p with rfl | ⟨rfl, rfl⟩
    · exact slOk_mono g k
    · exact ⟨k, D, od, ws, rfl, upd_same, repk_mono g _ _ rk⟩
  · have hf : H2 D = some (.frz od (.dK ws)) := E.le D _ upd_same fun _ z => nomatch z
    refine ⟨hf, ?_⟩
    have gD : ∀ b o, G b = some o → del G2 D b = some o := fun b o e => by
      have hb : b ≠ D := fun z => by rw [z, O.off] at e; cases e
      rw [del_ne hb]
      exact E.gg b o (by rw [upd_ne hb]; exact e)
    have g2 : G2 D = some (.frz od (.dK ws)) := E.gg D _ upd_same
    have S3 : Sub T none (del G2 D) (upd H2 D (.dK ws)) := by
      refine ⟨tabs_mut E.sub.tb hf (fun _ z => nomatch z) (fun _ z => nomatch z), fun b u e => ?_, fun b ob z => nomatch z⟩
      have hb : b ≠ D := fun z => by rw [z, del_same] at e; cases e
      rw [del_ne hb] at e
      exact Has.move (E.sub.has b u e) fun w q _ => by rw [upd_ne hb]; exact q
    refine q σ' (del G2 D) (upd H2 D (.dK ws)) ⟨fun G0 H0 E0 n => ⟨fun b w e nt => ?_, S3, fun b w e => gD b w (E0.gg b w e), fun b w e nt => ?_⟩, gD⟩ ⟨S3, del_same, _, upd_same, ws, rfl, repk_mono gD _ _ rk⟩ ?_
    · have hb : b ≠ D := fun z => by subst z; obtain ⟨ps, z⟩ := n _ e; exact nt ps z
      rw [upd_ne hb]
      exact E.le b w (by rw [upd_ne hb]; exact E0.le b w e nt) nt
    · have hb : b ≠ D := fun z => by subst z; obtain ⟨ps, z⟩ := n _ e; exact nt ps z
      rw [del_ne hb, E.fr b w (by rw [upd_ne hb]; exact E0.le b w e nt) nt, upd_ne hb]
      exact E0.fr b w e nt
    · refine rel_all2 R2 (hout D) fun s s' o p k => ?_
      rcases p with rfl | ⟨x, rfl, rfl, nd⟩ | ⟨x, v, rfl, rfl⟩ | ⟨v, rfl, rfl⟩
      · exact True.intro
      · obtain ⟨v, e, r⟩ := k
        refine ⟨v, e, rep_nd (fun b u e nk => ?_) x v nd r⟩
        have hb : b ≠ D := fun z => by
          rw [z, g2] at e
          exact nk od _ (Option.some.inj e).symm
        rw [del_ne hb]
        exact e
      · exact k.1
      · exact k
end
end GN

/-! dicts: keys walked, a new pair, made and given back -/
namespace GN
open PySem PySem.Spec PyProof.Rows L2

section
variable {T : Tb} {lk : Lk} {X : Cx} {ρ : List Sl} {e a b : Expr} {pos : Pos} {d : PyData} {ks : List (PyData × PyData)}
theorem Rel.getdv {G : Hp} {σ : L2.St} (R : Rel G ρ σ) {i : Nat} {x : PyData} {y : V} (e : ρ[i]? = some (.dv x y)) : σ[i]? = some (some y) ∧ rep G x y := by
  obtain ⟨o, h1, h2, h3⟩ := R.ats i _ e
  subst h2
  exact ⟨h1, h3⟩
theorem ed_varD (i : Nat) {x : Str} {y : V} (hd : ρ[i]? = some (.dv d y) := by rfl) (hN : X.N[i]? = some x := by rfl) (hv : Vis X.env.scope x := by first | exact Or.inl rfl | exact Or.inr (Or.inl rfl) | exact Or.inr (Or.inr rfl))
    (h1 : (x == ("__debug__" : Str)) = false := by decide) (h2 : (x == ("__classdict__" : Str)) = false := by decide) : PE X (.Name x pos) (tD T lk ρ d) :=
  pe_imp (pe_var (i := i) hN hv h1 h2) fun σ H Q ⟨G, S, R, q⟩ => by
    obtain ⟨e, r⟩ := R.getdv hd
    exact ⟨y, e, q y G H (.refl S) r⟩
theorem repk_at {G : Hp} : ∀ {ks : List (PyData × PyData)} {ws : List (Key × V)} {i : Nat} {p : PyData × PyData}, repk G ks ws → ks[i]? = some p → ∃ j w, p.1 = .int j ∧ ws[i]? = some (Sum.inl j, w) ∧ rep G p.2 w
  | [], _, _, _, _, e => by simp at e
  | (k, d) :: ks, _, i, p, h, e => by
    obtain ⟨j, w, us, rfl, h1, h2⟩ := h
    cases i with
    | zero =>
      obtain rfl := Option.some.inj e
      exact ⟨j, w, h1.1, rfl, h1.2⟩
    | succ i => exact repk_at (i := i) h2 e
theorem repk_length {G : Hp} : ∀ {ks : List (PyData × PyData)} {ws : List (Key × V)}, repk G ks ws → ws.length = ks.length
  | [], _, h => by cases (show _ = _ from h); rfl
  | p :: ks, _, h => by
    obtain ⟨j, w, us, rfl, _, h2⟩ := h
    rw [List.length_cons, List.length_cons, repk_length h2]
theorem repk_app {G : Hp} : ∀ {ks ls : List (PyData × PyData)} {ws us : List (Key × V)}, repk G ks ws → repk G ls us → repk G (ks ++ ls) (ws ++ us)
  | [], _, _, _, h, h2 => by cases (show _ = _ from h); exact h2
  | p :: ks, _, _, _, h, h2 => by
    obtain ⟨j, w, us, rfl, h1, h3⟩ := h
    exact ⟨j, w, _, rfl, h1, repk_app h3 h2⟩
theorem steps_keys {G : Hp} {p : Addr} {od : Obj} {ws : List (Key × V)} (hp : G p = some (.frz od (.dK ws))) (r : repk G ks ws) : Steps T lk (Itk p od ws) G (ks.map Prod.fst) := fun G2 H2 g S => by
  have h2 := (S.has _ _ (g _ _ hp)).at
  have r2 := repk_mono g _ _ r
  refine ⟨fun i d hd => ?_, fun i hi => ⟨h2, by rw [repk_length r]; rw [List.length_map] at hi; exact hi⟩⟩
  rw [List.getElem?_map] at hd
  obtain ⟨q, hq, rfl⟩ := Option.map_eq_some_iff.mp hd
  obtain ⟨j, w, e1, e2, rv⟩ := repk_at r2 hq
  refine ⟨⟨h2, (List.getElem?_eq_some_iff.mp e2).1⟩, fun x H' y => ?_⟩
  obtain ⟨rfl, k, v, y1, rfl⟩ := y
  rw [e2] at y1
  cases y1
  refine ⟨G2, .refl S, ?_⟩
  rw [e1]
  exact rfl
theorem ei_keys {tg : Expr} (h : PE X e (tD T lk ρ (.dict ks))) : PI X tg e (tI T lk ρ (ks.map Prod.fst)) := pi_imp (pi_keys h) fun σ H Rk ⟨G, S, R, q⟩ => ⟨G, S, R, fun v G' H' E r => by
  obtain ⟨p, od, ws, rfl, hp, r⟩ := r
  exact ⟨p, od, rfl, .inl ⟨ws, (E.sub.has _ _ hp).at, q _ G' H' E (steps_keys hp r)⟩⟩⟩
end
section
variable {T : Tb} {X : Cx} {ρ ρ' : Addr → List Sl} {ks : List (PyData × PyData)} {e a b : Expr} {pos p2 p3 : Pos} {d : PyData}
theorem dget_none {ks : List (PyData × PyData)} {i : Int} (h : dget ks i = none) : (ks.find? fun p => match p.1 with | .int j => decide (j = i) | _ => false) = none := by
  unfold dget at h
  exact Option.map_eq_none_iff.mp h
/-- found[k] = value, k new -/
theorem so_put {i : Nat} {x : Str} {k : Int} (hu : X.A.units + 1 < cLine) (hv : ∀ D, PE X a (tD T none (ρ D) d)) (hk : ∀ D, PE X b (tD T none (ρ D) (.int k))) (hi : ∀ D, (ρ D)[i]? = some (.v (.ref D))) (hn : dget ks k = none) (hl : ks.length ≤ 1000) (hN : X.N[i]? = some x := by rfl)
    (hvis : Vis X.env.scope x := by first | exact Or.inl rfl | exact Or.inr (Or.inl rfl) | exact Or.inr (Or.inr rfl)) (h1 : (x == ("__debug__" : Str)) = false := by decide) (h2 : (x == ("__classdict__" : Str)) = false := by decide)
    (hs : swapsWith a (some (.Subscript (.Name x p2) b p3)) pos.line X.env = pure false := by rfl) : PS X (.Assign [.Subscript (.Name x p2) b p3] a pos) (tSo T ρ (.dk ks) ρ (.dk (ks ++ [(.int k, d)]))) := by
  have hvU : PE X a (fun σ H Q => ∃ D, tD T none (ρ D) d σ H Q) := ⟨fun pins s σ H Q I ⟨D, z⟩ => (hv D).run pins s σ H Q I z⟩
  have hkU : PE X b (fun σ H Q => ∃ D, tD T none (ρ D) (.int k) σ H Q) := ⟨fun pins s σ H Q I ⟨D, z⟩ => (hk D).run pins s σ H Q I z⟩
  refine ps_imp (ps_dput hu (pe_var (i := i) hN hvis h1 h2) hkU hvU hs) fun Dn σ H ⟨D, G, O, R, q⟩ => ⟨D, G, O.sub, R, fun v G1 H1 E1 r1 => ?_⟩
  refine ⟨.ref D, R.getv (hi D), D, G1, E1.sub, R.mono E1.gg, fun y G2 H2 E2 r2 => ?_⟩
  cases (show y = .int k from r2)
  have O2 := (O.up E1).up E2
  obtain ⟨o, hD, ws, rfl, rk⟩ := O2.at_
  have hv0 : valV ws (Sum.inl k) = none := (repk_get (j := k) rk).2 (dget_none hn)
  refine ⟨D, _, rfl, DPut.k (k := Sum.inl k) hD (by rw [repk_length rk]; exact Nat.lt_of_le_of_lt hl (by decide)), ?_⟩
  rw [putK_new _ hv0]
  obtain ⟨O3, E3⟩ := O2.put (c' := .dk (ks ++ [(.int k, d)])) (o := .dK (ws ++ [(Sum.inl k, v)])) ⟨_, rfl, repk_app rk ⟨k, v, [], rfl, ⟨rfl, rep_mono E2.gg _ _ r1⟩, rfl⟩⟩
  exact q σ G2 _ ((ExtO.of (E1.trans E2)).trans E3) O3 (R.mono fun b o z => E2.gg b o (E1.gg b o z))
/-- the value is locked from now on -/
theorem pe_frz {t : TE} (h : PE X e t) : PE X e (fun σ H Q => t σ H fun v H1 => ∃ d u, v = .ref d ∧ H1 d = some u ∧ Mut (some u) ∧ ∀ od, Q v (upd H1 d (.frz od u))) := by
  refine ⟨fun pins s σ H Q I hw => ?_⟩
  refine thn (h.run pins s σ H _ I hw) fun v s1 ⟨x, H1, I1, r, d, u, e, hd, mu, q⟩ => ?_
  obtain ⟨od, I2⟩ := I1.lock hd mu
  exact ⟨x, _, I2, r, q od⟩
/-- a new dict of one pair is owned, worked on, given back -/
theorem sso_new {i : Nat} {x : Str} {k : Int} {ρ0 : List Sl} {ks' : List (PyData × PyData)} {st : Stmt} {pd p4 p5 p6 : Pos} (hN0 : X.N.Nodup) (hk : PE X b (tD T none ρ0 (.int k))) (hv : PE X a (tD T none ρ0 d)) (hρ : ∀ D, ρ D = ρ0.set i (.v (.ref D))) (hi' : ∀ D, (ρ' D)[i]? = some (.v (.ref D)))
    (hb : PS X st (tSo T ρ (.dk [(.int k, d)]) ρ' (.dk ks'))) (hN : X.N[i]? = some x := by rfl) (hx : Loc X.env.scope x := by first | exact .inl rfl | exact .inr rfl)
    (hvis : Vis X.env.scope x := by first | exact Or.inl rfl | exact Or.inr (Or.inl rfl) | exact Or.inr (Or.inr rfl)) (h1 : (x == ("__debug__" : Str)) = false := by decide) (h2 : (x == ("__classdict__" : Str)) = false := by decide)
    (hs : swapsWith (.Dict [some b] [a] pd) (some (.Name x p4)) pos.line X.env = pure false := by rfl) (hf : X.fn x = true ∨ X.env.scope.names.lookup x = some .local := by first | exact .inl rfl | exact .inr rfl) :
    PSs X [.Assign [.Name x p4] (.Dict [some b] [a] pd) pos, st, .Return (some (.Name x p5)) p6] (tS T none ρ0 (.rt (.dict ks'))) := by
  refine pss_imp (pss_cons (ps_set hN0 hN hx (pe_disp (pps_cons hk hv pps_nil) rfl rfl (by simp) (by show 1 ≤ 15; decide)) hs hf) (pss_cons hb (pss_one (ps_ret (pe_frz (pe_var (i := i) hN hvis h1 h2)))))) fun Dn σ H ⟨G, S, R, q⟩ => ?_
  intro p hp
  have E0 : Ext T none G H G (upd H p (.dK [])) := Ext.off S hp
  have O0 : Own T p G (upd H p (.dK [])) (.dk []) := ⟨E0.sub, S.fresh hp, _, upd_same, [], rfl, rfl⟩
  refine ⟨G, E0.sub, R, fun y G1 H1 E1 r1 => ⟨G1, E1.sub, R.mono E1.gg, fun z G2 H2 E2 r2 => ?_⟩⟩
  cases (show y = .int k from r1)
  have O2 := (O0.up E1).up E2
  obtain ⟨o, hD, ws, rfl, rk⟩ := O2.at_
  cases (show ws = [] from rk)
  refine ⟨hD, [(Sum.inl k, z)], rfl, (by show 1 ≤ 15; decide), ?_⟩
  obtain ⟨O3, E3⟩ := O2.put (c' := .dk [(.int k, d)]) (o := .dK [(Sum.inl k, z)]) ⟨_, rfl, k, z, [], rfl, ⟨rfl, r2⟩, rfl⟩
  have nb : ∀ o, H p = some o → ∃ ps, o = .tbl ps := fun o e => by rw [hp] at e; cases e
  have EB := E3.ext G H ((E0.trans E1).trans E2) nb
  refine ⟨p, G2, O3, ?_, fun σ' G' H' E' O' R' => ?_⟩
  · rw [hρ]
    exact (R.mono EB.gg).set (s := .v (.ref p)) (o := some (.ref p)) rfl
  obtain ⟨o, hD', ws', rfl, rk'⟩ := O'.at_
  have EC := E'.ext G H EB nb
  refine ⟨.ref p, R'.getv (hi' p), p, _, rfl, hD', True.intro, fun od => ?_⟩
  exact q _ _ _ ((EC.mut (o := .frz od (.dK ws')) hp hD' True.intro O'.off).adopt hp upd_same True.intro O'.off) ⟨p, od, ws', rfl, upd_same, repk_mono (rep_upd O'.off) _ _ rk'⟩
end
end GN

/-! lengths_from -/
namespace GN
open PySem PySem.Spec PyProof.Rows L2

/-! ### plain -/
abbrev Row := List (Nat × Int × Option Nat)
def look (r : Row) (i : Nat) : Option (Int × Option Nat) := (r.find? fun e => decide (e.1 = i)).map (·.2)
def wl (r : Row) (i : Nat) : Int := ((look r i).map (·.1)).getD 0
def waysR (C : Ch) (S : Sd) (ax : Nat) (r : Row) (n : Nat) : List (Int × Int) := (r.filter fun e => before C S ax e.1 n).map fun e => (wl r e.1 + sz C ax e.1, (e.1 : Int))
def stepR (C : Ch) (S : Sd) (ax f : Nat) (r : Row) (n : Nat) : Row := if (!decide ((n : Int) = (f : Int)) && decide ((0 : Int) < (waysR C S ax r n).length)) = true then r ++ [(n, (maxP (waysR C S ax r n)).1, some (maxP (waysR C S ax r n)).2.toNat)] else r
def rowC (C : Ch) (S : Sd) (ax : Nat) (order : List Nat) (f : Nat) : Row := order.foldl (stepR C S ax f) [(f, 0, none)]
def eEnt (x : Int × Option Nat) : PyData := .tuple [.int x.1, eNm x.2]
def eRow (r : Row) : List (PyData × PyData) := r.map fun e => (eI e.1, eEnt e.2)
theorem eRow_keys (r : Row) : (eRow r).map Prod.fst = r.map fun e => eI e.1 := by
  unfold eRow
  rw [List.map_map]
  rfl
theorem dget_row (i : Nat) : ∀ r : Row, dget (eRow r) (i : Int) = (look r i).map eEnt
  | [] => rfl
  | e :: r => by
    have ih := dget_row i r
    unfold dget look eRow at ih ⊢
    rw [List.map_cons, List.find?_cons, List.find?_cons]
    by_cases h : e.1 = i
    · have h2 : decide ((e.1 : Int) = (i : Int)) = true := decide_eq_true (by omega)
      show Option.map _ (match decide ((e.1 : Int) = (i : Int)) with | true => _ | false => _) = _
      rw [h2, decide_eq_true h]
      rfl
    · have h2 : decide ((e.1 : Int) = (i : Int)) = false := decide_eq_false (by omega)
      show Option.map _ (match decide ((e.1 : Int) = (i : Int)) with | true => _ | false => _) = _
      rw [h2, decide_eq_false h]
      exact ih
theorem look_some {r : Row} {e : Nat × Int × Option Nat} (h : e ∈ r) : ∃ x, look r e.1 = some x := by
  unfold look
  cases q : r.find? fun y => decide (y.1 = e.1) with
  | none => exact absurd (List.find?_eq_none.mp q e h) (by simp)
  | some y => exact ⟨_, rfl⟩
theorem look_none {r : Row} {i : Nat} (h : ∀ e ∈ r, e.1 ≠ i) : look r i = none := by
  unfold look
  rw [List.find?_eq_none.mpr fun e he => by simpa using h e he]
  rfl
theorem stepR_sub {C : Ch} {S : Sd} {ax f : Nat} {r : Row} {n : Nat} : ∀ e ∈ stepR C S ax f r n, e ∈ r ∨ e.1 = n := by
  intro e he
  unfold stepR at he
  split at he
  · rcases List.mem_append.mp he with h | h
    · exact .inl h
    · rw [List.mem_singleton.mp h]
      exact .inr rfl
  · exact .inl he
theorem stepR_len {C : Ch} {S : Sd} {ax f : Nat} {r : Row} {n : Nat} : (stepR C S ax f r n).length ≤ r.length + 1 := by
  unfold stepR
  split
  · rw [List.length_append]
    exact Nat.le_refl _
  · exact Nat.le_succ _
theorem rowP_sub {C : Ch} {S : Sd} {ax f : Nat} : ∀ (pre : List Nat) (r : Row), (pre.foldl (stepR C S ax f) r).length ≤ r.length + pre.length ∧ ∀ e ∈ pre.foldl (stepR C S ax f) r, e ∈ r ∨ e.1 ∈ pre
  | [], r => ⟨Nat.le_refl _, fun e h => .inl h⟩
  | n :: pre, r => by
    obtain ⟨h1, h2⟩ := rowP_sub (C := C) (S := S) (ax := ax) (f := f) pre (stepR C S ax f r n)
    have h3 := stepR_len (C := C) (S := S) (ax := ax) (f := f) (r := r) (n := n)
    refine ⟨by rw [List.foldl_cons, List.length_cons]; omega, fun e he => ?_⟩
    rcases h2 e he with h | h
    · rcases stepR_sub e h with h | h
      · exact .inl h
      · rw [h]
        exact .inr List.mem_cons_self
    · exact .inr (List.mem_cons_of_mem _ h)

/-! ### data without dicts -/
theorem eT_nd (k : Bool) (t : Te) : noDict (eT k t) = true := by cases k <;> rfl
theorem eN_nd (k : Bool) (n : Nm) : noDict (eN k n) = true := by cases k <;> rfl
theorem sq_nd {k : Bool} {xs : List PyData} (h : noDicts xs = true) : noDict (sq k xs) = true := by cases k <;> exact h
theorem eC_nd (k : Bool) (C : Ch) : noDict (eC k C) = true := sq_nd (noDicts_map _ (eN_nd k) C)
theorem eS_nd (k : Bool) (S : Sd) : noDict (eS k S) = true := sq_nd (noDicts_map _ (fun r => sq_nd (noDicts_map _ (fun _ => rfl) r)) S)
theorem eL_nd (k : Bool) (L : List Nat) : noDict (eL k L) = true := sq_nd (noDicts_map _ (fun _ => rfl) L)

theorem ei_row {T : Tb} {lk : Lk} {X : Cx} {ρ : List Sl} {e tg : Expr} {r : Row} (h : PE X e (tD T lk ρ (.dict (eRow r)))) : PI X tg e (tI T lk ρ (r.map fun e => eI e.1)) := by
  rw [← eRow_keys]
  exact ei_keys h
section
variable {α : Type} {T : Tb} {lk : Lk} {X : Cx} {ρ : List Sl} {pos : Pos}
theorem es_setLcM {i : Nat} {z x : Str} {py px spos : Pos} {elt iter : Expr} {ifs : List Expr} {scope : Scope} (j : Nat) (L : List α) (enc : α → PyData) (t : α → Bool) (g : α → PyData) (hc : X.calm = true) (hN : X.N.Nodup) (hi : PI X (.Name x px) iter (tI T lk ρ (L.map enc))) (hz : L.length ≤ 100000)
    (hg : ∀ z ∈ L, ∀ (s : Shared) (H : Hp) (C : Addr) (cl : List (Str × Addr)) (fp : List Addr), PG (X.blk s H scope (compEnvC scope cl C X.env) fp) (.Name x px) (tGw T lk [j] (enc z) (wipeS ρ [j]) ((wipeS ρ [j]).set j (.d (enc z)))))
    (ht : ∀ z ∈ L, ∀ (s : Shared) (H : Hp) (C : Addr) (cl : List (Str × Addr)) (fp : List Addr), PTs (X.blk s H scope (compEnvC scope cl C X.env) fp) ifs (tT T lk ((wipeS ρ [j]).set j (.d (enc z))) (t z)))
    (he : ∀ z ∈ L, t z = true → ∀ (s : Shared) (H : Hp) (C : Addr) (cl : List (Str × Addr)) (fp : List Addr), PE (X.blk s H scope (compEnvC scope cl C X.env) fp) elt (tD T lk ((wipeS ρ [j]).set j (.d (enc z))) (g z)))
    (ok : BlkOk X.N X.env.scope scope [(x, j)]) (hy : X.N[i]? = some z) (hyl : X.env.scope.names.lookup z = some .local) (hsw : swapsWith (.ListComp elt [⟨.Name x px, iter, ifs, 0⟩] scope pos) (some (.Name z py)) spos.line X.env = pure true) (hs : ∀ x, foldedSetIterable iter X.env x = pure x := by intro _; rfl) :
    PS X (.Assign [.Name z py] (.ListComp elt [⟨.Name x px, iter, ifs, 0⟩] scope pos) spos) (tS T lk ρ (.nx (ρ.set i (.d (.list ((L.filter t).map g)))))) := by
  cases L with
  | nil => exact es_setLc (own := [(x, j)]) (fun _ => ρ) (fun _ => true) (fun _ => .none) hc hN hi hz (fun i z h => by simp at h) (fun i z h => by simp at h) (fun i z h => by simp at h) ok hy hyl hsw hs
  | cons z0 r =>
    rw [← picked_map _ z0 t g, ← List.length_map (as := z0 :: r) (f := enc)]
    exact es_setLc (own := [(x, j)]) (fun i => (wipeS ρ [j]).set j (.d (enc ((z0 :: r).getD i z0)))) _ _ hc hN hi (by rw [List.length_map]; exact hz)
      (fun i y h s H C cl fp => by obtain ⟨_, h2, rfl⟩ := enc_at z0 h; exact hg _ h2 s H C cl fp)
      (fun i y h s H C cl fp => by obtain ⟨_, h2, rfl⟩ := enc_at z0 h; exact ht _ h2 s H C cl fp)
      (fun i y h q s H C cl fp => by obtain ⟨_, h2, rfl⟩ := enc_at z0 h; exact he _ h2 q s H C cl fp) ok hy hyl hsw hs
end

section
variable {α : Type} {T : Tb} {X : Cx} {ρ : Addr → List Sl} {pos : Pos}
theorem so_forL {tg iter : Expr} {body : List Stmt} (L : List α) (enc : α → PyData) (F : List α → Addr → List Sl) (F' : List α → α → Addr → List Sl) (K : List α → Co) (hp : PassesOwn (model X.prog X.w) X.A X.env X.xe) (hc : X.calm = true) (hi : ∀ D, PI X tg iter (tI T none (ρ D) (L.map enc))) (h0 : ∀ D, Wk (ρ D) (F [] D))
    (hg : ∀ pre z post D, L = pre ++ z :: post → PG X tg (tG T none (enc z) (F pre D) (F' pre z D)))
    (hb : ∀ pre z post, L = pre ++ z :: post → PSs X body (tSo T (F' pre z) (K pre) (F (pre ++ [z])) (K (pre ++ [z]))))
    (hs : ∀ x, foldedSetIterable iter X.env x = pure x := by intro _; rfl) : PS X (.For tg iter body [] pos) (tSo T ρ (K []) (F L) (K L)) := by
  cases L with
  | nil => exact so_for (fun _ => F []) (fun _ => F []) (fun _ => K []) hp hc hi h0 (fun i x D h => by simp at h) (fun i x h => by simp at h) hs
  | cons z0 r =>
    have h := so_for (pos := pos) (body := body) (fun i => F ((z0 :: r).take i)) (fun i => F' ((z0 :: r).take i) ((z0 :: r).getD i z0)) (fun i => K ((z0 :: r).take i)) hp hc hi h0 (fun i x D h => ?_) (fun i x h => ?_) hs
    · rw [List.length_map, List.take_length] at h
      exact h
    · obtain ⟨h1, _, rfl⟩ := enc_at z0 h
      exact hg _ _ ((z0 :: r).drop (i + 1)) D (by
        obtain ⟨hl, he⟩ := List.getElem?_eq_some_iff.mp h1
        rw [← he, List.getElem_cons_drop hl, List.take_append_drop])
    · obtain ⟨h1, _, rfl⟩ := enc_at z0 h
      have h2 := hb ((z0 :: r).take i) ((z0 :: r).getD i z0) ((z0 :: r).drop (i + 1)) (by
        obtain ⟨hl, he⟩ := List.getElem?_eq_some_iff.mp h1
        rw [← he, List.getElem_cons_drop hl, List.take_append_drop])
      have e : (z0 :: r).take (i + 1) = (z0 :: r).take i ++ [(z0 :: r).getD i z0] := by rw [List.take_add_one, h1]; rfl
      show PSs X body (tSo T _ _ (F ((z0 :: r).take (i + 1))) (K ((z0 :: r).take (i + 1))))
      rw [e]
      exact h2
end
theorem un1 {k : Nat} {A : Around} (hr : Room k A) : A.units + 1 < cLine := by have := hr.un; omega
theorem un0 {k : Nat} {A : Around} (hr : Room k A) : A.in1.units < cLine := by
  have := hr.un
  show A.units + _ < cLine
  first | omega | (simp only [Around.in1, Around.units]; omega)
section
variable {P : Program} {w : World} {K : PySem.W.Frag} {mg : Str → Option Value} {base : Heap} {T : Tb}
def rLenF (ds : List PyData) (d : PyData) : Prop := ∃ (C : Ch) (S : Sd) (order : List Nat) (ax f : Nat), ds = [eC true C, eS true S, eL false order, eI ax, eI f] ∧ WS C S ∧ ax ≤ 1 ∧ order.Nodup ∧ order.length ≤ 100 ∧ (∀ i ∈ order, i < C.length) ∧ f < C.length ∧ d = .dict (eRow (rowC C S ax order f))
variable (Z : Txt K mg)
include Z
theorem c_lengths_from : Cal P w K mg base T 4 false "lengths_from" rLenF := Z.d_lengths_from.cal fun g fd F => by
  refine data_fn F sc_lengths_from (fun ds d h => by obtain ⟨C, S, order, ax, f, rfl, _⟩ := h; rfl) fun cdv A outer s H E lk ds d hal hr h => ?_
  obtain ⟨C, S, order, ax, f, rfl, W, h1, nd, hl, h2, h3, rfl⟩ := h
  obtain rfl : lk = none := hal.elim (fun z => nomatch z) id
  let R : List Nat → Row := fun pre => pre.foldl (stepR C S ax f) [(f, 0, none)]
  let F0 : List Nat → Addr → List Sl := fun _ D => [.d (eC true C), .d (eS true S), .d (eL false order), .d (eI ax), .d (eI f), .v (.ref D), .un, .un, .un]
  refine sso_new (i := 5) (x := "found") (k := (f : Int)) (d := .tuple [.int 0, .none]) (ρ := F0 []) (ρ' := F0 []) sc_lengths_from.nd (ed_var 4) (ed_tup (ea2 ed_int ed_non)) (fun D => rfl) (fun D => rfl) ?_
  refine so_forL order eI F0 (fun pre z D => (F0 pre D).set 6 (.d (eI z))) (fun pre => .dk (eRow (R pre))) PassesOwn.never rfl (fun D => ei_list (ed_var 2)) (fun D => Wk.refl) (fun pre z post D e => eg_name 6 sc_lengths_from.nd) fun pre z post e => ?_
  obtain ⟨q1, q2⟩ := rowP_sub (C := C) (S := S) (ax := ax) (f := f) pre [(f, 0, none)]
  have pl : pre.length ≤ 100 := by
    have : order.length = pre.length + (post.length + 1) := by rw [e, List.length_append, List.length_cons]
    omega
  have rl : (R pre).length ≤ 101 := by
    have : ([(f, 0, none)] : Row).length = 1 := rfl
    exact Nat.le_trans q1 (by rw [this]; omega)
  have hz : z < C.length := h2 z (by rw [e]; exact List.mem_append_right _ List.mem_cons_self)
  have hin : ∀ x ∈ R pre, x.1 < C.length := fun x hx => by
    rcases q2 x hx with h | h
    · rw [List.mem_singleton.mp h]
      exact h3
    · exact h2 _ (by rw [e]; exact List.mem_append_left _ h)
  let G0 : Addr → List Sl := fun D => [.d (eC true C), .d (eS true S), .d (eL false order), .d (eI ax), .d (eI f), .v (.ref D), .d (eI z), .d (.list ((waysR C S ax (R pre) z).map eF)), .un]
  refine sso_cons (ρ1 := G0) (so_lock (ρl := fun D => [.d (eC true C), .d (eS true S), .d (eL false order), .d (eI ax), .d (eI f), .dv (.dict (eRow (R pre))) (.ref D), .d (eI z), .un, .un])
    (ρl' := fun D => [.d (eC true C), .d (eS true S), .d (eL false order), .d (eI ax), .d (eI f), .dv (.dict (eRow (R pre))) (.ref D), .d (eI z), .d (.list ((waysR C S ax (R pre) z).map eF)), .un]) (fun D => ?_) (fun D => ?_) fun D => ?_) ?_
  · have e2 : ((R pre).filter fun e => before C S ax e.1 z).map (fun e => eF (wl (R pre) e.1 + sz C ax e.1, (e.1 : Int))) = (waysR C S ax (R pre) z).map eF := by
      unfold waysR
      rw [List.map_map]
      rfl
    refine es_out (es_setLcM (i := 7) (z := "ways") 8 (R pre) (fun e => eI e.1) (fun e => before C S ax e.1 z) (fun e => eF (wl (R pre) e.1 + sz C ax e.1, (e.1 : Int))) rfl sc_lengths_from.nd (ei_row (ed_varD 5)) (by omega) (fun y _ _ _ _ _ _ => eg_nameW 8 sc_lengths_from.nd)
      (fun y hy _ _ _ _ _ => ets_one (et_val (ed_call (c_is_before Z) (hr.mono (by decide)) (ea5 (ed_var 0) (ed_var 1) (ed_var 3) (ed_var 8) (ed_var 6)) ⟨true, true, C, S, ax, y.1, z, rfl, W, h1, hin y hy, hz, rfl⟩)))
      (fun y hy _ _ _ _ _ _ => ?_) (blkOk_by (N := N_lengths_from) (sc := defScope s_lengths_from) (by decide +kernel)) rfl rfl rfl) ?_
    · obtain ⟨x, hx⟩ := look_some hy
      have hd : dget (eRow (R pre)) (y.1 : Int) = some (eEnt x) := by rw [dget_row, hx]; rfl
      have hw : wl (R pre) y.1 = x.1 := by unfold wl; rw [hx]; rfl
      rw [hw]
      exact ed_tup (ea2 (ed_add (ed_ixT (ed_dget (un1 hr) (ed_varD 5) (ed_var 8) hd) ed_int rfl) (ed_sz (ed_var 0) (ed_var 8) (ed_var 3) (hin y hy) h1)) (ed_var 8))
    · exact ⟨.inr rfl, .inr rfl, .inr rfl, .inr rfl, .inr rfl, .inr rfl, .inr rfl, .inr (by rw [← e2]), .inr rfl, True.intro⟩
  · exact ⟨.inl rfl, .inl rfl, .inl rfl, .inl rfl, .inl rfl, .inr ⟨rfl, rfl⟩, .inl rfl, .inl rfl, .inl rfl, True.intro⟩
  · exact ⟨.inr (.inl ⟨_, rfl, rfl, eC_nd _ _⟩), .inr (.inl ⟨_, rfl, rfl, eS_nd _ _⟩), .inr (.inl ⟨_, rfl, rfl, eL_nd _ _⟩), .inr (.inl ⟨_, rfl, rfl, rfl⟩), .inr (.inl ⟨_, rfl, rfl, rfl⟩), .inr (.inr (.inl ⟨_, _, rfl, rfl⟩)), .inr (.inl ⟨_, rfl, rfl, rfl⟩), .inr (.inl ⟨_, rfl, rfl, noDicts_map _ (fun _ => rfl) _⟩), .inl rfl, True.intro⟩
  · have hR : R (pre ++ [z]) = stepR C S ax f (R pre) z := by
      show (pre ++ [z]).foldl _ _ = _
      rw [List.foldl_append]
      rfl
    show PSs _ _ (tSo T G0 (.dk (eRow (R pre))) (F0 (pre ++ [z])) (.dk (eRow (R (pre ++ [z])))))
    rw [hR]
    refine sso_out (ρ1 := G0) (sso_cons (so_if (k := !decide ((z : Int) = (f : Int)) && decide ((0 : Int) < (waysR C S ax (R pre) z).length)) (fun D => PW.pt (ew_and2 (et_ne (ed_var 6) (ed_var 4) rfl) fun _ => et_gt (ed_lenM (k := false) (enc := eF) Z.n_len (ed_var 7)) ed_int rfl)) (fun hk => ?_) fun hk => ?_) sso_nil) fun D => ?_
    · unfold stepR
      rw [if_pos hk]
      rw [Bool.and_eq_true, Bool.not_eq_true', decide_eq_false_iff_not, decide_eq_true_eq] at hk
      obtain ⟨hk1, hk2⟩ := hk
      have hne : waysR C S ax (R pre) z ≠ [] := fun q => by rw [q] at hk2; simp at hk2
      have hkey : dget (eRow (R pre)) (z : Int) = none := by
        rw [dget_row, look_none fun x hx => ?_]
        · rfl
        · rcases q2 x hx with h | h
          · rw [List.mem_singleton.mp h]
            show f ≠ z
            omega
          · intro q
            rw [q] at h
            rw [e] at nd
            exact (List.nodup_append.mp nd).2.2 z h z List.mem_cons_self rfl
      have hent : eF (maxP (waysR C S ax (R pre) z)) = eEnt ((maxP (waysR C S ax (R pre) z)).1, some (maxP (waysR C S ax (R pre) z)).2.toNat) := by
        obtain ⟨x, _, hx⟩ := List.mem_map.mp (maxP_mem hne)
        have hx : ((wl (R pre) x.1 + sz C ax x.1, (x.1 : Int)) : Int × Int) = maxP (waysR C S ax (R pre) z) := hx
        rw [← hx]
        rfl
      have hrow : eRow (R pre ++ [(z, (maxP (waysR C S ax (R pre) z)).1, some (maxP (waysR C S ax (R pre) z)).2.toNat)]) = eRow (R pre) ++ [(.int (z : Int), eF (maxP (waysR C S ax (R pre) z)))] := by
        unfold eRow
        rw [List.map_append, hent]
        rfl
      rw [hrow]
      exact sso_cons (so_put (i := 5) (un1 hr) (fun D => ed_maxP rfl (un0 hr) Z.n_max (ed_var 7) hne) (fun D => ed_var 6) (fun D => rfl) hkey (by rw [eRow, List.length_map]; omega)) sso_nil
    · unfold stepR
      rw [if_neg (by rw [hk]; decide)]
      exact sso_nil
    · exact ⟨.inr rfl, .inr rfl, .inr rfl, .inr rfl, .inr rfl, .inr rfl, .inl rfl, .inl rfl, .inl rfl, True.intro⟩
end
end GN

/-! dict comprehensions; owned lists -/
namespace GN
open PySem PySem.Spec PyProof.Rows L2

section
variable {T : Tb} {X : Cx} {ρ : List Sl} {pos : Pos}
theorem fresh_key {G : Hp} {g : Nat → PyData} : ∀ {L : List Nat} {ws : List (Key × V)} {z : Nat}, repk G (L.map fun i => (eI i, g i)) ws → z ∉ L → valV ws (Sum.inl (z : Int)) = none
  | [], _, _, h, _ => by cases (show _ = _ from h); rfl
  | i :: L, _, z, h, hz => by
    obtain ⟨j, w, us, rfl, h1, h2⟩ := h
    have e : PyData.int (i : Int) = .int j := h1.1
    cases e
    have hne : ¬ (Sum.inl (i : Int) : Key) = Sum.inl (z : Int) := fun q => hz (by
      have q := Sum.inl.inj q
      rw [show z = i by omega]
      exact List.mem_cons_self)
    rw [valV_neg (p := ((Sum.inl (i : Int) : Key), w)) hne]
    exact fresh_key h2 fun q => hz (List.mem_cons_of_mem _ q)
theorem ed_dcN {x : Str} {px : Pos} {kx vx iter : Expr} {scope : Scope} (j : Nat) (L : List Nat) (g : Nat → PyData) (nd : L.Nodup) (hc : X.calm = true) (hN : X.N.Nodup) (hi : PI X (.Name x px) iter (tI T none ρ (L.map eI))) (hz : L.length ≤ 1000)
    (hg : ∀ z ∈ L, ∀ (s : Shared) (H : Hp) (C : Addr) (cl : List (Str × Addr)) (fp : List Addr), PG (X.blk s H scope (compEnvC scope cl C X.env) fp) (.Name x px) (tGw T none [j] (eI z) (wipeS ρ [j]) ((wipeS ρ [j]).set j (.d (eI z)))))
    (hk : ∀ z ∈ L, ∀ (s : Shared) (H : Hp) (C : Addr) (cl : List (Str × Addr)) (fp : List Addr), PE (X.blk s H scope (compEnvC scope cl C X.env) fp) kx (tD T none ((wipeS ρ [j]).set j (.d (eI z))) (eI z)))
    (he : ∀ z ∈ L, ∀ (s : Shared) (H : Hp) (C : Addr) (cl : List (Str × Addr)) (fp : List Addr), PE (X.blk s H scope (compEnvC scope cl C X.env) fp) vx (tD T none ((wipeS ρ [j]).set j (.d (eI z))) (g z)))
    (ok : BlkOk X.N X.env.scope scope [(x, j)]) (hs : ∀ x, foldedSetIterable iter X.env x = pure x := by intro _; rfl) : PE X (.DictComp kx vx [⟨.Name x px, iter, [], 0⟩] scope pos) (tD T none ρ (.dict (L.map fun i => (eI i, g i)))) := by
  have h := pe_frz (pe_dc (pos := pos) (own := [(x, j)]) (g := fun v σ H Q => ∃ z, z ∈ L ∧ tGw T none [j] (eI z) (wipeS ρ [j]) ((wipeS ρ [j]).set j (.d (eI z))) v σ H Q) (tt := fun σ H Q => Q true H)
    (tk := fun σ H Q => ∃ z, z ∈ L ∧ tD T none ((wipeS ρ [j]).set j (.d (eI z))) (eI z) σ H Q) (tv := fun σ H Q => ∃ z, z ∈ L ∧ tD T none ((wipeS ρ [j]).set j (.d (eI z))) (g z) σ H Q) hc hN hi ok
    (fun s H C cl fp => ⟨fun pins s' σ H' v u Q I r ⟨z, hz, q⟩ => (hg z hz s H C cl fp).run pins s' σ H' v u Q I r q⟩) (fun s H C cl fp => pts_nil)
    (fun s H C cl fp => ⟨fun pins s' σ H' Q I ⟨z, hz, q⟩ => (hk z hz s H C cl fp).run pins s' σ H' Q I q⟩)
    (fun s H C cl fp => ⟨fun pins s' σ H' Q I ⟨z, hz, q⟩ => (he z hz s H C cl fp).run pins s' σ H' Q I q⟩) hs)
  refine pe_imp h fun σ H Q ⟨G, S, R, q⟩ => ⟨G, S, R, fun J G1 H1 E1 st D hD => ?_⟩
  have gD : G1 D = none := E1.sub.fresh hD
  have E1' : Ext T none G1 H1 G1 (upd H1 D (.dK [])) := .off E1.sub hD
  refine ⟨fun i k H2 => i + k = L.length ∧ ∃ G2 ws, Ext T none G1 H1 G2 H2 ∧ G2 D = none ∧ H2 D = some (.dK ws) ∧ repk G2 ((L.take i).map fun z => (eI z, g z)) ws, ⟨L.length, by omega, G1, [], E1', gD, upd_same, rfl⟩, ?_⟩
  rintro i k H2 ⟨hik, G2, ws, E2, g2, hD2, rk⟩
  obtain ⟨st1, st2⟩ := st G2 H2 E2.gg E2.sub
  by_cases hlt : i < L.length
  · have hx : (L.map eI)[i]? = some (eI L[i]) := by rw [List.getElem?_map, List.getElem?_eq_getElem hlt]; rfl
    have hm : L[i] ∈ L := List.getElem_mem hlt
    obtain ⟨go, yl⟩ := st1 i _ hx
    refine .inr ⟨go, fun H3 => ∃ G3 ws, Ext T none G1 H1 G3 H3 ∧ G3 D = none ∧ H3 D = some (.dK ws) ∧ repk G3 ((L.take (i + 1)).map fun z => (eI z, g z)) ws, fun H' ⟨G3, w, E3, g3, h3, r3⟩ => ⟨k - 1, by omega, by omega, G3, w, E3, g3, h3, r3⟩, fun v H' yy => ?_⟩
    obtain ⟨G3, E3, rv⟩ := yl v H' yy
    refine ⟨L[i], hm, G3, E3.sub, ((R.mono E1.gg).mono (fun b o z => E3.gg b o (E2.gg b o z))).wipe [j], rv, fun σ4 G4 H4 E4 R4 hw => ⟨hw.trans (wipe_twice [j]), ?_⟩⟩
    refine iteT ⟨L[i], hm, G4, E4.sub, R4, fun y G5 H5 E5 ry => ⟨L[i], hm, G5, E5.sub, R4.mono E5.gg, fun w G6 H6 E6 rw' => ?_⟩⟩
    cases (show y = .int (L[i] : Int) from ry)
    have E36 := E3.trans (E4.trans (E5.trans E6))
    have hD6 : H6 D = some (.dK ws) := E36.keep hD2 True.intro
    have g6 : G6 D = none := (E36.frK hD2 True.intro).trans g2
    have rk6 := repk_mono E36.gg _ _ rk
    have hfr : valV ws (Sum.inl (L[i] : Int)) = none := fresh_key rk6 fun z => by
      have e : L = L.take i ++ L[i] :: L.drop (i + 1) := by rw [List.getElem_cons_drop hlt, List.take_append_drop]
      rw [e] at nd
      exact (List.nodup_append.mp nd).2.2 _ z _ List.mem_cons_self rfl
    refine ⟨ws, Sum.inl (L[i] : Int), rfl, hD6, ?_, G6, _, (E2.trans E36).mut hD hD6 True.intro g6, g6, upd_same, ?_⟩
    · rw [repk_length rk, List.length_map, List.length_take]
      have : sizeLine = 2 ^ 62 ∨ 1000 < sizeLine := .inr (by decide)
      have h4 : 1000 < sizeLine := by decide
      omega
    · rw [putK_new _ hfr, List.take_add_one, List.getElem?_eq_getElem hlt, List.map_append]
      exact repk_app rk6 ⟨_, w, [], rfl, ⟨rfl, rw'⟩, rfl⟩
  · have hi' : i = L.length := by omega
    subst hi'
    rw [List.take_length] at rk
    refine .inl ⟨st2 _ (by rw [List.length_map]; exact Nat.le_refl _), D, _, rfl, hD2, True.intro, fun od => ?_⟩
    exact q _ _ _ (E1.trans ((E2.mut (o := .frz od (.dK ws)) hD hD2 True.intro g2).adopt hD upd_same True.intro g2)) ⟨D, od, ws, rfl, upd_same, repk_mono (rep_upd g2) _ _ rk⟩
end

section
variable {T : Tb} {X : Cx} {ρ ρ1 ρ2 ρ' ρl : Addr → List Sl} {c c1 c2 c' : Co} {st : Stmt} {sts : List Stmt} {e a b : Expr} {es : List Expr} {pos p2 p3 : Pos} {d da db : PyData} {ds : List PyData}
/-- an expression over an owned object -/
def tDo (T : Tb) (ρ : Addr → List Sl) (c : Co) (d : PyData) (c' : Co) : TE := fun σ H Q => ∃ D G, Own T D G H c ∧ Rel G (ρ D) σ ∧ ∀ v G' H', ExtO T D G H G' H' → Own T D G' H' c' → rep G' d v → Q v H'
def tTo (T : Tb) (ρ : Addr → List Sl) (c : Co) (k : Bool) (c' : Co) : TT := fun σ H Q => ∃ D G, Own T D G H c ∧ Rel G (ρ D) σ ∧ ∀ G' H', ExtO T D G H G' H' → Own T D G' H' c' → Q k H'
def tAo (T : Tb) (ρ : Addr → List Sl) (c : Co) (ds : List PyData) (c' : Co) : TA := fun σ H Q => ∃ D G, Own T D G H c ∧ Rel G (ρ D) σ ∧ ∀ vs G' H', ExtO T D G H G' H' → Own T D G' H' c' → reps G' ds vs → Q vs H'
theorem do_lift (h : ∀ D, PE X e (tD T none (ρ D) d)) : PE X e (tDo T ρ c d c) := ⟨fun pins s σ H Q I ⟨D, G, O, R, q⟩ => (h D).run pins s σ H Q I ⟨G, O.sub, R, fun v G' H' E r => q v G' H' (.of E) (O.up E) r⟩⟩
theorem to_lift {k : Bool} (h : ∀ D, PT X e (tT T none (ρ D) k)) : PT X e (tTo T ρ c k c) := ⟨fun pins s σ H Q I ⟨D, G, O, R, q⟩ => (h D).run pins s σ H Q I ⟨G, O.sub, R, fun G' H' E => q G' H' (.of E) (O.up E)⟩⟩
/-! the owned list is read -/
def LsS (ds : List PyData) (D : Addr) (s s' : Sl) : Prop := s' = s ∨ (s = .v (.ref D) ∧ s' = .dv (.list ds) (.ref D))
theorem known {D : Addr} {G H : Hp} {vs : List V} {σ : L2.St} {ρa ρb : List Sl} (O : Own T D G H (.ls ds)) (hD : H D = some (.lst vs)) (rk : reps G ds vs) (R : Rel G ρa σ) (hin : All2 (LsS ds D) ρa ρb) :
    Sub T none (upd G D (.lst vs)) H ∧ Rel (upd G D (.lst vs)) ρb σ := by
  have g : ∀ b o, G b = some o → upd G D (.lst vs) b = some o := rep_upd O.off
  refine ⟨⟨O.sub.tb, fun b u e => ?_, fun b ob z => nomatch z⟩, rel_all2 R hin fun s s' o p k => ?_⟩
  · by_cases hb : b = D
    · subst hb
      rw [upd_same] at e
      cases e
      exact ⟨True.intro, hD⟩
    · rw [upd_ne hb] at e
      exact O.sub.has b u e
  · rcases p with rfl | ⟨rfl, rfl⟩
    · exact slOk_mono g k
    · exact ⟨k, D, vs, rfl, upd_same, reps_mono g _ _ rk⟩
theorem unknown {D : Addr} {G H G2 H2 : Hp} {vs : List V} (O : Own T D G H (.ls ds)) (hD : H D = some (.lst vs)) (rk : reps G ds vs) (E : Ext T none (upd G D (.lst vs)) H G2 H2) :
    ExtO T D G H (del G2 D) H2 ∧ Own T D (del G2 D) H2 (.ls ds) := by
  have gD : ∀ b o, G b = some o → del G2 D b = some o := fun b o e => by
    have hb : b ≠ D := fun z => by rw [z, O.off] at e; cases e
    rw [del_ne hb]
    exact E.gg b o (by rw [upd_ne hb]; exact e)
  have S3 : Sub T none (del G2 D) H2 := by
    refine ⟨E.sub.tb, fun b u e => ?_, fun b ob z => nomatch z⟩
    have hb : b ≠ D := fun z => by rw [z, del_same] at e; cases e
    rw [del_ne hb] at e
    exact E.sub.has b u e
  refine ⟨⟨fun G0 H0 E0 n => ⟨fun b w e nt => E.le b w (E0.le b w e nt) nt, S3, fun b w e => gD b w (E0.gg b w e), fun b w e nt => ?_⟩, gD⟩, S3, del_same, _, E.keep hD True.intro, vs, rfl, reps_mono gD _ _ rk⟩
  have hb : b ≠ D := fun z => by subst z; obtain ⟨ps, z⟩ := n _ e; exact nt ps z
  rw [del_ne hb, E.fr b w (E0.le b w e nt) nt, upd_ne hb]
  exact E0.fr b w e nt
def flatD : PyData → Bool
  | .none => true
  | .bool _ => true
  | .int _ => true
  | .str _ => true
  | _ => false
theorem rep_flat {G G' : Hp} {d : PyData} {v : V} (h : flatD d = true) (r : rep G d v) : rep G' d v := by
  cases d <;> first | exact r | cases h
theorem do_look (h : ∀ D, PE X e (tD T none (ρl D) d)) (hin : ∀ D, All2 (LsS ds D) (ρ D) (ρl D)) (hf : flatD d = true) : PE X e (tDo T ρ (.ls ds) d (.ls ds)) := ⟨fun pins s σ H Q I ⟨D, G, O, R, q⟩ => by
  obtain ⟨o, hD, vs, rfl, rk⟩ := id O.at_
  obtain ⟨S1, R1⟩ := known O hD rk R (hin D)
  refine (h D).run pins s σ H Q I ⟨_, S1, R1, fun v G' H' E r => ?_⟩
  obtain ⟨E2, O2⟩ := unknown O hD rk E
  exact q v _ H' E2 O2 (rep_flat hf r)⟩
theorem to_look {k : Bool} (h : ∀ D, PT X e (tT T none (ρl D) k)) (hin : ∀ D, All2 (LsS ds D) (ρ D) (ρl D)) : PT X e (tTo T ρ (.ls ds) k (.ls ds)) := ⟨fun pins s σ H Q I ⟨D, G, O, R, q⟩ => by
  obtain ⟨o, hD, vs, rfl, rk⟩ := id O.at_
  obtain ⟨S1, R1⟩ := known O hD rk R (hin D)
  refine (h D).run pins s σ H Q I ⟨_, S1, R1, fun G' H' E => ?_⟩
  obtain ⟨E2, O2⟩ := unknown O hD rk E
  exact q _ H' E2 O2⟩
/-- .. and given up -/
def tSoE (T : Tb) (ρ : Addr → List Sl) (c : Co) (d : PyData) : TS := fun Dn σ H => ∃ D G, Own T D G H c ∧ Rel G (ρ D) σ ∧ ∀ v G' H', (∀ G0 H0, Ext T none G0 H0 G H → (∀ o, H0 D = some o → ∃ ps, o = .tbl ps) → Ext T none G0 H0 G' H') → rep G' d v → Dn.rt v H'
theorem soE_known (h : ∀ D, PS X st (tS T none (ρl D) (.rt d))) (hin : ∀ D, All2 (LsS ds D) (ρ D) (ρl D)) : PS X st (tSoE T ρ (.ls ds) d) := ⟨fun pins s σ H Dn I ⟨D, G, O, R, q⟩ => by
  obtain ⟨o, hD, vs, rfl, rk⟩ := id O.at_
  obtain ⟨S1, R1⟩ := known O hD rk R (hin D)
  refine (h D).run pins s σ H Dn I ⟨_, S1, R1, fun v G' H' E r => q v G' H' (fun G0 H0 E0 n => ?_) r⟩
  have g : ∀ b o, G b = some o → upd G D (.lst vs) b = some o := rep_upd O.off
  refine Ext.trans ⟨E0.le, S1, fun b w e => g b w (E0.gg b w e), fun b w e nt => ?_⟩ E
  have hb : b ≠ D := fun z => by subst z; obtain ⟨ps, z⟩ := n _ e; exact nt ps z
  rw [upd_ne hb]
  exact E0.fr b w e nt⟩
theorem sso_consE (h1 : PS X st (tSo T ρ c ρ1 c1)) (h2 : PSs X sts (tSoE T ρ1 c1 d)) : PSs X (st :: sts) (tSoE T ρ c d) :=
  pss_imp (pss_cons h1 h2) fun Dn σ H ⟨D, G, O, R, q⟩ => ⟨D, G, O, R, fun σ' G' H' E O' R' => ⟨D, G', O', R', fun v G2 H2 E2 r => q v G2 H2 (fun G0 H0 E0 n => E2 G0 H0 (E.ext G0 H0 E0 n) n) r⟩⟩
theorem so_append {i : Nat} {x : Str} {ds' : List PyData} (hv : PE X a (tDo T ρ (.ls ds) d (.ls ds'))) (hi : ∀ D, (ρ D)[i]? = some (.v (.ref D))) (hl : ds'.length ≤ 1000) (hN : X.N[i]? = some x := by rfl)
    (hvis : Vis X.env.scope x := by first | exact Or.inl rfl | exact Or.inr (Or.inl rfl) | exact Or.inr (Or.inr rfl)) (h1 : (x == ("__debug__" : Str)) = false := by decide) (h2 : (x == ("__classdict__" : Str)) = false := by decide)
    (hbase : attributeBase (.Name x p2) "append" X.env (eval (.Name x p2) X.env) = eval (.Name x p2) X.env := by rfl)
    (hfew : ((backTo pos (starEach [a] X.env)).all (fun x => !x.1) && (backToKw pos (keywordEach [] X.env)).all (fun x => x.1.isSome)
      && decide (([a] : List Expr).length + ([] : List Keyword).length + (if ([] : List Keyword).isEmpty then 0 else 1) < 30)) = true := by rfl)
    {apos spos : Pos} (hline : (apos.endLine == pos.line) = true := by rfl) (hs : starEach [a] X.env = (false, eval a X.env) :: starEach [] X.env := by rfl) (hplain : (backTo pos (starEach [] X.env)).any (·.1) = false := by rfl)
    (hsw : swapsWith (.Call (.Attribute (.Name x p2) "append" apos) [a] [] pos) none spos.line X.env = pure false := by rfl) :
    PS X (.Expr (.Call (.Attribute (.Name x p2) "append" apos) [a] [] pos) spos) (tSo T ρ (.ls ds) ρ (.ls (ds' ++ [d]))) := by
  refine ps_imp (ps_expr (pe_bm PySem.F.plainAttrs_list PySem.F.slot_list_append PySem.F.type_list_append mt_append (pe_var (i := i) hN hvis h1 h2) (pa_cons hv pa_nil hs) hbase hfew hline hs hplain) hsw) fun Dn σ H ⟨D, G, O, R, q⟩ => ?_
  obtain ⟨o, hD, vs, rfl, rk⟩ := id O.at_
  refine ⟨.ref D, R.getv (hi D), .inl ⟨rfl, _, SqL.of hD⟩, D, G, O, R, fun v G' H' E' O' r => ?_⟩
  obtain ⟨o', hD', vs', rfl, rk'⟩ := id O'.at_
  refine ⟨D, vs', v, rfl, rfl, hD', by rw [reps_length rk']; exact Nat.lt_of_le_of_lt hl (by decide), ?_⟩
  obtain ⟨O3, E3⟩ := O'.put (c' := .ls (ds' ++ [d])) (o := .lst (vs' ++ [v])) ⟨_, rfl, reps_app rk' ⟨v, [], rfl, r, rfl⟩⟩
  exact q σ G' _ (E'.trans E3) O3 (R.mono E'.gg)
/-- a new list is owned -/
theorem sso_newL {i : Nat} {x : Str} {ρ0 : List Sl} {pd p4 : Pos} (hN0 : X.N.Nodup) (ha : PA X es (tA T none ρ0 ds)) (hz : ds.length ≤ 1000) (hρ : ∀ D, ρ D = ρ0.set i (.v (.ref D))) (hb : PSs X sts (tSoE T ρ (.ls ds) d)) (hN : X.N[i]? = some x := by rfl) (hx : Loc X.env.scope x := by first | exact .inl rfl | exact .inr rfl)
    (hs : swapsWith (.List es pd) (some (.Name x p4)) pos.line X.env = pure false := by rfl) (hf : X.fn x = true ∨ X.env.scope.names.lookup x = some .local := by first | exact .inl rfl | exact .inr rfl) :
    PSs X (.Assign [.Name x p4] (.List es pd) pos :: sts) (tS T none ρ0 (.rt d)) := by
  refine pss_imp (pss_cons (ps_set hN0 hN hx (pe_lst ha) hs hf) hb) fun Dn σ H ⟨G, S, R, q⟩ => ⟨G, S, R, fun vs G1 H1 E1 r1 => ⟨?_, fun p hp => ?_⟩⟩
  · rw [reps_length r1]
    exact Nat.le_trans hz (by decide)
  · have E2 : Ext T none G1 H1 G1 (upd H1 p (.lst vs)) := Ext.off E1.sub hp
    refine ⟨p, G1, ⟨E2.sub, E1.sub.fresh hp, _, upd_same, vs, rfl, r1⟩, ?_, fun v G' H' E' r => ?_⟩
    · rw [hρ]
      exact (R.mono E1.gg).set (s := .v (.ref p)) (o := some (.ref p)) rfl
    · exact q v G' H' (E1.trans (E' G1 H1 E2 fun o e => by rw [hp] at e; cases e)) r
theorem so_while {t : Expr} {body : List Stmt} (n : Nat) (f : Nat → Addr → List Sl) (K : Nat → Co) (hp : PassesOwn (model X.prog X.w) X.A X.env X.xe) (ht : ∀ i, i < n → PT X t (tTo T (f i) (K i) true (K i))) (hf : PT X t (tTo T (f n) (K n) false (K n)))
    (hb : ∀ i, i < n → PSs X body (tSo T (f i) (K i) (f (i + 1)) (K (i + 1)))) : PS X (.While t body [] pos) (tSo T (f 0) (K 0) (f n) (K n)) := by
  have hcU : PT X t (fun σ H Q => ∃ i k, PT X t (tTo T (f i) (K i) k (K i)) ∧ tTo T (f i) (K i) k (K i) σ H Q) := ⟨fun pins s σ H Q I ⟨i, k, h, z⟩ => h.run pins s σ H Q I z⟩
  have hbU : PSs X body (fun Dn σ H => ∃ i, i < n ∧ tSo T (f i) (K i) (f (i + 1)) (K (i + 1)) Dn σ H) := ⟨fun pins s σ H Dn I ⟨i, h, z⟩ => (hb i h).run pins s σ H Dn I z⟩
  refine ps_imp (ps_while hp hcU hbU) fun Dn σ H ⟨D, G, O, R, q⟩ => ?_
  refine ⟨fun m σ2 H2 => ∃ i G2, i + m = n ∧ ExtO T D G H G2 H2 ∧ Own T D G2 H2 (K i) ∧ Rel G2 (f i D) σ2, ⟨n, 0, G, by omega, .refl, O, R⟩, ?_⟩
  rintro m σ2 H2 ⟨i, G2, him, E2, O2, R2⟩
  by_cases hlt : i < n
  · refine ⟨i, true, ht i hlt, D, G2, O2, R2, fun G3 H3 E3 O3 => iteT ⟨fun σ' H' => ∃ G4, ExtO T D G H G4 H' ∧ Own T D G4 H' (K (i + 1)) ∧ Rel G4 (f (i + 1) D) σ', fun σ' H' ⟨G4, E4, O4, R4⟩ => ⟨m - 1, by omega, i + 1, G4, by omega, E4, O4, R4⟩, ?_⟩⟩
    exact ⟨i, hlt, D, G3, O3, R2.mono E3.gg, fun σ' G' H' E' O' R' => ⟨G', E2.trans (E3.trans E'), O', R'⟩⟩
  · have hin : i = n := by omega
    subst hin
    exact ⟨i, false, hf, D, G2, O2, R2, fun G3 H3 E3 O3 => iteF (q σ2 G3 H3 (E2.trans E3) O3 (R2.mono E3.gg))⟩
end
end GN

/-! tables_of, names_back -/
namespace GN
open PySem PySem.Spec PyProof.Rows L2

theorem dget_map {g : Nat → PyData} {f : Nat} : ∀ {L : List Nat}, f ∈ L → dget (L.map fun i => (eI i, g i)) (f : Int) = some (g f)
  | [], h => by cases h
  | i :: L, h => by
    unfold dget
    rw [List.map_cons, List.find?_cons]
    by_cases e : i = f
    · have h2 : decide ((i : Int) = (f : Int)) = true := decide_eq_true (by omega)
      show Option.map _ (match decide ((i : Int) = (f : Int)) with | true => _ | false => _) = _
      rw [h2, e]
      rfl
    · have h2 : decide ((i : Int) = (f : Int)) = false := decide_eq_false (by omega)
      show Option.map _ (match decide ((i : Int) = (f : Int)) with | true => _ | false => _) = _
      rw [h2]
      exact dget_map (List.mem_of_ne_of_mem (fun z => e z.symm) h)
theorem ordC_perm (C : Ch) (ax : Nat) (L : List Nat) : (ordC C ax L).Perm L := by
  unfold ordC
  have h := (srtK_perm (fun n => rk C ax n.toNat) (L.map fun (i : Nat) => (i : Int))).map Int.toNat
  have e : (L.map fun (i : Nat) => (i : Int)).map Int.toNat = L := by
    rw [List.map_map]
    exact List.map_id _
  rw [e] at h
  exact h
def rowT (C : Ch) (S : Sd) (L : List Nat) (ax f : Nat) : Row := rowC C S ax (ordC C ax L) f
def tabE (C : Ch) (S : Sd) (L : List Nat) (ax : Nat) : PyData := .dict (L.map fun f => (eI f, .dict (eRow (rowT C S L ax f))))
section
variable {T : Tb} {lk : Lk} {X : Cx} {ρ : List Sl} {a : Expr} {pos p1 p2 p3 : Pos} {xs : List PyData}
theorem ed_revL {k : Nat} (ha : PE X a (tD T lk ρ (.list xs))) : PE X (.Subscript a (.Slice none none (some (.UnaryOp .USub (.Constant (.int 1) k p1) p2)) p3) pos) (tD T lk ρ (.list xs.reverse)) :=
  pe_imp (pe_revL ha) fun σ H Q ⟨G, S, R, q⟩ => ⟨G, S, R, fun v G' H' E r => by
    obtain ⟨p, vs, rfl, hp, r⟩ := r
    refine ⟨p, vs, rfl, E.sub.sqL hp, fun t ht => ?_⟩
    have E2 := Ext.lay (o := .lst vs.reverse) E.sub ht True.intro
    exact q _ _ _ (E.trans E2) ⟨t, _, rfl, upd_same, reps_mono E2.gg _ _ (reps_rev r)⟩⟩
end
/-- the way back through the row: who came ahead -/
structure PathAt (r : Row) (p : List Nat) : Prop where
  ne : p ≠ []
  go : ∀ i, i + 1 < p.length → ∃ n, look r (p.getD i 0) = some (n, some (p.getD (i + 1) 0))
  fin : ∃ n, look r (p.getD (p.length - 1) 0) = some (n, none)
section
variable {P : Program} {w : World} {K : PySem.W.Frag} {mg : Str → Option Value} {base : Heap} {T : Tb}
def rTab (ds : List PyData) (d : PyData) : Prop := ∃ (C : Ch) (S : Sd) (L : List Nat), ds = [eC true C, eS true S, eL true L] ∧ WS C S ∧ Lot C L ∧ L.Nodup ∧ d = .list [tabE C S L 0, tabE C S L 1]
def rBack (ds : List PyData) (d : PyData) : Prop := ∃ (r : Row) (p : List Nat), ds = [.dict (eRow r), eI (p.headD 0)] ∧ PathAt r p ∧ p.length ≤ 1000 ∧ d = eL true p.reverse
variable (Z : Txt K mg)
include Z
theorem c_tables_of (M : Lam K mg base T) : Cal P w K mg base T 6 false "tables_of" rTab := Z.d_tables_of.cal fun g fd F => by
  refine data_fn F sc_tables_of (fun ds d h => by obtain ⟨C, S, L, rfl, _⟩ := h; rfl) fun cdv A outer s H E lk ds d hal hr h => ?_
  obtain ⟨C, S, L, rfl, W, h2, nd, rfl⟩ := h
  obtain rfl : lk = none := hal.elim (fun z => nomatch z) id
  have sh := h2.sh
  let F0 : List Nat → Addr → List Sl := fun _ D => [.d (eC true C), .d (eS true S), .d (eL true L), .v (.ref D), .un, .un, .un]
  refine sso_newL (i := 3) (x := "found") (ρ := F0 []) sc_tables_of.nd ea_nil (Nat.zero_le _) (fun D => rfl) ?_
  refine sso_consE (so_forL [0, 1] eI F0 (fun pre z D => (F0 pre D).set 4 (.d (eI z))) (fun pre => .ls (pre.map (tabE C S L))) PassesOwn.never rfl (fun D => ei_tup (ed_tup (ea2 ed_int ed_int))) (fun D => Wk.refl) (fun pre z post D e => eg_name 4 sc_tables_of.nd) fun pre ax post e => ?_) ?_
  · have hx : ax ≤ 1 := by
      have hm : ax ∈ [0, 1] := by rw [e]; exact List.mem_append_right _ List.mem_cons_self
      rcases List.mem_cons.mp hm with rfl | h
      · omega
      · rw [List.mem_singleton.mp h]; omega
    have pl : pre.length ≤ 2 := by
      have : [0, 1].length = pre.length + (post.length + 1) := by rw [e, List.length_append, List.length_cons]
      have h2 : [0, 1].length = 2 := rfl
      omega
    have pm := ordC_perm C ax L
    refine sso_out (ρ1 := fun D => [.d (eC true C), .d (eS true S), .d (eL true L), .v (.ref D), .d (eI ax), .d (eL false (ordC C ax L)), .un]) (sso_cons (so_lift fun D => es_set 5 (ed_call (c_in_order Z M) (hr.mono (by decide)) (ea3 (ed_var 0) (ed_var 2) (ed_var 4)) ⟨true, C, ax, L, rfl, hx, by omega, h2.lt, rfl⟩) sc_tables_of.nd) (sso_cons (so_append (i := 3) (d := tabE C S L ax) (do_lift fun D =>
      ed_dcN 6 L (fun f => .dict (eRow (rowT C S L ax f))) nd rfl sc_tables_of.nd (ei_tup (ed_var 2)) (by omega) (fun z _ _ _ _ _ _ => eg_nameW 6 sc_tables_of.nd) (fun z _ _ _ _ _ _ => ed_var 6)
        (fun z hz _ _ _ _ _ => ed_call (c_lengths_from Z) (hr.mono (by decide)) (ea5 (ed_var 0) (ed_var 1) (ed_var 5) (ed_var 4) (ed_var 6)) ⟨C, S, ordC C ax L, ax, z, rfl, W, hx, (pm.nodup_iff).mpr nd, by rw [pm.length_eq]; omega, fun i hi => h2.lt i (pm.mem_iff.mp hi), h2.lt z hz, rfl⟩) (blkOk_by (N := N_tables_of) (sc := defScope s_tables_of) (by decide +kernel))) (fun D => rfl) ?_) ?_)) fun D => ?_
    · rw [List.length_map]
      omega
    · show PSs _ _ (tSo T _ _ _ (.ls ((pre ++ [ax]).map (tabE C S L))))
      rw [List.map_append]
      exact sso_nil
    · exact ⟨.inr rfl, .inr rfl, .inr rfl, .inr rfl, .inl rfl, .inl rfl, .inl rfl, True.intro⟩
  · exact pss_one (soE_known (ρl := fun D => [.d (eC true C), .d (eS true S), .d (eL true L), .dv (.list [tabE C S L 0, tabE C S L 1]) (.ref D), .un, .un, .un]) (fun D => es_ret (ed_varD 3)) fun D => ⟨.inl rfl, .inl rfl, .inl rfl, .inr ⟨rfl, rfl⟩, .inl rfl, .inl rfl, .inl rfl, True.intro⟩)
theorem c_names_back : Cal P w K mg base T 1 false "names_back" rBack := Z.d_names_back.cal fun g fd F => by
  refine data_fn F sc_names_back (fun ds d h => by obtain ⟨r, p, rfl, _⟩ := h; rfl) fun cdv A outer s H E lk ds d hal hr h => ?_
  obtain ⟨r, p, rfl, W, hl, rfl⟩ := h
  obtain rfl : lk = none := hal.elim (fun z => nomatch z) id
  have p0 : 0 < p.length := List.length_pos_iff.mpr W.ne
  have ph : p.headD 0 = p.getD 0 0 := by cases p <;> rfl
  let F0 : Nat → Addr → List Sl := fun _ D => [.d (.dict (eRow r)), .d (eI (p.headD 0)), .v (.ref D)]
  let Fl : Nat → Addr → List Sl := fun i D => [.d (.dict (eRow r)), .d (eI (p.headD 0)), .dv (.list ((p.take (i + 1)).map eI)) (.ref D)]
  have hin : ∀ i D, All2 (LsS ((p.take (i + 1)).map eI) D) (F0 i D) (Fl i D) := fun i D => ⟨.inl rfl, .inl rfl, .inr ⟨rfl, rfl⟩, True.intro⟩
  have tne : ∀ i, p.take (i + 1) ≠ [] := fun i z => by
    have := congrArg List.length z
    rw [List.length_take, List.length_nil] at this
    omega
  have tl : ∀ i, i < p.length → (p.take (i + 1)).getLast (tne i) = p.getD i 0 := fun i hi => by
    rw [List.getLast_eq_getElem, List.getElem_take, List.getD_eq_getElem?_getD, List.getElem?_eq_getElem hi]
    have e : (p.take (i + 1)).length - 1 = i := by rw [List.length_take]; omega
    simp only [e]
    rfl
  have ent : ∀ i (x : Int × Option Nat), i < p.length → look r (p.getD i 0) = some x → dget (eRow r) (((p.take (i + 1)).getLast (tne i) : Nat) : Int) = some (eEnt x) := fun i x hi hx => by
    rw [tl i hi, dget_row, hx]
    rfl
  have hstart : (p.take 1).map eI = [eI (p.headD 0)] := by
    cases p with
    | nil => exact absurd rfl W.ne
    | cons a l => rfl
  refine sso_newL (i := 2) (x := "names") (ρ := F0 0) (ds := [eI (p.headD 0)]) sc_names_back.nd (ea_cons (ed_var 1) ea_nil) (by show 1 ≤ 1000; decide) (fun D => rfl) ?_
  rw [← hstart]
  refine sso_consE (so_while (p.length - 1) F0 (fun i => .ls ((p.take (i + 1)).map eI)) PassesOwn.never (fun i hi => ?_) ?_ fun i hi => ?_) ?_
  · obtain ⟨n, hn⟩ := W.go i (by omega)
    exact to_look (ρl := Fl i) (fun D => et_notN (ed_ixT (ed_dget (un1 hr) (ed_var 0) (ed_ixL (ed_varD 2) (ed_neg ed_int) (at_last (tne i))) (ent i _ (by omega) hn)) ed_int rfl) rfl) (hin i)
  · obtain ⟨n, hn⟩ := W.fin
    exact to_look (ρl := Fl (p.length - 1)) (fun D => et_notN (ed_ixT (ed_dget (un1 hr) (ed_var 0) (ed_ixL (ed_varD 2) (ed_neg ed_int) (at_last (tne _))) (ent _ _ (by omega) hn)) ed_int rfl) rfl) (hin _)
  · obtain ⟨n, hn⟩ := W.go i (by omega)
    have e : (p.take (i + 1 + 1)).map eI = (p.take (i + 1)).map eI ++ [eI (p.getD (i + 1) 0)] := by
      rw [List.take_add_one, List.map_append, List.getD_eq_getElem?_getD, List.getElem?_eq_getElem (show i + 1 < p.length by omega)]
      rfl
    show PSs _ _ (tSo T (F0 i) _ (F0 (i + 1)) (.ls ((p.take (i + 1 + 1)).map eI)))
    rw [e]
    exact sso_cons (so_append (i := 2) (do_look (ρl := Fl i) (fun D => ed_ixT (ed_dget (un1 hr) (ed_var 0) (ed_ixL (ed_varD 2) (ed_neg ed_int) (at_last (tne i))) (ent i _ (by omega) hn)) ed_int rfl) (hin i) rfl) (fun D => rfl) (by rw [List.length_map, List.length_take]; omega)) sso_nil
  · have e : p.take (p.length - 1 + 1) = p := List.take_of_length_le (by omega)
    have e2 : eL true p.reverse = .tuple (p.map eI).reverse := by
      show PyData.tuple (p.reverse.map eI) = _
      rw [List.map_reverse]
    rw [e2]
    exact pss_one (soE_known (ρl := Fl (p.length - 1)) (fun D => es_ret (ed_tupleOf (k := false) Z.n_tuple (ed_revL (ed_varD 2 (y := .ref D) (by
      show some (Sl.dv (.list ((p.take (p.length - 1 + 1)).map eI)) (.ref D)) = _
      rw [e]))))) (hin _))
end
end GN

/-! greatest_in -/
namespace GN
open PySem PySem.Spec PyProof.Rows L2

/-! ### plain -/
def backF : Nat → Row → Nat → List Nat
  | 0, _, l => [l]
  | n + 1, r, l => match look r l with
    | some (_, some y) => l :: backF n r y
    | _ => [l]
def backM (r : Row) (l : Nat) : List Nat := backF r.length r l
theorem backF_head (n : Nat) (r : Row) (l : Nat) : (backF n r l).headD 0 = l := by
  cases n with
  | zero => rfl
  | succ n =>
    unfold backF
    split <;> rfl
abbrev Best := Option (Num × Nat × List Nat)
def eBest : Best → PyData
  | none => .none
  | some (n, ax, ns) => .tuple [eO n, eCh ax ns]
def wins (b : Best) (n : Num) : Bool := match b with
  | none => true
  | some x => later n x.1
def stepB (C : Ch) (ax f : Nat) (r : Row) (b : Best) (l : Nat) : Best := if wins b (numB C ax f l (wl r l)) then some (numB C ax f l (wl r l), ax, (backM r l).reverse) else b
def rowB (C : Ch) (ax f : Nat) (r : Row) (b : Best) (es : Row) : Best := es.foldl (fun b e => stepB C ax f r b e.1) b
def axB (C : Ch) (S : Sd) (L : List Nat) (ax : Nat) (b : Best) (fs : List Nat) : Best := fs.foldl (fun b f => rowB C ax f (rowT C S L ax f) b (rowT C S L ax f)) b
def greatM (C : Ch) (S : Sd) (L : List Nat) (axs : List Nat) : Best := axs.foldl (fun b ax => axB C S L ax b L) none
def Bok (b : Best) : Prop := match b with
  | none => True
  | some x => smO x.1
/-- a row that the walk back may use -/
structure RowW (C : Ch) (r : Row) : Prop where
  lt : ∀ e ∈ r, e.1 < C.length
  wl : ∀ e ∈ r, wl r e.1 ≤ 400000
  path : ∀ e ∈ r, PathAt r (backM r e.1) ∧ (backM r e.1).length ≤ 10
theorem stepB_ok {C : Ch} (B : Bd C) {ax f : Nat} {r : Row} {b : Best} {l : Nat} (h : Bok b) (hw : wl r l ≤ 400000) : Bok (stepB C ax f r b l) := by
  unfold stepB
  split
  · exact num_sm B (by omega)
  · exact h
theorem rowB_ok {C : Ch} (B : Bd C) {ax f : Nat} {r : Row} : ∀ (es : Row) {b : Best}, Bok b → (∀ e ∈ es, wl r e.1 ≤ 400000) → Bok (rowB C ax f r b es)
  | [], _, h, _ => h
  | e :: es, b, h, hw => rowB_ok (b := stepB C ax f r b e.1) B es (stepB_ok B h (hw e List.mem_cons_self)) fun x hx => hw x (List.mem_cons_of_mem _ hx)
theorem axB_ok {C : Ch} (B : Bd C) {S : Sd} {L : List Nat} {ax : Nat} : ∀ (fs : List Nat) {b : Best}, Bok b → (∀ f ∈ fs, RowW C (rowT C S L ax f)) → Bok (axB C S L ax b fs)
  | [], _, h, _ => h
  | f :: fs, b, h, hw => axB_ok (b := rowB C ax f (rowT C S L ax f) b (rowT C S L ax f)) B fs (rowB_ok B _ h (hw f List.mem_cons_self).wl) fun x hx => hw x (List.mem_cons_of_mem _ hx)
theorem greatM_ok {C : Ch} (B : Bd C) {S : Sd} {L : List Nat} (hw : ∀ ax, ax ≤ 1 → ∀ f ∈ L, RowW C (rowT C S L ax f)) : ∀ (axs : List Nat) {b : Best}, Bok b → (∀ ax ∈ axs, ax ≤ 1) → Bok (axs.foldl (fun b ax => axB C S L ax b L) b)
  | [], _, h, _ => h
  | ax :: axs, b, h, h1 => greatM_ok (b := axB C S L ax b L) B hw axs (axB_ok B L h (hw ax (h1 ax List.mem_cons_self))) fun x hx => h1 x (List.mem_cons_of_mem _ hx)
theorem foldl_snoc {α β : Type} (g : β → α → β) (b : β) (l : List α) (x : α) : (l ++ [x]).foldl g b = g (l.foldl g b) x := by
  rw [List.foldl_append]
  rfl
theorem two_ax {pre post : List Nat} {ax : Nat} (e : [0, 1] = pre ++ ax :: post) : ax ≤ 1 ∧ ∀ x ∈ pre, x ≤ 1 := by
  have hm : ∀ x ∈ pre ++ ax :: post, x ≤ 1 := fun x hx => by
    rw [← e] at hx
    rcases List.mem_cons.mp hx with rfl | h
    · omega
    · rw [List.mem_singleton.mp h]; omega
  exact ⟨hm ax (List.mem_append_right _ List.mem_cons_self), fun x hx => hm x (List.mem_append_left _ hx)⟩
theorem eBest_isNo (b : Best) : isNo (eBest b) = b.isNone := by
  cases b with
  | none => rfl
  | some x => rfl
section
variable {P : Program} {w : World} {K : PySem.W.Frag} {mg : Str → Option Value} {base : Heap} {T : Tb}
def rGin (ds : List PyData) (d : PyData) : Prop := ∃ (C : Ch) (S : Sd) (L : List Nat), ds = [eC true C, eS true S, eL true L] ∧ WS C S ∧ Bd C ∧ Lot C L ∧ L.Nodup ∧ (∀ ax, ax ≤ 1 → ∀ f ∈ L, RowW C (rowT C S L ax f)) ∧ d = eBest (greatM C S L [0, 1])
variable (Z : Txt K mg)
include Z
theorem c_greatest_in (M : Lam K mg base T) : Cal P w K mg base T 7 false "greatest_in" rGin := Z.d_greatest_in.cal fun g fd F => by
  refine data_fn F sc_greatest_in (fun ds d h => by obtain ⟨C, S, L, rfl, _⟩ := h; rfl) fun cdv A outer s H E lk ds d hal hr h => ?_
  obtain ⟨C, S, L, rfl, W, B, h2, nd, hw, rfl⟩ := h
  obtain rfl : lk = none := hal.elim (fun z => nomatch z) id
  let R0 : Best → List Sl := fun b => [.d (eC true C), .d (eS true S), .d (eL true L), .d (eBest b), .un, .un, .un, .un, .un]
  let R1 : Nat → Best → List Sl := fun ax b => [.d (eC true C), .d (eS true S), .d (eL true L), .d (eBest b), .d (eI ax), .d (tabE C S L ax), .un, .un, .un]
  let R2 : Nat → Nat → Best → List Sl := fun ax f b => [.d (eC true C), .d (eS true S), .d (eL true L), .d (eBest b), .d (eI ax), .d (tabE C S L ax), .d (eI f), .un, .un]
  refine ess_cons (es_set 3 (d := eBest none) ed_non sc_greatest_in.nd) ?_
  refine ess_cons (es_forL [0, 1] (fun ax => .tuple [eI ax, tabE C S L ax]) (fun pre => R0 (pre.foldl (fun b ax => axB C S L ax b L) none)) (fun pre ax => R1 ax (pre.foldl (fun b ax => axB C S L ax b L) none)) PassesOwn.never rfl (ei_enum Z.n_enumerate (ea_cons (ed_call (c_tables_of Z M) (hr.mono (by decide)) (ea3 (ed_var 0) (ed_var 1) (ed_var 2)) ⟨C, S, L, rfl, W, h2, nd, rfl⟩) ea_nil)) Wk.refl (fun pre ax post e => eg_tup2 4 5 rfl sc_greatest_in.nd) fun pre ax post e => ?_) ?_
  · obtain ⟨hx, hpre⟩ := two_ax e
    have ok0 := greatM_ok B hw pre (b := none) True.intro hpre
    rw [foldl_snoc]
    generalize hb0 : pre.foldl (fun b ax => axB C S L ax b L) none = b0 at ok0 ⊢
    refine ess_out (ρ' := R1 ax (axB C S L ax b0 L)) (ess_one (es_forL L eI (fun fs => R1 ax (axB C S L ax b0 fs)) (fun fs f => R2 ax f (axB C S L ax b0 fs)) PassesOwn.never rfl (ei_tup (ed_var 2)) Wk.refl (fun fs f post e => eg_name 6 sc_greatest_in.nd) fun fs f post e => ?_)) ?_
    · have hf : f ∈ L := by rw [e]; exact List.mem_append_right _ List.mem_cons_self
      have hfs : ∀ x ∈ fs, x ∈ L := fun x hx => by rw [e]; exact List.mem_append_left _ hx
      have ok1 := axB_ok (S := S) (L := L) (ax := ax) B fs ok0 fun x hx2 => hw ax hx x (hfs x hx2)
      have hR := hw ax hx f hf
      have hS : axB C S L ax b0 (fs ++ [f]) = rowB C ax f (rowT C S L ax f) (axB C S L ax b0 fs) (rowT C S L ax f) := foldl_snoc _ _ _ _
      rw [hS]
      generalize axB C S L ax b0 fs = b1 at ok1 ⊢
      have hg : dget (L.map fun f => (eI f, PyData.dict (eRow (rowT C S L ax f)))) (f : Int) = some (.dict (eRow (rowT C S L ax f))) := dget_map hf
      generalize hr0 : rowT C S L ax f = r at hR ⊢
      rw [hr0] at hg
      refine ess_out (ρ' := R2 ax f (rowB C ax f r b1 r)) (ess_one (es_forL r (fun e => eI e.1) (fun es => R2 ax f (rowB C ax f r b1 es)) (fun es e => (R2 ax f (rowB C ax f r b1 es)).set 7 (.d (eI e.1))) PassesOwn.never rfl (ei_row (ed_dget (un1 hr) (ed_var 5) (ed_var 6) hg)) Wk.refl (fun es e post q => eg_name 7 sc_greatest_in.nd) fun es e post q => ?_)) ?_
      · have he : e ∈ r := by rw [q]; exact List.mem_append_right _ List.mem_cons_self
        have ok2 := rowB_ok (ax := ax) (f := f) (r := r) B es ok1 fun x hx2 => hR.wl x (by rw [q]; exact List.mem_append_left _ hx2)
        have hS2 : rowB C ax f r b1 (es ++ [e]) = stepB C ax f r (rowB C ax f r b1 es) e.1 := foldl_snoc _ _ _ _
        rw [hS2]
        generalize rowB C ax f r b1 es = b2 at ok2 ⊢
        obtain ⟨x, hlk⟩ := look_some he
        have hd : dget (eRow r) (e.1 : Int) = some (eEnt x) := by rw [dget_row, hlk]; rfl
        have hwl : wl r e.1 = x.1 := by unfold wl; rw [hlk]; rfl
        have hwb := hR.wl e he
        obtain ⟨pa, pl⟩ := hR.path e he
        refine ess_cons (es_set 8 (d := eO (numB C ax f e.1 (wl r e.1))) (ed_call (c_number_by Z) (hr.mono (by decide)) (ea5 (ed_var 0) (ed_var 4) (ed_var 6) (ed_var 7) (ed_ixT (ed_dget (un1 hr) (ed_dget (un1 hr) (ed_var 5) (ed_var 6) hg) (ed_var 7) hd) ed_int rfl)) ⟨true, C, ax, f, e.1, x.1, rfl, hx, h2.lt f hf, hR.lt e he, by have := way_lt B ax f e.1; omega, by rw [hwl]⟩) sc_greatest_in.nd) ?_
        unfold stepB
        generalize hn : numB C ax f e.1 (wl r e.1) = n
        have hsn : smO n := by rw [← hn]; exact num_sm B (by omega)
        refine ess_out (ρ' := ((R2 ax f (if wins b2 n = true then some (n, ax, (backM r e.1).reverse) else b2)).set 7 (.d (eI e.1))).set 8 (.d (eO n))) (ess_one (es_if (k := wins b2 n) ?_ (fun hk => ?_) fun hk => ?_)) ?_
        · cases b2 with
          | none => exact PW.pt (ew_orT (et_isN (ed_var 3) rfl))
          | some y => exact PW.pt (ew_orF (et_isN (ed_var 3) rfl) (ew_one (et_val (ed_call (c_is_later Z) (hr.mono (by decide)) (ea2 (ed_var 8) (ed_ixT (ed_var 3) ed_int rfl)) ⟨n, y.1, rfl, hsn, ok2, rfl⟩)) (.inr rfl)))
        · rw [if_pos hk]
          exact ess_one (es_set 3 (d := eBest (some (n, ax, (backM r e.1).reverse))) (ed_tup (ea2 (ed_var 8) (ed_tup (ea2 (ed_var 4) (ed_call (c_names_back Z) (hr.mono (by decide)) (ea2 (ed_dget (un1 hr) (ed_var 5) (ed_var 6) hg) (ed_var 7)) ⟨r, backM r e.1, by rw [show (backM r e.1).headD 0 = e.1 from backF_head _ _ _], pa, by omega, rfl⟩))))) sc_greatest_in.nd)
        · rw [if_neg (by rw [hk]; decide)]
          exact ess_nil
        · exact ⟨.inr rfl, .inr rfl, .inr rfl, .inr rfl, .inr rfl, .inr rfl, .inr rfl, .inl rfl, .inl rfl, True.intro⟩
      · exact ⟨.inr rfl, .inr rfl, .inr rfl, .inr rfl, .inr rfl, .inr rfl, .inl rfl, .inl rfl, .inl rfl, True.intro⟩
    · exact ⟨.inr rfl, .inr rfl, .inr rfl, .inr rfl, .inl rfl, .inl rfl, .inl rfl, .inl rfl, .inl rfl, True.intro⟩
  · exact ess_one (es_ret (ed_var 3))
end
end GN

/-! through_in -/
namespace GN
open PySem PySem.Spec PyProof.Rows L2

def stepT (C : Ch) (ax f nm : Nat) (rf r : Row) (b : Best) (l : Nat) : Best :=
  if wins b (numB C ax f l (wl rf nm + wl r l)) then some (numB C ax f l (wl rf nm + wl r l), ax, (backM rf nm).reverse ++ (backM r l).reverse.drop 1) else b
def rowU (C : Ch) (ax f nm : Nat) (rf r : Row) (b : Best) (es : Row) : Best := es.foldl (fun b e => stepT C ax f nm rf r b e.1) b
def axU (C : Ch) (S : Sd) (L : List Nat) (ax nm : Nat) (b : Best) (fs : List Nat) : Best := fs.foldl (fun b f => rowU C ax f nm (rowT C S L ax f) (rowT C S L ax nm) b (rowT C S L ax nm)) b
def headsU (C : Ch) (S : Sd) (L : List Nat) (ax nm : Nat) : List Nat := L.filter fun f => (look (rowT C S L ax f) nm).isSome
def throughM (C : Ch) (S : Sd) (L : List Nat) (nm : Nat) (axs : List Nat) : Best := axs.foldl (fun b ax => axU C S L ax nm b (headsU C S L ax nm)) none
theorem look_mem {r : Row} {i : Nat} {x : Int × Option Nat} (h : look r i = some x) : ∃ e ∈ r, e.1 = i ∧ e.2 = x := by
  unfold look at h
  obtain ⟨e, he, rfl⟩ := Option.map_eq_some_iff.mp h
  exact ⟨e, List.mem_of_find?_eq_some he, by simpa using List.find?_some he, rfl⟩
theorem wl_le {C : Ch} {r : Row} (h : RowW C r) (i : Nat) : wl r i ≤ 400000 := by
  unfold wl
  cases q : look r i with
  | none => exact (by decide : (0 : Int) ≤ 400000)
  | some x =>
    obtain ⟨e, he, rfl, rfl⟩ := look_mem q
    have := h.wl e he
    unfold GN.wl at this
    rw [q] at this
    exact this
theorem rowU_ok {C : Ch} (B : Bd C) {ax f nm : Nat} {rf r : Row} (h1 : RowW C rf) (h2 : RowW C r) : ∀ (es : Row) {b : Best}, Bok b → Bok (rowU C ax f nm rf r b es)
  | [], _, h => h
  | e :: es, b, h => rowU_ok (b := stepT C ax f nm rf r b e.1) B h1 h2 es (by
    unfold stepT
    split
    · exact num_sm B (by have := wl_le h1 nm; have := wl_le h2 e.1; omega)
    · exact h)
theorem axU_ok {C : Ch} (B : Bd C) {S : Sd} {L : List Nat} {ax nm : Nat} (hn : RowW C (rowT C S L ax nm)) : ∀ (fs : List Nat) {b : Best}, Bok b → (∀ f ∈ fs, RowW C (rowT C S L ax f)) → Bok (axU C S L ax nm b fs)
  | [], _, h, _ => h
  | f :: fs, b, h, hw => axU_ok (b := rowU C ax f nm (rowT C S L ax f) (rowT C S L ax nm) b (rowT C S L ax nm)) B hn fs (rowU_ok B (hw f List.mem_cons_self) hn _ h) fun x hx => hw x (List.mem_cons_of_mem _ hx)
theorem throughM_ok {C : Ch} (B : Bd C) {S : Sd} {L : List Nat} {nm : Nat} (hm : nm ∈ L) (hw : ∀ ax, ax ≤ 1 → ∀ f ∈ L, RowW C (rowT C S L ax f)) : ∀ (axs : List Nat) {b : Best}, Bok b → (∀ ax ∈ axs, ax ≤ 1) → Bok (axs.foldl (fun b ax => axU C S L ax nm b (headsU C S L ax nm)) b)
  | [], _, h, _ => h
  | ax :: axs, b, h, h1 => throughM_ok (b := axU C S L ax nm b (headsU C S L ax nm)) B hm hw axs (axU_ok B (hw ax (h1 ax List.mem_cons_self) nm hm) _ h fun f hf => hw ax (h1 ax List.mem_cons_self) f (List.mem_filter.mp hf).1) fun x hx => h1 x (List.mem_cons_of_mem _ hx)
theorem cut_tail (xs : List PyData) (h : xs ≠ []) : cutP xs (some 1) none = xs.drop 1 := by
  cases xs with
  | nil => exact absurd rfl h
  | cons a l =>
    have e1 : HT.sIx (a :: l).length 0 (some 1) = 1 := by
      unfold HT.sIx
      rw [List.length_cons]
      simp
      try omega
    have e2 : HT.sIx (a :: l).length (a :: l).length none = (a :: l).length := rfl
    unfold cutP
    rw [e1, e2, List.length_cons]
    show List.take (l.length + 1 - 1) l = l
    exact List.take_of_length_le (by omega)
section
variable {P : Program} {w : World} {K : PySem.W.Frag} {mg : Str → Option Value} {base : Heap} {T : Tb}
def rThr (ds : List PyData) (d : PyData) : Prop := ∃ (C : Ch) (S : Sd) (L : List Nat) (nm : Nat), ds = [eC true C, eS true S, eL true L, eI nm] ∧ WS C S ∧ Bd C ∧ Lot C L ∧ L.Nodup ∧ nm ∈ L ∧ (∀ ax, ax ≤ 1 → ∀ f ∈ L, RowW C (rowT C S L ax f)) ∧ d = eBest (throughM C S L nm [0, 1])
variable (Z : Txt K mg)
include Z
theorem c_through_in (M : Lam K mg base T) : Cal P w K mg base T 7 false "through_in" rThr := Z.d_through_in.cal fun g fd F => by
  refine data_fn F sc_through_in (fun ds d h => by obtain ⟨C, S, L, nm, rfl, _⟩ := h; rfl) fun cdv A outer s H E lk ds d hal hr h => ?_
  obtain ⟨C, S, L, nm, rfl, W, B, h2, nd, hnm, hw, rfl⟩ := h
  obtain rfl : lk = none := hal.elim (fun z => nomatch z) id
  let R0 : Best → List Sl := fun b => [.d (eC true C), .d (eS true S), .d (eL true L), .d (eI nm), .d (eBest b), .un, .un, .un, .un, .un, .un, .un, .un]
  let R1 : Nat → Best → List Sl := fun ax b => [.d (eC true C), .d (eS true S), .d (eL true L), .d (eI nm), .d (eBest b), .d (eI ax), .d (tabE C S L ax), .un, .un, .un, .un, .un, .un]
  let R2 : Nat → Nat → Int → Best → List Sl := fun ax f n b => [.d (eC true C), .d (eS true S), .d (eL true L), .d (eI nm), .d (eBest b), .d (eI ax), .d (tabE C S L ax), .d (eI f), .d (.int n), .un, .un, .un, .un]
  refine ess_cons (es_set 4 (d := eBest none) ed_non sc_through_in.nd) ?_
  refine ess_cons (es_forL [0, 1] (fun ax => .tuple [eI ax, tabE C S L ax]) (fun pre => R0 (pre.foldl (fun b ax => axU C S L ax nm b (headsU C S L ax nm)) none)) (fun pre ax => R1 ax (pre.foldl (fun b ax => axU C S L ax nm b (headsU C S L ax nm)) none)) PassesOwn.never rfl (ei_enum Z.n_enumerate (ea_cons (ed_call (c_tables_of Z M) (hr.mono (by decide)) (ea3 (ed_var 0) (ed_var 1) (ed_var 2)) ⟨C, S, L, rfl, W, h2, nd, rfl⟩) ea_nil)) Wk.refl (fun pre ax post e => eg_tup2 5 6 rfl sc_through_in.nd) fun pre ax post e => ?_) ?_
  · obtain ⟨hx, hpre⟩ := two_ax e
    have ok0 := throughM_ok B hnm hw pre (b := none) True.intro hpre
    have hN := hw ax hx nm hnm
    have hgn : dget (L.map fun f => (eI f, PyData.dict (eRow (rowT C S L ax f)))) (nm : Int) = some (.dict (eRow (rowT C S L ax nm))) := dget_map hnm
    rw [foldl_snoc]
    generalize hb0 : pre.foldl (fun b ax => axU C S L ax nm b (headsU C S L ax nm)) none = b0 at ok0 ⊢
    refine ess_out (ρ' := R1 ax (axU C S L ax nm b0 (headsU C S L ax nm))) (ess_one (es_forL (headsU C S L ax nm) eI (fun fs => R1 ax (axU C S L ax nm b0 fs)) (fun fs f => (R1 ax (axU C S L ax nm b0 fs)).set 7 (.d (eI f))) PassesOwn.never rfl
      (ei_list (ed_lcM 12 L eI (fun f => (look (rowT C S L ax f) nm).isSome) eI rfl sc_through_in.nd (ei_tup (ed_var 2)) (by have := h2.sh; omega) (fun z _ _ _ _ _ _ => eg_nameW 12 sc_through_in.nd) (fun z hz _ _ _ _ _ => ?_) (fun z _ _ _ _ _ _ _ => ed_var 12) (blkOk_by (N := N_through_in) (sc := defScope s_through_in) (by decide +kernel)))) Wk.refl (fun fs f post e => eg_name 7 sc_through_in.nd) fun fs f post e => ?_)) ?_
    · have hgz : dget (L.map fun f => (eI f, PyData.dict (eRow (rowT C S L ax f)))) (z : Int) = some (.dict (eRow (rowT C S L ax z))) := dget_map hz
      have q : (look (rowT C S L ax z) nm).isSome = (dget (eRow (rowT C S L ax z)) (nm : Int)).isSome := by rw [dget_row, Option.isSome_map]
      rw [q]
      exact ets_one (et_din (un1 hr) (ed_var 3) (ed_dget (un1 hr) (ed_var 6) (ed_var 12) hgz))
    · have hfh : f ∈ headsU C S L ax nm := by rw [e]; exact List.mem_append_right _ List.mem_cons_self
      obtain ⟨hf, hfs2⟩ := List.mem_filter.mp hfh
      have hfs : ∀ x ∈ fs, x ∈ L := fun x hx => (List.mem_filter.mp (show x ∈ headsU C S L ax nm by rw [e]; exact List.mem_append_left _ hx)).1
      have ok1 := axU_ok (S := S) (L := L) (ax := ax) B hN fs ok0 fun x hx2 => hw ax hx x (hfs x hx2)
      have hRf := hw ax hx f hf
      have hS : axU C S L ax nm b0 (fs ++ [f]) = rowU C ax f nm (rowT C S L ax f) (rowT C S L ax nm) (axU C S L ax nm b0 fs) (rowT C S L ax nm) := foldl_snoc _ _ _ _
      rw [hS]
      generalize axU C S L ax nm b0 fs = b1 at ok1 ⊢
      have hg : dget (L.map fun f => (eI f, PyData.dict (eRow (rowT C S L ax f)))) (f : Int) = some (.dict (eRow (rowT C S L ax f))) := dget_map hf
      obtain ⟨x0, hlk0⟩ := Option.isSome_iff_exists.mp hfs2
      generalize hr0 : rowT C S L ax f = rf at hRf hlk0 ⊢
      rw [hr0] at hg
      have hd0 : dget (eRow rf) (nm : Int) = some (eEnt x0) := by rw [dget_row, hlk0]; rfl
      have hwl0 : wl rf nm = x0.1 := by unfold wl; rw [hlk0]; rfl
      have hwlb0 := wl_le hRf nm
      obtain ⟨e0, he0, he01, _⟩ := look_mem hlk0
      have hp0 := hRf.path e0 he0
      rw [he01] at hp0
      refine ess_cons (ρ' := R2 ax f (wl rf nm) b1) (es_set 8 (d := .int (wl rf nm)) (by
        rw [hwl0]
        exact ed_ixT (ed_dget (un1 hr) (ed_dget (un1 hr) (ed_var 6) (ed_var 7) hg) (ed_var 3) hd0) ed_int rfl) sc_through_in.nd) ?_
      generalize hr1 : rowT C S L ax nm = r at hN ⊢
      rw [hr1] at hgn
      refine ess_out (ρ' := R2 ax f (wl rf nm) (rowU C ax f nm rf r b1 r)) (ess_one (es_forL r (fun e => eI e.1) (fun es => R2 ax f (wl rf nm) (rowU C ax f nm rf r b1 es)) (fun es e => (R2 ax f (wl rf nm) (rowU C ax f nm rf r b1 es)).set 9 (.d (eI e.1))) PassesOwn.never rfl (ei_row (ed_dget (un1 hr) (ed_var 6) (ed_var 3) hgn)) Wk.refl (fun es e post q => eg_name 9 sc_through_in.nd) fun es e post q => ?_)) ?_
      · have he : e ∈ r := by rw [q]; exact List.mem_append_right _ List.mem_cons_self
        have ok2 := rowU_ok (ax := ax) (f := f) (nm := nm) (rf := rf) (r := r) B hRf hN es ok1
        have hS2 : rowU C ax f nm rf r b1 (es ++ [e]) = stepT C ax f nm rf r (rowU C ax f nm rf r b1 es) e.1 := foldl_snoc _ _ _ _
        rw [hS2]
        generalize rowU C ax f nm rf r b1 es = b2 at ok2 ⊢
        obtain ⟨x, hlk⟩ := look_some he
        have hd : dget (eRow r) (e.1 : Int) = some (eEnt x) := by rw [dget_row, hlk]; rfl
        have hwl : wl r e.1 = x.1 := by unfold wl; rw [hlk]; rfl
        have hwb := hN.wl e he
        obtain ⟨pa, pl⟩ := hN.path e he
        refine ess_cons (es_set 10 (d := eO (numB C ax f e.1 (wl rf nm + wl r e.1))) (ed_call (c_number_by Z) (hr.mono (by decide)) (ea5 (ed_var 0) (ed_var 5) (ed_var 7) (ed_var 9) (ed_add (ed_var 8) (ed_ixT (ed_dget (un1 hr) (ed_dget (un1 hr) (ed_var 6) (ed_var 3) hgn) (ed_var 9) hd) ed_int rfl))) ⟨true, C, ax, f, e.1, wl rf nm + x.1, rfl, hx, h2.lt f hf, hN.lt e he, by have := way_lt B ax f e.1; omega, by rw [hwl]⟩) sc_through_in.nd) ?_
        unfold stepT
        generalize hn : numB C ax f e.1 (wl rf nm + wl r e.1) = n
        have hsn : smO n := by rw [← hn]; exact num_sm B (by omega)
        refine ess_out (ρ' := ((R2 ax f (wl rf nm) (if wins b2 n = true then some (n, ax, (backM rf nm).reverse ++ (backM r e.1).reverse.drop 1) else b2)).set 9 (.d (eI e.1))).set 10 (.d (eO n))) (ess_one (es_if (k := wins b2 n) ?_ (fun hk => ?_) fun hk => ?_)) ?_
        · cases b2 with
          | none => exact PW.pt (ew_orT (et_isN (ed_var 4) rfl))
          | some y => exact PW.pt (ew_orF (et_isN (ed_var 4) rfl) (ew_one (et_val (ed_call (c_is_later Z) (hr.mono (by decide)) (ea2 (ed_var 10) (ed_ixT (ed_var 4) ed_int rfl)) ⟨n, y.1, rfl, hsn, ok2, rfl⟩)) (.inr rfl)))
        · rw [if_pos hk]
          have hne : ((backM r e.1).reverse.map eI) ≠ [] := fun z => pa.ne (by simpa using z)
          have hcat : PyData.tuple ((backM rf nm).reverse.map eI ++ cutP ((backM r e.1).reverse.map eI) (some 1) none) = eL true ((backM rf nm).reverse ++ (backM r e.1).reverse.drop 1) := by
            rw [cut_tail _ hne, ← List.map_drop, ← List.map_append]
            rfl
          refine ess_cons (es_set 11 (d := PyData.tuple ((backM rf nm).reverse.map eI ++ cutP ((backM r e.1).reverse.map eI) (some 1) none)) (ed_catT ?_ (ed_call (c_names_back Z) (hr.mono (by decide)) (ea2 (ed_dget (un1 hr) (ed_var 6) (ed_var 7) hg) (ed_var 3)) ⟨rf, backM rf nm, by rw [show (backM rf nm).headD 0 = nm from backF_head _ _ _], hp0.1, by have := hp0.2; omega, rfl⟩)
            (ed_cutT (ed_call (c_names_back Z) (hr.mono (by decide)) (ea2 (ed_dget (un1 hr) (ed_var 6) (ed_var 3) hgn) (ed_var 9)) ⟨r, backM r e.1, by rw [show (backM r e.1).headD 0 = e.1 from backF_head _ _ _], pa, by omega, rfl⟩) (eo_some ed_int) eo_none)) sc_through_in.nd) ?_
          · rw [cut_tail _ hne, List.length_map, List.length_drop, List.length_map, List.length_reverse, List.length_reverse]
            have := hp0.2
            omega
          rw [hcat]
          refine ess_out (ess_one (es_set 4 (d := eBest (some (n, ax, (backM rf nm).reverse ++ (backM r e.1).reverse.drop 1))) (ed_tup (ea2 (ed_var 10) (ed_tup (ea2 (ed_var 5) (ed_var 11))))) sc_through_in.nd)) ?_
          exact ⟨.inr rfl, .inr rfl, .inr rfl, .inr rfl, .inr rfl, .inr rfl, .inr rfl, .inr rfl, .inr rfl, .inr rfl, .inr rfl, .inl rfl, .inr rfl, True.intro⟩
        · rw [if_neg (by rw [hk]; decide)]
          exact ess_nil
        · exact ⟨.inr rfl, .inr rfl, .inr rfl, .inr rfl, .inr rfl, .inr rfl, .inr rfl, .inr rfl, .inr rfl, .inl rfl, .inl rfl, .inr rfl, .inr rfl, True.intro⟩
      · exact ⟨.inr rfl, .inr rfl, .inr rfl, .inr rfl, .inr rfl, .inr rfl, .inr rfl, .inl rfl, .inl rfl, .inl rfl, .inl rfl, .inl rfl, .inl rfl, True.intro⟩
    · exact ⟨.inr rfl, .inr rfl, .inr rfl, .inr rfl, .inr rfl, .inl rfl, .inl rfl, .inl rfl, .inl rfl, .inl rfl, .inl rfl, .inl rfl, .inl rfl, True.intro⟩
  · exact ess_one (es_ret (ed_var 4))
end
end GN

/-! the error; greatest_chain, through -/
namespace GN
open PySem PySem.Spec PyProof.Rows L2

/-- the class of the error -/
structure ErrC (K : PySem.W.Frag) (mg : Str → Option Value) (CN : Addr) : Prop where
  gC : mg "CanNot" = some (.ref CN)
  kC : PySem.W.keepIn K (.ref CN) = true
  q : PySem.W.excIn K CN [.type "ValueError", .type "Exception", .type "BaseException", .type "object"] "ValueError.__new__" = true
  exC : PySem.W.subIn K (.ref CN) (.type "BaseException") = some true
  tyC : PySem.W.typeIn K (.ref CN) = some (.type "type")
  te : PySem.W.exmOne K (.ref CN) (.ref CN) = some true
  ec : ExcC K CN
  kit : PySem.W.kitOne K (.ref CN) (.type "ValueError") = some true
section
variable {X : Cx} {C : Addr} {bmB : List Value} {B newId initId : String}
/-- X() -/
theorem pmk_own0 {x : Str} {p pos : Pos} (F : ExcBaseFacts B newId initId bmB) (q : PySem.W.excIn X.K C bmB newId = true) (gC : X.mg x = some (.ref C)) (kC : PySem.W.keepIn X.K (.ref C) = true) (r : Raises X (.ref C)) (hg : Gl X x)
    (hdb : (x == ("__debug__" : Str)) = false := by decide) : PMk X (.Call (.Name x p) [] [] pos) (fun _ H Q => Q (.ref C) none H) := by
  intro pins s σ H Q I h
  refine wpAny_Call_Name_kw (ld_glob I hg gC ?_ hdb)
  refine PySem.W.callWith_K0 I.kIn kC ?_
  show wpAny _ _ (call (.ref C) []) _ _ _
  obtain ⟨bm, N, nm, qn, bs, hdct, sn, sub, ab, col, dd, k0, k1, k2, k3, k5, mN, hC, hN, hni, T⟩ := exc_obj I.kIn q
  refine wpAny_call_exc_subT F T hC hN hni (fun h' e hm => ?_) (Nat.zero_le _)
  exact mk_of I hm r h (I.hok.gone hm.new)
end
/-- ends in the error -/
def tSX (T : Tb) (CN : Addr) (W : WX) (ρ : List Sl) : TS := fun Dn σ H => ∃ G, Sub T none G H ∧ Rel G ρ σ ∧ ∀ σ' G' H', Ext T none G H G' H' → W (.ref CN) none σ' H'
/-- a promise: data, or the error -/
def spX (T : Tb) (CN : Addr) (rel : List PyData → Option PyData → Prop) : Sp := fun vs H Q E => ∃ G ds r, Sub T none G H ∧ reps G ds vs ∧ rel ds r ∧
  (∀ d, r = some d → ∀ v G' H', Ext T none G H G' H' → rep G' d v → Q v H') ∧ (r = none → ∀ G' H', Ext T none G H G' H' → E (.ref CN) none H')
structure CalX (P : Program) (w : World) (K : PySem.W.Frag) (mg : Str → Option Value) (base : Heap) (T : Tb) (CN : Addr) (k : Nat) (x : Str) (rel : List PyData → Option PyData → Prop) : Prop where
  ex : ∃ (f : Addr) (fd : FuncData) (ps : List Str), mg x = some (.ref f) ∧ PySem.W.keepIn K (.ref f) = true ∧ Binds K fd ps [] ∧ FnOk P w K mg base (L2.CX P w) k f fd ps (spX T CN rel)
section
variable {T : Tb} {X : Cx} {ρ ρ' : List Sl} {st : Stmt} {sts : List Stmt} {pos : Pos} {CN : Addr} {W : WX}
theorem ess_consX (h1 : PS X st (tS T none ρ (.nx ρ'))) (h2 : PSs X sts (tSX T CN W ρ')) : PSs X (st :: sts) (tSX T CN W ρ) :=
  pss_imp (pss_cons h1 h2) fun Dn σ H ⟨G, S, R, q⟩ => ⟨G, S, R, fun σ' G' H' E r => ⟨G', E.sub, r, fun σ2 G2 H2 E2 => q σ2 G2 H2 (E.trans E2)⟩⟩
theorem ess_rtX (h1 : PS X st (tSX T CN W ρ)) : PSs X (st :: sts) (tSX T CN W ρ) := pss_imp (pss_cons h1 pss_never) fun Dn σ H ⟨G, S, R, q⟩ => ⟨G, S, R, q⟩
theorem es_ifX {c : Expr} {p q : List Stmt} (hc : PT X c (tT T none ρ true)) (h1 : PSs X p (tSX T CN W ρ)) : PS X (.If c p q pos) (tSX T CN W ρ) :=
  ps_imp (ps_if hc h1 pss_never) fun Dn σ H ⟨G, S, R, q⟩ => ⟨G, S, R, fun G' H' E => iteT ⟨G', E.sub, R.mono E.gg, fun σ2 G2 H2 E2 => q σ2 G2 H2 (E.trans E2)⟩⟩
theorem es_raise {p pos2 : Pos} (hc : X.calm = true) (tk : Takes X W) (EC : ErrC X.K X.mg CN) (hg : Gl X "CanNot" := by rfl) : PS X (.Raise (some (.Call (.Name "CanNot" p) [] [] pos)) none pos2) (tSX T CN W ρ) :=
  ps_imp (ps_raise hc tk (pmk_own0 F.excBase_ValueError EC.q EC.gC EC.kC (raises_own EC.exC EC.tyC) hg)) fun Dn σ H ⟨G, S, R, q⟩ => q σ G H (.refl S)
end
section
variable {P : Program} {w : World} {K : PySem.W.Frag} {mg : Str → Option Value} {base : Heap} {T : Tb} {k : Nat} {x : Str} {CN : Addr} {rel : List PyData → Option PyData → Prop} {st : Stmt} {ps : List Str}
theorem Def.calX (D : Def K mg x st ps) (ok : ∀ f fd, Fun K x x st f fd → FnOk P w K mg base (L2.CX P w) k f fd ps (spX T CN rel)) : CalX P w K mg base T CN k x rel := by
  obtain ⟨f, fd, h1, h2, h3⟩ := D
  exact ⟨f, fd, ps, h2, h1.kp, h3, ok f fd h1⟩
theorem data_fnX {qual : Str} {f : Addr} {fd : FuncData} {N : List Str} (F : Fun K x qual st f fd) (S : FnScope N ps (defScope st)) (len : ∀ ds r, rel ds r → ds.length = ps.length)
    (body : ∀ (cdv : Value) (A : Around) (outer : List Env) (s : Shared) (H : Hp) (E : XK) (ds : List PyData) (r : Option PyData), Room k (A.deeper (envOfC qual (defScope st) s.heap.objs.size f cdv)) → rel ds r →
      (∀ d, r = some d → PSs (cxOf (L2.CX P w) P w K mg base N qual (defScope st) f cdv A outer s H E) (defBody st) (tS T none (startS N.length ds) (.rt d))) ∧
      (r = none → PSs (cxOf (L2.CX P w) P w K mg base N qual (defScope st) f cdv A outer s H E) (defBody st) (tSX T CN (fun cls d _ H' => E cls d H') (startS N.length ds)))) :
    FnOk P w K mg base (L2.CX P w) (k + 1) f fd ps (spX T CN rel) := by
  obtain ⟨oc, od, kV, doc, pm, an, cdv, ct, osl, rfl, lk, hcd⟩ := F.ex
  refine fn_of lk hcd S (fun vs H Q E h => ?_) fun A outer s H vs Q E hr h => ?_
  · obtain ⟨G, ds, r, _, rr, hrel, _⟩ := h
    rw [reps_length rr]
    exact len ds r hrel
  · obtain ⟨G, ds, r, Sb, rr, hrel, q1, q2⟩ := h
    obtain ⟨b1, b2⟩ := body cdv A outer s H E ds r hr hrel
    cases r with
    | some d => exact ⟨_, b1 d rfl, G, Sb, Rel.start rr, q1 d rfl⟩
    | none => exact ⟨_, b2 rfl, G, Sb, Rel.start rr, fun σ' G' H' E' => q2 rfl G' H' E'⟩
end

/-! ### what is asked of a map, its sides and a lot -/
structure Okk (C : Ch) (S : Sd) (L : List Nat) : Prop where
  ws : WS C S
  bd : Bd C
  lot : Lot C L
  nd : L.Nodup
  small : C.length ≤ 100
  rows : ∀ ax, ax ≤ 1 → ∀ f ∈ L, RowW C (rowT C S L ax f)
  gr : L ≠ [] → ∃ x, greatM C S L [0, 1] = some x
  th : ∀ i ∈ L, ∃ x, throughM C S L i [0, 1] = some x
theorem fine_at {x : PyData} (h : atom x = true) : ∀ n, fine n x
  | 0 => h
  | _ + 1 => .inl h
theorem fine_of {n : Nat} {k : Bool} {ds : List PyData} (h1 : ds.length ≤ 1000) (h2 : ∀ x ∈ ds, fine n x) : fine (n + 1) (sq k ds) := .inr ⟨k, ds, rfl, h1, h2⟩
theorem fine_te (k : Bool) (t : Te) : fine 1 (eT k t) := fine_of (by show 4 ≤ 1000; decide) fun x hx => by
  simp only [List.mem_cons, List.not_mem_nil, or_false] at hx
  rcases hx with rfl | rfl | rfl | rfl <;> rfl
theorem fine_nm (k : Bool) (n : Nm) : fine 2 (eN k n) := fine_of (by show 4 ≤ 1000; decide) fun x hx => by
  simp only [List.mem_cons, List.not_mem_nil, or_false] at hx
  rcases hx with rfl | rfl | rfl | rfl
  · exact fine_at rfl 1
  · exact fine_at rfl 1
  · exact fine_te k _
  · exact fine_te k _
theorem fine_ch {k : Bool} {C : Ch} (h : C.length ≤ 100) : fine 3 (eC k C) := fine_of (by rw [List.length_map]; omega) fun x hx => by
  obtain ⟨n, _, rfl⟩ := List.mem_map.mp hx
  exact fine_nm k n
theorem fine_row {k : Bool} {r : List Int} (h : r.length ≤ 100) : fine 1 (sq k (r.map PyData.int)) := fine_of (by rw [List.length_map]; omega) fun x hx => by
  obtain ⟨n, _, rfl⟩ := List.mem_map.mp hx
  rfl
theorem fine_lot {k : Bool} {L : List Nat} (h : L.length ≤ 100) : fine 1 (eL k L) := fine_of (by rw [List.length_map]; omega) fun x hx => by
  obtain ⟨n, _, rfl⟩ := List.mem_map.mp hx
  rfl
theorem ws_rows {C : Ch} {S : Sd} (W : WS C S) (h : C.length ≤ 100) : ∀ r ∈ S, r.length ≤ 100 := fun r hr => by
  obtain ⟨j, hj, rfl⟩ := List.getElem_of_mem hr
  have hj2 : j < C.length := by rw [← W.len]; exact hj
  have := W.row j hj2
  rw [List.getD_eq_getElem?_getD, List.getElem?_eq_getElem hj] at this
  have e : S[j].length = j := this
  omega
theorem fine_sd {k : Bool} {C : Ch} {S : Sd} (W : WS C S) (h : C.length ≤ 100) : fine 2 (eS k S) := fine_of (by rw [List.length_map, W.len]; omega) fun x hx => by
  obtain ⟨r, hr, rfl⟩ := List.mem_map.mp hx
  exact fine_row (ws_rows W h r hr)
theorem tup_ints {α : Type} (l : List α) (g : α → PyData) (h : ∀ x, tup (g x) = g x) : (l.map g).map tup = l.map g := by
  rw [List.map_map]
  exact List.map_congr_left fun x _ => h x
theorem tup_te (k : Bool) (t : Te) : tup (eT k t) = eT true t := by unfold eT; rw [tup_sq]; rfl
theorem tup_nm (k : Bool) (n : Nm) : tup (eN k n) = eN true n := by
  unfold eN
  rw [tup_sq]
  show PyData.tuple [.int n.w, .int n.h, tup (eT k n.ac), tup (eT k n.dn)] = _
  rw [tup_te, tup_te]
  rfl
theorem tup_ch (k : Bool) (C : Ch) : tup (eC k C) = eC true C := by
  unfold eC
  rw [tup_sq, List.map_map]
  exact congrArg PyData.tuple (List.map_congr_left fun n _ => tup_nm k n)
theorem tup_sd (k : Bool) (S : Sd) : tup (eS k S) = eS true S := by
  unfold eS
  rw [tup_sq, List.map_map]
  refine congrArg PyData.tuple (List.map_congr_left fun r _ => ?_)
  show tup (sq k (r.map PyData.int)) = _
  rw [tup_sq, tup_ints r PyData.int fun _ => rfl]
  rfl
theorem tup_lot (k : Bool) (L : List Nat) : tup (eL k L) = eL true L := by
  unfold eL
  rw [tup_sq, tup_ints L eI fun _ => rfl]
  rfl
def bestCh : Best → PyData
  | none => .none
  | some x => eCh x.2.1 x.2.2
theorem eqv_empty (L : List Nat) : PyData.eqv (eL true L) (.tuple []) = decide (L = []) := by
  cases L with
  | nil => first | rfl | decide +kernel
  | cons a l => first | rfl | (simp [eL, sq, PyData.eqv]) | decide +kernel
section
variable {P : Program} {w : World} {K : PySem.W.Frag} {mg : Str → Option Value} {base : Heap} {T : Tb} {CN : Addr}
def rGc (ds : List PyData) (r : Option PyData) : Prop := ∃ (k k2 k3 : Bool) (C : Ch) (S : Sd) (L : List Nat), ds = [eC k C, eS k2 S, eL k3 L] ∧ Okk C S L ∧ r = if L = [] then none else some (bestCh (greatM C S L [0, 1]))
def rTh (ds : List PyData) (r : Option PyData) : Prop := ∃ (k k2 k3 : Bool) (C : Ch) (S : Sd) (L : List Nat) (i : Nat), ds = [eC k C, eS k2 S, eL k3 L, eI i] ∧ Okk C S L ∧ i < C.length ∧ r = if i ∈ L then some (bestCh (throughM C S L i [0, 1])) else none
variable (Z : Txt K mg)
include Z
theorem c_greatest_chain (M : Lam K mg base T) (EC : ErrC K mg CN) : CalX P w K mg base T CN 8 "greatest_chain" rGc := Z.d_greatest_chain.calX fun g fd F => by
  refine data_fnX F sc_greatest_chain (fun ds r h => by obtain ⟨k, k2, k3, C, S, L, rfl, _⟩ := h; rfl) fun cdv A outer s H E ds r hr h => ?_
  obtain ⟨k, k2, k3, C, S, L, rfl, O, hrr⟩ := h
  have sh := O.lot.sh
  have st1 : PS (cxOf (L2.CX P w) P w K mg base N_greatest_chain "greatest_chain" (defScope s_greatest_chain) g cdv A outer s H E) ((defBody s_greatest_chain).getD 0 (.Pass ⟨0, 0, 0, 0⟩)) (tS T none (startS N_greatest_chain.length [eC k C, eS k2 S, eL k3 L]) (.nx [.d (eC k C), .d (eS k2 S), .d (eL k3 L), .d (eC true C), .d (eS true S), .d (eL true L)])) := by
    rw [← tup_ch k C, ← tup_sd k2 S, ← tup_lot k3 L]
    refine es_par3 3 4 5 rfl sc_greatest_chain.nd (ea3 (ed_call (c_tuple_of Z 3) (hr.mono (by decide)) (ea_cons (ed_var 0) ea_nil) ⟨_, rfl, fine_ch O.small, rfl⟩) (ed_call (c_tuple_of Z 2) (hr.mono (by decide)) (ea_cons (ed_var 1) ea_nil) ⟨_, rfl, fine_sd O.ws O.small, rfl⟩) (ed_call (c_tuple_of Z 1) (hr.mono (by decide)) (ea_cons (ed_var 2) ea_nil) ⟨_, rfl, fine_lot (by omega), rfl⟩))
  have tst : ∀ {p1 p2 p3 : Pos} {j : Nat} {b : Bool}, decide (L = []) = b → PT (cxOf (L2.CX P w) P w K mg base N_greatest_chain "greatest_chain" (defScope s_greatest_chain) g cdv A outer s H E) (.Compare (.Name "names" p1) [.Eq] [.Tuple [] j p2] p3) (tT T none [.d (eC k C), .d (eS k2 S), .d (eL k3 L), .d (eC true C), .d (eS true S), .d (eL true L)] b) := fun {p1 p2 p3 j b} hb =>
    et_cmp (op_eqD (Nat.lt_of_succ_lt (hu65 hr))) (rd_cast (rd_eqD (eL_noDict L) rfl (eL_shaped L) (by decide +kernel)) ((eqv_empty L).trans hb)) (ed_var 5) (ed_tup ea_nil)
  refine ⟨fun d hd => ?_, fun hd => ?_⟩
  · have hL : L ≠ [] := fun z => by rw [hrr, if_pos z] at hd; cases hd
    rw [hrr, if_neg hL] at hd
    obtain rfl := Option.some.inj hd
    obtain ⟨x, hx⟩ := O.gr hL
    refine ess_cons st1 (ess_cons (es_if (k := false) (tst (decide_eq_false hL)) (fun z => nomatch z) fun _ => ess_nil) (ess_one (es_ret ?_)))
    rw [hx]
    exact ed_ixT (xs := [eO x.1, eCh x.2.1 x.2.2]) (ed_call (d := eBest (some x)) (c_greatest_in Z M) (hr.mono (by decide)) (ea3 (ed_var 3) (ed_var 4) (ed_var 5)) ⟨C, S, L, rfl, O.ws, O.bd, O.lot, O.nd, O.rows, by rw [hx]⟩) ed_int rfl
  · have hL : L = [] := by
      by_cases z : L = []
      · exact z
      · rw [hrr, if_neg z] at hd; cases hd
    exact ess_consX st1 (ess_rtX (es_ifX (tst (decide_eq_true hL)) (ess_rtX (es_raise rfl (takes_of rfl rfl rfl rfl) EC))))
theorem c_through (M : Lam K mg base T) (EC : ErrC K mg CN) : CalX P w K mg base T CN 8 "through" rTh := Z.d_through.calX fun g fd F => by
  refine data_fnX F sc_through (fun ds r h => by obtain ⟨k, k2, k3, C, S, L, i, rfl, _⟩ := h; rfl) fun cdv A outer s H E ds r hr h => ?_
  obtain ⟨k, k2, k3, C, S, L, i, rfl, O, hi, hrr⟩ := h
  have sh := O.lot.sh
  let ρ1 : List Sl := [.d (eC k C), .d (eS k2 S), .d (eL k3 L), .d (eI i), .d (eC true C), .d (eS true S), .d (eL true L)]
  have st1 : PS (cxOf (L2.CX P w) P w K mg base N_through "through" (defScope s_through) g cdv A outer s H E) ((defBody s_through).getD 0 (.Pass ⟨0, 0, 0, 0⟩)) (tS T none (startS N_through.length [eC k C, eS k2 S, eL k3 L, eI i]) (.nx ρ1)) := by
    show PS _ _ (tS T none _ (.nx [.d (eC k C), .d (eS k2 S), .d (eL k3 L), .d (eI i), .d (eC true C), .d (eS true S), .d (eL true L)]))
    rw [← tup_ch k C, ← tup_sd k2 S, ← tup_lot k3 L]
    refine es_par3 4 5 6 rfl sc_through.nd (ea3 (ed_call (c_tuple_of Z 3) (hr.mono (by decide)) (ea_cons (ed_var 0) ea_nil) ⟨_, rfl, fine_ch O.small, rfl⟩) (ed_call (c_tuple_of Z 2) (hr.mono (by decide)) (ea_cons (ed_var 1) ea_nil) ⟨_, rfl, fine_sd O.ws O.small, rfl⟩) (ed_call (c_tuple_of Z 1) (hr.mono (by decide)) (ea_cons (ed_var 2) ea_nil) ⟨_, rfl, fine_lot (by omega), rfl⟩))
  have st2 : PS (cxOf (L2.CX P w) P w K mg base N_through "through" (defScope s_through) g cdv A outer s H E) ((defBody s_through).getD 1 (.Pass ⟨0, 0, 0, 0⟩)) (tS T none ρ1 (.nx ρ1)) :=
    ps_imp (ps_expr (ed_call (d := .none) (lk := none) (ρ := ρ1) (c_sure_one Z) (hr.mono (by decide)) (ea2 (ed_var 4) (ed_var 3)) ⟨true, C, i, rfl, hi, rfl⟩)) fun Dn σ H ⟨G, S, R, q⟩ => ⟨G, S, R, fun v G' H' E' _ => q σ G' H' E' (R.mono E'.gg)⟩
  have tst : ∀ {p1 p2 p3 : Pos} {b : Bool}, (!decide (i ∈ L)) = b → PT (cxOf (L2.CX P w) P w K mg base N_through "through" (defScope s_through) g cdv A outer s H E) (.Compare (.Name "name" p1) [.NotIn] [.Name "names" p2] p3) (tT T none ρ1 b) := fun {p1 p2 p3 b} hb => by
    subst hb
    exact et_cmp op_notIn_seq rd_ninN (ed_var 3) (ed_var 6)
  refine ⟨fun d hd => ?_, fun hd => ?_⟩
  · have hL : i ∈ L := by
      by_cases z : i ∈ L
      · exact z
      · rw [hrr, if_neg z] at hd; cases hd
    rw [hrr, if_pos hL] at hd
    obtain rfl := Option.some.inj hd
    obtain ⟨x, hx⟩ := O.th i hL
    refine ess_cons st1 (ess_cons st2 (ess_cons (es_if (k := false) (tst (by rw [decide_eq_true hL]; rfl)) (fun z => nomatch z) fun _ => ess_nil) (ess_one (es_ret ?_))))
    rw [hx]
    exact ed_ixT (xs := [eO x.1, eCh x.2.1 x.2.2]) (ed_call (d := eBest (some x)) (c_through_in Z M) (hr.mono (by decide)) (ea4 (ed_var 4) (ed_var 5) (ed_var 6) (ed_var 3)) ⟨C, S, L, i, rfl, O.ws, O.bd, O.lot, O.nd, hL, O.rows, by rw [hx]⟩) ed_int rfl
  · have hL : i ∉ L := fun z => by rw [hrr, if_pos z] at hd; cases hd
    exact ess_consX st1 (ess_consX st2 (ess_rtX (es_ifX (tst (by rw [decide_eq_false hL]; rfl)) (ess_rtX (es_raise rfl (takes_of rfl rfl rfl rfl) EC)))))
end
end GN

/-! _law_heard -/
namespace GN
open PySem PySem.Spec PyProof.Rows L2

def tDX (T : Tb) (CN : Addr) (W : WX) (ρ : List Sl) (r : Option PyData) : TE := fun σ H Q => ∃ G, Sub T none G H ∧ Rel G ρ σ ∧ (∀ d, r = some d → ∀ v G' H', Ext T none G H G' H' → rep G' d v → Q v H') ∧ (r = none → ∀ G' H', Ext T none G H G' H' → W (.ref CN) none σ H')
section
variable {T : Tb} {X : Cx} {ρ : List Sl} {e a b c : Expr} {es : List Expr} {pos p : Pos} {CN : Addr} {W : WX} {k : Nat} {x : Str} {rel : List PyData → Option PyData → Prop} {ds : List PyData} {r : Option PyData}
theorem ed_callX (C : CalX X.prog X.w X.K X.mg X.base T CN k x rel) (hr : Room k X.A) (tk : Takes X W) (ha : PA X (e :: es) (tA T none ρ ds)) (hrel : rel ds r) (hg : Gl X x := by rfl) (hdb : (x == ("__debug__" : Str)) = false := by decide)
    (he : starEach (e :: es) X.env = (false, eval e X.env) :: starEach es X.env := by rfl) (hpl : (backTo pos (starEach es X.env)).any (·.1) = false := by rfl) : PE X (.Call (.Name x p) (e :: es) [] pos) (tDX T CN W ρ r) := by
  obtain ⟨f, fd, ps, h1, h2, h3, h4⟩ := C.ex
  refine pe_imp (pe_callS (E := WE W) h4 hr hg h1 h2 h3 (fun σ => passAt tk σ) ha hdb he hpl) fun σ H Q ⟨G, S, R, q1, q2⟩ => ⟨G, S, R, fun vs G1 H1 E1 r1 => ?_⟩
  exact ⟨G1, ds, r, E1.sub, r1, hrel, fun d hd v G' H' E2 r2 => q1 d hd v G' H' (E1.trans E2) r2, fun hd G' H' E2 => q2 hd G' H' (E1.trans E2)⟩
theorem ed_ifX {b' : Bool} (hc : PT X c (tT T none ρ b')) (ha : b' = true → PE X a (tDX T CN W ρ r)) (hb : b' = false → PE X b (tDX T CN W ρ r)) : PE X (.IfExp c a b pos) (tDX T CN W ρ r) := by
  cases b' with
  | true => exact pe_imp (pe_ifExp hc (ha rfl) pe_no) fun σ H Q ⟨G, S, R, q1, q2⟩ => ⟨G, S, R, fun G1 H1 E1 => iteT ⟨G1, E1.sub, R.mono E1.gg, fun d hd v2 G2 H2 E2 r2 => q1 d hd v2 G2 H2 (E1.trans E2) r2, fun hd G2 H2 E2 => q2 hd G2 H2 (E1.trans E2)⟩⟩
  | false => exact pe_imp (pe_ifExp hc pe_no (hb rfl)) fun σ H Q ⟨G, S, R, q1, q2⟩ => ⟨G, S, R, fun G1 H1 E1 => iteF ⟨G1, E1.sub, R.mono E1.gg, fun d hd v2 G2 H2 E2 r2 => q1 d hd v2 G2 H2 (E1.trans E2) r2, fun hd G2 H2 E2 => q2 hd G2 H2 (E1.trans E2)⟩⟩
end
def cannotD : PyData := .list [.str "cannot", .bool true]
def heardD (C : Ch) (S : Sd) (L : List Nat) : Option Nat → PyData
  | none => if L = [] then cannotD else bestCh (greatM C S L [0, 1])
  | some i => if i ∈ L then bestCh (throughM C S L i [0, 1]) else cannotD
section
variable {P : Program} {w : World} {K : PySem.W.Frag} {mg : Str → Option Value} {base : Heap} {T : Tb} {CN : Addr}
def rHeard (ds : List PyData) (d : PyData) : Prop := ∃ (k k2 k3 : Bool) (C : Ch) (S : Sd) (L : List Nat) (nm : Option Nat), ds = [eC k C, eS k2 S, eL k3 L, eNm nm] ∧ Okk C S L ∧ (∀ i, nm = some i → i < C.length) ∧ d = heardD C S L nm
variable (Z : Txt K mg)
include Z
theorem c_law_heard (M : Lam K mg base T) (EC : ErrC K mg CN) : Cal P w K mg base T 9 false "_law_heard" rHeard := Z.d_law_heard.cal fun g fd F => by
  refine data_fn F sc_law_heard (fun ds r h => by obtain ⟨k, k2, k3, C, S, L, nm, rfl, _⟩ := h; rfl) fun cdv A outer s H E lk ds d hal hr h => ?_
  obtain ⟨k, k2, k3, C, S, L, nm, rfl, O, hnm, rfl⟩ := h
  obtain rfl : lk = none := hal.elim (fun z => nomatch z) id
  let ρ0 : List Sl := [.d (eC k C), .d (eS k2 S), .d (eL k3 L), .d (eNm nm), .un]
  let r : Option PyData := match nm with
    | none => if L = [] then none else some (bestCh (greatM C S L [0, 1]))
    | some i => if i ∈ L then some (bestCh (throughM C S L i [0, 1])) else none
  have hyes : ∀ d, r = some d → heardD C S L nm = d := fun d hd => by
    cases nm with
    | none =>
      have hd : (if L = [] then none else some (bestCh (greatM C S L [0, 1]))) = some d := hd
      unfold heardD
      by_cases z : L = []
      · rw [if_pos z] at hd; cases hd
      · rw [if_neg z] at hd ⊢
        exact Option.some.inj hd
    | some i =>
      have hd : (if i ∈ L then some (bestCh (throughM C S L i [0, 1])) else none) = some d := hd
      unfold heardD
      by_cases z : i ∈ L
      · show (if i ∈ L then _ else _) = d
        rw [if_pos z] at hd ⊢
        exact Option.some.inj hd
      · rw [if_neg z] at hd; cases hd
  have hno : r = none → heardD C S L nm = cannotD := fun hd => by
    cases nm with
    | none =>
      have hd : (if L = [] then none else some (bestCh (greatM C S L [0, 1]))) = none := hd
      by_cases z : L = []
      · exact if_pos z
      · rw [if_neg z] at hd; cases hd
    | some i =>
      have hd : (if i ∈ L then some (bestCh (throughM C S L i [0, 1])) else none) = none := hd
      by_cases z : i ∈ L
      · rw [if_pos z] at hd; cases hd
      · exact if_neg z
  refine pss_one (ps_imp (ps_try_as (i := 4) (n := "error") (x := "CanNot") (c := .ref CN) (tb := fun W Dn σ H => tDX T CN W ρ0 r σ H Dn.rt)
    (ts := fun a cls dd Dn σ H => ∃ G, Sub T none G H ∧ Rel G (ρ0.set 4 (.v (.ref a))) σ ∧ cls = .ref CN ∧ dd = none ∧ ∀ v G' H', Ext T none G H G' H' → rep G' cannotD v → Dn.rt v H') (Wout := fun _ _ _ _ => False)
    rfl rfl sc_law_heard.nd rfl rfl ⟨rfl, by decide, .inl EC.gC⟩ LamX.takes0 (fun W pn xe tk _ => ?_) fun a oe cls dd pn hz hf => ?_) ?_)
  · show PSs _ _ (tRet (tDX T CN W ρ0 r))
    refine pss_one (ps_ret ?_)
    cases nm with
    | none => exact ed_ifX (b' := true) (et_isN (ed_var 3) rfl) (fun _ => ed_callX (c_greatest_chain Z M EC) (hr.mono (by decide)) tk (ea3 (ed_var 0) (ed_var 1) (ed_var 2)) ⟨k, k2, k3, C, S, L, rfl, O, rfl⟩) fun z => nomatch z
    | some i => exact ed_ifX (b' := false) (et_isN (ed_var 3) rfl) (fun z => nomatch z) fun _ => ed_callX (c_through Z M EC) (hr.mono (by decide)) tk (ea4 (ed_var 0) (ed_var 1) (ed_var 2) (ed_var 3)) ⟨k, k2, k3, C, S, L, i, rfl, O, hnm i rfl, rfl⟩
  · refine ⟨fun pins s' σ H' Dn I hw => ?_⟩
    obtain ⟨G, Sb, R, rfl, rfl, q⟩ := hw
    refine (ess_one (es_ret (ed_lst (ea2 ed_str ?_)))).run pins s' σ H' Dn I ⟨G, Sb, R, fun v G' H' E r => q v G' H' E r⟩
    exact pe_imp (pe_callB (call_isE EC.ec hz hf) rfl Z.n_isinstance (by decide +kernel) (pa_cons (pe_var (i := 4) rfl (.inl rfl) (by decide) (by decide)) (pa_cons (pe_bltn (v := .ty "ValueError") rfl Z.n_ValueError (by decide +kernel) rfl (by decide) (by decide)) pa_nil))) fun σ H Q ⟨G, S, R, q⟩ =>
      ⟨.ref a, R.getv rfl, .ty "ValueError", .type "ValueError", true, rfl, fun u hu => hu, EC.kit, q _ G H (.refl S) rfl⟩
  · intro Dn σ H' hw
    obtain ⟨G, Sb, R, q⟩ := hw
    refine ⟨G, Sb, R, fun d hd v G' H2 E' r' => q v G' H2 E' (by rw [hyes d hd]; exact r'), fun hd G' H2 E' => ?_⟩
    refine ⟨true, EC.te, fun _ a ha => ⟨G', E'.sub, (R.mono E'.gg).set (s := .v (.ref a)) (o := some (.ref a)) rfl, rfl, rfl, fun v G3 H3 E3 r3 => q v G3 H3 (E'.trans E3) (by rw [hno hd]; exact r3)⟩, fun z => nomatch z⟩
end
end GN

/-! expressions and statements over an owned object, calls with it -/
namespace GN
open PySem PySem.Spec PyProof.Rows L2

section
variable {T : Tb} {X : Cx} {ρ ρ1 ρ2 ρ' ρl : Addr → List Sl} {c c1 c2 c3 c' : Co} {st : Stmt} {sts : List Stmt} {e a b t : Expr} {es : List Expr} {pos p p2 p3 : Pos} {d da db : PyData} {ds : List PyData} {i : Nat} {x : Str}
theorem do_imp {tt : TE} (h : PE X e tt) (k : ∀ σ H Q, tDo T ρ c d c' σ H Q → tt σ H Q) : PE X e (tDo T ρ c d c') := pe_imp h k
theorem do_op {op : Operator} {r : R2} (ho : OpR X (binaryOp op) r) (hr : RD2 T none r da db d) (ha : PE X a (tDo T ρ c da c1)) (hb : PE X b (tDo T ρ c1 db c2)) : PE X (.BinOp a op b pos) (tDo T ρ c d c2) :=
  pe_imp (pe_op ho ha hb) fun σ H Q ⟨D, G, O, R, q⟩ => ⟨D, G, O, R, fun v G1 H1 E1 O1 r1 => ⟨D, G1, O1, R.mono E1.gg, fun w G2 H2 E2 O2 r2 =>
    hr v w G2 H2 Q O2.sub (rep_mono E2.gg _ _ r1) r2 fun u G' H' E3 r3 => q u G' H' ((E1.trans E2).trans (.of E3)) (O2.up E3) r3⟩⟩
theorem do_add {i j : Int} (ha : PE X a (tDo T ρ c (.int i) c1)) (hb : PE X b (tDo T ρ c1 (.int j) c2)) : PE X (.BinOp a .Add b pos) (tDo T ρ c (.int (i + j)) c2) := do_op op_add (rd_i0 fun _ => rfl) ha hb
theorem do_sub {i j : Int} (ha : PE X a (tDo T ρ c (.int i) c1)) (hb : PE X b (tDo T ρ c1 (.int j) c2)) : PE X (.BinOp a .Sub b pos) (tDo T ρ c (.int (i - j)) c2) := do_op op_sub (rd_i0 fun _ => rfl) ha hb
theorem to_cmp {op : CmpOp} {r : R2} {k : Bool} (ho : OpR X (compareOp op) r) (hr : RD2 T none r da db (.bool k)) (ha : PE X a (tDo T ρ c da c1)) (hb : PE X b (tDo T ρ c1 db c2)) (hm : behindInMarks op b = false := by rfl) : PT X (.Compare a [op] [b] pos) (tTo T ρ c k c2) :=
  pt_imp (pt_cmpR ho ha hb hm) fun σ H Q ⟨D, G, O, R, q⟩ => ⟨D, G, O, R, fun v G1 H1 E1 O1 r1 => ⟨D, G1, O1, R.mono E1.gg, fun w G2 H2 E2 O2 r2 =>
    hr v w G2 H2 _ O2.sub (rep_mono E2.gg _ _ r1) r2 fun u G' H' E3 r3 => by
      cases (show u = .bl k from r3)
      exact ⟨k, rfl, q G' H' ((E1.trans E2).trans (.of E3)) (O2.up E3)⟩⟩⟩
theorem ao_nil : PA X [] (tAo T ρ c [] c) := pa_imp pa_nil fun σ H Q ⟨D, G, O, R, q⟩ => q [] G H .refl O rfl
theorem ao_cons (ha : PE X a (tDo T ρ c d c1)) (hb : PA X es (tAo T ρ c1 ds c2)) (he : starEach (a :: es) X.env = (false, eval a X.env) :: starEach es X.env := by rfl) : PA X (a :: es) (tAo T ρ c (d :: ds) c2) :=
  pa_imp (pa_cons ha hb he) fun σ H Q ⟨D, G, O, R, q⟩ => ⟨D, G, O, R, fun v G1 H1 E1 O1 r1 => ⟨D, G1, O1, R.mono E1.gg, fun vs G2 H2 E2 O2 r2 => q (v :: vs) G2 H2 (E1.trans E2) O2 ⟨v, vs, rfl, rep_mono E2.gg _ _ r1, r2⟩⟩⟩
theorem do_tup {k : Nat} (h : PA X es (tAo T ρ c ds c')) (hz : ds.length ≤ 1000 := by exact Nat.le_of_ble_eq_true rfl) : PE X (.Tuple es k pos) (tDo T ρ c (.tuple ds) c') :=
  pe_imp (pe_tup h) fun σ H Q ⟨D, G, O, R, q⟩ => ⟨D, G, O, R, fun vs G1 H1 E1 O1 r1 => ⟨by rw [reps_length r1]; exact Nat.le_trans hz (by decide), fun p hp => by
    have E2 := Ext.lay (o := .tup vs) O1.sub hp True.intro
    exact q _ _ _ (E1.trans (.of E2)) (O1.up E2) ⟨p, vs, rfl, upd_same, reps_mono E2.gg _ _ r1⟩⟩⟩
theorem do_ix {k : Bool} {xs : List PyData} {j : Int} (ha : PE X a (tDo T ρ c (sq k xs) c1)) (hb : PE X b (tDo T ρ c1 (.int j) c2)) (h : atI xs j = some d) (hs : PlainIx b := by intro _ _; rfl) : PE X (.Subscript a b pos) (tDo T ρ c d c2) :=
  pe_imp (pe_ix ix_seq ha hb hs) fun σ H Q ⟨D, G, O, R, q⟩ => ⟨D, G, O, R, fun v G1 H1 E1 O1 r1 => ⟨D, G1, O1, R.mono E1.gg, fun w G2 H2 E2 O2 r2 =>
    rd_ix h v w G2 H2 Q O2.sub (rep_mono E2.gg _ _ r1) r2 fun u G' H' E3 r3 => q u G' H' ((E1.trans E2).trans (.of E3)) (O2.up E3) r3⟩⟩
theorem do_callTy {x : Str} {id : String} {p : Pos} {r : List V → Hp → VK → Prop} (hc : CallR X (.type id) r) (hr : RDA T none r ds d) (hm : X.mg x = none) (ha : PA X (e :: es) (tAo T ρ c ds c')) (hg : Gl X x := by rfl) (hv : bootBuiltins x = some (.type id) := by decide +kernel)
    (hn : x ≠ "__name__" := by decide) (hdb : (x == ("__debug__" : Str)) = false := by decide) (he : starEach (e :: es) X.env = (false, eval e X.env) :: starEach es X.env := by rfl) (hpl : (backTo pos (starEach es X.env)).any (·.1) = false := by rfl) :
    PE X (.Call (.Name x p) (e :: es) [] pos) (tDo T ρ c d c') := pe_imp (pe_callTy hc hg hm hv ha hn hdb he hpl) fun σ H Q ⟨D, G, O, R, q⟩ => ⟨D, G, O, R, fun vs G1 H1 E1 O1 r1 =>
      hr vs G1 H1 Q O1.sub r1 fun v G' H' E2 r2 => q v G' H' (E1.trans (.of E2)) (O1.up E2) r2⟩
theorem do_tupleOf {k : Bool} {xs : List PyData} (hm : X.mg "tuple" = none) (ha : PE X a (tDo T ρ c (sq k xs) c')) (hg : Gl X "tuple" := by rfl) (he : starEach [a] X.env = (false, eval a X.env) :: starEach [] X.env := by rfl) : PE X (.Call (.Name "tuple" p) [a] [] pos) (tDo T ρ c (.tuple xs) c') :=
  do_callTy (d := .tuple xs) call_tuple_of (fun vs G H Q S r q => by
    obtain ⟨v, rfl, rr⟩ := one_of r
    obtain ⟨q1, ws, rfl, hp, r2⟩ := rep_sq rr
    refine ⟨q1, ws, rfl, ?_⟩
    cases k with
    | true => exact .inr ⟨S.sqT hp, q _ G H (.refl S) ⟨q1, ws, rfl, hp, r2⟩⟩
    | false =>
      refine .inl ⟨S.sqL hp, fun l hl => ?_⟩
      have E := Ext.lay (o := .tup ws) S hl True.intro
      exact q _ _ _ E ⟨l, ws, rfl, upd_same, reps_mono E.gg _ _ r2⟩) hm (ao_cons ha ao_nil he) hg (by decide +kernel) (by decide) (by decide) he rfl
/-! statements -/
theorem so_set (i : Nat) {x : Str} {p : Pos} (h : PE X e (tDo T ρ c d c')) (hN : X.N.Nodup) (hi : X.N[i]? = some x := by rfl) (hx : Loc X.env.scope x := by first | exact .inl rfl | exact .inr rfl) (hs : swapsWith e (some (.Name x p)) pos.line X.env = pure false := by rfl)
    (hf : X.fn x = true ∨ X.env.scope.names.lookup x = some .local := by first | exact .inl rfl | exact .inr rfl) : PS X (.Assign [.Name x p] e pos) (tSo T ρ c (fun D => (ρ D).set i (.d d)) c') :=
  ps_imp (ps_set hN hi hx h hs hf) fun Dn σ H ⟨D, G, O, R, q⟩ => ⟨D, G, O, R, fun v G' H' E O' r => q _ G' H' E O' ((R.mono E.gg).setd r)⟩
theorem so_retO (h : PE X e (tDo T ρ c d c')) : PS X (.Return (some e) pos) (tSoR T ρ c d c') := ps_imp (ps_ret h) fun Dn σ H ⟨D, G, O, R, q⟩ => ⟨D, G, O, R, fun v G' H' E O' r => q v G' H' E O' r⟩
theorem sso_rtR (h1 : PS X st (tSoR T ρ c d c')) : PSs X (st :: sts) (tSoR T ρ c d c') := pss_imp (pss_cons h1 pss_never) fun Dn σ H ⟨D, G, O, R, q⟩ => ⟨D, G, O, R, q⟩
theorem so_ifT {p q : List Stmt} (hc : PT X t (tTo T ρ c true c1)) (h1 : PSs X p (tSoR T ρ c1 d c')) : PS X (.If t p q pos) (tSoR T ρ c d c') :=
  ps_imp (ps_if hc h1 pss_never) fun Dn σ H ⟨D, G, O, R, q⟩ => ⟨D, G, O, R, fun G' H' E O' => iteT ⟨D, G', O', R.mono E.gg, fun v G2 H2 E2 O2 r => q v G2 H2 (E.trans E2) O2 r⟩⟩
theorem so_ifF {p : List Stmt} (hc : PT X t (tTo T ρ c false c1)) : PS X (.If t p [] pos) (tSo T ρ c ρ c1) :=
  ps_imp (ps_if hc pss_never pss_nil) fun Dn σ H ⟨D, G, O, R, q⟩ => ⟨D, G, O, R, fun G' H' E O' => iteF (q σ G' H' E O' (R.mono E.gg))⟩
theorem so_asg {tg : Expr} (h : PE X e (tDo T ρ c d c')) (hg : ∀ D, PG X tg (tG T none d (ρ D) (ρ' D))) (hs : swapsWithSole [tg] e pos.line X.env = pure false := by rfl) (hw : swappedStores [tg] e X.env = pure none := by rfl)
    (h1 : (assignEach [tg] X.env).map (·.2) = [assign tg X.env] := by rfl) : PS X (.Assign [tg] e pos) (tSo T ρ c ρ' c') := by
  have hgU : PG X tg (fun v σ H Q => ∃ D, tG T none d (ρ D) (ρ' D) v σ H Q) := ⟨fun pins s σ H v u Q I r ⟨D, q⟩ => (hg D).run pins s σ H v u Q I r q⟩
  exact ps_imp (ps_asg h hgU hs hw h1) fun Dn σ H ⟨D, G, O, R, q⟩ => ⟨D, G, O, R, fun v G' H' E O' r => ⟨D, G', O'.sub, R.mono E.gg, r, fun σ' G2 H2 E2 R2 => q σ' G2 H2 (E.trans (.of E2)) (O'.up E2) R2⟩⟩
theorem so_par3 (i j l : Nat) {f : Expr} {dc : PyData} {x y z : Str} {px py pz pt : Pos} {kt k2 : Nat} {pt2 : Pos} (hc : X.calm = true) (hN : X.N.Nodup) (h : PA X [a, b, f] (tAo T ρ c [da, db, dc] c')) (hi : X.N[i]? = some x := by rfl) (hj : X.N[j]? = some y := by rfl) (hl : X.N[l]? = some z := by rfl)
    (hij : i ≠ j := by decide) (hil : i ≠ l := by decide) (hjl : j ≠ l := by decide)
    (hx : X.env.scope.names.lookup x = some .local := by rfl) (hy : X.env.scope.names.lookup y = some .local := by rfl) (hz : X.env.scope.names.lookup z = some .local := by rfl)
    (hw : swappedStores [.Tuple [.Name x px, .Name y py, .Name z pz] kt pt] (.Tuple [a, b, f] k2 pt2) X.env = pure (some [x, y, z]) := by rfl)
    (hs : swapsWithSole [.Tuple [.Name x px, .Name y py, .Name z pz] kt pt] (.Tuple [a, b, f] k2 pt2) pos.line X.env = pure false := by rfl) :
    PS X (.Assign [.Tuple [.Name x px, .Name y py, .Name z pz] kt pt] (.Tuple [a, b, f] k2 pt2) pos) (tSo T ρ c (fun D => (((ρ D).set i (.d da)).set j (.d db)).set l (.d dc)) c') :=
  ps_imp (ps_par3 hc hN hi hj hl hij hil hjl hx hy hz h hw hs) fun Dn σ H ⟨D, G, O, R, q⟩ => ⟨D, G, O, R, fun vs G' H' E O' r => by
    obtain ⟨v1, us, rfl, r1, r⟩ := r
    obtain ⟨v2, us, rfl, r2, r⟩ := r
    obtain ⟨v3, us, rfl, r3, r⟩ := r
    cases (show us = [] from r)
    exact ⟨v1, v2, v3, rfl, q _ G' H' E O' ((((R.mono E.gg).setd r1).setd r2).set ⟨v3, rfl, r3⟩)⟩⟩
theorem reps_set {G : Hp} {d : PyData} {v : V} (r : rep G d v) : ∀ {ds : List PyData} {vs : List V} (k : Nat), reps G ds vs → reps G (ds.set k d) (vs.set k v)
  | [], _, _, h => by cases (show _ = _ from h); exact rfl
  | e :: ds, _, 0, h => by
    obtain ⟨u, us, rfl, _, h2⟩ := h
    exact ⟨v, us, rfl, r, h2⟩
  | e :: ds, _, k + 1, h => by
    obtain ⟨u, us, rfl, h1, h2⟩ := h
    exact ⟨u, _, rfl, h1, reps_set r k h2⟩
/-- xs[j] = e of the owned list -/
theorem so_setI {k : Nat} {ds' : List PyData} (hv : PE X a (tDo T ρ (.ls ds) d (.ls ds'))) (hk : ∀ D, PE X b (tD T none (ρ D) (.int (k : Int)))) (hlt : k < ds'.length) (hi : ∀ D, (ρ D)[i]? = some (.v (.ref D))) (hN : X.N[i]? = some x := by rfl)
    (hvis : Vis X.env.scope x := by first | exact Or.inl rfl | exact Or.inr (Or.inl rfl) | exact Or.inr (Or.inr rfl)) (h1 : (x == ("__debug__" : Str)) = false := by decide) (h2 : (x == ("__classdict__" : Str)) = false := by decide)
    (ha : ∀ v, assign (.Subscript (.Name x p2) b p3) X.env v = (do
      let ov ← holding [v] (eval (.Name x p2) X.env)
      let iv ← holding [v, ov] (eval b X.env)
      standAt p3
      holding [v, ov, iv] (setItem ov iv v)
      release [v, ov, iv] []) := by intro _; rfl)
    (hs : swapsWithSole [.Subscript (.Name x p2) b p3] a pos.line X.env = pure false := by rfl) (hw : swappedStores [.Subscript (.Name x p2) b p3] a X.env = pure none := by rfl)
    (h3 : (assignEach [.Subscript (.Name x p2) b p3] X.env).map (·.2) = [assign (.Subscript (.Name x p2) b p3) X.env] := by rfl) :
    PS X (.Assign [.Subscript (.Name x p2) b p3] a pos) (tSo T ρ (.ls ds) ρ (.ls (ds'.set k d))) := by
  have hkU : PE X b (fun σ H Q => ∃ D, tD T none (ρ D) (.int (k : Int)) σ H Q) := ⟨fun pins s σ H Q I ⟨D, z⟩ => (hk D).run pins s σ H Q I z⟩
  refine ps_imp (ps_asg hv (pg_sub (pe_var (i := i) hN hvis h1 h2) hkU set_list ha) hs hw h3) fun Dn σ H ⟨D, G, O, R, q⟩ => ⟨D, G, O, R, fun v G1 H1 E1 O1 r1 => ?_⟩
  refine ⟨.ref D, (R.getv (hi D)), D, G1, O1.sub, R.mono E1.gg, fun y G2 H2 E2 r2 => ?_⟩
  cases (show y = .int (k : Int) from r2)
  obtain ⟨o, hD, vs, rfl, rk⟩ := (O1.up E2).at_
  have hlen := reps_length rk
  refine ⟨D, vs, (k : Int), k, rfl, rfl, hD, ?_, ?_⟩
  · unfold ixN
    rw [hlen, if_pos (by omega), if_pos (by omega)]
    simp
  · have O2 := (O1.up E2).put (c' := .ls (ds'.set k d)) (o := .lst (vs.set k v)) ⟨_, rfl, reps_set (rep_mono E2.gg _ _ r1) k rk⟩
    exact q σ G2 _ (E1.trans ((ExtO.of E2).trans O2.2)) O2.1 (R.mono fun b o z => E2.gg b o (E1.gg b o z))
end

/-! ### calls that take the owned list first -/
def spO (T : Tb) (rel : Co → List PyData → PyData → Co → Prop) : Sp := fun vs H Q _ => ∃ D G us ds c d c', vs = .ref D :: us ∧ reps G ds us ∧ Own T D G H c ∧ rel c ds d c' ∧ ∀ v G' H', ExtO T D G H G' H' → Own T D G' H' c' → rep G' d v → Q v H'
structure CalO (P : Program) (w : World) (K : PySem.W.Frag) (mg : Str → Option Value) (base : Heap) (T : Tb) (k : Nat) (x : Str) (rel : Co → List PyData → PyData → Co → Prop) : Prop where
  ex : ∃ (f : Addr) (fd : FuncData) (ps : List Str), mg x = some (.ref f) ∧ PySem.W.keepIn K (.ref f) = true ∧ Binds K fd ps [] ∧ FnOk P w K mg base CX0 k f fd ps (spO T rel)
def startO (n : Nat) (D : Addr) (ds : List PyData) : List Sl := .v (.ref D) :: startS (n - 1) ds
theorem rel_startO {G : Hp} {N : List Str} {D : Addr} {ds : List PyData} {us : List V} (h : reps G ds us) (hn : 1 ≤ N.length) : Rel G (startO N.length D ds) (L2.start N (.ref D :: us)) := by
  cases N with
  | nil => exact absurd hn (by decide)
  | cons y N' =>
    have R := Rel.start (N := N') h
    have e1 : L2.start (y :: N') (.ref D :: us) = some (.ref D) :: L2.start N' us := by
      unfold L2.start
      rw [List.length_cons, List.length_cons, List.map_cons, List.cons_append, Nat.add_sub_add_right]
    have e2 : startO (y :: N').length D ds = .v (.ref D) :: startS N'.length ds := rfl
    rw [e1, e2]
    refine ⟨by rw [List.length_cons, List.length_cons, R.len], fun i s e => ?_⟩
    cases i with
    | zero =>
      obtain rfl := Option.some.inj e
      exact ⟨_, rfl, rfl⟩
    | succ i => exact R.ats i s e
section
variable {P : Program} {w : World} {K : PySem.W.Frag} {mg : Str → Option Value} {base : Heap} {T : Tb} {k : Nat} {x : Str} {rel : Co → List PyData → PyData → Co → Prop} {st : Stmt} {ps : List Str}
theorem Def.calO (D : Def K mg x st ps) (ok : ∀ f fd, Fun K x x st f fd → FnOk P w K mg base CX0 k f fd ps (spO T rel)) : CalO P w K mg base T k x rel := by
  obtain ⟨f, fd, h1, h2, h3⟩ := D
  exact ⟨f, fd, ps, h2, h1.kp, h3, ok f fd h1⟩
theorem data_fnO {qual : Str} {f : Addr} {fd : FuncData} {N : List Str} (F : Fun K x qual st f fd) (S : FnScope N ps (defScope st)) (len : ∀ c ds d c', rel c ds d c' → ds.length + 1 = ps.length) (hn : 1 ≤ N.length)
    (body : ∀ (cdv : Value) (A : Around) (outer : List Env) (s : Shared) (H : Hp) (E : XK) (c : Co) (ds : List PyData) (d : PyData) (c' : Co), Room k (A.deeper (envOfC qual (defScope st) s.heap.objs.size f cdv)) → rel c ds d c' →
      PSs (cxOf CX0 P w K mg base N qual (defScope st) f cdv A outer s H E).nox (defBody st) (tSoR T (fun D => startO N.length D ds) c d c')) :
    FnOk P w K mg base CX0 (k + 1) f fd ps (spO T rel) := by
  refine F.ok S (fun vs H Q E h => ?_) fun cdv A outer s H vs Q E hr h => ?_
  · obtain ⟨D, G, us, ds, c, d, c', rfl, r, _, hrel, _⟩ := h
    rw [List.length_cons, reps_length r]
    exact len c ds d c' hrel
  · obtain ⟨D, G, us, ds, c, d, c', rfl, r, O, hrel, q⟩ := h
    exact ⟨_, body cdv A outer s H E c ds d c' hr hrel, D, G, O, rel_startO r hn, q⟩
end
section
variable {T : Tb} {X : Cx} {ρ : Addr → List Sl} {c c' : Co} {es : List Expr} {pos p p2 : Pos} {d : PyData} {ds : List PyData} {k i : Nat} {x y : Str} {rel : Co → List PyData → PyData → Co → Prop}
theorem do_call (C : CalO X.prog X.w X.K X.mg X.base T k x rel) (hr : Room k X.A) (hi : ∀ D, (ρ D)[i]? = some (.v (.ref D))) (ha : ∀ D, PA X es (tA T none (ρ D) ds)) (hrel : rel c ds d c') (hN : X.N[i]? = some y := by rfl)
    (hvis : Vis X.env.scope y := by first | exact Or.inl rfl | exact Or.inr (Or.inl rfl) | exact Or.inr (Or.inr rfl)) (h1 : (y == ("__debug__" : Str)) = false := by decide) (h2 : (y == ("__classdict__" : Str)) = false := by decide)
    (hg : Gl X x := by rfl) (hdb : (x == ("__debug__" : Str)) = false := by decide)
    (he : starEach (.Name y p2 :: es) X.env = (false, eval (.Name y p2) X.env) :: starEach es X.env := by rfl) (hpl : (backTo pos (starEach es X.env)).any (·.1) = false := by rfl) : PE X (.Call (.Name x p) (.Name y p2 :: es) [] pos) (tDo T ρ c d c') := by
  obtain ⟨f, fd, ps, g1, g2, g3, g4⟩ := C.ex
  have haU : PA X es (fun σ H Q => ∃ D, tA T none (ρ D) ds σ H Q) := ⟨fun pos pins s σ H Q I ⟨D, z⟩ => (ha D).run pos pins s σ H Q I z⟩
  refine pe_imp (pe_call g4 hr hg g1 g2 g3 .nil pass0 (pa_cons (pe_var (i := i) hN hvis h1 h2) haU he) hdb he hpl) fun σ H Q ⟨D, G, O, R, q⟩ => ⟨.ref D, R.getv (hi D), D, G, O.sub, R, fun vs G1 H1 E1 r1 => ?_⟩
  show spO T rel ((.ref D :: vs) ++ []) H1 Q _
  rw [List.append_nil]
  exact ⟨D, G1, vs, ds, c, d, c', rfl, r1, O.up E1, hrel, fun v G' H' E2 O2 r2 => q v G' H' ((ExtO.of E1).trans E2) O2 r2⟩
end
end GN

/-! comprehensions and collections beside an owned object -/
namespace GN
open PySem PySem.Spec PyProof.Rows L2

section
variable {T : Tb} {D : Addr} {G H G' H' : Hp}
theorem hpdel_ne {b : Addr} (h : b ≠ D) : del H D b = H b := if_neg h
theorem ext_self (S : Sub T none G H) : Ext T none G (del H D) G H := ⟨fun b o e _ => by
  have hb : b ≠ D := fun z => by rw [z, del_same] at e; cases e
  rw [del_ne hb] at e
  exact e, S, fun _ _ e => e, fun _ _ _ _ => rfl⟩
theorem extO_ext (S : Sub T none G H) (E : ExtO T D G H G' H') : Ext T none G (del H D) G' H' := E.ext G (del H D) (ext_self S) fun o e => by rw [del_same] at e; cases e
theorem ext_extO (E : Ext T none G (del H D) G' H') : ExtO T D G H G' H' := ⟨fun G0 H0 E0 n => ⟨fun b o e nt => by
    have hb : b ≠ D := fun z => by subst z; obtain ⟨ps, z⟩ := n _ e; exact nt ps z
    exact E.le b o (by rw [del_ne hb]; exact E0.le b o e nt) nt, E.sub, fun b o e => E.gg b o (E0.gg b o e), fun b o e nt => by
    have hb : b ≠ D := fun z => by subst z; obtain ⟨ps, z⟩ := n _ e; exact nt ps z
    exact (E.fr b o (by rw [del_ne hb]; exact E0.le b o e nt) nt).trans (E0.fr b o e nt)⟩, E.gg⟩
end
section
variable {T : Tb} {X : Cx} {ρ : Addr → List Sl} {pos : Pos} {xs : List PyData}
theorem do_lc {x : Str} {px : Pos} {elt iter : Expr} {ifs : List Expr} {scope : Scope} (j : Nat) (f' : Nat → Addr → List Sl) (K Km : Nat → Co) (t : Nat → Bool) (y : Nat → PyData) (hc : X.calm = true) (hN : X.N.Nodup) (hi : ∀ D, PI X (.Name x px) iter (tI T none (ρ D) xs)) (hz : xs.length ≤ 1000)
    (hg : ∀ i z D, xs[i]? = some z → ∀ (s : Shared) (H : Hp) (C : Addr) (cl : List (Str × Addr)) (fp : List Addr), PG (X.blk s H scope (compEnvC scope cl C X.env) fp) (.Name x px) (tGw T none [j] z (wipeS (ρ D) [j]) (f' i D)))
    (ht : ∀ i z, xs[i]? = some z → ∀ (s : Shared) (H : Hp) (C : Addr) (cl : List (Str × Addr)) (fp : List Addr), PTs (X.blk s H scope (compEnvC scope cl C X.env) fp) ifs (tTo T (f' i) (K i) (t i) (Km i)))
    (he : ∀ i z, xs[i]? = some z → t i = true → ∀ (s : Shared) (H : Hp) (C : Addr) (cl : List (Str × Addr)) (fp : List Addr), PE (X.blk s H scope (compEnvC scope cl C X.env) fp) elt (tDo T (f' i) (Km i) (y i) (K (i + 1))))
    (hk : ∀ i, t i = false → K (i + 1) = Km i) (ok : BlkOk X.N X.env.scope scope [(x, j)]) (hs : ∀ x, foldedSetIterable iter X.env x = pure x := by intro _; rfl) :
    PE X (.ListComp elt [⟨.Name x px, iter, ifs, 0⟩] scope pos) (tDo T ρ (K 0) (.list (picked xs.length t y)) (K xs.length)) := by
  have hiU : PI X (.Name x px) iter (fun σ H Rk => ∃ D, tI T none (ρ D) xs σ H Rk) := ⟨fun pins s σ H Rk I ⟨D, z⟩ => (hi D).run pins s σ H Rk I z⟩
  refine pe_imp (pe_lc (own := [(x, j)]) (g := fun v σ H Q => ∃ i z D, xs[i]? = some z ∧ tGw T none [j] z (wipeS (ρ D) [j]) (f' i D) v σ H Q) (tt := fun σ H Q => ∃ i z, xs[i]? = some z ∧ tTo T (f' i) (K i) (t i) (Km i) σ H Q) (te := fun σ H Q => ∃ i z, xs[i]? = some z ∧ t i = true ∧ tDo T (f' i) (Km i) (y i) (K (i + 1)) σ H Q) hc hN hiU ok (fun s H C cl fp => ⟨fun pins s' σ H' v u Q I r ⟨i, z, D, hx, q⟩ => (hg i z D hx s H C cl fp).run pins s' σ H' v u Q I r q⟩)
    (fun s H C cl fp => ⟨fun pins s' σ H' Q I ⟨i, z, hx, q⟩ => (ht i z hx s H C cl fp).run pins s' σ H' Q I q⟩)
    (fun s H C cl fp => ⟨fun pins s' σ H' Q I ⟨i, z, hx, h, q⟩ => (he i z hx h s H C cl fp).run pins s' σ H' Q I q⟩) hs) fun σ H Q ⟨D, G, O, R, q⟩ => ⟨D, G, O.sub, R, fun J G1 H1 E1 st A hA => ?_⟩
  have O1 := O.up E1
  have hAD : A ≠ D := fun z => by
    obtain ⟨o, h, _⟩ := O1.at_
    rw [z, h] at hA
    cases hA
  have gA : G1 A = none := E1.sub.fresh hA
  have E1' : Ext T none G1 H1 G1 (upd H1 A (.lst [])) := .off E1.sub hA
  have nA : del H1 D A = none := by rw [del_ne hAD]; exact hA
  refine ⟨fun i k H2 => i + k = xs.length ∧ ∃ G2 acc, Ext T none G1 (del H1 D) G2 H2 ∧ Own T D G2 H2 (K i) ∧ G2 A = none ∧ H2 A = some (.lst acc) ∧ reps G2 (picked i t y) acc, ⟨xs.length, by omega, G1, [], (ext_self E1.sub).trans E1', O1.up E1', gA, upd_same, rfl⟩, ?_⟩
  rintro i k H2 ⟨hik, G2, acc, E2, O2, g2, hA2, racc⟩
  obtain ⟨st1, st2⟩ := st G2 H2 E2.gg O2.sub
  by_cases hlt : i < xs.length
  · have hx := List.getElem?_eq_getElem hlt
    obtain ⟨go, yl⟩ := st1 i _ hx
    refine .inr ⟨go, fun H3 => ∃ G3 acc, Ext T none G1 (del H1 D) G3 H3 ∧ Own T D G3 H3 (K (i + 1)) ∧ G3 A = none ∧ H3 A = some (.lst acc) ∧ reps G3 (picked (i + 1) t y) acc, fun H' ⟨G3, ac, E3, O3, g3, h3, r3⟩ => ⟨k - 1, by omega, by omega, G3, ac, E3, O3, g3, h3, r3⟩, fun v H' yy => ?_⟩
    obtain ⟨G3, E3, rv⟩ := yl v H' yy
    refine ⟨i, _, D, hx, G3, E3.sub, ((R.mono E1.gg).mono (fun b o z => E3.gg b o (E2.gg b o z))).wipe [j], rv, fun σ4 G4 H4 E4 R4 hw => ⟨hw.trans (wipe_twice [j]), i, _, hx, D, G4, O2.up (E3.trans E4), R4, fun G5 H5 E5 O5 => ?_⟩⟩
    have E34 := E3.trans E4
    have X5 := E5.ext G1 (del H1 D) (E2.trans E34) fun o e => by rw [del_same] at e; cases e
    have S4 := E34.sub
    have hA4 : H4 A = some (.lst acc) := E34.keep hA2 True.intro
    have g4 : G4 A = none := (E34.frK hA2 True.intro).trans g2
    have Y5 := extO_ext S4 E5
    have hA5 : H5 A = some (.lst acc) := Y5.keep (by rw [del_ne hAD]; exact hA4) True.intro
    have g5 : G5 A = none := (Y5.frK (o := .lst acc) (by rw [del_ne hAD]; exact hA4) True.intro).trans g4
    have racc5 : reps G5 (picked i t y) acc := reps_mono Y5.gg _ _ (reps_mono E34.gg _ _ racc)
    cases ht' : t i with
    | true =>
      refine iteT ⟨i, _, hx, ht', D, G5, O5, R4.mono E5.gg, fun w G6 H6 E6 O6 rw' => ?_⟩
      have X6 := E6.ext G1 (del H1 D) X5 fun o e => by rw [del_same] at e; cases e
      have Y6 := extO_ext O5.sub E6
      have hA6 : H6 A = some (.lst acc) := Y6.keep (by rw [del_ne hAD]; exact hA5) True.intro
      have g6 : G6 A = none := (Y6.frK (o := .lst acc) (by rw [del_ne hAD]; exact hA5) True.intro).trans g5
      refine ⟨acc, hA6, ?_, G6, acc ++ [w], X6.mut nA hA6 True.intro g6, ?_, g6, upd_same, ?_⟩
      · rw [reps_length racc]
        exact Nat.lt_of_le_of_lt (Nat.le_trans (picked_len i t y) (Nat.le_trans (Nat.le_of_lt hlt) hz)) (by decide)
      · obtain ⟨o, ho, ko⟩ := O6.at_
        exact ⟨O6.sub.mut hA6 True.intro g6, O6.off, o, by rw [upd_ne hAD.symm]; exact ho, ko⟩
      · rw [picked_yes ht']
        exact reps_app (reps_mono Y6.gg _ _ racc5) ⟨w, [], rfl, rw', rfl⟩
    | false =>
      refine iteF ⟨G5, acc, X5, ?_, g5, hA5, ?_⟩
      · rw [hk i ht']
        exact O5
      · rw [picked_no ht']
        exact racc5
  · have hi' : i = xs.length := by omega
    subst hi'
    refine .inl ⟨st2 _ (Nat.le_refl _), ?_⟩
    have Ea := E2.adopt nA hA2 True.intro g2
    refine q _ _ _ ((ExtO.of E1).trans (ext_extO Ea)) ?_ ⟨A, acc, rfl, upd_same, reps_mono (rep_upd g2) _ _ racc⟩
    obtain ⟨o, ho, ko⟩ := O2.at_
    refine ⟨Ea.sub, ?_, o, ho, coAt_mono (rep_upd g2) ko⟩
    rw [upd_ne hAD.symm]
    exact O2.off
end
theorem wk_set : ∀ {l : List Sl} {i : Nat} {s : Sl}, l[i]? = some .un → Wk (l.set i s) l
  | [], _, _, h => by simp at h
  | a :: l, 0, s, h => by
    obtain rfl := Option.some.inj h
    exact ⟨.inl rfl, Wk.refl⟩
  | a :: l, i + 1, s, h => ⟨.inr rfl, wk_set (i := i) h⟩
theorem wk_set2 : ∀ {l l' : List Sl} {i : Nat} {s : Sl}, Wk l l' → Wk (l.set i s) (l'.set i s)
  | [], [], _, _, _ => True.intro
  | a :: l, a' :: l', 0, s, h => ⟨.inr rfl, h.2⟩
  | a :: l, a' :: l', i + 1, s, h => ⟨h.1, wk_set2 (i := i) h.2⟩
  | [], _ :: _, _, _, h => h.elim
  | _ :: _, [], _, _, h => h.elim
theorem Rel.know {G : Hp} {ρ : List Sl} {σ : L2.St} {i : Nat} {x : PyData} {v : V} (R : Rel G ρ σ) (e : σ[i]? = some (some v)) (r : rep G x v) : Rel G (ρ.set i (.d x)) σ := by
  refine ⟨by rw [List.length_set]; exact R.len, fun j s h => ?_⟩
  by_cases q : i = j
  · subst q
    by_cases hi : i < ρ.length
    · rw [List.getElem?_set_self hi] at h
      cases h
      exact ⟨_, e, v, rfl, r⟩
    · rw [List.getElem?_eq_none (by rw [List.length_set]; omega)] at h
      cases h
  · rw [List.getElem?_set_ne q] at h
    exact R.ats j s h
section
variable {T : Tb} {X : Cx} {ρ0 : Addr → List Sl} {pos p2 p3 p4 p5 p6 p7 p8 p9 p10 p11 : Pos} {a iter r : Expr} {d : PyData}
/-- out = []; for x in range(n): out.append(a); return r -/
theorem sso_collect {io ix : Nat} {xo xx : Str} (n : Nat) (f : Nat → Addr → List Sl) (K : Nat → Co) (y : Nat → PyData) (hn : n ≤ 1000) (hp : PassesOwn (model X.prog X.w) X.A X.env X.xe) (hc : X.calm = true) (hN0 : X.N.Nodup)
    (hf0 : ∀ i D, (f i D)[io]? = some .un) (hρ : ∀ D, ρ0 D = (f 0 D)) (hw : ∀ i D, Wk ((f i D).set ix (.d (eI i))) (f (i + 1) D)) (hne : io ≠ ix)
    (hi : ∀ D, PI X (.Name xx p2) iter (tI T none (f 0 D) (rangeP n)))
    (he : ∀ i, i < n → PE X a (tDo T (fun D => (f i D).set ix (.d (eI i))) (K i) (y i) (K (i + 1))))
    (hr : ∀ D, PE X r (tD T none ((f n D).set io (.d (.list ((List.range n).map y)))) d))
    (hio : X.N[io]? = some xo := by rfl) (hix : X.N[ix]? = some xx := by rfl) (hlo : X.env.scope.names.lookup xo = some .local := by rfl) (hlx : X.env.scope.names.lookup xx = some .local := by rfl)
    (h1 : (xo == ("__debug__" : Str)) = false := by decide) (h2 : (xo == ("__classdict__" : Str)) = false := by decide)
    (hs1 : swapsWith (.List [] p3) (some (.Name xo p4)) p5.line X.env = pure false := by rfl)
    (hbase : attributeBase (.Name xo p6) "append" X.env (eval (.Name xo p6) X.env) = eval (.Name xo p6) X.env := by rfl)
    (hfew : ((backTo p8 (starEach [a] X.env)).all (fun x => !x.1) && (backToKw p8 (keywordEach [] X.env)).all (fun x => x.1.isSome)
      && decide (([a] : List Expr).length + ([] : List Keyword).length + (if ([] : List Keyword).isEmpty then 0 else 1) < 30)) = true := by rfl)
    (hline : (p7.endLine == p8.line) = true := by rfl) (hsa : starEach [a] X.env = (false, eval a X.env) :: starEach [] X.env := by rfl) (hplain : (backTo p8 (starEach [] X.env)).any (·.1) = false := by rfl)
    (hsw : swapsWith (.Call (.Attribute (.Name xo p6) "append" p7) [a] [] p8) none p9.line X.env = pure false := by rfl)
    (hs : ∀ x, foldedSetIterable iter X.env x = pure x := by intro _; rfl) :
    PSs X [.Assign [.Name xo p4] (.List [] p3) p5, .For (.Name xx p2) iter [.Expr (.Call (.Attribute (.Name xo p6) "append" p7) [a] [] p8) p9] [] p10, .Return (some r) p11] (tSoR T ρ0 (K 0) d (K n)) := by
  have hiU : PI X (.Name xx p2) iter (fun σ H Rk => ∃ D, tI T none (f 0 D) (rangeP n) σ H Rk) := ⟨fun pins s σ H Rk I ⟨D, z⟩ => (hi D).run pins s σ H Rk I z⟩
  have heU : PE X a (fun σ H Q => ∃ i, i < n ∧ tDo T (fun D => (f i D).set ix (.d (eI i))) (K i) (y i) (K (i + 1)) σ H Q) := ⟨fun pins s σ H Q I ⟨i, h, z⟩ => (he i h).run pins s σ H Q I z⟩
  have hrU : PE X r (fun σ H Q => ∃ D, tD T none ((f n D).set io (.d (.list ((List.range n).map y)))) d σ H Q) := ⟨fun pins s σ H Q I ⟨D, z⟩ => (hr D).run pins s σ H Q I z⟩
  refine pss_imp (pss_cons (ps_set hN0 hio (.inl hlo) (pe_lst pa_nil) hs1 (.inr hlo)) (pss_cons (ps_for hp hc hiU (pg_name hN0 hix (.inl hlx) (.inr hlx)) (pss_one (ps_expr (pe_bm PySem.F.plainAttrs_list PySem.F.slot_list_append PySem.F.type_list_append mt_append (pe_var (i := io) hio (.inl hlo) h1 h2) (pa_cons heU pa_nil hsa) hbase hfew hline hsa hplain) hsw)) hs) (pss_one (ps_ret hrU)))) fun Dn σ H ⟨D, G, O, R, q⟩ => ?_
  refine ⟨Nat.zero_le _, fun A hA => ?_⟩
  have E0 : Ext T none G H G (upd H A (.lst [])) := Ext.off O.sub hA
  have hAD : A ≠ D := fun z => by
    obtain ⟨o, h, _⟩ := O.at_
    rw [z, h] at hA
    cases hA
  have gA : G A = none := O.sub.fresh hA
  have nA : del H D A = none := by rw [del_ne hAD]; exact hA
  have R0 : Rel G ((f 0 D).set io (.v (.ref A))) (σ.set io (some (.ref A))) := by
    rw [← hρ]
    exact R.set (s := .v (.ref A)) (o := some (.ref A)) rfl
  refine ⟨D, G, E0.sub, R0.weak (wk_set (hf0 0 D)), fun J G1 H1 E1 st => ?_⟩
  have hA1 : H1 A = some (.lst []) := E1.keep upd_same True.intro
  have g1 : G1 A = none := (E1.frK upd_same True.intro).trans gA
  refine ⟨fun i k σ2 H2 => i + k = n ∧ ∃ G2 acc, Ext T none G (del H D) G2 H2 ∧ (∀ b o, G1 b = some o → G2 b = some o) ∧ Own T D G2 H2 (K i) ∧ G2 A = none ∧ H2 A = some (.lst acc) ∧ reps G2 ((List.range i).map y) acc ∧ Rel G2 ((f i D).set io (.v (.ref A))) σ2,
    ⟨n, by omega, G1, [], ((ext_self O.sub).trans E0).trans E1, fun _ _ z => z, (O.up E0).up E1, g1, hA1, rfl, R0.mono E1.gg⟩, ?_⟩
  rintro i k σ2 H2 ⟨hik, G2, acc, E2, gg2, O2, g2, hA2, racc, R2⟩
  obtain ⟨st1, st2⟩ := st G2 H2 gg2 O2.sub
  by_cases hlt : i < n
  · have hx : (rangeP n)[i]? = some (eI i) := by
      have hl : i < (rangeP n).length := by rw [rangeP_len]; exact hlt
      rw [List.getElem?_eq_getElem hl]
      exact congrArg some (rangeP_at (List.getElem?_eq_getElem hl)).2
    obtain ⟨go, yl⟩ := st1 i _ hx
    refine .inr ⟨go, fun σ3 H3 => ∃ G3 acc, Ext T none G (del H D) G3 H3 ∧ (∀ b o, G1 b = some o → G3 b = some o) ∧ Own T D G3 H3 (K (i + 1)) ∧ G3 A = none ∧ H3 A = some (.lst acc) ∧ reps G3 ((List.range (i + 1)).map y) acc ∧ Rel G3 ((f (i + 1) D).set io (.v (.ref A))) σ3, fun σ' H' ⟨G3, ac, z⟩ => ⟨k - 1, by omega, by omega, G3, ac, z⟩, fun v H' yy => ?_⟩
    obtain ⟨G3, E3, rv⟩ := yl v H' yy
    have O3 := O2.up E3
    have hA3 : H' A = some (.lst acc) := E3.keep hA2 True.intro
    have g3 : G3 A = none := (E3.frK hA2 True.intro).trans g2
    have R3 : Rel G3 (((f i D).set ix (.d (eI i))).set io (.v (.ref A))) (σ2.set ix (some v)) := by
      rw [List.set_comm _ _ (Ne.symm hne)]
      exact (R2.mono E3.gg).setd rv
    have hun : ((f i D).set ix (.d (eI i)))[io]? = some .un := by rw [List.getElem?_set_ne (Ne.symm hne)]; exact hf0 i D
    refine ⟨.ref A, ?_, .inl ⟨rfl, _, SqL.of hA3⟩, i, hlt, D, G3, O3, R3.weak (wk_set hun), fun w G4 H4 E4 O4 rw' => ?_⟩
    · refine R3.getv (i := io) ?_
      have hl : io < ((f i D).set ix (.d (eI i))).length := (List.getElem?_eq_some_iff.mp hun).1
      exact List.getElem?_set_self hl
    have Y4 := extO_ext O3.sub E4
    have X4 := E4.ext G (del H D) (E2.trans E3) fun o e => by rw [del_same] at e; cases e
    have hA4 : H4 A = some (.lst acc) := Y4.keep (by rw [del_ne hAD]; exact hA3) True.intro
    have g4 : G4 A = none := (Y4.frK (o := .lst acc) (by rw [del_ne hAD]; exact hA3) True.intro).trans g3
    have racc4 := reps_mono Y4.gg _ _ (reps_mono E3.gg _ _ racc)
    refine ⟨A, acc, w, rfl, rfl, hA4, ?_, G4, acc ++ [w], X4.mut nA hA4 True.intro g4, fun b o z => Y4.gg b o (E3.gg b o (gg2 b o z)), ?_, g4, upd_same, ?_, (R3.mono E4.gg).weak (wk_set2 (hw i D))⟩
    · rw [reps_length racc, List.length_map, List.length_range]
      exact Nat.lt_of_lt_of_le hlt (Nat.le_trans hn (by decide))
    · obtain ⟨o, ho, ko⟩ := O4.at_
      exact ⟨O4.sub.mut hA4 True.intro g4, O4.off, o, by rw [upd_ne hAD.symm]; exact ho, ko⟩
    · rw [List.range_succ, List.map_append]
      exact reps_app racc4 ⟨w, [], rfl, rw', rfl⟩
  · have hi' : i = n := by omega
    subst hi'
    have Ea := E2.adopt nA hA2 True.intro g2
    have Oa : Own T D (upd G2 A (.lst acc)) H2 (K i) := by
      obtain ⟨o, ho, ko⟩ := O2.at_
      refine ⟨Ea.sub, ?_, o, ho, coAt_mono (rep_upd g2) ko⟩
      rw [upd_ne hAD.symm]
      exact O2.off
    have hl : io < (f i D).length := (List.getElem?_eq_some_iff.mp (hf0 i D)).1
    refine .inl ⟨st2 _ (by rw [rangeP_len]; exact Nat.le_refl _), D, _, Ea.sub, ((R2.mono (rep_upd g2)).weak (wk_set (hf0 i D))).know (R2.getv (List.getElem?_set_self hl)) ⟨A, acc, rfl, upd_same, reps_mono (rep_upd g2) _ _ racc⟩, fun v G' H' E' r' => ?_⟩
    exact q v G' H' (ext_extO (Ea.trans E')) (Oa.up E') r'
end
end GN

/-! the law's draws -/
namespace GN
open PySem PySem.Spec PyProof.Rows L2

abbrev Tin := Int × Int × Int
abbrev tinL (t : Tin) : List PyData := [.int t.1, .int t.2.1, .int t.2.2]
abbrev tinC (t : Tin) : Co := .ls (tinL t)
def onceM (t : Tin) : Int := ((t.2.1 + 48271 * (t.2.2 + 1)) * (39373 + (t.2.2 + 1))) % 2147483647
def twiceM (t : Tin) : Int := ((onceM t + (t.2.2 + 1) + t.2.1 / 1000003) * (onceM t % 40009 + 7)) % 2147483629
def takeM (t : Tin) (n : Int) : Int × Tin := if 0 < t.1 then (t.1 % n, (t.1 / n, t.2.1, t.2.2)) else ((twiceM t * 48271 + onceM t) % 2147483587 / 64 % n, (t.1, t.2.1, t.2.2 + 1))
/-- the counter's bounds -/
def okT (t : Tin) (m : Int) : Prop := 0 ≤ t.2.2 ∧ t.2.2 ≤ m
theorem take_ok {t : Tin} {n m : Int} (h : okT t m) : okT (takeM t n).2 (m + 1) := by
  unfold takeM
  split
  · exact ⟨h.1, by show t.2.2 ≤ m + 1; have := h.2; omega⟩
  · exact ⟨by show 0 ≤ t.2.2 + 1; have := h.1; omega, by show t.2.2 + 1 ≤ m + 1; have := h.2; omega⟩
theorem take_rng (t : Tin) {n : Int} (h : 0 < n) : 0 ≤ (takeM t n).1 ∧ (takeM t n).1 < n := by
  unfold takeM
  split
  · exact ⟨Int.emod_nonneg _ (by omega), Int.emod_lt_of_pos _ h⟩
  · exact ⟨Int.emod_nonneg _ (by omega), Int.emod_lt_of_pos _ h⟩
theorem okT_mono {t : Tin} {m n : Int} (h : okT t m) (h2 : m ≤ n) : okT t n := ⟨h.1, by have := h.2; omega⟩
def ofM (t : Tin) (gs : List Int) : Int × Tin := (gs.getD (takeM t gs.length).1.toNat 0, (takeM t gs.length).2)
theorem of_ok {t : Tin} {gs : List Int} {m : Int} (h : okT t m) : okT (ofM t gs).2 (m + 1) := take_ok h
theorem of_mem (t : Tin) {gs : List Int} (h : 0 < gs.length) : (ofM t gs).1 ∈ gs := by
  have r := take_rng t (n := gs.length) (by omega)
  unfold ofM
  rw [List.getD_eq_getElem?_getD, List.getElem?_eq_getElem (by omega)]
  exact List.getElem_mem _
def tetherM (t : Tin) (far : Int) : Te × Tin :=
  let a := takeM t far
  let b := ofM a.2 [0, 0, 0, 1, 2]
  let c := takeM b.2 5
  let d := takeM c.2 4
  (⟨a.1, c.1 - 1, a.1 + b.1, d.1 - (c.1 - 1)⟩, d.2)
theorem tether_ok {t : Tin} {far m : Int} (h : okT t m) : okT (tetherM t far).2 (m + 4) :=
  okT_mono (take_ok (take_ok (of_ok (take_ok h)))) (by omega)
/-- small tethers, their ends not below nought together -/
structure TeOk (t : Te) : Prop where
  b : -100 ≤ t.a ∧ t.b ≤ 100 ∧ -100 ≤ t.c ∧ -100 ≤ t.d
  cd : 0 ≤ t.c + t.d
theorem tether_rng (t : Tin) {far : Int} (h : 0 < far) (h2 : far ≤ 50) : TeOk (tetherM t far).1 := by
  have r1 := take_rng t h
  have r2 := of_mem (takeM t far).2 (gs := [0, 0, 0, 1, 2]) (by decide)
  have r3 := take_rng (ofM (takeM t far).2 [0, 0, 0, 1, 2]).2 (n := 5) (by omega)
  have r4 := take_rng (takeM (ofM (takeM t far).2 [0, 0, 0, 1, 2]).2 5).2 (n := 4) (by omega)
  have r5 : (ofM (takeM t far).2 [0, 0, 0, 1, 2]).1 ≤ 2 := by
    simp only [List.mem_cons, List.not_mem_nil, or_false] at r2
    omega
  unfold tetherM
  refine ⟨⟨?_, ?_, ?_, ?_⟩, ?_⟩ <;> dsimp only <;> omega
def nameM (t : Tin) : Nm × Tin :=
  let a := takeM t 6
  let b := takeM a.2 3
  let c := tetherM b.2 9
  let d := tetherM c.2 5
  (⟨1 + a.1, 1 + b.1, c.1, d.1⟩, d.2)
theorem name_ok {t : Tin} {m : Int} (h : okT t m) : okT (nameM t).2 (m + 10) := okT_mono (tether_ok (tether_ok (take_ok (take_ok h)))) (by omega)
def stN (t : Tin) : Nat → Tin
  | 0 => t
  | n + 1 => (nameM (stN t n)).2
theorem stN_ok {t : Tin} {m : Int} (h : okT t m) : ∀ n : Nat, okT (stN t n) (m + 10 * n)
  | 0 => okT_mono h (by omega)
  | n + 1 => okT_mono (name_ok (stN_ok h n)) (by omega)
def namesM (t : Tin) (n : Nat) : List Nm := (List.range n).map fun i => (nameM (stN t i)).1
abbrev sideG : List Int := [0, 0, 1, 0, 1, 2, 0, 1, 0, 1]
def stR (t : Tin) : Nat → Tin
  | 0 => t
  | n + 1 => (ofM (stR t n) sideG).2
theorem stR_ok {t : Tin} {m : Int} (h : okT t m) : ∀ n : Nat, okT (stR t n) (m + n)
  | 0 => okT_mono h (by omega)
  | n + 1 => okT_mono (of_ok (stR_ok h n)) (by omega)
def rowM (t : Tin) (n : Nat) : List Int := (List.range n).map fun i => (ofM (stR t i) sideG).1
def stF (t : Tin) : Nat → Tin
  | 0 => t
  | n + 1 => stR (stF t n) n
theorem stF_ok {t : Tin} {m : Int} (h : okT t m) : ∀ n : Nat, n ≤ 10 → okT (stF t n) (m + 10 * n)
  | 0, _ => okT_mono h (by omega)
  | n + 1, hn => okT_mono (stR_ok (stF_ok h n (by omega)) n) (by omega)
def flanksM (t : Tin) (n : Nat) : List (List Int) := (List.range n).map fun j => rowM (stF t j) j
def manyM (t : Tin) (lim : Int) : Nat := (1 + (takeM t lim).1).toNat
def chM (t : Tin) (lim : Int) : Ch := namesM (takeM t lim).2 (manyM t lim)
def sdM (t : Tin) (lim : Int) : Sd := flanksM (stN (takeM t lim).2 (manyM t lim)) (manyM t lim)
def afterM (t : Tin) (lim : Int) : Tin := stF (stN (takeM t lim).2 (manyM t lim)) (manyM t lim)
def stL (t : Tin) : Nat → Tin
  | 0 => t
  | n + 1 => (takeM (stL t n) 4).2
theorem stL_ok {t : Tin} {m : Int} (h : okT t m) : ∀ n : Nat, okT (stL t n) (m + n)
  | 0 => okT_mono h (by omega)
  | n + 1 => okT_mono (take_ok (stL_ok h n)) (by omega)
def lotM (t : Tin) (many : Nat) : List Nat := if (takeM t 3).1 = 0 then List.range many else (List.range many).filter fun i => decide (0 < (takeM (stL (takeM t 3).2 i) 4).1)
def afterL (t : Tin) (many : Nat) : Tin := if (takeM t 3).1 = 0 then (takeM t 3).2 else stL (takeM t 3).2 many

section
variable {P : Program} {w : World} {K : PySem.W.Frag} {mg : Str → Option Value} {base : Heap} {T : Tb}
def rTake (c : Co) (ds : List PyData) (d : PyData) (c' : Co) : Prop := ∃ (t : Tin) (n : Int), c = tinC t ∧ ds = [.int n] ∧ 0 < n ∧ n < 1000 ∧ okT t 100000 ∧ d = .int (takeM t n).1 ∧ c' = tinC (takeM t n).2
def rOf (c : Co) (ds : List PyData) (d : PyData) (c' : Co) : Prop := ∃ (t : Tin) (gs : List Int), c = tinC t ∧ ds = [.list (gs.map .int)] ∧ 0 < gs.length ∧ gs.length < 1000 ∧ okT t 100000 ∧ d = .int (ofM t gs).1 ∧ c' = tinC (ofM t gs).2
def rTeth (c : Co) (ds : List PyData) (d : PyData) (c' : Co) : Prop := ∃ (t : Tin) (n : Int), c = tinC t ∧ ds = [.int n] ∧ 0 < n ∧ n < 1000 ∧ okT t 99000 ∧ d = eT true (tetherM t n).1 ∧ c' = tinC (tetherM t n).2
variable (Z : Txt K mg)
include Z
theorem c_law_take : CalO P w K mg base T 1 "_law_take" rTake := Z.d_law_take.calO fun g fd F => by
  refine data_fnO F sc_law_take (fun c ds d c' h => by obtain ⟨t, n, rfl, rfl, _⟩ := h; rfl) (by decide) fun cdv A outer s H E c ds d c' hr h => ?_
  obtain ⟨t, n, rfl, rfl, h1, h2, ho, rfl, rfl⟩ := h
  obtain ⟨o1, o2⟩ := ho
  let ρl : List PyData → List Sl → Addr → List Sl := fun l r D => .dv (.list l) (.ref D) :: r
  by_cases hp : 0 < t.1
  · have e : takeM t n = (t.1 % n, (t.1 / n, t.2.1, t.2.2)) := if_pos hp
    rw [e]
    refine sso_rtR (so_ifT (c1 := tinC t) (to_look (ρl := ρl (tinL t) [.d (.int n), .un, .un, .un, .un]) (fun D => et_gt (ed_ixL (ed_varD 0) ed_int rfl) ed_int (decide_eq_true hp)) fun D => ⟨.inr ⟨rfl, rfl⟩, .inl rfl, .inl rfl, .inl rfl, .inl rfl, .inl rfl, True.intro⟩) ?_)
    refine sso_consR (so_set 2 (do_look (ρl := ρl (tinL t) [.d (.int n), .un, .un, .un, .un]) (fun D => ed_mod (ed_intI Z.n_int (ed_ixL (ed_varD 0) ed_int rfl)) (ed_var 1) h1) (fun D => ⟨.inr ⟨rfl, rfl⟩, .inl rfl, .inl rfl, .inl rfl, .inl rfl, .inl rfl, True.intro⟩) rfl) sc_law_take.nd) ?_
    refine sso_consR (so_setI (i := 0) (k := 0) (do_look (d := .int (t.1 / n)) (ρl := ρl (tinL t) [.d (.int n), .d (.int (t.1 % n)), .un, .un, .un]) (fun D => ed_fdiv (ed_ixL (ed_varD 0) ed_int rfl) (ed_var 1) ⟨h1, by omega⟩) (fun D => ⟨.inr ⟨rfl, rfl⟩, .inl rfl, .inl rfl, .inl rfl, .inl rfl, .inl rfl, True.intro⟩) rfl) (fun D => ed_int) (by show 0 < 3; decide) fun D => rfl) ?_
    exact pss_one (so_ret fun D => es_ret (ed_var 2))
  · have e : takeM t n = ((twiceM t * 48271 + onceM t) % 2147483587 / 64 % n, (t.1, t.2.1, t.2.2 + 1)) := if_neg hp
    rw [e]
    refine sso_consR (so_ifF (c1 := tinC t) (to_look (ρl := ρl (tinL t) [.d (.int n), .un, .un, .un, .un]) (fun D => et_gt (ed_ixL (ed_varD 0) ed_int rfl) ed_int (decide_eq_false hp)) fun D => ⟨.inr ⟨rfl, rfl⟩, .inl rfl, .inl rfl, .inl rfl, .inl rfl, .inl rfl, True.intro⟩)) ?_
    refine sso_consR (so_setI (i := 0) (k := 2) (do_look (d := .int (t.2.2 + 1)) (ρl := ρl (tinL t) [.d (.int n), .un, .un, .un, .un]) (fun D => ed_add (ed_ixL (ed_varD 0) ed_int rfl) ed_int) (fun D => ⟨.inr ⟨rfl, rfl⟩, .inl rfl, .inl rfl, .inl rfl, .inl rfl, .inl rfl, True.intro⟩) rfl) (fun D => ed_int) (by show 2 < 3; decide) fun D => rfl) ?_
    show PSs _ _ (tSoR T _ (tinC (t.1, t.2.1, t.2.2 + 1)) _ _)
    refine sso_consR (so_set 3 (do_look (d := .int (onceM t)) (ρl := ρl (tinL (t.1, t.2.1, t.2.2 + 1)) [.d (.int n), .un, .un, .un, .un]) (fun D => ed_mod (ed_intI Z.n_int (ed_mul (ed_add (ed_ixL (ed_varD 0) ed_int rfl) (ed_mul ed_int (ed_ixL (ed_varD 0) ed_int rfl) (.inl ⟨by omega, by omega⟩))) (ed_add ed_int (ed_ixL (ed_varD 0) ed_int rfl)) (.inr ⟨by omega, by omega⟩))) ed_int (by decide)) (fun D => ⟨.inr ⟨rfl, rfl⟩, .inl rfl, .inl rfl, .inl rfl, .inl rfl, .inl rfl, True.intro⟩) rfl) sc_law_take.nd) ?_
    refine sso_consR (so_lift fun D => es_set 4 (ed_add (ed_mod (ed_intI Z.n_int (ed_var 3)) ed_int (by decide)) ed_int) sc_law_take.nd) ?_
    have hb : 0 ≤ onceM t % 40009 ∧ onceM t % 40009 < 40009 := ⟨Int.emod_nonneg _ (by omega), Int.emod_lt_of_pos _ (by omega)⟩
    refine sso_consR (so_set 5 (do_look (d := .int (twiceM t)) (ρl := ρl (tinL (t.1, t.2.1, t.2.2 + 1)) [.d (.int n), .un, .d (.int (onceM t)), .d (.int (onceM t % 40009 + 7)), .un]) (fun D => ed_mod (ed_intI Z.n_int (ed_mul (ed_add (ed_add (ed_var 3) (ed_ixL (ed_varD 0) ed_int rfl)) (ed_fdiv (ed_ixL (ed_varD 0) ed_int rfl) ed_int ⟨by decide, by decide⟩)) (ed_var 4) (.inr ⟨by omega, by omega⟩))) ed_int (by decide)) (fun D => ⟨.inr ⟨rfl, rfl⟩, .inl rfl, .inl rfl, .inl rfl, .inl rfl, .inl rfl, True.intro⟩) rfl) sc_law_take.nd) ?_
    exact pss_one (so_ret fun D => es_ret (ed_mod (ed_intI Z.n_int (ed_fdiv (ed_mod (ed_intI Z.n_int (ed_add (ed_mul (ed_var 5) ed_int (.inr ⟨by omega, by omega⟩)) (ed_var 3))) ed_int (by decide)) ed_int ⟨by decide, by decide⟩)) (ed_var 1) h1))
theorem c_law_of : CalO P w K mg base T 2 "_law_of" rOf := Z.d_law_of.calO fun g fd F => by
  refine data_fnO F sc_law_of (fun c ds d c' h => by obtain ⟨t, n, rfl, rfl, _⟩ := h; rfl) (by decide) fun cdv A outer s H E c ds d c' hr h => ?_
  obtain ⟨t, gs, rfl, rfl, h1, h2, ho, rfl, rfl⟩ := h
  have r := take_rng t (n := gs.length) (by omega)
  have hat : atI (gs.map PyData.int) (takeM t gs.length).1 = some (.int (ofM t gs).1) := by
    have e : (takeM t gs.length).1 = (((takeM t gs.length).1.toNat : Nat) : Int) := by omega
    rw [e]
    refine atI_nat ?_
    rw [List.getElem?_map, List.getElem?_eq_getElem (by omega)]
    unfold ofM
    rw [List.getD_eq_getElem?_getD, List.getElem?_eq_getElem (by omega)]
    rfl
  exact pss_one (so_retO (do_ix (k := false) (do_lift fun D => ed_var 1) (do_call (i := 0) (c_law_take Z) (hr.mono (by decide)) (fun D => rfl) (fun D => ea_cons (ed_lenM (k := false) (enc := PyData.int) Z.n_len (ed_var 1)) ea_nil) ⟨t, _, rfl, rfl, by omega, by omega, ho, rfl, rfl⟩) hat))
theorem c_law_tether : CalO P w K mg base T 3 "_law_tether" rTeth := Z.d_law_tether.calO fun g fd F => by
  refine data_fnO F sc_law_tether (fun c ds d c' h => by obtain ⟨t, n, rfl, rfl, _⟩ := h; rfl) (by decide) fun cdv A outer s H E c ds d c' hr h => ?_
  obtain ⟨t, n, rfl, rfl, h1, h2, ho, rfl, rfl⟩ := h
  have k1 := okT_mono ho (show (99000 : Int) ≤ 100000 by omega)
  have k2 : okT (takeM t n).2 100000 := okT_mono (take_ok ho) (by omega)
  have k3 : okT (ofM (takeM t n).2 [0, 0, 0, 1, 2]).2 100000 := okT_mono (of_ok (take_ok ho)) (by omega)
  have k4 : okT (takeM (ofM (takeM t n).2 [0, 0, 0, 1, 2]).2 5).2 100000 := okT_mono (take_ok (of_ok (take_ok ho))) (by omega)
  refine sso_consR (so_par3 2 3 4 rfl sc_law_tether.nd (ao_cons (do_call (i := 0) (c_law_take Z) (hr.mono (by decide)) (fun D => rfl) (fun D => ea_cons (ed_var 1) ea_nil) ⟨t, n, rfl, rfl, h1, h2, k1, rfl, rfl⟩)
    (ao_cons (do_call (i := 0) (c_law_of Z) (hr.mono (by decide)) (fun D => rfl) (fun D => ea_cons (ed_lst (ea_cons ed_int (ea_cons ed_int (ea3 ed_int ed_int ed_int)))) ea_nil) ⟨_, [0, 0, 0, 1, 2], rfl, rfl, by decide, by decide, k2, rfl, rfl⟩)
    (ao_cons (do_sub (do_call (i := 0) (c_law_take Z) (hr.mono (by decide)) (fun D => rfl) (fun D => ea_cons ed_int ea_nil) ⟨_, 5, rfl, rfl, by decide, by decide, k3, rfl, rfl⟩) (do_lift fun D => ed_int)) ao_nil)))) ?_
  exact pss_one (so_retO (do_tup (ao_cons (do_lift fun D => ed_var 2) (ao_cons (do_lift fun D => ed_var 4) (ao_cons (do_lift fun D => ed_add (ed_var 2) (ed_var 3)) (ao_cons (do_sub (do_call (i := 0) (c_law_take Z) (hr.mono (by decide)) (fun D => rfl) (fun D => ea_cons ed_int ea_nil) ⟨_, 4, rfl, rfl, by decide, by decide, k4, rfl, rfl⟩) (do_lift fun D => ed_var 4)) ao_nil))))))
end
end GN

/-! the law's chart, lot -/
namespace GN
open PySem PySem.Spec PyProof.Rows L2

theorem picked_all (n : Nat) (y : Nat → PyData) : picked n (fun _ => true) y = (List.range n).map y := by
  unfold picked
  rw [List.filter_eq_self.mpr fun _ _ => rfl]
section
variable {T : Tb} {lk : Lk} {X : Cx} {ρ : List Sl} {a : Expr} {pos p p2 : Pos}
theorem ed_tupRange {n : Nat} (hc : X.calm = true) (hmt : X.mg "tuple" = none) (hmr : X.mg "range" = none) (ha : PE X a (tD T lk ρ (.int (n : Int)))) (hn : n ≤ 1000) (hg : Gl X "tuple" := by rfl) (hg2 : Gl X "range" := by rfl) (na : starEach [a] X.env = (false, eval a X.env) :: starEach [] X.env := by rfl)
    (na2 : starEach [.Call (.Name "range" p) [a] [] p2] X.env = (false, eval (.Call (.Name "range" p) [a] [] p2) X.env) :: starEach [] X.env := by rfl) {q1 : Pos} :
    PE X (.Call (.Name "tuple" q1) [.Call (.Name "range" p) [a] [] p2] [] pos) (tD T lk ρ (.tuple (rangeP n))) :=
  pe_imp (pe_tupRg hc hg hmt (prg_1 hg2 hmr ha na) na2) fun σ H Q ⟨G, S, R, q⟩ => ⟨G, S, R, fun v G1 H1 E1 r1 => by
    cases (show v = .int (n : Int) from r1)
    refine ⟨_, rfl, RgOk.of_le (by omega) (by omega) (by omega) (by omega), fun t ht => ?_⟩
    have E2 := Ext.lay (o := .tup (rgV 0 (n : Int))) E1.sub ht True.intro
    refine q _ _ _ (E1.trans E2) ⟨t, _, rfl, upd_same, ?_⟩
    have e : rangeP n = ((List.range n).map fun (i : Nat) => (i : Int)).map PyData.int := by
      unfold rangeP
      rw [List.map_map]
      rfl
    have e2 : rgV 0 (n : Int) = ((List.range n).map fun (i : Nat) => (i : Int)).map V.int := by
      unfold rgV
      rw [List.map_map]
      have : ((n : Int) - 0).toNat = n := by omega
      rw [this]
      refine List.map_congr_left fun i _ => ?_
      show V.int (0 + (i : Int)) = V.int (i : Int)
      rw [Int.zero_add]
    rw [e, e2]
    exact reps_ints _⟩
end
section
variable {P : Program} {w : World} {K : PySem.W.Frag} {mg : Str → Option Value} {base : Heap} {T : Tb}
def rChart (c : Co) (ds : List PyData) (d : PyData) (c' : Co) : Prop := ∃ (t : Tin), c = tinC t ∧ ds = [.int 5] ∧ okT t 0 ∧ d = .tuple [eC true (chM t 5), eS true (sdM t 5)] ∧ c' = tinC (afterM t 5)
def rLot (c : Co) (ds : List PyData) (d : PyData) (c' : Co) : Prop := ∃ (t : Tin) (n : Nat), c = tinC t ∧ ds = [.int (n : Int)] ∧ n ≤ 10 ∧ okT t 1000 ∧ d = eL true (lotM t n) ∧ c' = tinC (afterL t n)
variable (Z : Txt K mg)
include Z
theorem c_law_chart : CalO P w K mg base T 4 "_law_chart" rChart := Z.d_law_chart.calO fun g fd F => by
  refine data_fnO F sc_law_chart (fun c ds d c' h => by obtain ⟨t, rfl, rfl, _⟩ := h; rfl) (by decide) fun cdv A outer s H E c ds d c' hr h => ?_
  obtain ⟨t, rfl, rfl, ho, rfl, rfl⟩ := h
  have r0 := take_rng t (n := 5) (by omega)
  have hm : ((manyM t 5 : Nat) : Int) = 1 + (takeM t 5).1 := by unfold manyM; omega
  have hm5 : manyM t 5 ≤ 5 := by omega
  have k0 : okT t 100000 := okT_mono ho (by omega)
  have k1 : okT (takeM t 5).2 1 := take_ok ho
  refine sso_consR (so_set 2 (d := .int ((manyM t 5 : Nat) : Int)) (by
    rw [hm]
    exact do_add (do_lift fun D => ed_int) (do_call (i := 0) (c_law_take Z) (hr.mono (by decide)) (fun D => rfl) (fun D => ea_cons (ed_var 1) ea_nil) ⟨t, 5, rfl, rfl, by decide, by decide, k0, rfl, rfl⟩)) sc_law_chart.nd) ?_
  generalize hmm : manyM t 5 = m at *
  have hch : chM t 5 = namesM (takeM t 5).2 m := by unfold chM; rw [hmm]
  have hsd : sdM t 5 = flanksM (stN (takeM t 5).2 m) m := by unfold sdM; rw [hmm]
  have haf : afterM t 5 = stF (stN (takeM t 5).2 m) m := by unfold afterM; rw [hmm]
  rw [hch, hsd, haf]
  generalize (takeM t 5).2 = t1 at k1 ⊢
  let ρ1 : Addr → List Sl := fun D => [.v (.ref D), .d (.int 5), .d (.int (m : Int)), .un, .un, .un, .un, .un]
  have hN : eC true (namesM t1 m) = .tuple (picked (rangeP m).length (fun _ => true) fun i => eN true (nameM (stN t1 i)).1) := by
    rw [rangeP_len, picked_all]
    unfold eC namesM
    rw [List.map_map]
    rfl
  have hKN : tinC (stN t1 m) = tinC (stN t1 (rangeP m).length) := by rw [rangeP_len]
  refine sso_consR (ρ1 := fun D => (ρ1 D).set 3 (.d (eC true (namesM t1 m)))) (c1 := tinC (stN t1 m)) ?_ ?_
  · rw [hN, hKN]
    refine so_set 3 (do_tupleOf (k := false) Z.n_tuple (do_lc 6 (fun i D => (ρ1 D).set 6 (.d (eI i))) (fun i => tinC (stN t1 i)) (fun i => tinC (stN t1 i)) (fun _ => true) (fun i => eN true (nameM (stN t1 i)).1) rfl sc_law_chart.nd (fun D => ei_range (n := m) Z.n_range (ea_cons (ed_var 2) ea_nil) (by omega)) (by rw [rangeP_len]; omega)
      (fun i z D hz _ _ _ _ _ => by obtain ⟨_, rfl⟩ := rangeP_at hz; exact eg_nameW 6 sc_law_chart.nd) (fun i z hz _ _ _ _ _ => pts_imp pts_nil fun σ H Q ⟨D, G, O, R, q⟩ => q G H .refl O) (fun i z hz _ _ _ _ _ _ => ?_) (fun i h => nomatch h) (blkOk_by (N := N_law_chart) (sc := defScope s_law_chart) (by decide +kernel)))) sc_law_chart.nd
    obtain ⟨hi, rfl⟩ := rangeP_at hz
    have q0 := stN_ok k1 i
    have a1 : okT (stN t1 i) 100000 := okT_mono q0 (by omega)
    have a2 : okT (takeM (stN t1 i) 6).2 100000 := okT_mono (take_ok q0) (by omega)
    have a3 : okT (takeM (takeM (stN t1 i) 6).2 3).2 99000 := okT_mono (take_ok (take_ok q0)) (by omega)
    have a4 : okT (tetherM (takeM (takeM (stN t1 i) 6).2 3).2 9).2 99000 := okT_mono (tether_ok (take_ok (take_ok q0))) (by omega)
    exact do_tup (ao_cons (do_add (do_lift fun D => ed_int) (do_call (i := 0) (c_law_take Z) (hr.mono (by decide)) (fun D => rfl) (fun D => ea_cons ed_int ea_nil) ⟨_, 6, rfl, rfl, by decide, by decide, a1, rfl, rfl⟩))
      (ao_cons (do_add (do_lift fun D => ed_int) (do_call (i := 0) (c_law_take Z) (hr.mono (by decide)) (fun D => rfl) (fun D => ea_cons ed_int ea_nil) ⟨_, 3, rfl, rfl, by decide, by decide, a2, rfl, rfl⟩))
      (ao_cons (do_call (i := 0) (c_law_tether Z) (hr.mono (by decide)) (fun D => rfl) (fun D => ea_cons ed_int ea_nil) ⟨_, 9, rfl, rfl, by decide, by decide, a3, rfl, rfl⟩)
      (ao_cons (do_call (i := 0) (c_law_tether Z) (hr.mono (by decide)) (fun D => rfl) (fun D => ea_cons ed_int ea_nil) ⟨_, 5, rfl, rfl, by decide, by decide, a4, rfl, rfl⟩) ao_nil))))
  have k2 : okT (stN t1 m) 51 := okT_mono (stN_ok k1 m) (by omega)
  generalize stN t1 m = t2 at k2 ⊢
  generalize namesM t1 m = C
  let fF : Nat → Addr → List Sl := fun _ D => [.v (.ref D), .d (.int 5), .d (.int (m : Int)), .d (eC true C), .un, .un, .un, .un]
  refine sso_collect (io := 4) (ix := 5) m fF (fun i => tinC (stF t2 i)) (fun j => sq true ((rowM (stF t2 j) j).map PyData.int)) (by omega) PassesOwn.never rfl sc_law_chart.nd (fun i D => rfl) (fun D => rfl) (fun i D => ⟨.inr rfl, .inr rfl, .inr rfl, .inr rfl, .inr rfl, .inl rfl, .inr rfl, .inr rfl, True.intro⟩) (by decide)
    (fun D => ei_range (n := m) Z.n_range (ea_cons (ed_var 2) ea_nil) (by omega)) (fun j hj => ?_) fun D => ?_
  · have k3 := stF_ok k2 j (by omega)
    have hR : sq true ((rowM (stF t2 j) j).map PyData.int) = .tuple (picked (rangeP j).length (fun _ => true) fun i => .int (ofM (stR (stF t2 j) i) sideG).1) := by
      rw [rangeP_len, picked_all]
      unfold rowM
      rw [List.map_map]
      rfl
    have hKR : tinC (stF t2 (j + 1)) = tinC (stR (stF t2 j) (rangeP j).length) := by rw [rangeP_len]; rfl
    rw [hR, hKR]
    refine do_tupleOf (k := false) Z.n_tuple (do_lc 7 (fun i D => ((fF 0 D).set 5 (.d (eI j))).set 7 (.d (eI i))) (fun i => tinC (stR (stF t2 j) i)) (fun i => tinC (stR (stF t2 j) i)) (fun _ => true) (fun i => .int (ofM (stR (stF t2 j) i) sideG).1) rfl sc_law_chart.nd (fun D => ei_range (n := j) Z.n_range (ea_cons (ed_var 5) ea_nil) (by omega)) (by rw [rangeP_len]; omega)
      (fun i z D hz _ _ _ _ _ => by obtain ⟨_, rfl⟩ := rangeP_at hz; exact eg_nameW 7 sc_law_chart.nd) (fun i z hz _ _ _ _ _ => pts_imp pts_nil fun σ H Q ⟨D, G, O, R, q⟩ => q G H .refl O) (fun i z hz _ _ _ _ _ _ => ?_) (fun i h => nomatch h) (blkOk_by (N := N_law_chart) (sc := defScope s_law_chart) (by decide +kernel)))
    obtain ⟨hi, rfl⟩ := rangeP_at hz
    have q0 : okT (stR (stF t2 j) i) 100000 := okT_mono (stR_ok k3 i) (by omega)
    exact do_call (i := 0) (c_law_of Z) (hr.mono (by decide)) (fun D => rfl) (fun D => ea_cons (ed_lst (ea_cons ed_int (ea_cons ed_int (ea_cons ed_int (ea_cons ed_int (ea_cons ed_int (ea5 ed_int ed_int ed_int ed_int ed_int))))))) ea_nil) ⟨_, sideG, rfl, rfl, by decide, by decide, q0, rfl, rfl⟩
  · have hS : eS true (flanksM t2 m) = .tuple ((List.range m).map fun j => sq true ((rowM (stF t2 j) j).map PyData.int)) := by
      unfold eS flanksM
      rw [List.map_map]
      rfl
    rw [hS]
    exact ed_tup (ea2 (ed_var 3) (ed_tupleOf (k := false) Z.n_tuple (ed_var 4)))
theorem c_law_lot : CalO P w K mg base T 4 "_law_lot" rLot := Z.d_law_lot.calO fun g fd F => by
  refine data_fnO F sc_law_lot (fun c ds d c' h => by obtain ⟨t, n, rfl, rfl, _⟩ := h; rfl) (by decide) fun cdv A outer s H E c ds d c' hr h => ?_
  obtain ⟨t, n, rfl, rfl, hn, ho, rfl, rfl⟩ := h
  have k0 : okT t 100000 := okT_mono ho (by omega)
  have k1 := take_ok (n := 3) ho
  have tst : ∀ {p1 p2 p3 p4 p5 p6 : Pos} {j1 j2 : Nat} {b : Bool}, decide ((takeM t 3).1 = 0) = b → PT (cxOf CX0 P w K mg base N_law_lot "_law_lot" (defScope s_law_lot) g cdv A outer s H E).nox
      (.Compare (.Call (.Name "_law_take" p1) [.Name "_law_tin" p2, .Constant (.int 3) j1 p3] [] p4) [.Eq] [.Constant (.int 0) j2 p5] p6) (tTo T (fun D => startO N_law_lot.length D [.int (n : Int)]) (tinC t) b (tinC (takeM t 3).2)) := fun {p1 p2 p3 p4 p5 p6 j1 j2 b} hb => by
    subst hb
    exact to_cmp op_eq rd_eq (do_call (i := 0) (c_law_take Z) (hr.mono (by decide)) (fun D => rfl) (fun D => ea_cons ed_int ea_nil) ⟨t, 3, rfl, rfl, by decide, by decide, k0, rfl, rfl⟩) (do_lift fun D => ed_int)
  by_cases hz : (takeM t 3).1 = 0
  · have e1 : eL true (lotM t n) = .tuple (rangeP n) := by
      unfold lotM
      rw [if_pos hz]
      rfl
    have e2 : afterL t n = (takeM t 3).2 := if_pos hz
    rw [e1, e2]
    exact sso_rtR (so_ifT (tst (decide_eq_true hz)) (pss_one (so_ret fun D => es_ret (ed_tupRange rfl Z.n_tuple Z.n_range (ed_var 1) (by omega)))))
  · have e2 : afterL t n = stL (takeM t 3).2 n := if_neg hz
    generalize ht1 : (takeM t 3).2 = t1 at k1 e2
    have e1 : eL true (lotM t n) = .tuple (picked (rangeP n).length (fun i => decide (0 < (takeM (stL t1 i) 4).1)) fun i => eI i) := by
      unfold lotM picked
      rw [if_neg hz, rangeP_len, ht1]
      rfl
    have e3 : tinC (stL t1 n) = tinC (stL t1 (rangeP n).length) := by rw [rangeP_len]
    rw [e1, e2, e3]
    refine sso_consR (c1 := tinC t1) (by rw [← ht1]; exact so_ifF (tst (decide_eq_false hz))) (pss_one (so_retO (do_tupleOf (k := false) Z.n_tuple (do_lc 2 (fun i D => [.v (.ref D), .d (.int (n : Int)), .d (eI i)]) (fun i => tinC (stL t1 i)) (fun i => tinC (stL t1 (i + 1))) (fun i => decide (0 < (takeM (stL t1 i) 4).1)) (fun i => eI i) rfl sc_law_lot.nd (fun D => ei_range (n := n) Z.n_range (ea_cons (ed_var 1) ea_nil) (by omega)) (by rw [rangeP_len]; omega)
      (fun i z D hz _ _ _ _ _ => by obtain ⟨_, rfl⟩ := rangeP_at hz; exact eg_nameW 2 sc_law_lot.nd) (fun i z hz _ _ _ _ _ => ?_) (fun i z hz _ _ _ _ _ _ => do_lift fun D => ed_var 2) (fun i h => rfl) (blkOk_by (N := N_law_lot) (sc := defScope s_law_lot) (by decide +kernel))))))
    obtain ⟨hi, rfl⟩ := rangeP_at hz
    have q0 : okT (stL t1 i) 100000 := okT_mono (stL_ok k1 i) (by omega)
    exact pts_one (to_cmp op_gt (rd_i0 fun _ => rfl) (do_call (i := 0) (c_law_take Z) (hr.mono (by decide)) (fun D => rfl) (fun D => ea_cons ed_int ea_nil) ⟨_, 4, rfl, rfl, by decide, by decide, q0, rfl, rfl⟩) (do_lift fun D => ed_int))
end
end GN

/-! the law's cells and box -/
namespace GN
open PySem PySem.Spec PyProof.Rows L2

theorem sq_keep {T : Tb} {G H G' H' : Hp} {K : PySem.W.Frag} {a : Addr} {xs : List V} (h : SqL K H a xs) (E : Ext T none G H G' H') : SqL K H' a xs := by
  rcases h with (h | ⟨o, h⟩) | h
  · exact .inl (.inl (E.le a _ h fun _ z => nomatch z))
  · exact .inl (.inr ⟨o, E.le a _ h fun _ z => nomatch z⟩)
  · exact .inr h
section
variable {T : Tb} {X : Cx} {pos p p2 : Pos} {e a b : Expr} {ρ : List Sl} {ρs : Addr → List Sl}
/-- what is known of the raw list -/
def Raw (T : Tb) (K : PySem.W.Frag) (ns : List Int) (ρ : Addr → List Sl) (σ : L2.St) (H : Hp) (k : Addr → Hp → Prop) : Prop := ∃ s G, Sub T none G H ∧ Rel G (ρ s) σ ∧ SqL K H s (ns.map V.int) ∧ k s G
theorem cut_raw {ns : List Int} {lo hi : Option Expr} {l u : Option Int} {x : Str} {i : Nat} (h0 : ∀ s, (ρs s)[i]? = some (.v (.ref s))) (hl : ∀ s, PO X lo (tO T none (ρs s) l)) (hu : ∀ s, PO X hi (tO T none (ρs s) u)) (hN : X.N[i]? = some x := by rfl)
    (hvis : Vis X.env.scope x := by first | exact Or.inl rfl | exact Or.inr (Or.inl rfl) | exact Or.inr (Or.inr rfl)) (h1 : (x == ("__debug__" : Str)) = false := by decide) (h2 : (x == ("__classdict__" : Str)) = false := by decide) :
    PE X (.Subscript (.Name x p) (.Slice lo hi none p2) pos) (fun σ H Q => Raw T X.K ns ρs σ H fun s G => ∀ v G' H', Ext T none G H G' H' → rep G' (.list (cutP (ns.map PyData.int) l u)) v → Q v H') := by
  have hlU : PO X lo (fun σ H Q => ∃ s, tO T none (ρs s) l σ H Q) := ⟨fun pins s σ H Q I ⟨D, z⟩ => (hl D).run pins s σ H Q I z⟩
  have huU : PO X hi (fun σ H Q => ∃ s, tO T none (ρs s) u σ H Q) := ⟨fun pins s σ H Q I ⟨D, z⟩ => (hu D).run pins s σ H Q I z⟩
  refine pe_imp (pe_slice sl_list (pe_var (i := i) hN hvis h1 h2) hlU huU) fun σ H Q ⟨s, G, S, R, hS, q⟩ => ⟨.ref s, R.getv (h0 s), s, G, S, R, fun G2 H2 E2 => ⟨s, G2, E2.sub, R.mono E2.gg, fun G3 H3 E3 => ?_⟩⟩
  have E := E2.trans E3
  refine ⟨s, _, rfl, sq_keep hS E, fun t ht => ?_⟩
  have E4 := Ext.lay (o := .lst (cutV (ns.map V.int) l u)) E3.sub ht True.intro
  exact q _ _ _ (E.trans E4) ⟨t, _, rfl, upd_same, reps_mono E4.gg _ _ (reps_cut l u (reps_ints ns))⟩
/-- a fresh list -/
def tDf (T : Tb) (ρ : List Sl) (ds : List PyData) : TE := fun σ H Q => ∃ G, Sub T none G H ∧ Rel G ρ σ ∧ ∀ D G' H', Ext T none G H G' H' → H D = none → Own T D G' H' (.ls ds) → Q (.ref D) H'
theorem for_own {xs : List PyData} {f f' : Nat → Addr → List Sl} {K : Nat → Co} {D : Addr} {G H : Hp} {σ : L2.St} {J : It} {Dn : Ends} (O : Own T D G H (K 0)) (R : Rel G (f 0 D) σ) (st : Steps T none J G xs)
    (q : ∀ σ' G' H', ExtO T D G H G' H' → Own T D G' H' (K xs.length) → Rel G' (f xs.length D) σ' → Dn.nx σ' H') :
    tFor (fun _ _ Rk => Rk J H) (fun v σ H Q => ∃ i x D, xs[i]? = some x ∧ tG T none x (f i D) (f' i D) v σ H Q) (fun Dn σ H => ∃ i x, xs[i]? = some x ∧ tSo T (f' i) (K i) (f (i + 1)) (K (i + 1)) Dn σ H) Dn σ H := by
  refine ⟨fun i k σ2 H2 => i + k = xs.length ∧ ∃ G2, ExtO T D G H G2 H2 ∧ (∀ b o, G b = some o → G2 b = some o) ∧ Own T D G2 H2 (K i) ∧ Rel G2 (f i D) σ2, ⟨xs.length, by omega, G, .refl, fun _ _ z => z, O, R⟩, ?_⟩
  rintro i k σ2 H2 ⟨hik, G2, E2, g2, O2, R2⟩
  obtain ⟨st1, st2⟩ := st G2 H2 g2 O2.sub
  by_cases hlt : i < xs.length
  · have hx := List.getElem?_eq_getElem hlt
    obtain ⟨go, yl⟩ := st1 i _ hx
    refine .inr ⟨go, fun σ3 H3 => ∃ G3, ExtO T D G H G3 H3 ∧ (∀ b o, G b = some o → G3 b = some o) ∧ Own T D G3 H3 (K (i + 1)) ∧ Rel G3 (f (i + 1) D) σ3, fun σ' H' ⟨G3, E3, g3, O3, R3⟩ => ⟨k - 1, by omega, by omega, G3, E3, g3, O3, R3⟩, fun v H' y => ?_⟩
    obtain ⟨G3, E3, rv⟩ := yl v H' y
    refine ⟨i, _, D, hx, G3, E3.sub, R2.mono E3.gg, rv, fun σ4 G4 H4 E4 R4 => ?_⟩
    have E34 := E3.trans E4
    exact ⟨i, _, hx, D, G4, O2.up E34, R4, fun σ' G' H' E' O' R' => ⟨G', E2.trans ((ExtO.of E34).trans E'), fun b o z => E'.gg b o (E34.gg b o (g2 b o z)), O', R'⟩⟩
  · have hi' : i = xs.length := by omega
    subst hi'
    exact .inl ⟨st2 _ (Nat.le_refl _), q σ2 G2 H2 E2 O2 R2⟩
end

/-! ### plain -/
def tailI (ns : List Int) : List Int := (ns.drop (HT.sIx ns.length 0 (some 1))).take (HT.sIx ns.length ns.length (some 63) - HT.sIx ns.length 0 (some 1))
theorem tailI_cut (ns : List Int) : cutP (ns.map PyData.int) (some 1) (some 63) = (tailI ns).map PyData.int := by
  unfold cutP tailI
  rw [List.length_map, List.map_take, List.map_drop]
def cellF : Nat → Int → List Int → Int
  | _, z, [] => z
  | k, z, c :: r => cellF (k + 1) (z + c * ((k : Int) + 2)) r
theorem cellF_snoc : ∀ (l : List Int) (k : Nat) (z c : Int), cellF k z (l ++ [c]) = cellF k z l + c * (((k + l.length : Nat) : Int) + 2)
  | [], k, z, c => rfl
  | a :: l, k, z, c => by
    show cellF (k + 1) _ (l ++ [c]) = cellF (k + 1) _ l + _
    rw [cellF_snoc l, List.length_cons]
    have e : k + 1 + l.length = k + (l.length + 1) := by omega
    rw [e]
def cellM (ns : List Int) : Int := cellF 0 (ns.headD 0) (tailI ns)
theorem tailI_len (ns : List Int) : (tailI ns).length ≤ ns.length := by
  unfold tailI
  rw [List.length_take, List.length_drop]
  omega
theorem headI_cut (ns : List Int) : cutP (ns.map PyData.int) none (some 1) = (ns.take 1).map PyData.int := by
  cases ns with
  | nil => rfl
  | cons n r =>
    have e1 : HT.sIx (n :: r).length 0 none = 0 := rfl
    have e2 : HT.sIx (n :: r).length (n :: r).length (some 1) = 1 := by
      unfold HT.sIx
      rw [List.length_cons]
      simp
      try omega
    unfold cutP
    rw [List.length_map, e1, e2]
    rfl
section
variable {P : Program} {w : World} {K : PySem.W.Frag} {mg : Str → Option Value} {base : Heap} {T : Tb}
def G0 : Hp := fun _ => none
def spCells (T : Tb) (K : PySem.W.Frag) : Sp := fun vs H Q _ => ∃ a ns, vs = [.ref a, .int 1] ∧ SqL K H a (ns.map V.int) ∧ ns.length ≤ 1000 ∧ LamX.Tabs T H ∧ ∀ v G' H', Ext T none G0 H G' H' → rep G' (.list [.int (cellM ns)]) v → Q v H'
variable (Z : Txt K mg)
include Z
theorem ok_law_cells {f : Addr} {fd : FuncData} (F : Fun K "_law_cells" "_law_cells" s_law_cells f fd) : FnOk P w K mg base CX0 1 f fd ["_law_script", "_law_limit"] (spCells T K) := by
  refine F.ok sc_law_cells (fun vs H Q E h => by obtain ⟨a, ns, rfl, _⟩ := h; rfl) fun cdv A outer s H0 vs Q E hr h => ?_
  obtain ⟨a, ns, rfl, hS, hn, hT, q⟩ := h
  let X := (cxOf CX0 P w K mg base N_law_cells "_law_cells" (defScope s_law_cells) f cdv A outer s H0 E).nox
  let ρs : Addr → List Sl := fun s => [.v (.ref s), .d (.int 1), .un, .un, .un, .un]
  let ys := tailI ns
  let z0 := ns.headD 0
  let F0 : Nat → Addr → List Sl := fun _ D => [.un, .d (.int 1), .v (.ref D), .un, .un, .un]
  let F1 : Nat → Addr → List Sl := fun i D => [.un, .d (.int 1), .v (.ref D), .d (.int (i : Int)), .d (.int (ys.getD i 0)), .un]
  let Kc : Nat → Co := fun i => .ls [.int (cellF 0 z0 (ys.take i))]
  have cutH : ∀ {p1 p2 p3 p4 : Pos}, PE X (.Subscript (.Name "_law_script" p1) (.Slice none (some (.Name "_law_limit" p2)) none p3) p4) (fun σ H Q => Raw T K ns ρs σ H fun s G => ∀ v G' H', Ext T none G H G' H' → rep G' (.list (cutP (ns.map PyData.int) none (some 1))) v → Q v H') := fun {p1 p2 p3 p4} =>
    cut_raw (i := 0) (fun s => rfl) (fun s => eo_none) (fun s => eo_some (ed_var 1))
  let ρt : Addr → List Sl := fun s => [.v (.ref s), .d (.int 1), .un, .un, .un, .un]
  have cutT : ∀ {p1 p2 p3 p4 p5 : Pos} {j : Nat}, PE X (.Subscript (.Name "_law_script" p1) (.Slice (some (.Name "_law_limit" p2)) (some (.Constant (.int 63) j p5)) none p3) p4) (fun σ H Q => Raw T K ns ρs σ H fun s G => ∀ v G' H', Ext T none G H G' H' → rep G' (.list (cutP (ns.map PyData.int) (some 1) (some 63))) v → Q v H') := fun {p1 p2 p3 p4 p5 j} =>
    cut_raw (i := 0) (fun s => rfl) (fun s => eo_some (ed_var 1)) (fun s => eo_some ed_int)
  have hbody : ∀ i x, (enumP 0 (ys.map PyData.int))[i]? = some x → PSs X (forBody ((defBody s_law_cells).getD 1 (.Pass ⟨0, 0, 0, 0⟩))) (tSo T (F1 i) (Kc i) (F0 (i + 1)) (Kc (i + 1))) := fun i x hx => by
    obtain ⟨d, hd, rfl⟩ := enumP_at hx
    rw [List.getElem?_map] at hd
    obtain ⟨y, hy, rfl⟩ := Option.map_eq_some_iff.mp hd
    have hlt : i < ys.length := (List.getElem?_eq_some_iff.mp hy).1
    have hle : ys.length ≤ 1000 := Nat.le_trans (tailI_len ns) hn
    have hg : ys.getD i 0 = y := by rw [List.getD_eq_getElem?_getD, hy]; rfl
    have e : ys.take (i + 1) = ys.take i ++ [y] := by rw [List.take_add_one, hy]; rfl
    have e2 : cellF 0 z0 (ys.take (i + 1)) = cellF 0 z0 (ys.take i) + y * ((i : Int) + 2) := by
      rw [e, cellF_snoc, List.length_take, Nat.min_eq_left (by omega), Nat.zero_add]
    show PSs X _ (tSo T (F1 i) (.ls [.int (cellF 0 z0 (ys.take i))]) (F0 (i + 1)) (.ls [.int (cellF 0 z0 (ys.take (i + 1)))]))
    rw [e2]
    let ρl : Addr → List Sl := fun D => [.un, .d (.int 1), .dv (.list [.int (cellF 0 z0 (ys.take i))]) (.ref D), .d (.int (i : Int)), .d (.int (ys.getD i 0)), .d (.int ((i : Int) % 1))]
    have em : (i : Int) % 1 = 0 := by omega
    refine sso_out (ρ1 := fun D => (F1 i D).set 5 (.d (.int ((i : Int) % 1)))) (sso_cons (so_lift fun D => es_set 5 (ed_mod (ed_intI Z.n_int (ed_var 3)) (ed_var 1) (by decide)) sc_law_cells.nd) (sso_cons (so_setI (i := 2) (k := 0) (d := .int (cellF 0 z0 (ys.take i) + y * ((i : Int) + 2))) (do_look (ρl := ρl) (fun D => ?_) (fun D => ⟨.inl rfl, .inl rfl, .inr ⟨rfl, rfl⟩, .inl rfl, .inl rfl, .inl rfl, True.intro⟩) rfl) (fun D => ?_) (by show 0 < 1; decide) fun D => rfl) sso_nil)) fun D => ?_
    · rw [← hg]
      refine ed_add (ed_ixL (ed_varD 2) (ed_var (d := .int ((i : Int) % 1)) 5) ?_) (ed_mul (ed_var 4) (ed_add (ed_var 3) ed_int) (.inr ⟨by omega, by omega⟩))
      rw [em]
      rfl
    · rw [show ((0 : Nat) : Int) = (i : Int) % 1 by omega]
      exact ed_var 5
    · exact ⟨.inr rfl, .inr rfl, .inr rfl, .inl rfl, .inl rfl, .inl rfl, True.intro⟩
  have hbU : PSs X (forBody ((defBody s_law_cells).getD 1 (.Pass ⟨0, 0, 0, 0⟩))) (fun Dn σ H => ∃ i x, (enumP 0 (ys.map PyData.int))[i]? = some x ∧ tSo T (F1 i) (Kc i) (F0 (i + 1)) (Kc (i + 1)) Dn σ H) := ⟨fun pins s σ H Dn I ⟨i, x, hx, z⟩ => (hbody i x hx).run pins s σ H Dn I z⟩
  have hgU : ∀ {p1 p2 p3 : Pos} {j : Nat}, PG X (.Tuple [.Name "_law_k" p1, .Name "_law_cell" p2] j p3) (fun v σ H Q => ∃ i x D, (enumP 0 (ys.map PyData.int))[i]? = some x ∧ tG T none x (F0 i D) (F1 i D) v σ H Q) := fun {p1 p2 p3 j} => ⟨fun pins s σ H v u Q I r ⟨i, x, D, hx, z⟩ => by
    obtain ⟨d, hd, rfl⟩ := enumP_at hx
    rw [List.getElem?_map] at hd
    obtain ⟨y, hy, rfl⟩ := Option.map_eq_some_iff.mp hd
    have hg : ys.getD i 0 = y := by rw [List.getD_eq_getElem?_getD, hy]; rfl
    rw [Nat.zero_add, ← hg] at z
    exact (eg_tup2 3 4 rfl sc_law_cells.nd).run pins s σ H v u Q I r z⟩
  let ρ2 : Addr → Addr → List Sl := fun s D => [.v (.ref s), .d (.int 1), .v (.ref D), .un, .un, .un]
  refine ⟨_, pss_cons (ps_set (i := 2) sc_law_cells.nd rfl (.inl rfl) (pe_orT (pe_callTy call_list_of rfl Z.n_list (by decide +kernel) (pa_cons cutH pa_nil)) (pe_one (pe_lst (pa_cons pe_int pa_nil))))) (pss_cons (ps_for PassesOwn.never rfl (pi_enum rfl Z.n_enumerate (pa_cons cutT pa_nil)) hgU hbU) (pss_one (ps_ret (pe_var (i := 2) rfl (.inl rfl) (by decide) (by decide))))), ?_⟩
  have S0 : Sub T none G0 H0 := ⟨hT, fun b o e => (by cases e), fun b ob z => (by cases z)⟩
  have R0 : Rel G0 (ρs a) (L2.start N_law_cells [.ref a, .int 1]) := ⟨rfl, fun i s e => by
    match i, e with
    | 0, e => cases e; exact ⟨_, rfl, rfl⟩
    | 1, e => cases e; exact ⟨_, rfl, _, rfl, rfl⟩
    | 2, e => cases e; exact ⟨_, rfl, True.intro⟩
    | 3, e => cases e; exact ⟨_, rfl, True.intro⟩
    | 4, e => cases e; exact ⟨_, rfl, True.intro⟩
    | 5, e => cases e; exact ⟨_, rfl, True.intro⟩
    | n + 6, e => simp [ρs] at e⟩
  -- behind the first line
  have fin : ∀ (D : Addr) (G1 H1 : Hp), Ext T none G0 H0 G1 H1 → (H0 D = none ∨ ∃ ps, H0 D = some (.tbl ps)) → Own T D G1 H1 (Kc 0) → tSeq (tFor (iEnum K (tCons (fun σ H Q => Raw T K ns ρs σ H fun s G => ∀ v G' H', Ext T none G H G' H' → rep G' (.list (cutP (ns.map PyData.int) (some 1) (some 63))) v → Q v H') tNil))
      (fun v σ H Q => ∃ i x D, (enumP 0 (ys.map PyData.int))[i]? = some x ∧ tG T none x (F0 i D) (F1 i D) v σ H Q) (fun Dn σ H => ∃ i x, (enumP 0 (ys.map PyData.int))[i]? = some x ∧ tSo T (F1 i) (Kc i) (F0 (i + 1)) (Kc (i + 1)) Dn σ H))
      (tRet (tVar 2)) { nx := fun _ H' => Q .non H', rt := Q } ((L2.start N_law_cells [.ref a, .int 1]).set 2 (some (.ref D))) H1 := by
    intro D G1 H1 E1 hD O1
    have R1 : Rel G1 (ρ2 a D) ((L2.start N_law_cells [.ref a, .int 1]).set 2 (some (.ref D))) := (R0.mono E1.gg).set (i := 2) (s := .v (.ref D)) (o := some (.ref D)) rfl
    refine ⟨a, G1, E1.sub, R1.weak ⟨.inr rfl, .inr rfl, .inl rfl, .inr rfl, .inr rfl, .inr rfl, True.intro⟩, sq_keep hS E1, fun v G2 H2 E2 r2 => ?_⟩
    rw [tailI_cut] at r2
    obtain ⟨p, vs, rfl, hp, rv⟩ := r2
    refine ⟨p, vs, rfl, E2.sub.sqL hp, ?_⟩
    have O2 := O1.up E2
    refine for_own (xs := enumP 0 (ys.map PyData.int)) (f := F0) (f' := F1) (K := Kc) (D := D) O2 ((R1.mono E2.gg).weak ⟨.inl rfl, .inr rfl, .inr rfl, .inl rfl, .inl rfl, .inl rfl, True.intro⟩) (fun G3 H3 g S3 => ?_) fun σ3 G3 H3 E3 O3 R3 => ?_
    · have h2 := g p _ hp
      have r2 := reps_mono g _ _ rv
      refine ⟨fun i d hd => ?_, fun i hi => ⟨vs, S3.sqL h2, by rw [reps_length rv]; rw [enumP_len] at hi; exact hi⟩⟩
      obtain ⟨d', hd', rfl⟩ := enumP_at hd
      obtain ⟨v, hv, rv'⟩ := reps_at r2 hd'
      refine ⟨⟨vs, v, S3.sqL h2, hv⟩, fun x H' y => ?_⟩
      obtain ⟨t, x', rfl, ht, rfl, y⟩ := y
      obtain rfl := Option.some.inj ((y vs (S3.sqL h2)).symm.trans hv)
      have E3 := Ext.lay (o := .tup [.int (i : Nat), x']) S3 ht True.intro
      refine ⟨_, E3, t, _, rfl, upd_same, _, _, rfl, ?_, _, _, rfl, rep_mono E3.gg _ _ rv', rfl⟩
      show V.int _ = V.int _
      rw [Nat.zero_add]
    · rw [enumP_len, List.length_map] at O3
      have hK : Kc ys.length = .ls [.int (cellM ns)] := by
        show Co.ls [.int (cellF 0 z0 (ys.take ys.length))] = _
        rw [List.take_length]
        rfl
      rw [hK] at O3
      obtain ⟨o, hD3, ws, rfl, rk⟩ := O3.at_
      have X3 := ((ExtO.of E2).trans E3).ext G0 H0 E1 fun o e => by
        rcases hD with z | ⟨ps, z⟩
        · rw [z] at e; cases e
        · rw [z] at e; exact ⟨ps, (Option.some.inj e).symm⟩
      exact ⟨.ref D, R3.getv rfl, q _ _ _ (X3.adopt2 hD hD3 True.intro O3.off) ⟨D, ws, rfl, upd_same, reps_mono (rep_upd O3.off) _ _ rk⟩⟩
  have hz : Kc 0 = .ls [.int (ns.headD 0)] := rfl
  refine ⟨a, G0, S0, R0, hS, fun v G1 H1 E1 r1 => ?_⟩
  rw [headI_cut] at r1
  obtain ⟨p, vs, rfl, hp, rv⟩ := r1
  refine ⟨p, vs, rfl, .inl (E1.sub.sqL hp), fun l hl => ?_⟩
  have E2 : Ext T none G1 H1 G1 (upd H1 l (.lst vs)) := Ext.off E1.sub hl
  have E12 := E1.trans E2
  cases ns with
  | nil =>
    cases (show vs = [] from rv)
    refine ⟨false, .inl ⟨[], SqL.of upd_same, rfl⟩, iteF ⟨by show 1 ≤ sizeLine; decide, fun p2 hp2 => ?_⟩⟩
    have E3 : Ext T none G1 (upd H1 l (.lst [])) G1 (upd (upd H1 l (.lst [])) p2 (.lst [.int 0])) := Ext.off E2.sub hp2
    exact fin p2 _ _ (E12.trans E3) (E12.back S0 hp2) ⟨E3.sub, E2.sub.fresh hp2, _, upd_same, [.int 0], rfl, _, [], rfl, rfl, rfl⟩
  | cons n r =>
    obtain ⟨v1, us, rfl, r1, r2⟩ := rv
    cases (show v1 = .int n from r1)
    cases (show us = [] from r2)
    exact ⟨true, .inl ⟨[.int n], SqL.of upd_same, rfl⟩, iteT (fin l _ _ E12 (E1.back S0 hl) ⟨E2.sub, E1.sub.fresh hl, _, upd_same, [.int n], rfl, _, [], rfl, rfl, rfl⟩)⟩
end
end GN

/-! the law's box, its right side -/
namespace GN
open PySem PySem.Spec PyProof.Rows L2

def boxM (z : Int) : Tin := ((if z < 0 then -z else z) * (if decide ((10 : Int) ^ (18 : Int).toNat ≤ (if z < 0 then -z else z)) = true then 1 else 0), z % 2305843009213693951 + 3197013, 0)
structure Right (C : Ch) (S : Sd) (L : List Nat) : Prop where
  ok : Okk C S L
  m1 : L ≠ [] → ∃ n ax ns, greatM C S L [0, 1] = some (n, ax, ns) ∧ ax ≤ 1 ∧ ns ∈ chains C S L ax ∧ numC C ax ns = greatL C S L none
  m2 : ∀ i ∈ L, ∃ n ax ns, throughM C S L i [0, 1] = some (n, ax, ns) ∧ ax ≤ 1 ∧ ns ∈ chains C S L ax ∧ i ∈ ns ∧ numC C ax ns = greatL C S L (some i)
theorem lis_te (k : Bool) (t : Te) : lis (eT k t) = eT false t := by unfold eT; rw [lis_sq]; rfl
theorem lis_nm (k : Bool) (n : Nm) : lis (eN k n) = eN false n := by
  unfold eN
  rw [lis_sq]
  show PyData.list [.int n.w, .int n.h, lis (eT k n.ac), lis (eT k n.dn)] = _
  rw [lis_te, lis_te]
  rfl
theorem lis_ch (k : Bool) (C : Ch) : lis (eC k C) = eC false C := by
  unfold eC
  rw [lis_sq, List.map_map]
  exact congrArg PyData.list (List.map_congr_left fun n _ => lis_nm k n)
theorem lis_ints (l : List Int) : (l.map PyData.int).map lis = l.map PyData.int := by
  rw [List.map_map]
  exact List.map_congr_left fun x _ => rfl
theorem lis_sd (k : Bool) (S : Sd) : lis (eS k S) = eS false S := by
  unfold eS
  rw [lis_sq, List.map_map]
  refine congrArg PyData.list (List.map_congr_left fun r _ => ?_)
  show lis (sq k (r.map PyData.int)) = _
  rw [lis_sq, lis_ints]
  rfl
theorem fine_num (q : Num) : fine 1 (eO q) := by
  cases q with
  | none => exact .inl rfl
  | some p =>
    refine fine_of (k := true) (by show 2 ≤ 1000; decide) fun x hx => ?_
    simp only [List.mem_cons, List.not_mem_nil, or_false] at hx
    rcases hx with rfl | rfl <;> rfl
theorem fine_cannot : fine 1 cannotD := by
  refine fine_of (k := false) (by show 2 ≤ 1000; decide) fun x hx => ?_
  simp only [List.mem_cons, List.not_mem_nil, or_false] at hx
  rcases hx with rfl | rfl <;> rfl
section
variable {T : Tb} {X : Cx} {ρ : List Sl} {e : Expr} {es : List Expr} {pos : Pos} {ds : List PyData} {ρs : Addr → List Sl} {c : Co} {d : PyData} {sts : List Stmt}
theorem es_retF (h : PA X es (tA T none ρ ds)) (hz : ds.length ≤ 1000) {p : Pos} : PS X (.Return (some (.List es pos)) p) (fun Dn σ H => ∃ G, Sub T none G H ∧ Rel G ρ σ ∧ ∀ D G' H', Ext T none G H G' H' → (H D = none ∨ ∃ ps, H D = some (.tbl ps)) → Own T D G' H' (.ls ds) → Dn.rt (.ref D) H') :=
  ps_imp (ps_ret (pe_lst h)) fun Dn σ H ⟨G, S, R, q⟩ => ⟨G, S, R, fun vs G1 H1 E1 r1 => ⟨by rw [reps_length r1]; exact Nat.le_trans hz (by decide), fun p hp => by
    have E2 : Ext T none G1 H1 G1 (upd H1 p (.lst vs)) := Ext.off E1.sub hp
    exact q p G1 _ (E1.trans E2) (E1.back S hp) ⟨E2.sub, E1.sub.fresh hp, _, upd_same, vs, rfl, r1⟩⟩⟩
theorem sso_pure (h : ∀ D, PSs X sts (tS T none (ρs D) (.rt d))) : PSs X sts (tSoR T ρs c d c) := ⟨fun pins s σ H Dn I ⟨D, G, O, R, q⟩ =>
  (h D).run pins s σ H Dn I ⟨G, O.sub, R, fun v G' H' E r => q v G' H' (.of E) (O.up E) r⟩⟩
end
theorem et_lt {T : Tb} {lk : Lk} {X : Cx} {ρ : List Sl} {a b : Expr} {pos : Pos} {i j : Int} {k : Bool} (ha : PE X a (tD T lk ρ (.int i))) (hb : PE X b (tD T lk ρ (.int j))) (hk : decide (i < j) = k) : PT X (.Compare a [.Lt] [b] pos) (tT T lk ρ k) := by
  subst hk
  exact et_cmp op_lt (rd_i0 fun _ => rfl) ha hb
theorem ed_pow {T : Tb} {lk : Lk} {X : Cx} {ρ : List Sl} {a b : Expr} {pos : Pos} {i j : Int} (h : CPow i j) (ha : PE X a (tD T lk ρ (.int i))) (hb : PE X b (tD T lk ρ (.int j))) : PE X (.BinOp a .Pow b pos) (tD T lk ρ (.int (i ^ j.toNat))) := ed_op op_pow (rd_i h fun _ => rfl) ha hb
section
variable {P : Program} {w : World} {K : PySem.W.Frag} {mg : Str → Option Value} {base : Heap} {T : Tb} {CN : Addr}
def spBox (T : Tb) : Sp := fun vs H Q _ => ∃ G z v0, Sub T none G H ∧ rep G (.list [.int z]) v0 ∧ vs = [v0, .int 0] ∧ ∀ D G' H', Ext T none G H G' H' → (H D = none ∨ ∃ ps, H D = some (.tbl ps)) → Own T D G' H' (tinC (boxM z)) → Q (.ref D) H'
def rRight (c : Co) (ds : List PyData) (d : PyData) (c' : Co) : Prop := ∃ t : Tin, c = tinC t ∧ ds = [] ∧ okT t 0 ∧ Right (chM t 5) (sdM t 5) (lotM (afterM t 5) (chM t 5).length) ∧ d = .bool true ∧ c' = tinC (afterL (afterM t 5) (chM t 5).length)
variable (Z : Txt K mg)
include Z
theorem ok_law_box {f : Addr} {fd : FuncData} (F : Fun K "_law_box" "_law_box" s_law_box f fd) : FnOk P w K mg base CX0 1 f fd ["_law_script", "_law_k"] (spBox T) := by
  refine F.ok sc_law_box (fun vs H Q E h => by obtain ⟨G, z, v0, _, _, rfl, _⟩ := h; rfl) fun cdv A outer s H vs Q E hr h => ?_
  obtain ⟨G, z, v0, S, r0, rfl, q⟩ := h
  have hb : sm (if decide ((10 : Int) ^ (18 : Int).toNat ≤ (if z < 0 then -z else z)) = true then 1 else 0) := by
    unfold sm
    split <;> omega
  refine ⟨_, pss_cons (es_set (T := T) (lk := none) (ρ := startS N_law_box.length [.list [.int z], .int 0]) 2 (d := .int z) (ed_if (k := true) (et_lt (ed_var 1) (ed_len (k := false) Z.n_len (ed_var 0)) rfl) (fun _ => ed_ixL (ed_var 0) (ed_var 1) rfl) fun z => nomatch z) sc_law_box.nd)
    (pss_one (es_retF (T := T) (ρ := (startS N_law_box.length [.list [.int z], .int 0]).set 2 (.d (.int z))) (ea3 (da := .int (boxM z).1) (db := .int (z % 2305843009213693951 + 39373 * 0 + 3197013)) (dc := .int 0) (ed_mul (ed_abs Z.n_abs (ed_var 2)) (ed_intB Z.n_int (ed_cmp op_ge (rd_i0 fun _ => rfl) (ed_abs Z.n_abs (ed_var 2)) (ed_pow ⟨by decide, by decide, by decide⟩ ed_int ed_int))) (.inr hb))
      (ed_add (ed_add (ed_mod (ed_intI Z.n_int (ed_var 2)) ed_int (by decide)) (ed_mul ed_int (ed_var 1) (.inr ⟨by decide, by decide⟩))) ed_int) ed_int) (by show 3 ≤ 1000; decide))), ?_⟩
  refine ⟨G, S, Rel.start (show reps G [.list [.int z], .int 0] [v0, .int 0] from ⟨v0, _, rfl, r0, .int 0, [], rfl, rfl, rfl⟩), fun σ' G1 H1 E1 R1 => ⟨G1, E1.sub, R1, fun D G2 H2 E2 hD O => q D G2 H2 (E1.trans E2) ?_ ?_⟩⟩
  · rcases hD with hD | ⟨ps, hD⟩
    · exact E1.back S hD
    · cases e : H D with
      | none => exact .inl rfl
      | some u =>
        by_cases hu : ∃ ps, u = .tbl ps
        · obtain ⟨ps, rfl⟩ := hu
          exact .inr ⟨ps, rfl⟩
        · have := E1.le D u e fun ps z => hu ⟨ps, z⟩
          rw [hD] at this
          cases this
          exact absurd ⟨ps, rfl⟩ hu
  · have e : z % 2305843009213693951 + 39373 * 0 + 3197013 = z % 2305843009213693951 + 3197013 := by omega
    rw [e] at O
    exact O
theorem c_law_right (M : Lam K mg base T) (EC : ErrC K mg CN) : CalO P w K mg base T 10 "_law_right" rRight := Z.d_law_right.calO fun g fd F => by
  refine data_fnO F sc_law_right (fun c ds d c' h => by obtain ⟨t, rfl, rfl, _⟩ := h; rfl) (by decide) fun cdv A outer s H E c ds d c' hr h => ?_
  obtain ⟨t, rfl, rfl, ho, RR, rfl, rfl⟩ := h
  have ho2 : okT (afterM t 5) 1000 := by
    have k1 : okT (takeM t 5).2 1 := take_ok ho
    have r0 := take_rng t (n := 5) (by omega)
    have hm5 : manyM t 5 ≤ 5 := by unfold manyM; omega
    exact okT_mono (stF_ok (stN_ok k1 (manyM t 5)) (manyM t 5) (by omega)) (by omega)
  have hcl : (chM t 5).length ≤ 10 := by
    have r0 := take_rng t (n := 5) (by omega)
    have hm5 : manyM t 5 ≤ 5 := by unfold manyM; omega
    unfold chM namesM
    rw [List.length_map, List.length_range]
    omega
  generalize hC : chM t 5 = C at *
  generalize hS : sdM t 5 = S at *
  generalize hL : lotM (afterM t 5) C.length = L at *
  obtain ⟨O, m1, m2⟩ := RR
  have sh := O.lot.sh
  let ρ2 : Addr → List Sl := fun D => [.v (.ref D), .d (eC true C), .d (eS true S), .un, .un, .un, .un, .un]
  refine sso_consR (ρ1 := ρ2) (so_asg (d := .tuple [eC true C, eS true S]) (do_call (i := 0) (c_law_chart Z) (hr.mono (by decide)) (fun D => rfl) (fun D => ea_cons ed_int ea_nil) ⟨t, rfl, rfl, ho, by rw [hC, hS], rfl⟩) (fun D => eg_tup2 1 2 rfl sc_law_right.nd)) ?_
  let ρ3 : Addr → List Sl := fun D => [.v (.ref D), .d (eC true C), .d (eS true S), .d (eL true L), .un, .un, .un, .un]
  refine sso_consR (ρ1 := ρ3) (so_set 3 (do_call (i := 0) (c_law_lot Z) (hr.mono (by decide)) (fun D => rfl) (fun D => ea_cons (ed_lenM (k := true) (enc := eN true) Z.n_len (ed_var 1)) ea_nil) ⟨_, C.length, rfl, rfl, hcl, ho2, by rw [hL], rfl⟩) sc_law_right.nd) ?_
  refine sso_pure fun D => ?_
  let R : PyData → List Sl := fun d => [.v (.ref D), .d (eC true C), .d (eS true S), .d (eL true L), .d (eC false C), .d (eS false S), .d d, .un]
  refine ess_cons (ρ' := [.v (.ref D), .d (eC true C), .d (eS true S), .d (eL true L), .d (eC false C), .d (eS false S), .un, .un]) (by
    rw [← lis_ch true C, ← lis_sd true S]
    exact es_par 4 5 rfl sc_law_right.nd (ea2 (ed_call (c_law_lists Z 3) (hr.mono (by decide)) (ea_cons (ed_var 1) ea_nil) ⟨_, rfl, fine_ch O.small, rfl⟩) (ed_call (c_law_lists Z 2) (hr.mono (by decide)) (ea_cons (ed_var 2) ea_nil) ⟨_, rfl, fine_sd O.ws O.small, rfl⟩))) ?_
  refine ess_cons (ρ' := R (heardD C S L none)) (es_set 6 (ed_call (c_law_heard Z M EC) (hr.mono (by decide)) (ea4 (ed_var 4) (ed_var 5) (ed_listOf (k := true) Z.n_list (ed_var 3)) ed_non) ⟨false, false, false, C, S, L, none, rfl, O, fun i h => (nomatch h), rfl⟩) sc_law_right.nd) ?_
  refine ess_cons (ρ' := R (heardD C S L none)) ?_ ?_
  · by_cases hL0 : L = []
    · have hd : heardD C S L none = cannotD := if_pos hL0
      rw [hd]
      exact es_if (k := true) (et_cmp (op_eqD (Nat.lt_of_succ_lt (hu65 hr))) (rd_cast (rd_eqD (eL_noDict L) rfl (eL_shaped L) (by decide +kernel)) ((eqv_empty L).trans (decide_eq_true hL0))) (ed_var 3) (ed_tup ea_nil)) (fun _ => ess_one (es_if (k := false) (et_not (k := true) (et_val (ed_call (c_law_same Z 1) (hr.mono (by decide)) (ea2 (ed_var 6) (ed_lst (ea2 ed_str ed_bl))) ⟨cannotD, rfl, fine_cannot, rfl⟩))) (fun z => nomatch z) fun _ => ess_nil)) fun z => nomatch z
    · obtain ⟨n, ax, ns, hg, hx, hns, hnum⟩ := m1 hL0
      have hd : heardD C S L none = eCh ax ns := by
        unfold heardD
        rw [if_neg hL0, hg]
        rfl
      rw [hd]
      obtain ⟨rne, rin⟩ := chain_in O.lot hns
      refine es_if (k := false) (et_cmp (op_eqD (Nat.lt_of_succ_lt (hu65 hr))) (rd_cast (rd_eqD (eL_noDict L) rfl (eL_shaped L) (by decide +kernel)) ((eqv_empty L).trans (decide_eq_false hL0))) (ed_var 3) (ed_tup ea_nil)) (fun z => nomatch z) fun _ => ess_one ?_
      refine es_if (k := false) (et_not (k := true) (et_val (ed_call (c_law_is_chain Z) (hr.mono (by decide)) (ea4 (ed_var 1) (ed_var 2) (ed_var 3) (ed_var 6)) ⟨C, S, L, ax, ns, rfl, O.ws, O.lot, hx, hns, rfl⟩))) (fun z => nomatch z) fun _ => ess_one ?_
      have hw := way_lt O.bd ax (ns.headD 0) (ns.getLastD 0)
      refine es_if (k := false) (et_not (k := true) (et_val (ed_call (c_law_same Z 2) (hr.mono (by decide)) (ea2 (da := .list [eO (numC C ax ns), eO (numC C ax ns)]) (db := .list [eO (numC C ax ns), eO (numC C ax ns)]) (ed_lst (ea2
        (ed_call (c_law_number Z) (hr.mono (by decide)) (ea3 (ed_var 1) (ed_ixT (xs := [eI ax, eL true ns]) (ed_var 6) ed_int rfl) (ed_ixT (xs := [eI ax, eL true ns]) (ed_var 6) ed_int rfl)) ⟨C, ax, ns, rfl, hx, rin, rne, hw, rfl⟩)
        (ed_call (c_number_of Z) (hr.mono (by decide)) (ea2 (ed_var 4) (ed_var 6)) ⟨false, C, ax, ns, rfl, hx, rin, rne, by omega, rfl⟩)))
        (ed_rep (xs := [eO (numC C ax ns)]) (n := 2) (by show 1 * 2 ≤ 100000; decide) (by decide) (ed_lst (ea_cons (ed_call (c_law_greatest Z) (hr.mono (by decide)) (ea4 (ed_var 1) (ed_var 2) (ed_var 3) ed_non) ⟨C, S, L, none, rfl, O.ws, O.bd, O.lot, by rw [hnum]⟩) ea_nil)) ed_int))
        ⟨.list [eO (numC C ax ns), eO (numC C ax ns)], rfl, fine_of (k := false) (by show 2 ≤ 1000; decide) (fun x hx2 => ?_), rfl⟩))) (fun z => nomatch z) fun _ => ess_nil
      simp only [List.mem_cons, List.not_mem_nil, or_false] at hx2
      rcases hx2 with rfl | rfl <;> exact fine_num _
  let W : List Sl := [.v (.ref D), .d (eC true C), .d (eS true S), .d (eL true L), .d (eC false C), .d (eS false S), .un, .un]
  refine ess_cons (ρ' := W) (es_forR (n := C.length) (fun _ => W) (fun i => W.set 7 (.d (eI i))) PassesOwn.never rfl (ei_range (n := C.length) Z.n_range (ea_cons (ed_lenM (k := true) (enc := eN true) Z.n_len (ed_var 1)) ea_nil) (by omega)) ⟨.inr rfl, .inr rfl, .inr rfl, .inr rfl, .inr rfl, .inr rfl, .inl rfl, .inr rfl, True.intro⟩ (fun i hi => eg_name 7 sc_law_right.nd) fun i hi => ?_) (ess_one (es_ret ed_bl))
  let V2 : PyData → List Sl := fun d => [.v (.ref D), .d (eC true C), .d (eS true S), .d (eL true L), .d (eC false C), .d (eS false S), .d d, .d (eI i)]
  refine ess_cons (ρ' := V2 (heardD C S L (some i))) (es_set 6 (ed_call (c_law_heard Z M EC) (hr.mono (by decide)) (ea4 (ed_var 4) (ed_var 2) (ed_var 3) (ed_var 7)) ⟨false, true, true, C, S, L, some i, rfl, O, fun j h => (by cases h; exact hi), rfl⟩) sc_law_right.nd) ?_
  refine ess_out (ρ' := V2 (heardD C S L (some i))) (ess_one ?_) ⟨.inr rfl, .inr rfl, .inr rfl, .inr rfl, .inr rfl, .inr rfl, .inl rfl, .inl rfl, True.intro⟩
  by_cases hiL : i ∈ L
  · obtain ⟨n, ax, ns, hg, hx, hns, hin, hnum⟩ := m2 i hiL
    have hd : heardD C S L (some i) = eCh ax ns := by
      show (if i ∈ L then bestCh (throughM C S L i [0, 1]) else cannotD) = _
      rw [if_pos hiL, hg]
      rfl
    rw [hd]
    obtain ⟨rne, rin⟩ := chain_in O.lot hns
    have hw := way_lt O.bd ax (ns.headD 0) (ns.getLastD 0)
    refine es_if (k := false) (et_cmp op_notIn_seq (rd_cast rd_ninN (by rw [decide_eq_true hiL]; rfl)) (ed_var 7) (ed_var 3)) (fun z => nomatch z) fun _ => ess_one ?_
    refine es_if (k := false) (PW.pt (ew_orF (et_not (k := true) (et_val (ed_call (c_law_is_chain Z) (hr.mono (by decide)) (ea4 (ed_var 1) (ed_var 2) (ed_var 3) (ed_var 6)) ⟨C, S, L, ax, ns, rfl, O.ws, O.lot, hx, hns, rfl⟩))) (ew_one (et_cmp op_notIn_seq (rd_cast rd_ninN (by rw [decide_eq_true hin]; rfl)) (ed_var 7) (ed_ixT (xs := [eI ax, eL true ns]) (ed_var 6) ed_int rfl)) (.inr rfl)))) (fun z => nomatch z) fun _ => ess_one ?_
    exact es_if (k := false) (et_not (k := true) (et_val (ed_call (c_law_same Z 1) (hr.mono (by decide)) (ea2 (ed_call (c_law_number Z) (hr.mono (by decide)) (ea3 (ed_var 1) (ed_ixT (xs := [eI ax, eL true ns]) (ed_var 6) ed_int rfl) (ed_ixT (xs := [eI ax, eL true ns]) (ed_var 6) ed_int rfl)) ⟨C, ax, ns, rfl, hx, rin, rne, hw, rfl⟩)
      (ed_call (d := eO (numC C ax ns)) (c_law_greatest Z) (hr.mono (by decide)) (ea4 (ed_var 1) (ed_var 2) (ed_var 3) (ed_var 7)) ⟨C, S, L, some i, rfl, O.ws, O.bd, O.lot, by rw [hnum]⟩)) ⟨eO (numC C ax ns), rfl, fine_num _, rfl⟩))) (fun z => nomatch z) fun _ => ess_nil
  · have hd : heardD C S L (some i) = cannotD := if_neg hiL
    rw [hd]
    exact es_if (k := true) (et_cmp op_notIn_seq (rd_cast rd_ninN (by rw [decide_eq_false hiL]; rfl)) (ed_var 7) (ed_var 3)) (fun _ => ess_one (es_if (k := false) (et_not (k := true) (et_val (ed_call (c_law_same Z 1) (hr.mono (by decide)) (ea2 (ed_var 6) (ed_lst (ea2 ed_str ed_bl))) ⟨cannotD, rfl, fine_cannot, rfl⟩))) (fun z => nomatch z) fun _ => ess_nil)) fun z => nomatch z
end
end GN

/-! what the law tells by hand; the law -/
namespace GN
open PySem PySem.Spec PyProof.Rows L2

section
variable {T : Tb} {X : Cx} {ρ : List Sl} {e : Expr} {es : List Expr} {pos p : Pos} {CN : Addr} {k : Nat} {x : Str} {rel : List PyData → Option PyData → Prop} {ds : List PyData} {d : PyData} {al : Bool} {relD : List PyData → PyData → Prop}
theorem pass_never {X : Cx} : Passes (L2.CX X.prog X.w) X never := fun pins σ H s e s' I c => by
  obtain ⟨_, _, _, _, _, _, _, _, _, _, _, _, z⟩ := c
  exact z.elim
/-- a call that ends in data -/
theorem ed_callY (C : CalX X.prog X.w X.K X.mg X.base T CN k x rel) (hr : Room k X.A) (ha : PA X (e :: es) (tA T none ρ ds)) (hrel : rel ds (some d)) (hg : Gl X x := by rfl) (hdb : (x == ("__debug__" : Str)) = false := by decide)
    (he : starEach (e :: es) X.env = (false, eval e X.env) :: starEach es X.env := by rfl) (hpl : (backTo pos (starEach es X.env)).any (·.1) = false := by rfl) : PE X (.Call (.Name x p) (e :: es) [] pos) (tD T none ρ d) := by
  obtain ⟨f, fd, ps, h1, h2, h3, h4⟩ := C.ex
  exact pe_imp (pe_call h4 hr hg h1 h2 h3 .nil pass_never ha hdb he hpl) fun σ H Q ⟨G, S, R, q⟩ => ⟨G, S, R, fun vs G1 H1 E1 r1 => by
    show spX T CN rel (vs ++ []) H1 Q _
    rw [List.append_nil]
    exact ⟨G1, ds, some d, E1.sub, r1, hrel, fun d' hd v G' H' E2 r2 => by cases hd; exact q v G' H' (E1.trans E2) r2, fun hd => nomatch hd⟩⟩
theorem ed_call0 (C : Cal X.prog X.w X.K X.mg X.base T k al x relD) (hr : Room k X.A) (hrel : relD [] d) (hg : Gl X x := by rfl) (hdb : (x == ("__debug__" : Str)) = false := by decide) : PE X (.Call (.Name x p) [] [] pos) (tD T none ρ d) := by
  obtain ⟨f, fd, ps, h1, h2, h3, h4⟩ := C.ex
  exact pe_imp (pe_call0 h4 hr hg h1 h2 h3 .nil pass0 hdb) fun σ H Q ⟨G, S, R, q⟩ => by
    exact (show spD T al relD [] H Q E0 from ⟨none, G, [], d, .inr rfl, S, rfl, hrel, fun v G' H' E2 r2 => q v G' H' E2 r2⟩)
end

def te5 : Te := ⟨5, 0, 5, 1⟩
def te0 : Te := ⟨0, 0, 0, 0⟩
def chH : Ch := [⟨3, 1, te5, te0⟩, ⟨2, 1, te5, te0⟩, ⟨1, 1, ⟨9, 0, 9, 0⟩, te0⟩]
def sdH : Sd := [[], [0], [0, 0]]
def goalH : PyData := .list [eCh 0 [0, 1], eCh 0 [0, 1], eCh 0 [0, 2], .none, eF (3, 4), eF (5, 4), eCh 0 [0, 1, 2], cannotD, cannotD]
/-- the three lots of the hand's map are in order -/
structure HandOk : Prop where
  a : Okk chH sdH [0, 1, 2]
  b : Okk chH sdH [0, 2]
  c : Okk chH sdH []
section
variable {P : Program} {w : World} {K : PySem.W.Frag} {mg : Str → Option Value} {base : Heap} {T : Tb} {CN : Addr}
def rHand (ds : List PyData) (d : PyData) : Prop := ds = [] ∧ HandOk ∧ d = .bool true
theorem gH1 : greatM chH sdH [0, 1, 2] [0, 1] = some (none, 0, [0, 1]) := by decide +kernel
theorem gH2 : throughM chH sdH [0, 1, 2] 1 [0, 1] = some (none, 0, [0, 1]) := by decide +kernel
theorem gH3 : greatM chH sdH [0, 2] [0, 1] = some (some (3, 4), 0, [0, 2]) := by decide +kernel
theorem gH4 : throughM chH sdH [0, 1, 2] 2 [0, 1] = some (some (5, 4), 0, [0, 1, 2]) := by decide +kernel
theorem nH1 : numC chH 0 [0, 1] = none := by decide +kernel
theorem nH2 : numC chH 0 [0, 2] = some (3, 4) := by decide +kernel
theorem nH3 : numC chH 0 [0, 1, 2] = some (5, 4) := by decide +kernel
variable (Z : Txt K mg)
include Z
theorem c_law_hand_right (M : Lam K mg base T) (EC : ErrC K mg CN) : Cal P w K mg base T 10 false "_law_hand_right" rHand := Z.d_law_hand_right.cal fun g fd F => by
  refine data_fn F sc_law_hand_right (fun ds r h => by obtain ⟨rfl, _⟩ := h; rfl) fun cdv A outer s H E lk ds d hal hr h => ?_
  obtain ⟨rfl, ⟨oa, ob, oc⟩, rfl⟩ := h
  obtain rfl : lk = none := hal.elim (fun z => nomatch z) id
  have ic : ∀ ns : List Nat, (∀ i ∈ ns, i < 3) → ns.length ≤ 1000 → InC chH ns := fun ns h1 h2 => ⟨h1, h2⟩
  have hsd : eS true sdH = .tuple [.tuple [], .tuple [.int 0], .tuple [.int 0, .int 0]] := rfl
  have hch : eC true chH = .tuple [.tuple [.int 3, .int 1, eT true te5, eT true te0], .tuple [.int 2, .int 1, eT true te5, eT true te0], .tuple [.int 1, .int 1, eT true ⟨9, 0, 9, 0⟩, eT true te0]] := rfl
  refine ess_cons (ρ' := [.d (eT true te5), .d (eT true te0), .un, .un, .un, .un]) (es_asg (d := .tuple [eT true te5, eT true te0]) (ed_tup (ea2 (ed_tup (ea4 ed_int ed_int ed_int ed_int)) (ed_tup (ea4 ed_int ed_int ed_int ed_int)))) (eg_tup2 0 1 rfl sc_law_hand_right.nd)) ?_
  refine ess_cons (ρ' := [.d (eT true te5), .d (eT true te0), .d (eC true chH), .d (eS true sdH), .un, .un]) (es_par 2 3 rfl sc_law_hand_right.nd (ea2 (da := eC true chH) (db := eS true sdH)
    (ed_tup (ea3 (ed_tup (ea4 ed_int ed_int (ed_var 0) (ed_var 1))) (ed_tup (ea4 ed_int ed_int (ed_var 0) (ed_var 1))) (ed_tup (ea4 ed_int ed_int (ed_tup (ea4 ed_int ed_int ed_int ed_int)) (ed_var 1)))))
    (ed_tup (ea3 (ed_tup ea_nil) (ed_tup (ea_cons ed_int ea_nil)) (ed_tup (ea2 ed_int ed_int)))))) ?_
  let R : PyData → PyData → List Sl := fun x y => [.d (eT true te5), .d (eT true te0), .d (eC true chH), .d (eS true sdH), .d x, .d y]
  have l3 : ∀ {p1 p2 p3 p4 : Pos} {j1 j2 j3 j4 : Nat} {ρ : List Sl}, PE (cxOf CX0 P w K mg base N_law_hand_right "_law_hand_right" (defScope s_law_hand_right) g cdv A outer s H E).nox (.Tuple [.Constant (.int 0) j1 p1, .Constant (.int 1) j2 p2, .Constant (.int 2) j3 p3] j4 p4) (tD T none ρ (eL true [0, 1, 2])) := fun {p1 p2 p3 p4 j1 j2 j3 j4 ρ} => ed_tup (ea3 ed_int ed_int ed_int)
  have l2 : ∀ {p1 p2 p3 : Pos} {j1 j2 j3 : Nat} {ρ : List Sl}, PE (cxOf CX0 P w K mg base N_law_hand_right "_law_hand_right" (defScope s_law_hand_right) g cdv A outer s H E).nox (.Tuple [.Constant (.int 0) j1 p1, .Constant (.int 2) j2 p2] j3 p3) (tD T none ρ (eL true [0, 2])) := fun {p1 p2 p3 j1 j2 j3 ρ} => ed_tup (ea2 ed_int ed_int)
  have l1 : ∀ {p1 p2 p3 : Pos} {j1 j2 j3 : Nat} {ρ : List Sl}, PE (cxOf CX0 P w K mg base N_law_hand_right "_law_hand_right" (defScope s_law_hand_right) g cdv A outer s H E).nox (.Tuple [.Constant (.int 0) j1 p1, .Constant (.int 1) j2 p2] j3 p3) (tD T none ρ (eL true [0, 1])) := fun {p1 p2 p3 j1 j2 j3 ρ} => ed_tup (ea2 ed_int ed_int)
  refine ess_cons (ρ' := [.d (eT true te5), .d (eT true te0), .d (eC true chH), .d (eS true sdH), .d (.list [eCh 0 [0, 1], eCh 0 [0, 1], eCh 0 [0, 2]]), .un]) (es_set 4 (ed_lst (ea3
    (ed_callY (c_greatest_chain Z M EC) (hr.mono (by decide)) (ea3 (ed_var 2) (ed_var 3) l3) ⟨true, true, true, chH, sdH, [0, 1, 2], rfl, oa, by rw [if_neg (by decide), gH1]; rfl⟩)
    (ed_callY (c_through Z M EC) (hr.mono (by decide)) (ea4 (ed_var 2) (ed_var 3) l3 ed_int) ⟨true, true, true, chH, sdH, [0, 1, 2], 1, rfl, oa, by decide, by rw [if_pos (by decide), gH2]; rfl⟩)
    (ed_callY (c_greatest_chain Z M EC) (hr.mono (by decide)) (ea3 (ed_var 2) (ed_var 3) l2) ⟨true, true, true, chH, sdH, [0, 2], rfl, ob, by rw [if_neg (by decide), gH3]; rfl⟩))) sc_law_hand_right.nd) ?_
  refine ess_cons (ρ' := R (.list [eCh 0 [0, 1], eCh 0 [0, 1], eCh 0 [0, 2]]) (.list [eCh 0 [0, 1], eCh 0 [0, 1], eCh 0 [0, 2]])) (es_set 5 (ed_lst (ea3 (ed_tup (ea2 ed_int l1)) (ed_tup (ea2 ed_int l1)) (ed_tup (ea2 ed_int l2)))) sc_law_hand_right.nd) ?_
  refine ess_cons (ρ' := R (.list [eCh 0 [0, 1], eCh 0 [0, 1], eCh 0 [0, 2], .none, eF (3, 4), eF (5, 4)]) (.list [eCh 0 [0, 1], eCh 0 [0, 1], eCh 0 [0, 2]])) (es_set 4 (ed_catL (xs := [eCh 0 [0, 1], eCh 0 [0, 1], eCh 0 [0, 2]]) (ys := [.none, eF (3, 4), eF (5, 4)]) (by show 3 + 3 ≤ 100000; decide) (ed_var 4) (ed_lst (ea3
    (ed_call (c_number_of Z) (hr.mono (by decide)) (ea2 (ed_var 2) (ed_tup (ea2 ed_int l1))) ⟨true, chH, 0, [0, 1], rfl, by decide, ic _ (by decide) (by decide), by decide, by decide, by rw [nH1]; rfl⟩)
    (ed_call (c_number_of Z) (hr.mono (by decide)) (ea2 (ed_var 2) (ed_tup (ea2 ed_int l2))) ⟨true, chH, 0, [0, 2], rfl, by decide, ic _ (by decide) (by decide), by decide, by decide, by rw [nH2]; rfl⟩)
    (ed_call (c_number_of Z) (hr.mono (by decide)) (ea2 (ed_var 2) (ed_tup (ea2 ed_int l3))) ⟨true, chH, 0, [0, 1, 2], rfl, by decide, ic _ (by decide) (by decide), by decide, by decide, by rw [nH3]; rfl⟩)))) sc_law_hand_right.nd) ?_
  refine ess_cons (ρ' := R goalH (.list [eCh 0 [0, 1], eCh 0 [0, 1], eCh 0 [0, 2]])) (es_set 4 (ed_catL (xs := [eCh 0 [0, 1], eCh 0 [0, 1], eCh 0 [0, 2], .none, eF (3, 4), eF (5, 4)]) (ys := [eCh 0 [0, 1, 2], cannotD, cannotD]) (by show 6 + 3 ≤ 100000; decide) (ed_var 4) (ed_lst (ea3
    (ed_callY (c_through Z M EC) (hr.mono (by decide)) (ea4 (ed_var 2) (ed_var 3) l3 ed_int) ⟨true, true, true, chH, sdH, [0, 1, 2], 2, rfl, oa, by decide, by rw [if_pos (by decide), gH4]; rfl⟩)
    (ed_call (c_law_heard Z M EC) (hr.mono (by decide)) (ea4 (ed_var 2) (ed_var 3) (ed_tup ea_nil) ed_non) ⟨true, true, true, chH, sdH, [], none, rfl, oc, fun i h => (nomatch h), rfl⟩)
    (ed_call (c_law_heard Z M EC) (hr.mono (by decide)) (ea4 (ed_var 2) (ed_var 3) l2 ed_int) ⟨true, true, true, chH, sdH, [0, 2], some 1, rfl, ob, fun i h => (by cases h; decide), by unfold heardD; rfl⟩)))) sc_law_hand_right.nd) ?_
  refine ess_one (es_ret (ed_call (c_law_same Z 4) (hr.mono (by decide)) (ea2 (db := goalH) (ed_var 4) (ed_catL (xs := [eCh 0 [0, 1], eCh 0 [0, 1], eCh 0 [0, 2]]) (ys := [.none, eF (3, 4), eF (5, 4), eCh 0 [0, 1, 2], cannotD, cannotD]) (by show 3 + 6 ≤ 100000; decide) (ed_var 5) (ed_lst (ea_cons ed_non (ea5 (ed_tup (ea2 ed_int ed_int)) (ed_tup (ea2 ed_int ed_int)) (ed_tup (ea2 ed_int l3)) (ed_lst (ea2 ed_str ed_bl)) (ed_lst (ea2 ed_str ed_bl))))))) ⟨goalH, rfl, ?_, rfl⟩))
  have fc : ∀ ns : List Nat, ns.length ≤ 100 → fine 3 (eCh 0 ns) := fun ns h => by
    refine fine_of (n := 2) (k := true) (by show 2 ≤ 1000; decide) fun x hx => ?_
    simp only [List.mem_cons, List.not_mem_nil, or_false] at hx
    rcases hx with rfl | rfl
    · exact fine_at rfl 2
    · refine fine_of (by rw [List.length_map]; omega) fun x hx => ?_
      obtain ⟨n, _, rfl⟩ := List.mem_map.mp hx
      exact fine_at rfl 1
  have ff : ∀ p : Int × Int, fine 3 (eF p) := fun p => by
    refine fine_of (n := 2) (k := true) (by show 2 ≤ 1000; decide) fun x hx => ?_
    simp only [List.mem_cons, List.not_mem_nil, or_false] at hx
    rcases hx with rfl | rfl <;> exact fine_at rfl 2
  have fk : fine 3 cannotD := by
    refine fine_of (n := 2) (k := false) (by show 2 ≤ 1000; decide) fun x hx => ?_
    simp only [List.mem_cons, List.not_mem_nil, or_false] at hx
    rcases hx with rfl | rfl <;> exact fine_at rfl 2
  refine fine_of (n := 3) (k := false) (by show 9 ≤ 1000; decide) fun x hx => ?_
  simp only [List.mem_cons, List.not_mem_nil, or_false] at hx
  rcases hx with rfl | rfl | rfl | rfl | rfl | rfl | rfl | rfl | rfl
  · exact fc _ (by decide)
  · exact fc _ (by decide)
  · exact fc _ (by decide)
  · exact fine_at rfl 3
  · exact ff _
  · exact ff _
  · exact fc _ (by decide)
  · exact fk
  · exact fk
end
end GN

/-! the law -/
namespace GN
open PySem PySem.Spec PyProof.Rows L2

section
variable {P : Program} {w : World} {K : PySem.W.Frag} {mg : Str → Option Value} {base : Heap} {T : Tb} {CN : Addr}
def spLaw (T : Tb) (K : PySem.W.Frag) : Sp := fun vs H Q _ => ∃ (a : Addr) (ns : List Int), vs = [.ref a] ∧ SqL K H a (ns.map V.int) ∧ ns.length ≤ 1000 ∧ LamX.Tabs T H ∧ ∀ H', Q (.bl true) H'
theorem ok_law (Z : Txt K mg) (M : Lam K mg base T) (EC : ErrC K mg CN) (hh : HandOk) (hR : ∀ t : Tin, okT t 0 → Right (chM t 5) (sdM t 5) (lotM (afterM t 5) (chM t 5).length)) {f : Addr} {fd : FuncData} (F : Fun K "law" "law" s_law f fd) : FnOk P w K mg base CX0 13 f fd ["_law_script"] (spLaw T K) := by
  refine F.ok sc_law (fun vs H Q E h => by obtain ⟨a, ns, rfl, _⟩ := h; rfl) fun cdv A outer s H0 vs Q E hr h => ?_
  obtain ⟨a, ns, rfl, hS, hn, hT, q⟩ := h
  obtain ⟨f1, fd1, F1, m1, b1⟩ := Z.d_law_cells
  obtain ⟨f2, fd2, F2, m2, b2⟩ := Z.d_law_box
  obtain ⟨f3, fd3, ps3, m3, k3, b3, o3⟩ := (c_law_right (P := P) (w := w) (base := base) (T := T) (CN := CN) Z M EC).ex
  have S0 : Sub T none G0 H0 := ⟨hT, fun b o e => (by cases e), fun b ob z => (by cases z)⟩
  refine ⟨_, pss_one (ps_ret (pe_and (ed_call0 (T := T) (ρ := [.v (.ref a)]) (c_law_hand_right Z M EC) (hr.mono (by decide)) ⟨rfl, hh, rfl⟩)
    (pe_one (pe_call o3 (hr.mono (by decide)) rfl m3 k3 b3 .nil pass0 (pa_cons (pe_call (ok_law_box (T := T) Z F2) (hr.mono (by decide)) rfl m2 F2.kp b2 .nil pass0 (pa_cons (pe_call (ok_law_cells (T := T) Z F1) (hr.mono (by decide)) rfl m1 F1.kp b1 .nil pass0 (pa_cons (pe_var (i := 0) rfl (.inl rfl) (by decide) (by decide)) (pa_cons pe_int pa_nil)) (by decide) rfl rfl) (pa_cons pe_int pa_nil)) (by decide) rfl rfl) pa_nil) (by decide) rfl rfl)))), ?_⟩
  have R0 : Rel G0 [.v (.ref a)] (L2.start N_law [.ref a]) := ⟨rfl, fun i s e => by
    match i, e with
    | 0, e => cases e; exact ⟨_, rfl, rfl⟩
    | n + 1, e => simp at e⟩
  refine ⟨G0, S0, R0, fun v G1 H1 E1 r1 => ⟨true, r1, iteT ?_⟩⟩
  refine ⟨.ref a, rfl, a, ns, rfl, sq_keep hS E1, hn, E1.sub.tb, fun v2 G2 H2 E2 r2 => ?_⟩
  refine ⟨G2, cellM ns, v2, E2.sub, r2, rfl, fun D G3 H3 E3 hD O => ?_⟩
  exact ⟨D, G3, [], [], _, .bool true, _, rfl, rfl, O, ⟨boxM (cellM ns), rfl, rfl, ⟨Int.le_refl _, Int.le_refl _⟩, hR _ ⟨Int.le_refl _, Int.le_refl _⟩, rfl, rfl⟩, fun v4 G4 H4 E4 O4 r4 => by
    cases (show v4 = .bl true from r4)
    exact q H4⟩
end
end GN

/-! chains, in plain Lean -/
namespace GN
open PySem PySem.Spec PyProof.Rows L2

/-- a chain from f to l -/
inductive Chn (C : Ch) (S : Sd) (L : List Nat) (ax : Nat) : Nat → Nat → List Nat → Prop
  | one {f : Nat} (h : f ∈ L) : Chn C S L ax f f [f]
  | snoc {f m : Nat} {r : List Nat} (n : Nat) (c : Chn C S L ax f m r) (h : n ∈ L) (b : before C S ax m n = true) : Chn C S L ax f n (r ++ [n])
def kl (C : Ch) (ax i j : Nat) : Prop := rk C ax i < rk C ax j ∨ (rk C ax i = rk C ax j ∧ i < j)
theorem kl_trans {C : Ch} {ax i j k : Nat} (a : kl C ax i j) (b : kl C ax j k) : kl C ax i k := by
  unfold kl at *
  omega
theorem kl_irr {C : Ch} {ax i : Nat} (a : kl C ax i i) : False := by
  unfold kl at a
  omega
theorem before_kl {C : Ch} {S : Sd} {ax i j : Nat} (h : before C S ax i j = true) : kl C ax i j := by
  unfold before at h
  split at h
  · cases h
  · rename_i hij
    split at h
    · cases h
    · rw [lexLt2 _ _ _ _ hij, Bool.or_eq_true, Bool.and_eq_true, decide_eq_true_eq, decide_eq_true_eq, decide_eq_true_eq] at h
      unfold kl
      omega
section
variable {C : Ch} {S : Sd} {L : List Nat} {ax f l m : Nat} {r r1 r2 : List Nat}
theorem Chn.ne (c : Chn C S L ax f l r) : r ≠ [] := by
  cases c with
  | one h => exact fun z => nomatch z
  | snoc n c h b => exact fun z => by simp at z
theorem Chn.head (c : Chn C S L ax f l r) : r.headD 0 = f := by
  induction c with
  | one h => rfl
  | snoc n c h b ih =>
    rw [← ih]
    have e : ∀ (q : List Nat), q ≠ [] → (q ++ [n]).headD 0 = q.headD 0 := fun q hq => by
      cases q with
      | nil => exact absurd rfl hq
      | cons a t => rfl
    exact e _ c.ne
theorem Chn.last (c : Chn C S L ax f l r) : r.getLastD 0 = l := by
  cases c with
  | one h => rfl
  | snoc n c h b => simp
theorem Chn.sub (c : Chn C S L ax f l r) : ∀ i ∈ r, i ∈ L := by
  induction c with
  | one h => intro i hi; rw [List.mem_singleton.mp hi]; exact h
  | snoc n c h b ih =>
    intro i hi
    rcases List.mem_append.mp hi with z | z
    · exact ih i z
    · rw [List.mem_singleton.mp z]; exact h
theorem Chn.lmem (c : Chn C S L ax f l r) : l ∈ r := by
  cases c with
  | one h => exact List.mem_cons_self
  | snoc n c h b => exact List.mem_append_right _ List.mem_cons_self
theorem Chn.fmem (c : Chn C S L ax f l r) : f ∈ r := by
  induction c with
  | one h => exact List.mem_cons_self
  | snoc n c h b ih => exact List.mem_append_left _ ih
theorem Chn.under (c : Chn C S L ax f l r) : ∀ i ∈ r, i = l ∨ kl C ax i l := by
  induction c with
  | one h => intro i hi; exact .inl (List.mem_singleton.mp hi)
  | snoc n c h b ih =>
    intro i hi
    rcases List.mem_append.mp hi with z | z
    · refine .inr ?_
      rcases ih i z with e | e
      · rw [e]; exact before_kl b
      · exact kl_trans e (before_kl b)
    · exact .inl (List.mem_singleton.mp z)
theorem Chn.nodup (c : Chn C S L ax f l r) : r.Nodup := by
  induction c with
  | one h => exact List.pairwise_singleton _ _
  | snoc n c h b ih =>
    refine List.nodup_append.mpr ⟨ih, List.pairwise_singleton _ _, fun x hx y hy => ?_⟩
    rw [List.mem_singleton.mp hy]
    intro e
    rw [e] at hx
    rcases c.under _ hx with z | z
    · have := before_kl b
      rw [z] at this
      exact kl_irr this
    · exact kl_irr (kl_trans z (before_kl b))
theorem Chn.len (c : Chn C S L ax f l r) : r.length ≤ L.length := c.nodup.length_le_of_subset fun i hi => c.sub i hi
theorem Chn.same (c : Chn C S L ax f f r) : r = [f] := by
  cases c with
  | one h => rfl
  | snoc n c h b =>
    exfalso
    rcases c.under _ c.fmem with z | z
    · have := before_kl b
      rw [z] at this
      exact kl_irr this
    · exact kl_irr (kl_trans z (before_kl b))
theorem Chn.sum (c : Chn C S L ax f l r) : (r.map fun i => sz C ax i).sum = lenC C ax r + sz C ax l := by
  cases c with
  | one h => simp [lenC]
  | snoc n c h b => simp [lenC]
theorem Chn.snoc_len (c : Chn C S L ax f m r) (n : Nat) : lenC C ax (r ++ [n]) = lenC C ax r + sz C ax m := by
  rw [← c.sum]
  simp [lenC]
theorem Chn.append (c1 : Chn C S L ax f m r1) (c2 : Chn C S L ax m l r2) : Chn C S L ax f l (r1 ++ r2.drop 1) ∧ lenC C ax (r1 ++ r2.drop 1) = lenC C ax r1 + lenC C ax r2 := by
  induction c2 with
  | one h => exact ⟨by simpa using c1, by simp [lenC]⟩
  | snoc n c h b ih =>
    obtain ⟨i1, i2⟩ := ih
    have e : ∀ (q : List Nat), q ≠ [] → (q ++ [n]).drop 1 = q.drop 1 ++ [n] := fun q hq => by
      cases q with
      | nil => exact absurd rfl hq
      | cons a t => rfl
    rw [e _ c.ne, ← List.append_assoc]
    refine ⟨.snoc n i1 h b, ?_⟩
    rw [i1.snoc_len, i2, c.snoc_len]
    omega
theorem Chn.split (c : Chn C S L ax f l r) : ∀ i ∈ r, ∃ r1 r2, Chn C S L ax f i r1 ∧ Chn C S L ax i l r2 ∧ r = r1 ++ r2.drop 1 := by
  induction c with
  | one h =>
    intro i hi
    obtain rfl := List.mem_singleton.mp hi
    exact ⟨[i], [i], .one h, .one h, rfl⟩
  | snoc n c h b ih =>
    intro i hi
    rcases List.mem_append.mp hi with z | z
    · obtain ⟨r1, r2, c1, c2, e⟩ := ih i z
      refine ⟨r1, r2 ++ [n], c1, .snoc n c2 h b, ?_⟩
      rw [e]
      have := c2.ne
      cases r2 with
      | nil => exact absurd rfl this
      | cons a t => simp
    · obtain rfl := List.mem_singleton.mp z
      exact ⟨_, [i], .snoc i c h b, .one h, by simp⟩
theorem Chn.mem_append (c1 : Chn C S L ax f m r1) (c2 : Chn C S L ax m l r2) : m ∈ r1 ++ r2.drop 1 := List.mem_append_left _ c1.lmem

/-! ### the law's chains are these -/
theorem layer_chn : ∀ (n : Nat) (r : List Nat), r ∈ layer C S L ax n → ∃ f l, Chn C S L ax f l r
  | 0, r, h => by
    obtain ⟨i, hi, rfl⟩ := List.mem_map.mp h
    exact ⟨i, i, .one hi⟩
  | n + 1, r, h => by
    obtain ⟨q, hq, hr⟩ := List.mem_flatMap.mp h
    obtain ⟨i, hi, rfl⟩ := List.mem_map.mp hr
    obtain ⟨h1, h2⟩ := List.mem_filter.mp hi
    obtain ⟨f, l, c⟩ := layer_chn n q hq
    rw [c.last] at h2
    exact ⟨f, i, .snoc i c h1 h2⟩
theorem chn_layer (c : Chn C S L ax f l r) : ∃ n, r.length = n + 1 ∧ r ∈ layer C S L ax n := by
  induction c with
  | one h => exact ⟨0, rfl, List.mem_map.mpr ⟨_, h, rfl⟩⟩
  | snoc n c h b ih =>
    obtain ⟨k, h1, h2⟩ := ih
    refine ⟨k + 1, by rw [List.length_append, h1]; rfl, List.mem_flatMap.mpr ⟨_, h2, List.mem_map.mpr ⟨n, List.mem_filter.mpr ⟨h, ?_⟩, rfl⟩⟩⟩
    show before C S ax _ n = true
    rw [c.last]
    exact b
theorem mem_upto {r : List Nat} : ∀ {n k : Nat}, k < n → r ∈ layer C S L ax k → r ∈ upto C S L ax n
  | 0, k, h, _ => absurd h (by omega)
  | n + 1, k, h, hr => by
    by_cases e : k = n
    · subst e
      exact List.mem_append_right _ hr
    · exact List.mem_append_left _ (mem_upto (by omega) hr)
theorem of_upto : ∀ {n : Nat} {r : List Nat}, r ∈ upto C S L ax n → ∃ k, r ∈ layer C S L ax k
  | 0, r, h => by cases h
  | n + 1, r, h => by
    rcases List.mem_append.mp h with z | z
    · exact of_upto z
    · exact ⟨n, z⟩
theorem chains_iff : r ∈ chains C S L ax ↔ ∃ f l, Chn C S L ax f l r := by
  refine ⟨fun h => ?_, fun ⟨f, l, c⟩ => ?_⟩
  · obtain ⟨k, hk⟩ := of_upto h
    exact layer_chn k r hk
  · obtain ⟨n, h1, h2⟩ := chn_layer c
    have := c.len
    exact mem_upto (by omega) h2
theorem Chn.num (c : Chn C S L ax f l r) : numC C ax r = numB C ax f l (lenC C ax r) := by
  unfold numC
  rw [c.head, c.last]
end
end GN

/-! numbers in order -/
namespace GN
open PySem PySem.Spec PyProof.Rows L2

def Red (n : Num) : Prop := ∀ p, n = some p → 0 ≤ p.1 ∧ 0 < p.2 ∧ Nat.Coprime p.1.natAbs p.2.natAbs
theorem frac_nat (T B : Nat) : frac (T : Int) (B : Int) = (((T / Nat.gcd T B : Nat) : Int), ((B / Nat.gcd T B : Nat) : Int)) := by
  unfold frac
  rw [Int.natAbs_natCast, Int.natAbs_natCast, Int.natCast_ediv, Int.natCast_ediv]
theorem frac_red {t b : Int} (ht : 0 < t) (hb : 0 < b) : Red (some (frac t b)) := by
  intro p hp
  obtain rfl := Option.some.inj hp
  obtain ⟨T, rfl⟩ := Int.eq_ofNat_of_zero_le (Int.le_of_lt ht)
  obtain ⟨B, rfl⟩ := Int.eq_ofNat_of_zero_le (Int.le_of_lt hb)
  rw [frac_nat]
  have g0 : 0 < Nat.gcd T B := Nat.gcd_pos_of_pos_left _ (by omega)
  have d2 : 0 < B / Nat.gcd T B := Nat.div_pos (Nat.gcd_le_right _ (by omega)) g0
  refine ⟨Int.natCast_nonneg _, Int.natCast_pos.mpr d2, ?_⟩
  show Nat.Coprime (Int.natAbs ((_ : Nat) : Int)) (Int.natAbs ((_ : Nat) : Int))
  rw [Int.natAbs_natCast, Int.natAbs_natCast]
  exact Nat.coprime_div_gcd_div_gcd g0
theorem red01 : Red (some (0, 1)) := fun p hp => by
  obtain rfl := Option.some.inj hp
  exact ⟨by decide, by decide, by decide⟩
theorem redN : Red none := fun p hp => nomatch hp
theorem numB_red (C : Ch) (ax f l : Nat) (n : Int) : Red (numB C ax f l n) := by
  unfold numB
  split
  · exact red01
  · split
    · exact frac_red (by omega) (by omega)
    · exact redN
theorem later_none (a : Num) : later a none = false := by cases a <;> rfl
theorem none_later (q : Int × Int) : later none (some q) = true := rfl
theorem later_some {p q : Int × Int} : later (some p) (some q) = false ↔ p.1 * q.2 ≤ q.1 * p.2 := by
  show decide (q.1 * p.2 < p.1 * q.2) = false ↔ _
  rw [decide_eq_false_iff_not]
  omega
theorem later_irr {a : Num} : later a a = false := by
  cases a with
  | none => rfl
  | some p => rw [later_some]; exact Int.le_refl _
theorem later_trans {a b c : Num} (ra : Red a) (rb : Red b) (rc : Red c) (h1 : later a b = false) (h2 : later b c = false) : later a c = false := by
  cases c with
  | none => exact later_none a
  | some r =>
    cases b with
    | none => cases h2
    | some q =>
      cases a with
      | none => cases h1
      | some p =>
        rw [later_some] at *
        obtain ⟨_, p2, _⟩ := ra p rfl
        obtain ⟨_, q2, _⟩ := rb q rfl
        obtain ⟨_, r2, _⟩ := rc r rfl
        have e1 := Int.mul_le_mul_of_nonneg_right h1 (Int.le_of_lt r2)
        have e2 := Int.mul_le_mul_of_nonneg_right h2 (Int.le_of_lt p2)
        refine Int.le_of_mul_le_mul_right (a := q.2) ?_ q2
        have a1 : p.1 * r.2 * q.2 = p.1 * q.2 * r.2 := by rw [Int.mul_assoc, Int.mul_comm r.2, ← Int.mul_assoc]
        have a2 : q.1 * p.2 * r.2 = q.1 * r.2 * p.2 := by rw [Int.mul_assoc, Int.mul_comm p.2, ← Int.mul_assoc]
        have a3 : r.1 * p.2 * q.2 = r.1 * q.2 * p.2 := by rw [Int.mul_assoc, Int.mul_comm p.2, ← Int.mul_assoc]
        omega
/-- from greater-or-equal and greater, greater-or-equal -/
theorem wins_keep {a b n : Num} (ra : Red a) (rb : Red b) (rn : Red n) (h : later n b = true) (h1 : later a b = false) : later a n = false := by
  refine later_trans ra rb rn h1 ?_
  cases n with
  | none => exact later_none b
  | some q =>
    cases b with
    | none => cases h
    | some p =>
      rw [later_some]
      have h : decide (p.1 * q.2 < q.1 * p.2) = true := h
      rw [decide_eq_true_eq] at h
      omega
theorem num_mono {C : Ch} {ax f l : Nat} {n n' : Int} (h : n ≤ n') : later (numB C ax f l n) (numB C ax f l n') = false := by
  have hn : needC C ax f l n ≤ needC C ax f l n' := by unfold needC; omega
  unfold numB
  by_cases h1 : needC C ax f l n' ≤ 0
  · rw [if_pos h1, if_pos (Int.le_trans hn h1)]
    exact later_irr
  · rw [if_neg h1]
    by_cases hw : 0 < wayC C ax f l
    · rw [if_pos hw, if_pos hw]
      have r' := frac_red (t := needC C ax f l n') (by omega) hw _ rfl
      by_cases h2 : needC C ax f l n ≤ 0
      · rw [if_pos h2, later_some]
        show 0 * _ ≤ _ * 1
        rw [Int.zero_mul, Int.mul_one]
        exact r'.1
      · rw [if_neg h2, later_some]
        generalize needC C ax f l n = t at *
        generalize needC C ax f l n' = t' at *
        generalize wayC C ax f l = b at *
        obtain ⟨T, rfl⟩ := Int.eq_ofNat_of_zero_le (show 0 ≤ t by omega)
        obtain ⟨T', rfl⟩ := Int.eq_ofNat_of_zero_le (show 0 ≤ t' by omega)
        obtain ⟨B, rfl⟩ := Int.eq_ofNat_of_zero_le (show 0 ≤ b by omega)
        rw [frac_nat, frac_nat]
        show ((T / Nat.gcd T B : Nat) : Int) * ((B / Nat.gcd T' B : Nat) : Int) ≤ ((T' / Nat.gcd T' B : Nat) : Int) * ((B / Nat.gcd T B : Nat) : Int)
        have hT : T ≤ T' := by omega
        have x1 := Nat.div_mul_cancel (Nat.gcd_dvd_left T B)
        have y1 := Nat.div_mul_cancel (Nat.gcd_dvd_right T B)
        have x2 := Nat.div_mul_cancel (Nat.gcd_dvd_left T' B)
        have y2 := Nat.div_mul_cancel (Nat.gcd_dvd_right T' B)
        have g1 : 0 < Nat.gcd T B := Nat.gcd_pos_of_pos_right _ (by omega)
        have g2 : 0 < Nat.gcd T' B := Nat.gcd_pos_of_pos_right _ (by omega)
        generalize T / Nat.gcd T B = x at *
        generalize B / Nat.gcd T B = y at *
        generalize T' / Nat.gcd T' B = x' at *
        generalize B / Nat.gcd T' B = y' at *
        generalize Nat.gcd T B = g at *
        generalize Nat.gcd T' B = g' at *
        have key : x * y' ≤ x' * y := by
          refine Nat.le_of_mul_le_mul_right ?_ (Nat.mul_pos g1 g2)
          have e1 : x * y' * (g * g') = (x * g) * (y' * g') := by
            rw [Nat.mul_assoc, Nat.mul_assoc, ← Nat.mul_assoc y' g g', Nat.mul_comm y' g, Nat.mul_assoc]
          have e2 : x' * y * (g * g') = (x' * g') * (y * g) := by
            rw [Nat.mul_comm g g', Nat.mul_assoc, Nat.mul_assoc, ← Nat.mul_assoc y g' g, Nat.mul_comm y g', Nat.mul_assoc]
          rw [e1, e2, x1, x2, y1, y2]
          exact Nat.mul_le_mul_right _ hT
        exact_mod_cast key
    · rw [if_neg hw, if_neg hw]
      exact later_none _
theorem num_eq {a b : Num} (ra : Red a) (rb : Red b) (h1 : later a b = false) (h2 : later b a = false) : a = b := by
  cases a with
  | none =>
    cases b with
    | none => rfl
    | some q => cases h1
  | some p =>
    cases b with
    | none => cases h2
    | some q =>
      rw [later_some] at h1 h2
      obtain ⟨p0, p2, pc⟩ := ra p rfl
      obtain ⟨q0, q2, qc⟩ := rb q rfl
      obtain ⟨x, y⟩ := p
      obtain ⟨u, v⟩ := q
      dsimp only at *
      obtain ⟨X, rfl⟩ := Int.eq_ofNat_of_zero_le p0
      obtain ⟨Y, rfl⟩ := Int.eq_ofNat_of_zero_le (Int.le_of_lt p2)
      obtain ⟨U, rfl⟩ := Int.eq_ofNat_of_zero_le q0
      obtain ⟨V, rfl⟩ := Int.eq_ofNat_of_zero_le (Int.le_of_lt q2)
      rw [Int.natAbs_natCast, Int.natAbs_natCast] at pc qc
      have e : X * V = U * Y := by
        have e : (X : Int) * V = U * Y := Int.le_antisymm h1 h2
        exact_mod_cast e
      have dv : V ∣ Y := by
        refine qc.symm.dvd_of_dvd_mul_left (m := U) ?_
        rw [← e]
        exact Nat.dvd_mul_left _ _
      have dy : Y ∣ V := by
        refine pc.symm.dvd_of_dvd_mul_left (m := X) ?_
        rw [e]
        exact Nat.dvd_mul_left _ _
      have eY : V = Y := Nat.dvd_antisymm dv dy
      subst eY
      have eX : X = U := Nat.eq_of_mul_eq_mul_right (by omega) e
      subst eX
      rfl

/-! ### the law's greatest -/
theorem numC_red (C : Ch) (ax : Nat) (r : List Nat) : Red (numC C ax r) := numB_red _ _ _ _ _
theorem bst_spec {C : Ch} {ax : Nat} {nm : Option Nat} : ∀ (rs : List (List Nat)) (b : Int × Int), Red (some b) → (∀ r ∈ rs, bad C ax nm r = false) →
    Red (some (bst C ax nm rs b)) ∧ later (some b) (some (bst C ax nm rs b)) = false ∧ (∀ r ∈ rs, pass nm r = true → later (numC C ax r) (some (bst C ax nm rs b)) = false) ∧
    (bst C ax nm rs b = b ∨ ∃ r ∈ rs, pass nm r = true ∧ numC C ax r = some (bst C ax nm rs b))
  | [], b, hb, _ => ⟨hb, later_irr, fun r hr => by (exact absurd hr (by simp)), .inl rfl⟩
  | r :: rs, b, hb, hbad => by
    have h1 : bad C ax nm r = false := hbad r List.mem_cons_self
    have step : Red (some (stepG C ax nm b r)) ∧ later (some b) (some (stepG C ax nm b r)) = false ∧ (pass nm r = true → later (numC C ax r) (some (stepG C ax nm b r)) = false) ∧
        (stepG C ax nm b r = b ∨ (pass nm r = true ∧ numC C ax r = some (stepG C ax nm b r))) := by
      unfold stepG
      by_cases hp : pass nm r = true
      · rw [if_pos hp]
        cases hq : numC C ax r with
        | none =>
          unfold bad at h1
          rw [hp, hq] at h1
          cases h1
        | some q =>
          dsimp only
          have rq : Red (some q) := by rw [← hq]; exact numC_red C ax r
          by_cases hl : less b q = true
          · rw [if_pos hl]
            have hl2 : b.1 * q.2 < q.1 * b.2 := of_decide_eq_true hl
            refine ⟨rq, ?_, fun _ => later_irr, .inr ⟨hp, rfl⟩⟩
            rw [later_some]
            omega
          · rw [if_neg hl]
            refine ⟨hb, later_irr, fun _ => ?_, .inl rfl⟩
            have hl2 : ¬ b.1 * q.2 < q.1 * b.2 := fun z => hl (decide_eq_true z)
            rw [later_some]
            omega
      · rw [if_neg hp]
        exact ⟨hb, later_irr, fun z => absurd z hp, .inl rfl⟩
    obtain ⟨s1, s2, s3, s4⟩ := step
    obtain ⟨i1, i2, i3, i4⟩ := bst_spec rs (stepG C ax nm b r) s1 fun x hx => hbad x (List.mem_cons_of_mem _ hx)
    have e : bst C ax nm (r :: rs) b = bst C ax nm rs (stepG C ax nm b r) := rfl
    rw [e]
    refine ⟨i1, later_trans hb s1 i1 s2 i2, fun x hx hp => ?_, ?_⟩
    · rcases List.mem_cons.mp hx with rfl | hx
      · exact later_trans (numC_red C ax _) s1 i1 (s3 hp) i2
      · exact i3 x hx hp
    · rcases i4 with h | ⟨x, hx, hp, h⟩
      · rw [h]
        rcases s4 with h4 | ⟨hp, h4⟩
        · exact .inl h4
        · exact .inr ⟨r, List.mem_cons_self, hp, h4⟩
      · exact .inr ⟨x, List.mem_cons_of_mem _ hx, hp, h⟩
theorem greatL_eq {C : Ch} {S : Sd} {L : List Nat} {nm : Option Nat} {N : Num} (hN : ∃ ax, ax ≤ 1 ∧ ∃ r ∈ chains C S L ax, pass nm r = true ∧ numC C ax r = N) (hm : ∀ ax, ax ≤ 1 → ∀ r ∈ chains C S L ax, pass nm r = true → later (numC C ax r) N = false) : greatL C S L nm = N := by
  obtain ⟨ax, hx, r, hr, hp, hn⟩ := hN
  have two : ax = 0 ∨ ax = 1 := by omega
  cases N with
  | none =>
    have hb : bad C ax nm r = true := by
      unfold bad
      rw [hp, hn]
      rfl
    unfold greatL
    refine if_pos ?_
    rw [Bool.or_eq_true, List.any_eq_true, List.any_eq_true]
    rcases two with rfl | rfl
    · exact .inl ⟨r, hr, hb⟩
    · exact .inr ⟨r, hr, hb⟩
  | some p =>
    have nb : ∀ ax, ax ≤ 1 → ∀ r ∈ chains C S L ax, bad C ax nm r = false := fun ax hx r hr => by
      unfold bad
      cases hp : pass nm r with
      | false => rfl
      | true =>
        cases hq : numC C ax r with
        | some q => rfl
        | none =>
          have := hm ax hx r hr hp
          rw [hq] at this
          cases this
    have anyF : ∀ ax, ax ≤ 1 → (chains C S L ax).any (bad C ax nm) = false := fun ax hx => by
      rw [List.any_eq_false]
      intro r hr
      rw [nb ax hx r hr]
      decide
    unfold greatL
    rw [if_neg (by rw [anyF 0 (by omega), anyF 1 (by omega)]; decide)]
    obtain ⟨a1, a2, a3, a4⟩ := bst_spec (C := C) (ax := 0) (nm := nm) (chains C S L 0) (0, 1) red01 (nb 0 (by omega))
    obtain ⟨b1, b2, b3, b4⟩ := bst_spec (C := C) (ax := 1) (nm := nm) (chains C S L 1) _ a1 (nb 1 (by omega))
    have rp : Red (some p) := by rw [← hn]; exact numC_red C ax r
    refine num_eq b1 rp ?_ ?_
    · rcases b4 with h | ⟨x, hx2, hp2, h⟩
      · rw [h]
        rcases a4 with h2 | ⟨x, hx2, hp2, h2⟩
        · rw [h2, later_some]
          show 0 * p.2 ≤ p.1 * 1
          rw [Int.zero_mul, Int.mul_one]
          exact (rp p rfl).1
        · rw [← h2]
          exact hm 0 (by omega) x hx2 hp2
      · rw [← h]
        exact hm 1 (by omega) x hx2 hp2
    · rw [← hn]
      rcases two with rfl | rfl
      · exact later_trans (numC_red _ _ _) a1 b1 (a3 r hr hp) b2
      · exact b3 r hr hp
end GN

/-! the rows: each entry a chain, none longer -/
namespace GN
open PySem PySem.Spec PyProof.Rows L2

theorem look_app (R : Row) (n : Nat) (y : Int × Option Nat) (i : Nat) : look (R ++ [(n, y)]) i = match look R i with
    | some x => some x
    | none => if n = i then some y else none := by
  unfold look
  rw [List.find?_append]
  cases h : R.find? fun e => decide (e.1 = i) with
  | some x => rfl
  | none =>
    simp only [Option.none_or, Option.map_none]
    by_cases e : n = i
    · rw [List.find?_cons, decide_eq_true e, if_pos e]
      rfl
    · rw [List.find?_cons, decide_eq_false e, if_neg e]
      rfl
theorem PathAt.mono {R R' : Row} {p : List Nat} (h : PathAt R p) (k : ∀ i x, look R i = some x → look R' i = some x) : PathAt R' p :=
  ⟨h.ne, fun i hi => let ⟨n, e⟩ := h.go i hi; ⟨n, k _ _ e⟩, let ⟨n, e⟩ := h.fin; ⟨n, k _ _ e⟩⟩
theorem PathAt.cons {R : Row} {p : List Nat} {n : Nat} {v : Int} (h : PathAt R p) (e : look R n = some (v, some (p.getD 0 0))) : PathAt R (n :: p) := by
  have h0 : 0 < p.length := List.length_pos_iff.mpr h.ne
  refine ⟨List.cons_ne_nil _ _, fun i hi => ?_, ?_⟩
  · cases i with
    | zero => exact ⟨v, e⟩
    | succ i =>
      obtain ⟨m, hm⟩ := h.go i (by rw [List.length_cons] at hi; omega)
      exact ⟨m, hm⟩
  · obtain ⟨m, hm⟩ := h.fin
    refine ⟨m, ?_⟩
    have e1 : (n :: p).length - 1 = (p.length - 1) + 1 := by rw [List.length_cons]; omega
    rw [e1]
    exact hm
structure RowI (C : Ch) (S : Sd) (L : List Nat) (ax f : Nat) (pre : List Nat) (R : Row) : Prop where
  keys : ∀ e ∈ R, e.1 = f ∨ e.1 ∈ pre
  nd : (R.map (·.1)).Nodup
  sound : ∀ n x, look R n = some x → ∃ r, Chn C S L ax f n r ∧ lenC C ax r = x.1 ∧ PathAt R r.reverse
  top : ∀ n r, Chn C S L ax f n r → (n = f ∨ n ∈ pre) → ∃ x, look R n = some x ∧ lenC C ax r ≤ x.1
section
variable {C : Ch} {S : Sd} {L : List Nat} {ax f : Nat} {pre : List Nat} {R : Row}
theorem row_base (hf : f ∈ L) : RowI C S L ax f [] [(f, 0, none)] := by
  have l0 : ∀ n x, look [(f, 0, none)] n = some x → n = f ∧ x = (0, none) := fun n x h => by
    obtain ⟨e, he, h1, h2⟩ := look_mem h
    rw [List.mem_singleton.mp he] at h1 h2
    exact ⟨h1.symm, h2.symm⟩
  have lf : look [(f, 0, none)] f = some (0, none) := by
    unfold look
    rw [List.find?_cons, decide_eq_true rfl]
    rfl
  refine ⟨fun e he => .inl (by rw [List.mem_singleton.mp he]), List.pairwise_singleton _ _, fun n x h => ?_, fun n r c h => ?_⟩
  · obtain ⟨rfl, rfl⟩ := l0 n x h
    exact ⟨[n], .one hf, rfl, ⟨List.cons_ne_nil _ _, fun i hi => absurd (show i + 1 < 1 from hi) (by omega), 0, lf⟩⟩
  · rcases h with rfl | h
    · rw [c.same]
      exact ⟨_, lf, Int.le_refl _⟩
    · cases h
theorem ways_mem {n : Nat} {p : Int × Int} : p ∈ waysR C S ax R n ↔ ∃ m x, look R m = some x ∧ before C S ax m n = true ∧ p = (x.1 + sz C ax m, (m : Int)) := by
  unfold waysR
  rw [List.mem_map]
  constructor
  · rintro ⟨e, he, rfl⟩
    obtain ⟨h1, h2⟩ := List.mem_filter.mp he
    obtain ⟨x, hx⟩ := look_some h1
    refine ⟨e.1, x, hx, h2, ?_⟩
    unfold wl
    rw [hx]
    rfl
  · rintro ⟨m, x, hx, hb, rfl⟩
    obtain ⟨e, he, rfl, rfl⟩ := look_mem hx
    refine ⟨e, List.mem_filter.mpr ⟨he, hb⟩, ?_⟩
    unfold wl
    rw [hx]
    rfl
theorem row_step {n : Nat} (I : RowI C S L ax f pre R) (hn : n ∈ L) (hnp : n ∉ pre) (hpre : ∀ i ∈ L, before C S ax i n = true → i ∈ pre) : RowI C S L ax f (pre ++ [n]) (stepR C S ax f R n) := by
  -- a chain to n that is not f comes by one that stands in the row
  have via : ∀ r, Chn C S L ax f n r → n ≠ f → ∃ m q x, r = q ++ [n] ∧ Chn C S L ax f m q ∧ before C S ax m n = true ∧ look R m = some x ∧ lenC C ax q ≤ x.1 := fun r c hne => by
    cases c with
    | one h => exact absurd rfl hne
    | snoc _ c h b =>
      rename_i m q
      have hm := hpre m (c.sub m c.lmem) b
      obtain ⟨x, h1, h2⟩ := I.top m q c (.inr hm)
      exact ⟨m, q, x, rfl, c, b, h1, h2⟩
  unfold stepR
  by_cases hk : (!decide ((n : Int) = (f : Int)) && decide ((0 : Int) < (waysR C S ax R n).length)) = true
  · rw [if_pos hk]
    rw [Bool.and_eq_true, Bool.not_eq_true', decide_eq_false_iff_not, decide_eq_true_eq] at hk
    obtain ⟨hk1, hk2⟩ := hk
    have hnf : n ≠ f := fun z => hk1 (by rw [z])
    have hne : waysR C S ax R n ≠ [] := fun q => by rw [q] at hk2; simp at hk2
    obtain ⟨m, x, hx, hb, hmax⟩ := ways_mem.mp (maxP_mem hne)
    have hnk : ∀ e ∈ R, e.1 ≠ n := fun e he z => by
      rcases I.keys e he with h | h
      · exact hnf (z.symm.trans h)
      · rw [z] at h; exact hnp h
    have hln : look R n = none := look_none hnk
    have keep : ∀ i y, look R i = some y → look (R ++ [(n, (maxP (waysR C S ax R n)).1, some (maxP (waysR C S ax R n)).2.toNat)]) i = some y := fun i y h => by
      rw [look_app, h]
    have hnew : look (R ++ [(n, (maxP (waysR C S ax R n)).1, some (maxP (waysR C S ax R n)).2.toNat)]) n = some (x.1 + sz C ax m, some m) := by
      rw [look_app, hln, hmax]
      exact if_pos rfl
    refine ⟨fun e he => ?_, ?_, fun i y h => ?_, fun i r c h => ?_⟩
    · rcases List.mem_append.mp he with h | h
      · exact (I.keys e h).imp id fun h => List.mem_append_left _ h
      · rw [List.mem_singleton.mp h]
        exact .inr (List.mem_append_right _ List.mem_cons_self)
    · rw [List.map_append]
      refine List.nodup_append.mpr ⟨I.nd, List.pairwise_singleton _ _, fun a ha b hb2 => ?_⟩
      rw [List.mem_singleton.mp hb2]
      obtain ⟨e, he, rfl⟩ := List.mem_map.mp ha
      exact hnk e he
    · rw [look_app] at h
      cases hq : look R i with
      | some z =>
        rw [hq] at h
        obtain rfl := Option.some.inj h
        obtain ⟨r, c, h1, h2⟩ := I.sound i _ hq
        exact ⟨r, c, h1, h2.mono keep⟩
      | none =>
        rw [hq] at h
        by_cases e : n = i
        · subst e
          obtain ⟨r, c, h1, h2⟩ := I.sound m x hx
          have hnew' := hnew
          rw [look_app, hln] at hnew'
          have ey : y = (x.1 + sz C ax m, some m) := Option.some.inj (h.symm.trans hnew')
          refine ⟨r ++ [n], .snoc n c hn hb, ?_, ?_⟩
          · rw [c.snoc_len, h1, ey]
          · rw [List.reverse_append]
            show PathAt _ (n :: r.reverse)
            refine (h2.mono keep).cons (v := x.1 + sz C ax m) ?_
            rw [hnew]
            have e0 : r.reverse.getD 0 0 = m := by
              have := c.last
              rw [List.getLastD_eq_getLast?] at this
              rw [List.getD_eq_getElem?_getD, ← List.head?_eq_getElem?, List.head?_reverse]
              exact this
            rw [e0]
        · have h : (if n = i then _ else none) = some y := h
          rw [if_neg e] at h
          cases h
    · by_cases e : i = n
      · subst e
        obtain ⟨m', q, x', rfl, c', b', h1, h2⟩ := via r c hnf
        refine ⟨_, hnew, ?_⟩
        rw [c'.snoc_len]
        have t := maxP_top _ (ways_mem.mpr ⟨m', x', h1, b', rfl⟩)
        rw [hmax, SrtO.lexB_no] at t
        show lenC C ax q + sz C ax m' ≤ x.1 + sz C ax m
        have t : ¬ (x.1 + sz C ax m < x'.1 + sz C ax m' ∨ _) := t
        have t2 : ¬ (x.1 + sz C ax m < x'.1 + sz C ax m') := fun z => t (.inl z)
        omega
      · obtain ⟨x', h1, h2⟩ := I.top i r c (h.imp id fun h => by
          rcases List.mem_append.mp h with h | h
          · exact h
          · exact absurd (List.mem_singleton.mp h) e)
        exact ⟨x', keep i x' h1, h2⟩
  · rw [if_neg hk]
    refine ⟨fun e he => (I.keys e he).imp id fun h => List.mem_append_left _ h, I.nd, I.sound, fun i r c h => ?_⟩
    by_cases e : i = n
    · subst e
      by_cases hnf : i = f
      · exact I.top i r c (.inl hnf)
      · exfalso
        obtain ⟨m', q, x', rfl, c', b', h1, h2⟩ := via r c hnf
        have hm := ways_mem.mpr ⟨m', x', h1, b', rfl⟩
        refine hk ?_
        rw [Bool.and_eq_true, Bool.not_eq_true', decide_eq_false_iff_not, decide_eq_true_eq]
        have hl := List.length_pos_of_mem hm
        exact ⟨fun z => hnf (by omega), by omega⟩
    · exact I.top i r c (h.imp id fun h => by
        rcases List.mem_append.mp h with h | h
        · exact h
        · exact absurd (List.mem_singleton.mp h) e)
theorem row_all {order : List Nat} (hf : f ∈ L) (hL : ∀ i ∈ order, i ∈ L) (nd : order.Nodup) (hs : ∀ pre n post, order = pre ++ n :: post → ∀ i ∈ L, before C S ax i n = true → i ∈ pre) : RowI C S L ax f order (rowC C S ax order f) := by
  have go : ∀ post pre, order = pre ++ post → RowI C S L ax f pre (pre.foldl (stepR C S ax f) [(f, 0, none)]) → RowI C S L ax f order (order.foldl (stepR C S ax f) [(f, 0, none)]) := by
    intro post
    induction post with
    | nil =>
      intro pre e I
      rw [List.append_nil] at e
      rw [e]
      exact I
    | cons n post ih =>
      intro pre e I
      refine ih (pre ++ [n]) (by rw [e, List.append_assoc]; rfl) ?_
      rw [List.foldl_append]
      refine row_step I (hL n (by rw [e]; exact List.mem_append_right _ List.mem_cons_self)) (fun z => ?_) (hs pre n post e)
      rw [e] at nd
      exact (List.nodup_append.mp nd).2.2 n z n List.mem_cons_self rfl
  exact go order [] rfl (row_base hf)
theorem ordC_sorted (C : Ch) (S : Sd) (ax : Nat) (L : List Nat) : ∀ pre n post, ordC C ax L = pre ++ n :: post → ∀ i ∈ L, before C S ax i n = true → i ∈ pre := by
  intro pre n post e i hi hb
  have hp : (ordC C ax L).Pairwise fun x y => ¬ kl C ax y x := by
    unfold ordC
    rw [List.pairwise_map]
    refine (srtK_srt _ _).imp_of_mem fun {x y} hx hy h => ?_
    obtain ⟨a, _, rfl⟩ := List.mem_map.mp ((srtK_perm _ _).mem_iff.mp hx)
    obtain ⟨b, _, rfl⟩ := List.mem_map.mp ((srtK_perm _ _).mem_iff.mp hy)
    rw [leK_iff] at h
    rw [Int.toNat_natCast, Int.toNat_natCast] at *
    unfold kl
    omega
  have hm : i ∈ ordC C ax L := (ordC_perm C ax L).mem_iff.mpr hi
  rw [e] at hp hm
  obtain ⟨_, h2, _⟩ := List.pairwise_append.mp hp
  obtain ⟨h3, _⟩ := List.pairwise_cons.mp h2
  have k := before_kl hb
  rcases List.mem_append.mp hm with z | z
  · exact z
  · rcases List.mem_cons.mp z with z | z
    · rw [z] at k
      exact (kl_irr k).elim
    · exact absurd k (h3 i z)
theorem rowT_ok (nd : L.Nodup) (hf : f ∈ L) : RowI C S L ax f (ordC C ax L) (rowT C S L ax f) :=
  row_all hf (fun i hi => (ordC_perm C ax L).mem_iff.mp hi) ((ordC_perm C ax L).nodup_iff.mpr nd) (ordC_sorted C S ax L)
theorem backF_path : ∀ (n : Nat) (p : List Nat) (l : Nat), PathAt R p → p.headD 0 = l → p.length ≤ n + 1 → backF n R l = p
  | n, [], l, h, _, _ => absurd rfl h.ne
  | 0, [a], l, h, e, _ => by
    obtain rfl : a = l := e
    rfl
  | 0, a :: b :: t, l, h, e, hl => by simp at hl
  | n + 1, [a], l, h, e, _ => by
    obtain rfl : a = l := e
    obtain ⟨m, hm⟩ := h.fin
    have hm : look R a = some (m, none) := hm
    unfold backF
    rw [hm]
  | n + 1, a :: b :: t, l, h, e, hl => by
    obtain rfl : a = l := e
    obtain ⟨m, hm⟩ := h.go 0 (by simp)
    have hm : look R a = some (m, some b) := hm
    have h' : PathAt R (b :: t) := ⟨List.cons_ne_nil _ _, fun i hi => h.go (i + 1) (by simp only [List.length_cons] at *; omega), by
      obtain ⟨k, hk⟩ := h.fin
      exact ⟨k, hk⟩⟩
    unfold backF
    rw [hm]
    show a :: backF n R b = _
    rw [backF_path n (b :: t) b h' rfl (by simp only [List.length_cons] at *; omega)]
theorem path_key {p : List Nat} (h : PathAt R p) : ∀ i ∈ p, i ∈ R.map (·.1) := fun i hi => by
  obtain ⟨k, hk, rfl⟩ := List.getElem_of_mem hi
  have g : p.getD k 0 = p[k] := by rw [List.getD_eq_getElem?_getD, List.getElem?_eq_getElem hk]; rfl
  have fin : ∀ x, look R (p.getD k 0) = some x → p[k] ∈ R.map (·.1) := fun x hx => by
    obtain ⟨e, he, h1, _⟩ := look_mem hx
    rw [← g, ← h1]
    exact List.mem_map.mpr ⟨e, he, rfl⟩
  by_cases hl : k + 1 < p.length
  · obtain ⟨n, hn⟩ := h.go k hl
    exact fin _ hn
  · have e : k = p.length - 1 := by omega
    obtain ⟨n, hn⟩ := h.fin
    rw [← e] at hn
    exact fin _ hn
/-- what stands in the row is a chain, found by the walk back -/
theorem row_chn (nd : L.Nodup) (hf : f ∈ L) {l : Nat} {x : Int × Option Nat} (h : look (rowT C S L ax f) l = some x) :
    Chn C S L ax f l (backM (rowT C S L ax f) l).reverse ∧ lenC C ax (backM (rowT C S L ax f) l).reverse = wl (rowT C S L ax f) l ∧ PathAt (rowT C S L ax f) (backM (rowT C S L ax f) l) := by
  have I := rowT_ok (C := C) (S := S) (ax := ax) nd hf
  obtain ⟨r, c, h1, h2⟩ := I.sound l x h
  have e : backM (rowT C S L ax f) l = r.reverse := by
    refine backF_path _ _ _ h2 ?_ ?_
    · have := c.last
      rw [List.getLastD_eq_getLast?] at this
      rw [List.headD_eq_head?_getD, List.head?_reverse]
      exact this
    · have nd2 : r.reverse.Nodup := (List.reverse_perm r).nodup_iff.mpr c.nodup
      have := nd2.length_le_of_subset (path_key h2)
      rw [List.length_map] at this
      omega
  have ew : wl (rowT C S L ax f) l = x.1 := by
    unfold wl
    rw [h]
    rfl
  rw [e, List.reverse_reverse, ew]
  exact ⟨c, h1, h2⟩
theorem row_top (nd : L.Nodup) {l : Nat} {r : List Nat} (c : Chn C S L ax f l r) : ∃ e ∈ rowT C S L ax f, e.1 = l ∧ lenC C ax r ≤ wl (rowT C S L ax f) l := by
  have I := rowT_ok (C := C) (S := S) (ax := ax) nd (c.sub f c.fmem)
  obtain ⟨x, h1, h2⟩ := I.top l r c (.inr ((ordC_perm C ax L).mem_iff.mpr (c.sub l c.lmem)))
  obtain ⟨e, he, e1, _⟩ := look_mem h1
  refine ⟨e, he, e1, ?_⟩
  unfold wl
  rw [h1]
  exact h2
theorem row_w (B : Bd C) (hL : Lot C L) (nd : L.Nodup) (hf : f ∈ L) : RowW C (rowT C S L ax f) := by
  have I := rowT_ok (C := C) (S := S) (ax := ax) nd hf
  have sh := hL.sh
  refine ⟨fun e he => ?_, fun e he => ?_, fun e he => ?_⟩
  · rcases I.keys e he with h | h
    · rw [h]; exact hL.lt f hf
    · exact hL.lt _ ((ordC_perm C ax L).mem_iff.mp h)
  · obtain ⟨x, hx⟩ := look_some he
    obtain ⟨c, h1, _⟩ := row_chn (C := C) (S := S) (ax := ax) nd hf hx
    rw [← h1]
    have := c.len
    have := (len_le B ax (ns := (backM (rowT C S L ax f) e.1).reverse) (by omega)).2
    omega
  · obtain ⟨x, hx⟩ := look_some he
    obtain ⟨c, _, h2⟩ := row_chn (C := C) (S := S) (ax := ax) nd hf hx
    have := c.len
    rw [List.length_reverse] at this
    exact ⟨h2, by omega⟩
end
end GN

/-! the greatest of all entries is the greatest of all chains -/
namespace GN
open PySem PySem.Spec PyProof.Rows L2

abbrev Cand := Num × Nat × List Nat
def pickG (b : Best) (c : Cand) : Best := if wins b c.1 then some c else b
theorem pick_step {b : Best} {c : Cand} (hb : ∀ x, b = some x → Red x.1) (hc : Red c.1) :
    ∃ y, pickG b c = some y ∧ Red y.1 ∧ later c.1 y.1 = false ∧ (∀ x, b = some x → later x.1 y.1 = false) ∧ (b = some y ∨ y = c) := by
  unfold pickG
  cases b with
  | none => exact ⟨c, rfl, hc, later_irr, fun x hx => (nomatch hx), .inr rfl⟩
  | some x =>
    by_cases h : wins (some x) c.1 = true
    · rw [if_pos h]
      refine ⟨c, rfl, hc, later_irr, fun z hz => ?_, .inr rfl⟩
      obtain rfl := Option.some.inj hz
      have h : later c.1 x.1 = true := h
      exact wins_keep (hb x rfl) (hb x rfl) hc h later_irr
    · rw [if_neg h]
      refine ⟨x, rfl, hb x rfl, ?_, fun z hz => ?_, .inl rfl⟩
      · exact Bool.eq_false_iff.mpr h
      · obtain rfl := Option.some.inj hz
        exact later_irr
theorem pick_all : ∀ (cs : List Cand) (b : Best), (∀ c ∈ cs, Red c.1) → (∀ x, b = some x → Red x.1) →
    (∀ x, b = some x → ∃ y, cs.foldl pickG b = some y ∧ Red y.1 ∧ later x.1 y.1 = false) ∧ (∀ c ∈ cs, ∃ y, cs.foldl pickG b = some y ∧ later c.1 y.1 = false) ∧ (∀ y, cs.foldl pickG b = some y → b = some y ∨ y ∈ cs)
  | [], b, _, hb => ⟨fun x hx => ⟨x, hx, hb x hx, later_irr⟩, fun c hc => (by exact absurd hc (by simp)), fun y hy => .inl hy⟩
  | c :: cs, b, hc, hb => by
    obtain ⟨y, e, ry, h1, h2, h3⟩ := pick_step hb (hc c List.mem_cons_self)
    have hb' : ∀ x, pickG b c = some x → Red x.1 := fun x hx => by
      rw [e] at hx
      obtain rfl := Option.some.inj hx
      exact ry
    obtain ⟨i1, i2, i3⟩ := pick_all cs (pickG b c) (fun x hx => hc x (List.mem_cons_of_mem _ hx)) hb'
    obtain ⟨z, ez, rz, hz⟩ := i1 y e
    rw [List.foldl_cons]
    refine ⟨fun x hx => ⟨z, ez, rz, later_trans (hb x hx) ry rz (h2 x hx) hz⟩, fun d hd => ?_, fun w hw => ?_⟩
    · rcases List.mem_cons.mp hd with rfl | hd
      · exact ⟨z, ez, later_trans (hc d List.mem_cons_self) ry rz h1 hz⟩
      · exact i2 d hd
    · rcases i3 w hw with h | h
      · rw [e] at h
        obtain rfl := Option.some.inj h
        rcases h3 with h3 | h3
        · exact .inl h3
        · exact .inr (by rw [h3]; exact List.mem_cons_self)
      · exact .inr (List.mem_cons_of_mem _ h)
theorem pick_none (cs : List Cand) (hc : ∀ c ∈ cs, Red c.1) {c : Cand} (h : c ∈ cs) : ∃ y ∈ cs, cs.foldl pickG none = some y ∧ ∀ d ∈ cs, later d.1 y.1 = false := by
  obtain ⟨_, i2, i3⟩ := pick_all cs none hc fun x hx => nomatch hx
  obtain ⟨y, ey, _⟩ := i2 c h
  refine ⟨y, (i3 y ey).elim (fun z => nomatch z) id, ey, fun d hd => ?_⟩
  obtain ⟨z, ez, hz⟩ := i2 d hd
  rw [ey] at ez
  obtain rfl := Option.some.inj ez
  exact hz
theorem fold_flat {α β γ : Type} (g : β → γ → β) (h : α → List γ) : ∀ (l : List α) (b : β), (l.flatMap h).foldl g b = l.foldl (fun b a => (h a).foldl g b) b
  | [], b => rfl
  | a :: l, b => by rw [List.flatMap_cons, List.foldl_append, fold_flat g h l]; rfl

/-! ### greatest -/
def cG (C : Ch) (S : Sd) (L : List Nat) (ax f : Nat) (e : Nat × Int × Option Nat) : Cand :=
  (numB C ax f e.1 (wl (rowT C S L ax f) e.1), ax, (backM (rowT C S L ax f) e.1).reverse)
def allG (C : Ch) (S : Sd) (L : List Nat) : List Cand := [0, 1].flatMap fun ax => L.flatMap fun f => (rowT C S L ax f).map (cG C S L ax f)
theorem greatM_pick (C : Ch) (S : Sd) (L : List Nat) : greatM C S L [0, 1] = (allG C S L).foldl pickG none := by
  unfold allG
  rw [fold_flat]
  unfold greatM
  congr 1
  funext b ax
  rw [fold_flat]
  unfold axB
  congr 1
  funext b f
  rw [List.foldl_map]
  rfl
def cT (C : Ch) (S : Sd) (L : List Nat) (nm ax f : Nat) (e : Nat × Int × Option Nat) : Cand :=
  (numB C ax f e.1 (wl (rowT C S L ax f) nm + wl (rowT C S L ax nm) e.1), ax, (backM (rowT C S L ax f) nm).reverse ++ (backM (rowT C S L ax nm) e.1).reverse.drop 1)
def allT (C : Ch) (S : Sd) (L : List Nat) (nm : Nat) : List Cand := [0, 1].flatMap fun ax => (headsU C S L ax nm).flatMap fun f => (rowT C S L ax nm).map (cT C S L nm ax f)
theorem throughM_pick (C : Ch) (S : Sd) (L : List Nat) (nm : Nat) : throughM C S L nm [0, 1] = (allT C S L nm).foldl pickG none := by
  unfold allT
  rw [fold_flat]
  unfold throughM
  congr 1
  funext b ax
  rw [fold_flat]
  unfold axU
  congr 1
  funext b f
  rw [List.foldl_map]
  rfl
section
variable {C : Ch} {S : Sd} {L : List Nat}
theorem mem_two {ax : Nat} : ax ∈ [0, 1] ↔ ax ≤ 1 := by
  simp only [List.mem_cons, List.not_mem_nil, or_false]
  omega
theorem mem_allG {c : Cand} : c ∈ allG C S L ↔ ∃ ax, ax ≤ 1 ∧ ∃ f ∈ L, ∃ e ∈ rowT C S L ax f, c = cG C S L ax f e := by
  unfold allG
  rw [List.mem_flatMap]
  constructor
  · rintro ⟨ax, hx, h⟩
    obtain ⟨f, hf, h⟩ := List.mem_flatMap.mp h
    obtain ⟨e, he, rfl⟩ := List.mem_map.mp h
    exact ⟨ax, mem_two.mp hx, f, hf, e, he, rfl⟩
  · rintro ⟨ax, hx, f, hf, e, he, rfl⟩
    exact ⟨ax, mem_two.mpr hx, List.mem_flatMap.mpr ⟨f, hf, List.mem_map.mpr ⟨e, he, rfl⟩⟩⟩
theorem mem_allT {nm : Nat} {c : Cand} : c ∈ allT C S L nm ↔ ∃ ax, ax ≤ 1 ∧ ∃ f ∈ L, ∃ x, look (rowT C S L ax f) nm = some x ∧ ∃ e ∈ rowT C S L ax nm, c = cT C S L nm ax f e := by
  unfold allT
  rw [List.mem_flatMap]
  constructor
  · rintro ⟨ax, hx, h⟩
    obtain ⟨f, hf, h⟩ := List.mem_flatMap.mp h
    obtain ⟨e, he, rfl⟩ := List.mem_map.mp h
    obtain ⟨h1, h2⟩ := List.mem_filter.mp hf
    obtain ⟨x, hx2⟩ := Option.isSome_iff_exists.mp h2
    exact ⟨ax, mem_two.mp hx, f, h1, x, hx2, e, he, rfl⟩
  · rintro ⟨ax, hx, f, hf, x, hx2, e, he, rfl⟩
    refine ⟨ax, mem_two.mpr hx, List.mem_flatMap.mpr ⟨f, List.mem_filter.mpr ⟨hf, ?_⟩, List.mem_map.mpr ⟨e, he, rfl⟩⟩⟩
    show (look (rowT C S L ax f) nm).isSome = true
    rw [hx2]
    rfl
theorem great_ok (nd : L.Nodup) (hne : L ≠ []) : ∃ n ax ns, greatM C S L [0, 1] = some (n, ax, ns) ∧ ax ≤ 1 ∧ ns ∈ chains C S L ax ∧ numC C ax ns = greatL C S L none := by
  have top : ∀ ax, ax ≤ 1 → ∀ f l r, Chn C S L ax f l r → ∃ c ∈ allG C S L, later (numC C ax r) c.1 = false := fun ax hx f l r c => by
    obtain ⟨e, he, rfl, h⟩ := row_top nd c
    refine ⟨_, mem_allG.mpr ⟨ax, hx, f, c.sub f c.fmem, e, he, rfl⟩, ?_⟩
    rw [c.num]
    exact num_mono h
  have red : ∀ c ∈ allG C S L, Red c.1 := fun c hc => by
    obtain ⟨ax, _, f, _, e, _, rfl⟩ := mem_allG.mp hc
    exact numB_red _ _ _ _ _
  obtain ⟨i, hi⟩ := List.exists_mem_of_ne_nil L hne
  obtain ⟨c, hc, _⟩ := top 0 (by omega) i i [i] (.one hi)
  obtain ⟨y, hy, ey, hall⟩ := pick_none _ red hc
  obtain ⟨ax, hx, f, hf, e, he, rfl⟩ := mem_allG.mp hy
  obtain ⟨x, hx2⟩ := look_some he
  obtain ⟨k, hk, _⟩ := row_chn (C := C) (S := S) (ax := ax) nd hf hx2
  have hnum : numC C ax (backM (rowT C S L ax f) e.1).reverse = (cG C S L ax f e).1 := by rw [k.num, hk]; rfl
  refine ⟨_, ax, _, (greatM_pick C S L).trans ey, hx, chains_iff.mpr ⟨_, _, k⟩, ?_⟩
  rw [hnum]
  refine (greatL_eq ⟨ax, hx, _, chains_iff.mpr ⟨_, _, k⟩, rfl, hnum⟩ fun ax' hx' r hr _ => ?_).symm
  obtain ⟨f', l', k'⟩ := chains_iff.mp hr
  obtain ⟨d, hd, h⟩ := top ax' hx' f' l' r k'
  exact later_trans (numC_red _ _ _) (red d hd) (red _ hy) h (hall d hd)
theorem through_ok (nd : L.Nodup) {i : Nat} (hi : i ∈ L) : ∃ n ax ns, throughM C S L i [0, 1] = some (n, ax, ns) ∧ ax ≤ 1 ∧ ns ∈ chains C S L ax ∧ i ∈ ns ∧ numC C ax ns = greatL C S L (some i) := by
  have top : ∀ ax, ax ≤ 1 → ∀ f l r, Chn C S L ax f l r → i ∈ r → ∃ c ∈ allT C S L i, later (numC C ax r) c.1 = false := fun ax hx f l r c hir => by
    obtain ⟨r1, r2, c1, c2, rfl⟩ := c.split i hir
    obtain ⟨e1, he1, q1, h1⟩ := row_top nd c1
    obtain ⟨e2, he2, rfl, h2⟩ := row_top nd c2
    obtain ⟨x, hx1⟩ := look_some he1
    rw [q1] at hx1
    refine ⟨_, mem_allT.mpr ⟨ax, hx, f, c.sub f c.fmem, x, hx1, e2, he2, rfl⟩, ?_⟩
    rw [c.num, (c1.append c2).2]
    exact num_mono (by omega)
  have red : ∀ c ∈ allT C S L i, Red c.1 := fun c hc => by
    obtain ⟨ax, _, f, _, x, _, e, _, rfl⟩ := mem_allT.mp hc
    exact numB_red _ _ _ _ _
  obtain ⟨c, hc, _⟩ := top 0 (by omega) i i [i] (.one hi) List.mem_cons_self
  obtain ⟨y, hy, ey, hall⟩ := pick_none _ red hc
  obtain ⟨ax, hx, f, hf, x1, hx1, e, he, rfl⟩ := mem_allT.mp hy
  obtain ⟨x2, hx2⟩ := look_some he
  obtain ⟨k1, hk1, _⟩ := row_chn (C := C) (S := S) (ax := ax) nd hf hx1
  obtain ⟨k2, hk2, _⟩ := row_chn (C := C) (S := S) (ax := ax) nd hi hx2
  obtain ⟨k, hk⟩ := k1.append k2
  have hnum : numC C ax ((backM (rowT C S L ax f) i).reverse ++ (backM (rowT C S L ax i) e.1).reverse.drop 1) = (cT C S L i ax f e).1 := by rw [k.num, hk, hk1, hk2]; rfl
  have him := k1.mem_append k2
  refine ⟨_, ax, _, (throughM_pick C S L i).trans ey, hx, chains_iff.mpr ⟨_, _, k⟩, him, ?_⟩
  rw [hnum]
  refine (greatL_eq ⟨ax, hx, _, chains_iff.mpr ⟨_, _, k⟩, ?_, hnum⟩ fun ax' hx' r hr hp => ?_).symm
  · show decide (i ∈ _) = true
    exact decide_eq_true him
  obtain ⟨f', l', k'⟩ := chains_iff.mp hr
  have hp : decide (i ∈ r) = true := hp
  obtain ⟨d, hd, h⟩ := top ax' hx' f' l' r k' (of_decide_eq_true hp)
  exact later_trans (numC_red _ _ _) (red d hd) (red _ hy) h (hall d hd)
theorem right_of (W : WS C S) (B : Bd C) (hL : Lot C L) (nd : L.Nodup) (sm : C.length ≤ 100) : Right C S L :=
  ⟨⟨W, B, hL, nd, sm, fun ax _ f hf => row_w B hL nd hf, fun h => let ⟨_, _, _, e, _⟩ := great_ok nd h; ⟨_, e⟩, fun i hi => let ⟨_, _, _, e, _⟩ := through_ok nd hi; ⟨_, e⟩⟩, great_ok nd, fun i hi => through_ok nd hi⟩
end
end GN

/-! the hand's map and the drawn maps -/
namespace GN
open PySem PySem.Spec PyProof.Rows L2

theorem bd_of {C : Ch} (h : ∀ n ∈ C, (0 ≤ n.w ∧ n.w ≤ 100 ∧ 0 ≤ n.h ∧ n.h ≤ 100) ∧ (-100 ≤ n.ac.a ∧ n.ac.b ≤ 100 ∧ -100 ≤ n.ac.c ∧ -100 ≤ n.ac.d) ∧ (-100 ≤ n.dn.a ∧ n.dn.b ≤ 100 ∧ -100 ≤ n.dn.c ∧ -100 ≤ n.dn.d)) : Bd C := by
  have at_ : ∀ i, (0 ≤ (nm C i).w ∧ (nm C i).w ≤ 100 ∧ 0 ≤ (nm C i).h ∧ (nm C i).h ≤ 100) ∧ (-100 ≤ (nm C i).ac.a ∧ (nm C i).ac.b ≤ 100 ∧ -100 ≤ (nm C i).ac.c ∧ -100 ≤ (nm C i).ac.d) ∧ (-100 ≤ (nm C i).dn.a ∧ (nm C i).dn.b ≤ 100 ∧ -100 ≤ (nm C i).dn.c ∧ -100 ≤ (nm C i).dn.d) := fun i => by
    unfold nm
    rw [List.getD_eq_getElem?_getD]
    by_cases hi : i < C.length
    · rw [List.getElem?_eq_getElem hi]
      exact h _ (List.getElem_mem hi)
    · rw [List.getElem?_eq_none (by omega)]
      decide
  refine ⟨fun ax i => ?_, fun ax i => ?_⟩
  · obtain ⟨⟨a, b, c, d⟩, _⟩ := at_ i
    unfold sz
    split
    · exact ⟨a, b⟩
    · exact ⟨c, d⟩
  · obtain ⟨_, h1, h2⟩ := at_ i
    unfold te
    split
    · exact h1
    · exact h2
theorem hand_ok : HandOk := by
  have W : WS chH sdH := ⟨rfl, fun j hj => by
    match j, hj with
    | 0, _ => rfl
    | 1, _ => rfl
    | 2, _ => rfl
    | j + 3, h => exact absurd (show j + 3 < 3 from h) (by omega)⟩
  have B : Bd chH := bd_of (by decide)
  refine ⟨(right_of W B ⟨by decide, by decide⟩ (by decide) (by decide)).ok, (right_of W B ⟨by decide, by decide⟩ (by decide) (by decide)).ok, (right_of W B ⟨by decide, by decide⟩ (by decide) (by decide)).ok⟩
theorem many_rng (t : Tin) : 1 ≤ manyM t 5 ∧ manyM t 5 ≤ 5 := by
  have := take_rng t (n := 5) (by omega)
  unfold manyM
  omega
theorem ch_len (t : Tin) (lim : Int) : (chM t lim).length = manyM t lim := by
  unfold chM namesM
  rw [List.length_map, List.length_range]
theorem draw_right (t : Tin) : Right (chM t 5) (sdM t 5) (lotM (afterM t 5) (chM t 5).length) := by
  obtain ⟨m1, m2⟩ := many_rng t
  have hl := ch_len t 5
  have rl : (lotM (afterM t 5) (chM t 5).length).Sublist (List.range (chM t 5).length) := by
    unfold lotM
    split
    · exact List.Sublist.refl _
    · exact List.filter_sublist
  refine right_of ⟨?_, fun j hj => ?_⟩ (bd_of fun n hn => ?_) ⟨fun i hi => List.mem_range.mp (rl.subset hi), ?_⟩ (rl.nodup List.nodup_range) (by omega)
  · rw [hl]
    unfold sdM flanksM
    rw [List.length_map, List.length_range]
  · unfold sdM flanksM
    rw [List.getD_eq_getElem?_getD, List.getElem?_eq_getElem (by rw [List.length_map, List.length_range]; omega)]
    rw [List.getElem_map, List.getElem_range]
    show (rowM _ j).length = j
    unfold rowM
    rw [List.length_map, List.length_range]
  · unfold chM namesM at hn
    obtain ⟨i, _, rfl⟩ := List.mem_map.mp hn
    generalize stN (takeM t 5).2 i = u
    have r1 := take_rng u (n := 6) (by omega)
    have r2 := take_rng (takeM u 6).2 (n := 3) (by omega)
    have t1 := (tether_rng (takeM (takeM u 6).2 3).2 (far := 9) (by omega) (by omega)).b
    have t2 := (tether_rng (tetherM (takeM (takeM u 6).2 3).2 9).2 (far := 5) (by omega) (by omega)).b
    refine ⟨?_, t1, t2⟩
    show 0 ≤ 1 + _ ∧ 1 + _ ≤ 100 ∧ 0 ≤ 1 + _ ∧ 1 + _ ≤ 100
    omega
  · have := rl.length_le
    rw [List.length_range] at this
    omega
end GN

/-! what the top leaves, as the walk asks for it -/
namespace GN
open PySem PySem.Spec PyProof.Rows L2

abbrev BindsD (x : Str) (st : Stmt) (ps : List Str) : Prop := ∀ (kV doc pm : Value) (an : Option Addr) (cdv ct : Value) (us : List Value), us.length = ps.length → bindArgs (PySem.W.fnOf x x (defArgs st) (defBody st) (defScope st) .none kV doc pm an cdv ct) ⟨us, []⟩ = pure (ps.zip us)
theorem b_tuple_of : BindsD "tuple_of" s_tuple_of ["thing"] := fun _ _ _ _ _ _ us hl => match us, hl with | [_], _ => rfl
theorem b_fraction : BindsD "fraction" s_fraction ["top", "below"] := fun _ _ _ _ _ _ us hl => match us, hl with | [_, _], _ => rfl
theorem b_is_less : BindsD "is_less" s_is_less ["one", "other"] := fun _ _ _ _ _ _ us hl => match us, hl with | [_, _], _ => rfl
theorem b_sure_one : BindsD "sure_one" s_sure_one ["own", "name"] := fun _ _ _ _ _ _ us hl => match us, hl with | [_, _], _ => rfl
theorem b_rank_of : BindsD "rank_of" s_rank_of ["own", "axis", "name"] := fun _ _ _ _ _ _ us hl => match us, hl with | [_, _, _], _ => rfl
theorem b_is_before : BindsD "is_before" s_is_before ["own", "sides", "axis", "one", "other"] := fun _ _ _ _ _ _ us hl => match us, hl with | [_, _, _, _, _], _ => rfl
theorem b_length_of : BindsD "length_of" s_length_of ["chart", "chain"] := fun _ _ _ _ _ _ us hl => match us, hl with | [_, _], _ => rfl
theorem b_need_by : BindsD "need_by" s_need_by ["own", "axis", "first", "last", "length"] := fun _ _ _ _ _ _ us hl => match us, hl with | [_, _, _, _, _], _ => rfl
theorem b_way_by : BindsD "way_by" s_way_by ["own", "axis", "first", "last"] := fun _ _ _ _ _ _ us hl => match us, hl with | [_, _, _, _], _ => rfl
theorem b_number_by : BindsD "number_by" s_number_by ["own", "axis", "first", "last", "length"] := fun _ _ _ _ _ _ us hl => match us, hl with | [_, _, _, _, _], _ => rfl
theorem b_number_of : BindsD "number_of" s_number_of ["chart", "chain"] := fun _ _ _ _ _ _ us hl => match us, hl with | [_, _], _ => rfl
theorem b_is_later : BindsD "is_later" s_is_later ["one", "other"] := fun _ _ _ _ _ _ us hl => match us, hl with | [_, _], _ => rfl
theorem b_in_order : BindsD "in_order" s_in_order ["own", "lot", "axis"] := fun _ _ _ _ _ _ us hl => match us, hl with | [_, _, _], _ => rfl
theorem b_lengths_from : BindsD "lengths_from" s_lengths_from ["own", "sides", "order", "axis", "first"] := fun _ _ _ _ _ _ us hl => match us, hl with | [_, _, _, _, _], _ => rfl
theorem b_tables_of : BindsD "tables_of" s_tables_of ["own", "sides", "lot"] := fun _ _ _ _ _ _ us hl => match us, hl with | [_, _, _], _ => rfl
theorem b_names_back : BindsD "names_back" s_names_back ["row", "last"] := fun _ _ _ _ _ _ us hl => match us, hl with | [_, _], _ => rfl
theorem b_greatest_in : BindsD "greatest_in" s_greatest_in ["own", "sides", "lot"] := fun _ _ _ _ _ _ us hl => match us, hl with | [_, _, _], _ => rfl
theorem b_greatest_chain : BindsD "greatest_chain" s_greatest_chain ["chart", "sides", "lot"] := fun _ _ _ _ _ _ us hl => match us, hl with | [_, _, _], _ => rfl
theorem b_through_in : BindsD "through_in" s_through_in ["own", "sides", "lot", "name"] := fun _ _ _ _ _ _ us hl => match us, hl with | [_, _, _, _], _ => rfl
theorem b_through : BindsD "through" s_through ["chart", "sides", "lot", "name"] := fun _ _ _ _ _ _ us hl => match us, hl with | [_, _, _, _], _ => rfl
theorem b__law_box : BindsD "_law_box" s_law_box ["_law_script", "_law_k"] := fun _ _ _ _ _ _ us hl => match us, hl with | [_, _], _ => rfl
theorem b__law_take : BindsD "_law_take" s_law_take ["_law_tin", "_law_below"] := fun _ _ _ _ _ _ us hl => match us, hl with | [_, _], _ => rfl
theorem b__law_cells : BindsD "_law_cells" s_law_cells ["_law_script", "_law_limit"] := fun _ _ _ _ _ _ us hl => match us, hl with | [_, _], _ => rfl
theorem b__law_same : BindsD "_law_same" s_law_same ["_law_got", "_law_goal"] := fun _ _ _ _ _ _ us hl => match us, hl with | [_, _], _ => rfl
theorem b__law_lists : BindsD "_law_lists" s_law_lists ["_law_matter"] := fun _ _ _ _ _ _ us hl => match us, hl with | [_], _ => rfl
theorem b__law_low : BindsD "_law_low" s_law_low ["_law_top", "_law_below"] := fun _ _ _ _ _ _ us hl => match us, hl with | [_, _], _ => rfl
theorem b__law_under : BindsD "_law_under" s_law_under ["_law_one", "_law_other"] := fun _ _ _ _ _ _ us hl => match us, hl with | [_, _], _ => rfl
theorem b__law_of : BindsD "_law_of" s_law_of ["_law_tin", "_law_goods"] := fun _ _ _ _ _ _ us hl => match us, hl with | [_, _], _ => rfl
theorem b__law_tether : BindsD "_law_tether" s_law_tether ["_law_tin", "_law_far"] := fun _ _ _ _ _ _ us hl => match us, hl with | [_, _], _ => rfl
theorem b__law_chart : BindsD "_law_chart" s_law_chart ["_law_tin", "_law_limit"] := fun _ _ _ _ _ _ us hl => match us, hl with | [_, _], _ => rfl
theorem b__law_lot : BindsD "_law_lot" s_law_lot ["_law_tin", "_law_many"] := fun _ _ _ _ _ _ us hl => match us, hl with | [_, _], _ => rfl
theorem b__law_before : BindsD "_law_before" s_law_before ["_law_chart_here", "_law_flanks", "_law_axis", "_law_one", "_law_other"] := fun _ _ _ _ _ _ us hl => match us, hl with | [_, _, _, _, _], _ => rfl
theorem b__law_chains : BindsD "_law_chains" s_law_chains ["_law_chart_here", "_law_flanks", "_law_lot_here", "_law_axis"] := fun _ _ _ _ _ _ us hl => match us, hl with | [_, _, _, _], _ => rfl
theorem b__law_length : BindsD "_law_length" s_law_length ["_law_chart_here", "_law_axis", "_law_row"] := fun _ _ _ _ _ _ us hl => match us, hl with | [_, _, _], _ => rfl
theorem b__law_number : BindsD "_law_number" s_law_number ["_law_chart_here", "_law_axis", "_law_row"] := fun _ _ _ _ _ _ us hl => match us, hl with | [_, _, _], _ => rfl
theorem b__law_greatest : BindsD "_law_greatest" s_law_greatest ["_law_chart_here", "_law_flanks", "_law_lot_here", "_law_name"] := fun _ _ _ _ _ _ us hl => match us, hl with | [_, _, _, _], _ => rfl
theorem b__law_is_chain : BindsD "_law_is_chain" s_law_is_chain ["_law_chart_here", "_law_flanks", "_law_lot_here", "_law_thing"] := fun _ _ _ _ _ _ us hl => match us, hl with | [_, _, _, _], _ => rfl
theorem b__law_heard : BindsD "_law_heard" s_law_heard ["_law_chart_here", "_law_flanks", "_law_lot_here", "_law_name"] := fun _ _ _ _ _ _ us hl => match us, hl with | [_, _, _, _], _ => rfl
theorem b__law_hand_right : BindsD "_law_hand_right" s_law_hand_right [] := fun _ _ _ _ _ _ us hl => match us, hl with | [], _ => rfl
theorem b__law_right : BindsD "_law_right" s_law_right ["_law_tin"] := fun _ _ _ _ _ _ us hl => match us, hl with | [_], _ => rfl
theorem b_law : BindsD "law" s_law ["_law_script"] := fun _ _ _ _ _ _ us hl => match us, hl with | [_], _ => rfl
section
variable {K : PySem.W.Frag} {h : Heap} {mg : Str → Option Value}
theorem def_mk {x : Str} {st : Stmt} {ps : List Str} (b : BindsD x st ps) (X : K.In h) (G : h.Ns mainGlobals mg) {f : Addr} {oc : Value} {od an : Option Addr} {osl : Array (Option Value)} {kV doc pm cdv ct : Value}
    (a : PySem.W.nsIn K mainGlobals x = some (some (.ref f))) (l : K.lookup f = some ⟨oc, od, .func (PySem.W.fnOf x x (defArgs st) (defBody st) (defScope st) .none kV doc pm an cdv ct), osl⟩)
    (c : PySem.W.codeIn K cdv x = true) (k : PySem.W.keepIn K (.ref f) = true) : Def K mg x st ps :=
  ⟨f, _, fun_mk l c k, PySem.W.mg_of X G a, (fun_mk l c k).binds b⟩
theorem err_mk {CN : Addr} (X : K.In h) (G : h.Ns mainGlobals mg) (aC : PySem.W.nsIn K mainGlobals "CanNot" = some (some (.ref CN))) (kC : PySem.W.keepIn K (.ref CN) = true)
    (q : PySem.W.excIn K CN [.type "ValueError", .type "Exception", .type "BaseException", .type "object"] "ValueError.__new__" = true) (exC : PySem.W.subIn K (.ref CN) (.type "BaseException") = some true) (tyC : PySem.W.typeIn K (.ref CN) = some (.type "type"))
    (hd : PySem.W.hasDictIn K CN = true) (sC : PySem.W.subIn K (.ref CN) (.ref CN) = some true) (hg : PySem.W.findIn K (.ref CN) "__getattribute__" = some (some (.builtin "BaseException.__getattribute__"))) (hk : PySem.W.findIn K (.ref CN) "__getattr__" = some none)
    (ha : PySem.W.findIn K (.ref CN) "__class__" = some (some (.builtin "object.__class__"))) (hn : PySem.W.specialIn K (.builtin "object.__class__") "__get__" = some (some (.builtin "getset_descriptor.__get__"))) (ht : PySem.W.takesIn K (.builtin "object.__class__") = some true)
    (hm : PySem.W.mroIn K CN (.type "object") = some true) (kit : PySem.W.kitOne K (.ref CN) (.type "ValueError") = some true) : ErrC K mg CN :=
  ⟨PySem.W.mg_of X G aC, kC, q, exC, tyC, PySem.W.exm_ref exC hd tyC sC, ⟨hg, hk, exC, hd, ha, hn, ht, hm⟩, kit⟩
abbrev tLm (Q : Addr) : Tb := [(Q, "in_order" ++ ".<locals>." ++ "<lambda>")]
theorem law_at {l : PySem.W.OpenLaw} {w : World} {fa CN : Addr} (X : K.In h) (G : h.Ns mainGlobals mg) (hfa : mg "law" = some (.ref fa)) (Z : Txt K mg) (EC : ErrC K mg CN) {f c Q : Addr} {oc : Value} {od an : Option Addr} {osl : Array (Option Value)} {kV doc pm ct : Value}
    (a : PySem.W.nsIn K mainGlobals "in_order" = some (some (.ref f))) (lk : K.lookup f = some ⟨oc, od, .func (PySem.W.fnOf "in_order" "in_order" (defArgs s_in_order) (defBody s_in_order) (defScope s_in_order) .none kV doc pm an (.ref c) ct), osl⟩)
    (cd : PySem.W.codeIn K (.ref c) "in_order" = true) (k : PySem.W.keepIn K (.ref f) = true) (hd : PySem.W.codeHdIn K c Q = true) (hQ : h.get? Q = some { cls := .none, data := .fields #[] }) (nQ : K.lookup Q = none) :
    LamX.LawAtS l w K CX0 13 63 "_law_script" mg fa h := by
  obtain ⟨f2, fd, F, m, _⟩ := Z.d_law
  cases hfa.symm.trans m
  refine ⟨fd, [(c, Q)], spLaw (tLm Q) K, fun p hp => ?_, fun p hp => ?_, fun p hp => ?_, fun s u => ?_, fun H a ns hl _ hT hS => ?_, fun base X2 G2 TB => ?_⟩
  · rw [List.mem_singleton.mp hp]; exact hQ
  · rw [List.mem_singleton.mp hp]; exact nQ
  · rw [List.mem_singleton.mp hp]; exact PySem.W.codeHd_of_K X hd
  · obtain ⟨oc, od, kV, doc, pm, an, cdv, ct, osl, rfl, _, _⟩ := F.ex
    exact .of_eq (b_law _ _ _ _ _ _ [u] rfl)
  · refine ⟨a, ns, rfl, hS, by omega, fun p hp => ?_, fun _ => rfl⟩
    rw [List.mem_singleton.mp hp]
    exact LamX.TabS.nil (hT (c, Q) (List.mem_singleton.mpr rfl))
  · have FI := fun_mk (st := s_in_order) lk cd k
    have M : Lam K mg base (tLm Q) := ⟨f, _, c, Q, FI, PySem.W.mg_of X G a, FI.binds b_in_order, rfl, TB (c, Q) (List.mem_singleton.mpr rfl), List.mem_singleton.mpr rfl, fun p hp _ => by rw [List.mem_singleton.mp hp]⟩
    exact ok_law Z M EC hand_ok (fun t _ => draw_right t) F
end
end GN

/-! the end -/
open PySem PySem.W PySem.Calls PyProof.Rows
set_option maxRecDepth 100000 in
set_option maxHeartbeats 0 in
theorem PySem.Challenge.cw_glidenames_k13_whole_greatest_chains_jud_holds : PySem.Challenge.rw_glidenames_k13_whole_greatest_chains_jud.Holds := by
  w_on; o_law; k_head; (case hw => w_witness2)
  k_fill
  refine LamX.walk_ofTs (l := PySem.Challenge.rw_glidenames_k13_whole_greatest_chains_jud) (n := 63) (k := 13) (x := "_law_script") (CX := fun _ => L2.CX0) rfl (by decide) rfl ⟨rfl, by decide, by decide⟩ (fun w h Y => PySem.W.km_in_of Y) ?F (fun _ _ _ _ _ z => z)
  case F =>
    intro w mg fa h Y KX G hmg
    have hQ := PySem.W.km_tabs_of Y 170 (by first | exact List.mem_cons_self | decide)
    refine' GN.law_at KX G hmg ?xZ ?xE ?xa ?xl ?xc ?xk ?xd hQ ?xn
    case xE =>
      refine' GN.err_mk KX G ?eaC ?ekC ?eq ?eex ?ety ?ehd ?esC ?ehg ?ehk ?eha ?ehn ?eht ?ehm ?ekit
      (case eaC => k_is)
      (case ekC => k_is)
      (case eq => first | k_is | kernel_rfl | decide +kernel)
      (case eex => k_is)
      (case ety => k_is)
      (case ehd => first | k_is | kernel_rfl)
      (case esC => first | k_is | kernel_rfl)
      (case ehg => k_is)
      (case ehk => k_is)
      (case eha => k_is)
      (case ehn => first | k_is | kernel_rfl)
      (case eht => first | k_is | kernel_rfl)
      (case ehm => first | k_is | kernel_rfl)
      (case ekit => first | k_is | kernel_rfl)
    (case xa => k_is)
    (case xl => k_is)
    (case xc => k_is)
    (case xk => k_is)
    (case xd => first | k_is | kernel_rfl)
    (case xn => first | kernel_rfl | rfl)
    case xZ =>
      constructor
      case d_tuple_of => (refine' GN.def_mk GN.b_tuple_of KX G ?a0 ?l0 ?c0 ?k0; (case a0 => k_is); (case l0 => k_is); (case c0 => k_is); (case k0 => k_is))
      case d_fraction => (refine' GN.def_mk GN.b_fraction KX G ?a1 ?l1 ?c1 ?k1; (case a1 => k_is); (case l1 => k_is); (case c1 => k_is); (case k1 => k_is))
      case d_is_less => (refine' GN.def_mk GN.b_is_less KX G ?a2 ?l2 ?c2 ?k2; (case a2 => k_is); (case l2 => k_is); (case c2 => k_is); (case k2 => k_is))
      case d_sure_one => (refine' GN.def_mk GN.b_sure_one KX G ?a3 ?l3 ?c3 ?k3; (case a3 => k_is); (case l3 => k_is); (case c3 => k_is); (case k3 => k_is))
      case d_rank_of => (refine' GN.def_mk GN.b_rank_of KX G ?a4 ?l4 ?c4 ?k4; (case a4 => k_is); (case l4 => k_is); (case c4 => k_is); (case k4 => k_is))
      case d_is_before => (refine' GN.def_mk GN.b_is_before KX G ?a5 ?l5 ?c5 ?k5; (case a5 => k_is); (case l5 => k_is); (case c5 => k_is); (case k5 => k_is))
      case d_length_of => (refine' GN.def_mk GN.b_length_of KX G ?a6 ?l6 ?c6 ?k6; (case a6 => k_is); (case l6 => k_is); (case c6 => k_is); (case k6 => k_is))
      case d_need_by => (refine' GN.def_mk GN.b_need_by KX G ?a7 ?l7 ?c7 ?k7; (case a7 => k_is); (case l7 => k_is); (case c7 => k_is); (case k7 => k_is))
      case d_way_by => (refine' GN.def_mk GN.b_way_by KX G ?a8 ?l8 ?c8 ?k8; (case a8 => k_is); (case l8 => k_is); (case c8 => k_is); (case k8 => k_is))
      case d_number_by => (refine' GN.def_mk GN.b_number_by KX G ?a9 ?l9 ?c9 ?k9; (case a9 => k_is); (case l9 => k_is); (case c9 => k_is); (case k9 => k_is))
      case d_number_of => (refine' GN.def_mk GN.b_number_of KX G ?a10 ?l10 ?c10 ?k10; (case a10 => k_is); (case l10 => k_is); (case c10 => k_is); (case k10 => k_is))
      case d_is_later => (refine' GN.def_mk GN.b_is_later KX G ?a11 ?l11 ?c11 ?k11; (case a11 => k_is); (case l11 => k_is); (case c11 => k_is); (case k11 => k_is))
      case d_in_order => (refine' GN.def_mk GN.b_in_order KX G ?a12 ?l12 ?c12 ?k12; (case a12 => k_is); (case l12 => k_is); (case c12 => k_is); (case k12 => k_is))
      case d_lengths_from => (refine' GN.def_mk GN.b_lengths_from KX G ?a13 ?l13 ?c13 ?k13; (case a13 => k_is); (case l13 => k_is); (case c13 => k_is); (case k13 => k_is))
      case d_tables_of => (refine' GN.def_mk GN.b_tables_of KX G ?a14 ?l14 ?c14 ?k14; (case a14 => k_is); (case l14 => k_is); (case c14 => k_is); (case k14 => k_is))
      case d_names_back => (refine' GN.def_mk GN.b_names_back KX G ?a15 ?l15 ?c15 ?k15; (case a15 => k_is); (case l15 => k_is); (case c15 => k_is); (case k15 => k_is))
      case d_greatest_in => (refine' GN.def_mk GN.b_greatest_in KX G ?a16 ?l16 ?c16 ?k16; (case a16 => k_is); (case l16 => k_is); (case c16 => k_is); (case k16 => k_is))
      case d_greatest_chain => (refine' GN.def_mk GN.b_greatest_chain KX G ?a17 ?l17 ?c17 ?k17; (case a17 => k_is); (case l17 => k_is); (case c17 => k_is); (case k17 => k_is))
      case d_through_in => (refine' GN.def_mk GN.b_through_in KX G ?a18 ?l18 ?c18 ?k18; (case a18 => k_is); (case l18 => k_is); (case c18 => k_is); (case k18 => k_is))
      case d_through => (refine' GN.def_mk GN.b_through KX G ?a19 ?l19 ?c19 ?k19; (case a19 => k_is); (case l19 => k_is); (case c19 => k_is); (case k19 => k_is))
      case d_law_box => (refine' GN.def_mk GN.b__law_box KX G ?a20 ?l20 ?c20 ?k20; (case a20 => k_is); (case l20 => k_is); (case c20 => k_is); (case k20 => k_is))
      case d_law_take => (refine' GN.def_mk GN.b__law_take KX G ?a21 ?l21 ?c21 ?k21; (case a21 => k_is); (case l21 => k_is); (case c21 => k_is); (case k21 => k_is))
      case d_law_cells => (refine' GN.def_mk GN.b__law_cells KX G ?a22 ?l22 ?c22 ?k22; (case a22 => k_is); (case l22 => k_is); (case c22 => k_is); (case k22 => k_is))
      case d_law_same => (refine' GN.def_mk GN.b__law_same KX G ?a23 ?l23 ?c23 ?k23; (case a23 => k_is); (case l23 => k_is); (case c23 => k_is); (case k23 => k_is))
      case d_law_lists => (refine' GN.def_mk GN.b__law_lists KX G ?a24 ?l24 ?c24 ?k24; (case a24 => k_is); (case l24 => k_is); (case c24 => k_is); (case k24 => k_is))
      case d_law_low => (refine' GN.def_mk GN.b__law_low KX G ?a25 ?l25 ?c25 ?k25; (case a25 => k_is); (case l25 => k_is); (case c25 => k_is); (case k25 => k_is))
      case d_law_under => (refine' GN.def_mk GN.b__law_under KX G ?a26 ?l26 ?c26 ?k26; (case a26 => k_is); (case l26 => k_is); (case c26 => k_is); (case k26 => k_is))
      case d_law_of => (refine' GN.def_mk GN.b__law_of KX G ?a27 ?l27 ?c27 ?k27; (case a27 => k_is); (case l27 => k_is); (case c27 => k_is); (case k27 => k_is))
      case d_law_tether => (refine' GN.def_mk GN.b__law_tether KX G ?a28 ?l28 ?c28 ?k28; (case a28 => k_is); (case l28 => k_is); (case c28 => k_is); (case k28 => k_is))
      case d_law_chart => (refine' GN.def_mk GN.b__law_chart KX G ?a29 ?l29 ?c29 ?k29; (case a29 => k_is); (case l29 => k_is); (case c29 => k_is); (case k29 => k_is))
      case d_law_lot => (refine' GN.def_mk GN.b__law_lot KX G ?a30 ?l30 ?c30 ?k30; (case a30 => k_is); (case l30 => k_is); (case c30 => k_is); (case k30 => k_is))
      case d_law_before => (refine' GN.def_mk GN.b__law_before KX G ?a31 ?l31 ?c31 ?k31; (case a31 => k_is); (case l31 => k_is); (case c31 => k_is); (case k31 => k_is))
      case d_law_chains => (refine' GN.def_mk GN.b__law_chains KX G ?a32 ?l32 ?c32 ?k32; (case a32 => k_is); (case l32 => k_is); (case c32 => k_is); (case k32 => k_is))
      case d_law_length => (refine' GN.def_mk GN.b__law_length KX G ?a33 ?l33 ?c33 ?k33; (case a33 => k_is); (case l33 => k_is); (case c33 => k_is); (case k33 => k_is))
      case d_law_number => (refine' GN.def_mk GN.b__law_number KX G ?a34 ?l34 ?c34 ?k34; (case a34 => k_is); (case l34 => k_is); (case c34 => k_is); (case k34 => k_is))
      case d_law_greatest => (refine' GN.def_mk GN.b__law_greatest KX G ?a35 ?l35 ?c35 ?k35; (case a35 => k_is); (case l35 => k_is); (case c35 => k_is); (case k35 => k_is))
      case d_law_is_chain => (refine' GN.def_mk GN.b__law_is_chain KX G ?a36 ?l36 ?c36 ?k36; (case a36 => k_is); (case l36 => k_is); (case c36 => k_is); (case k36 => k_is))
      case d_law_heard => (refine' GN.def_mk GN.b__law_heard KX G ?a37 ?l37 ?c37 ?k37; (case a37 => k_is); (case l37 => k_is); (case c37 => k_is); (case k37 => k_is))
      case d_law_hand_right => (refine' GN.def_mk GN.b__law_hand_right KX G ?a38 ?l38 ?c38 ?k38; (case a38 => k_is); (case l38 => k_is); (case c38 => k_is); (case k38 => k_is))
      case d_law_right => (refine' GN.def_mk GN.b__law_right KX G ?a39 ?l39 ?c39 ?k39; (case a39 => k_is); (case l39 => k_is); (case c39 => k_is); (case k39 => k_is))
      case d_law => (refine' GN.def_mk GN.b_law KX G ?a40 ?l40 ?c40 ?k40; (case a40 => k_is); (case l40 => k_is); (case c40 => k_is); (case k40 => k_is))
      case n_len => (refine' PySem.W.mg_none_of KX G ?z0; (case z0 => k_is))
      case n_max => (refine' PySem.W.mg_none_of KX G ?z1; (case z1 => k_is))
      case n_min => (refine' PySem.W.mg_none_of KX G ?z2; (case z2 => k_is))
      case n_sum => (refine' PySem.W.mg_none_of KX G ?z3; (case z3 => k_is))
      case n_abs => (refine' PySem.W.mg_none_of KX G ?z4; (case z4 => k_is))
      case n_int => (refine' PySem.W.mg_none_of KX G ?z5; (case z5 => k_is))
      case n_list => (refine' PySem.W.mg_none_of KX G ?z6; (case z6 => k_is))
      case n_tuple => (refine' PySem.W.mg_none_of KX G ?z7; (case z7 => k_is))
      case n_isinstance => (refine' PySem.W.mg_none_of KX G ?z8; (case z8 => k_is))
      case n_bool => (refine' PySem.W.mg_none_of KX G ?z9; (case z9 => k_is))
      case n_str => (refine' PySem.W.mg_none_of KX G ?z10; (case z10 => k_is))
      case n_all => (refine' PySem.W.mg_none_of KX G ?z11; (case z11 => k_is))
      case n_zip => (refine' PySem.W.mg_none_of KX G ?z12; (case z12 => k_is))
      case n_range => (refine' PySem.W.mg_none_of KX G ?z13; (case z13 => k_is))
      case n_enumerate => (refine' PySem.W.mg_none_of KX G ?z14; (case z14 => k_is))
      case n_sorted => (refine' PySem.W.mg_none_of KX G ?z15; (case z15 => k_is))
      case n_ValueError => (refine' PySem.W.mg_none_of KX G ?z16; (case z16 => k_is))
      case g_gcd => (refine' PySem.W.mg_of KX G ?zg; (case zg => k_is))

