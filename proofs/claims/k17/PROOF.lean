import PyProof.Rows.All
import Wide.All
import OpenK.AllK
import Wide.FinOn
import HandS.ForMost
import HandS.ForExc
import HandS.Walk
import HandS.Deep
import HandS.Lambda
import HandS.EndTab
import HandS.TryMany
import HandS.ExcInit
import HandS.ExcField
import HandS.IsInst
import HandS.Gcd
import HandS.Wide
import HandS.TupAny
import HandS.CallLocal
import PyProof.ReprReads
import KE.KNestM
import HandS.EndOwn
import KE.GoesMore
import HandS.Style
import HandS.Defaults
import KE.DataCmp
import KE.DataMinMax
import KE.DatumOrd
import HandS.Star
import HandS.SortKw
import PySem.Challenge.RW_sailcut_k17_whole_cloth
set_option Elab.async false
set_option linter.all false
set_option maxRecDepth 100000
set_option maxHeartbeats 4000000
/-! Dl: a layer of plain data over the hand layer: what a value stands for, and what a reading gives, told without the heap. -/
namespace Dl
open PySem PySem.Spec PyProof.Rows L2
abbrev D := PyData
def kD : Key → D
  | .inl i => .int i
  | .inr x => .str x
mutual
/-- the value v stands for the data d, as far as G is known -/
inductive R (K : PySem.W.Frag) (G : Hp) : V → D → Prop
  | non : R K G .non .none
  | bl (b : Bool) : R K G (.bl b) (.bool b)
  | int (i : Int) : R K G (.int i) (.int i)
  | str (x : Str) : R K G (.str x) (.str x)
  | lst {a : Addr} {xs : List V} {ds : List D} : SqL K G a xs → RA K G xs ds → R K G (.ref a) (.list ds)
  | tup {a : Addr} {xs : List V} {ds : List D} : SqT K G a xs → RA K G xs ds → R K G (.ref a) (.tuple ds)
  | dic {a : Addr} {ks : List (Key × V)} {ds : List (D × D)} : G a = some (.dK ks) → RK K G ks ds → R K G (.ref a) (.dict ds)
inductive RA (K : PySem.W.Frag) (G : Hp) : List V → List D → Prop
  | nil : RA K G [] []
  | cons {v : V} {vs : List V} {d : D} {ds : List D} : R K G v d → RA K G vs ds → RA K G (v :: vs) (d :: ds)
inductive RK (K : PySem.W.Frag) (G : Hp) : List (Key × V) → List (D × D) → Prop
  | nil : RK K G [] []
  | cons {k : Key} {v : V} {ks : List (Key × V)} {d : D} {ds : List (D × D)} : R K G v d → RK K G ks ds → RK K G ((k, v) :: ks) ((kD k, d) :: ds)
end
section
variable {K : PySem.W.Frag} {G G' H H' : Hp}
theorem sameT {a : Addr} {xs : List V} (e : Same G G') (h : SqT K G a xs) : SqT K G' a xs := by
  rcases h with (h | ⟨o, h⟩) | h
  · exact .inl (.inl (e _ _ h))
  · exact .inl (.inr ⟨o, e _ _ h⟩)
  · exact .inr h
mutual
theorem R.mono (e : Same G G') : ∀ {v : V} {d : D}, R K G v d → R K G' v d
  | _, _, .non => .non
  | _, _, .bl b => .bl b
  | _, _, .int i => .int i
  | _, _, .str x => .str x
  | _, _, .lst h r => .lst (e.seq h) (RA.mono e r)
  | _, _, .tup h r => .tup (sameT e h) (RA.mono e r)
  | _, _, .dic h r => .dic (e _ _ h) (RK.mono e r)
theorem RA.mono (e : Same G G') : ∀ {vs : List V} {ds : List D}, RA K G vs ds → RA K G' vs ds
  | _, _, .nil => .nil
  | _, _, .cons h r => .cons (R.mono e h) (RA.mono e r)
theorem RK.mono (e : Same G G') : ∀ {ks : List (Key × V)} {ds : List (D × D)}, RK K G ks ds → RK K G' ks ds
  | _, _, .nil => .nil
  | _, _, .cons h r => .cons (R.mono e h) (RK.mono e r)
end
theorem RA.length : ∀ {vs : List V} {ds : List D}, RA K G vs ds → vs.length = ds.length
  | _, _, .nil => rfl
  | _, _, .cons _ r => congrArg (· + 1) (RA.length r)
theorem RA.get : ∀ {vs : List V} {ds : List D} {i : Nat} {d : D}, RA K G vs ds → ds[i]? = some d → ∃ v, vs[i]? = some v ∧ R K G v d
  | _, _, _, _, .nil, h => by simp at h
  | _, _, 0, _, .cons q _, h => by
    simp only [List.getElem?_cons_zero, Option.some.injEq] at h
    subst h
    exact ⟨_, rfl, q⟩
  | _, _, i + 1, _, .cons _ r, h => by
    simp only [List.getElem?_cons_succ] at h
    obtain ⟨v, h1, h2⟩ := RA.get r h
    exact ⟨v, by simpa using h1, h2⟩
theorem RA.getV : ∀ {vs : List V} {ds : List D} {i : Nat} {v : V}, RA K G vs ds → vs[i]? = some v → ∃ d, ds[i]? = some d ∧ R K G v d
  | _, _, _, _, .nil, h => by simp at h
  | _, _, 0, _, .cons q _, h => by
    simp only [List.getElem?_cons_zero, Option.some.injEq] at h
    subst h
    exact ⟨_, rfl, q⟩
  | _, _, i + 1, _, .cons _ r, h => by
    simp only [List.getElem?_cons_succ] at h
    obtain ⟨v, h1, h2⟩ := RA.getV r h
    exact ⟨v, by simpa using h1, h2⟩
theorem RA.append : ∀ {vs : List V} {ds : List D} {ws : List V} {es : List D}, RA K G vs ds → RA K G ws es → RA K G (vs ++ ws) (ds ++ es)
  | _, _, _, _, .nil, q => q
  | _, _, _, _, .cons h r, q => .cons h (RA.append r q)
theorem RA.snoc {vs : List V} {ds : List D} {v : V} {d : D} (h : RA K G vs ds) (q : R K G v d) : RA K G (vs ++ [v]) (ds ++ [d]) := h.append (.cons q .nil)
theorem RA.take : ∀ {vs : List V} {ds : List D} (n : Nat), RA K G vs ds → RA K G (vs.take n) (ds.take n)
  | _, _, 0, _ => .nil
  | _, _, _ + 1, .nil => .nil
  | _, _, n + 1, .cons h r => .cons h (RA.take n r)
theorem RA.drop : ∀ {vs : List V} {ds : List D} (n : Nat), RA K G vs ds → RA K G (vs.drop n) (ds.drop n)
  | _, _, 0, r => r
  | _, _, _ + 1, .nil => .nil
  | _, _, n + 1, .cons _ r => RA.drop n r
theorem RA.reverse : ∀ {vs : List V} {ds : List D}, RA K G vs ds → RA K G vs.reverse ds.reverse
  | _, _, .nil => .nil
  | _, _, .cons h r => by
    rw [List.reverse_cons, List.reverse_cons]
    exact (RA.reverse r).snoc h
theorem RA.ints : ∀ {vs : List V} {ns : List Int}, RA K G vs (ns.map PyData.int) → vs = ns.map V.int
  | [], [], _ => rfl
  | _ :: _, n :: ns, h => by
    cases h with
    | cons h1 h2 =>
      cases h1
      rw [RA.ints h2] <;> rfl
theorem RA.of_ints : ∀ ns : List Int, RA K G (ns.map V.int) (ns.map PyData.int)
  | [] => .nil
  | n :: ns => .cons (.int n) (RA.of_ints ns)
theorem RA.bools : ∀ {vs : List V} {bs : List Bool}, RA K G vs (bs.map PyData.bool) → vs = bs.map V.bl
  | [], [], _ => rfl
  | _ :: _, n :: ns, h => by
    cases h with
    | cons h1 h2 =>
      cases h1
      rw [RA.bools h2] <;> rfl
/-- data without a dict -/
theorem noDp_list {ds : List D} (h : PyData.hasDict (.list ds) = false) : PyData.hasDictAll ds = false := by simpa only [PyData.hasDict] using h
theorem noDp_tuple {ds : List D} (h : PyData.hasDict (.tuple ds) = false) : PyData.hasDictAll ds = false := by simpa only [PyData.hasDict] using h
mutual
theorem R.dp : ∀ {v : V} {d : D}, R K G v d → d.hasDict = false → Dp K G v d
  | _, _, .non, _ => .non
  | _, _, .bl b, _ => .bl b
  | _, _, .int i, _ => .int i
  | _, _, .str x, _ => .str x
  | _, _, .lst h r, n => .lst h (RA.dp r (noDp_list n))
  | _, _, .tup h r, n => .tup h (RA.dp r (noDp_tuple n))
  | _, _, .dic _ _, n => by simp only [PyData.hasDict] at n; exact absurd n (by decide)
theorem RA.dp : ∀ {vs : List V} {ds : List D}, RA K G vs ds → PyData.hasDictAll ds = false → DpAll K G vs ds
  | _, _, .nil, _ => .nil
  | _, _, .cons h r, n => by
    simp only [PyData.hasDictAll, Bool.or_eq_false_iff] at n
    exact .cons (R.dp h n.1) (RA.dp r n.2)
end
end

/-! ### what may change beside -/
def Fixd : HO → Prop
  | .ext _ => True
  | .frz _ _ => True
  | .tup _ => True
  | .tbl _ => True
  | _ => False
/-- vol: the places that calls may write at; inv: what holds of them; mine: what this body itself was handed to write at -/
structure Fx where
  vol : Addr → Prop
  mine : Addr → Prop
  inv : Hp → Prop
  ext : ∀ {H H' : Hp}, (∀ a o, vol a ∨ Fixd o → H a = some o → H' a = some o) → inv H → inv H'
  there : ∀ {H : Hp} {a : Addr}, inv H → vol a → H a ≠ none
def fx0 : Fx := ⟨fun _ => False, fun _ => False, fun _ => True, fun _ _ => True.intro, fun _ h => h.elim⟩
/-- nothing but one place of one's own -/
def fxM (a : Addr) : Fx := ⟨fun _ => False, fun b => b = a, fun _ => True, fun _ _ => True.intro, fun _ h => h.elim⟩
/-- what a proof of a body stands in: the written part, what may change, what was known and what stood at the entry, the wish of what is raised -/
structure Cf where
  K : PySem.W.Frag
  fx : Fx
  G0 : Hp
  B : Hp
  E : XK
structure Kn (fx : Fx) (G H : Hp) : Prop where
  gh : Same G H
  inv : fx.inv H
  vn : ∀ a, fx.vol a → G a = none
structure Grow (fx : Fx) (G H G' H' : Hp) : Prop where
  gg : Same G G'
  gh : Same G' H'
  hh : ∀ a o, ¬ fx.vol a → H a = some o → H' a = some o
  nn : ∀ a, H a ≠ none → G a = none → G' a = none
section
variable {fx : Fx} {G H G1 H1 G2 H2 : Hp}
theorem Kn.fresh (k : Kn fx G H) {p : Addr} (h : H p = none) : ¬ fx.vol p := fun v => fx.there k.inv v h
theorem Kn.freeG (k : Kn fx G H) {p : Addr} (h : H p = none) : G p = none := k.gh.free h
theorem Grow.refl (k : Kn fx G H) : Grow fx G H G H := ⟨Same.refl G, k.gh, fun _ _ _ h => h, fun _ _ h => h⟩
theorem Kn.grow (k : Kn fx G H) (g : Grow fx G H G1 H1) (i : fx.inv H1) : Kn fx G1 H1 :=
  ⟨g.gh, i, fun a v => g.nn a (fx.there k.inv v) (k.vn a v)⟩
theorem Grow.trans (g : Grow fx G H G1 H1) (k1 : Kn fx G1 H1) (k2 : Kn fx G2 H2) (g2 : Grow fx G1 H1 G2 H2) : Grow fx G H G2 H2 :=
  ⟨g.gg.trans g2.gg, g2.gh, fun a o v h => g2.hh a o v (g.hh a o v h), fun a h n => by
    by_cases v : fx.vol a
    · exact k2.vn a v
    · cases e : H a with
      | none => exact absurd e h
      | some o => exact g2.nn a (by rw [g.hh a o v e]; simp) (g.nn a h n)⟩
theorem Kn.same (k : Kn fx G H) (e : Same H H1) : Kn fx G H1 := ⟨k.gh.trans e, fx.ext (fun a o _ h => e a o h) k.inv, k.vn⟩
/-- new objects that nothing tells of -/
theorem Grow.same (k : Kn fx G H) (e : Same H H1) : Grow fx G H G H1 := ⟨Same.refl G, k.gh.trans e, fun a o _ h => e a o h, fun _ _ h => h⟩
theorem same_new {H : Hp} {p : Addr} {o : HO} (h : H p = none) : Same H (upd H p o) := fun a u e => by
  rw [upd_ne (ne_of_none e h)]
  exact e
theorem same_upd2 {G H : Hp} {p : Addr} {o : HO} (e : Same G H) : Same (upd G p o) (upd H p o) := fun a u h => by
  by_cases ha : a = p
  · subst ha
    rw [upd_same] at h ⊢
    exact h
  · rw [upd_ne ha] at h ⊢
    exact e a u h
/-- a new object, known from now on -/
theorem Grow.new (k : Kn fx G H) {p : Addr} (o : HO) (h : H p = none) : Grow fx G H (upd G p o) (upd H p o) :=
  ⟨same_new (k.freeG h), same_upd2 k.gh, fun a u _ e => same_new h a u e, fun a ha n => by
    have e : a ≠ p := fun q => ha (by rw [q]; exact h)
    rw [upd_ne e]
    exact n⟩
theorem Kn.new (k : Kn fx G H) {p : Addr} (o : HO) (h : H p = none) : Kn fx (upd G p o) (upd H p o) :=
  k.grow (Grow.new k o h) (fx.ext (fun a u _ e => same_new h a u e) k.inv)
/-- what a callee that writes nothing leaves -/
theorem Grow.lift (g : Grow fx0 G H G1 H1) : Grow fx G H G1 H1 := ⟨g.gg, g.gh, fun a o _ h => g.hh a o (fun z => z) h, g.nn⟩
theorem Grow.hs (g : Grow fx0 G H G1 H1) : Same H H1 := fun a o h => g.hh a o (fun z => z) h
theorem Kn.low (k : Kn fx G H) : Kn fx0 G H := ⟨k.gh, True.intro, fun _ v => v.elim⟩
theorem Kn.lift (k : Kn fx G H) (g : Grow fx0 G H G1 H1) : Kn fx G1 H1 := k.grow g.lift (fx.ext (fun a o _ h => g.hs a o h) k.inv)
end

/-! ### what a name holds -/
inductive Mo where
  | lst (ds : List D)
  | dK (ds : List (D × D))
  | ins (C dx : Addr) (vf : List (Str × V)) (fs : List (Str × D))
inductive Sl where
  | no
  | dat (d : D)
  | raw (v : V)
  | own (a : Addr) (m : Mo)
abbrev Rho := List Sl
/-- fields -/
def FA (K : PySem.W.Frag) (G : Hp) (vs : List (Str × V)) (ds : List (Str × D)) : Prop := vs.map Prod.fst = ds.map Prod.fst ∧ RA K G (vs.map Prod.snd) (ds.map Prod.snd)
def Mo.isIns : Mo → Prop
  | .ins _ _ _ _ => True
  | _ => False
def MoOk (K : PySem.W.Frag) (G : Hp) : HO → Mo → Prop
  | .lst vs, .lst ds => RA K G vs ds
  | .dK ks, .dK ds => RK K G ks ds
  | .ins C dx vs, .ins C' dx' vf ds => (C = C' ∧ dx = dx' ∧ vs = vf) ∧ FA K G vf ds
  | _, _ => False
def RS (K : PySem.W.Frag) (G : Hp) (v : V) : Sl → Prop
  | .dat d => R K G v d
  | .raw w => v = w
  | _ => False
inductive RSs (K : PySem.W.Frag) (G : Hp) : List V → List Sl → Prop
  | nil : RSs K G [] []
  | cons {v : V} {vs : List V} {s : Sl} {ss : List Sl} : RS K G v s → RSs K G vs ss → RSs K G (v :: vs) (s :: ss)
def SlOk (S : Cf) (G H : Hp) (o : Option V) : Sl → Prop
  | .no => True
  | .dat d => ∃ v, o = some v ∧ R S.K G v d
  | .raw v => o = some v
  | .own a m => o = some (.ref a) ∧ G a = none ∧ (S.B a = none ∨ (S.fx.mine a ∧ m.isIns)) ∧ ¬ S.fx.vol a ∧ ∃ u, H a = some u ∧ MoOk S.K G u m
structure Env (S : Cf) (G H : Hp) (σ : L2.St) (ρ : Rho) : Prop where
  len : σ.length = ρ.length
  at_ : ∀ (i : Nat) (s : Sl), ρ[i]? = some s → ∃ o, σ[i]? = some o ∧ SlOk S G H o s
  dis : ∀ (i j : Nat) (a : Addr) (m m' : Mo), ρ[i]? = some (.own a m) → ρ[j]? = some (.own a m') → i = j
section
variable {K : PySem.W.Frag} {S : Cf} {G H G' H' : Hp} {σ : L2.St} {ρ : Rho}
theorem MoOk.mono {u : HO} {m : Mo} (e : Same G G') (h : MoOk K G u m) : MoOk K G' u m := by
  cases u <;> cases m <;> first | exact h.elim | exact RA.mono e h | exact RK.mono e h | exact ⟨h.1, h.2.1, RA.mono e h.2.2⟩
theorem MoOk.noFix {u : HO} {m : Mo} (h : MoOk K G u m) : ¬ Fixd u := by
  cases u <;> cases m <;> first | exact h.elim | exact fun z => z
theorem RS.mono {v : V} {s : Sl} (e : Same G G') (h : RS K G v s) : RS K G' v s := by
  cases s with
  | dat d => exact R.mono e h
  | raw w => exact h
  | no => exact h.elim
  | own a m => exact h.elim
theorem RSs.mono (e : Same G G') : ∀ {vs : List V} {ss : List Sl}, RSs K G vs ss → RSs K G' vs ss
  | _, _, .nil => .nil
  | _, _, .cons h r => .cons (h.mono e) (RSs.mono e r)
theorem RSs.length : ∀ {vs : List V} {ss : List Sl}, RSs K G vs ss → vs.length = ss.length
  | _, _, .nil => rfl
  | _, _, .cons _ r => congrArg (· + 1) (RSs.length r)
theorem SlOk.grow {o : Option V} {s : Sl} (g : Grow S.fx G H G' H') (h : SlOk S G H o s) : SlOk S G' H' o s := by
  cases s with
  | no => exact True.intro
  | dat d =>
    obtain ⟨v, e, r⟩ := h
    exact ⟨v, e, r.mono g.gg⟩
  | raw w => exact h
  | own a m =>
    obtain ⟨e, ga, ba, va, u, ha, r⟩ := h
    exact ⟨e, g.nn a (by rw [ha]; simp) ga, ba, va, u, g.hh a u va ha, r.mono g.gg⟩
theorem Env.grow (e : Env S G H σ ρ) (g : Grow S.fx G H G' H') : Env S G' H' σ ρ :=
  ⟨e.len, fun i s h => by
    obtain ⟨o, h1, h2⟩ := e.at_ i s h
    exact ⟨o, h1, h2.grow g⟩, e.dis⟩
theorem Env.get (e : Env S G H σ ρ) {i : Nat} {s : Sl} (h : ρ[i]? = some s) (n : s ≠ .no := by intro z; cases z) : ∃ v, σ[i]? = some (some v) ∧ SlOk S G H (some v) s := by
  obtain ⟨o, h1, h2⟩ := e.at_ i s h
  cases s with
  | no => exact absurd rfl n
  | dat d =>
    obtain ⟨v, e', r⟩ := h2
    subst e'
    exact ⟨v, h1, v, rfl, r⟩
  | raw w =>
    have e' : o = some w := h2
    subst e'
    exact ⟨w, h1, rfl⟩
  | own a m =>
    have e' : o = some (.ref a) := h2.1
    subst e'
    exact ⟨.ref a, h1, h2⟩
theorem set_get {α : Type} {l : List α} {i j : Nat} {x y : α} (h : (l.set i x)[j]? = some y) : (j = i ∧ y = x) ∨ (j ≠ i ∧ l[j]? = some y) := by
  by_cases e : j = i
  · subst e
    refine .inl ⟨rfl, ?_⟩
    have hl : j < l.length := by
      have := (List.getElem?_eq_some_iff.mp h).1
      simpa using this
    rw [List.getElem?_set_self hl] at h
    exact (Option.some.inj h).symm
  · refine .inr ⟨e, ?_⟩
    rwa [List.getElem?_set_ne (Ne.symm e)] at h
/-- a slot is set to what is told of it -/
theorem Env.put (e : Env S G H σ ρ) (i : Nat) (o : Option V) (s : Sl) (h : SlOk S G H o s) (hd : ∀ a m, s = .own a m → ∀ j m', j ≠ i → ρ[j]? ≠ some (.own a m')) : Env S G H (σ.set i o) (ρ.set i s) := by
  refine ⟨by simp [e.len], fun j t ht => ?_, fun j k a m m' hj hk => ?_⟩
  · rcases set_get ht with ⟨ej, et⟩ | ⟨nj, ht⟩
    · subst ej et
      have hl : j < σ.length := by
        rw [e.len]
        have := (List.getElem?_eq_some_iff.mp ht).1
        simpa using this
      exact ⟨o, by rw [List.getElem?_set_self hl], h⟩
    · obtain ⟨o', h1, h2⟩ := e.at_ j t ht
      exact ⟨o', by rw [List.getElem?_set_ne (Ne.symm nj)]; exact h1, h2⟩
  · rcases set_get hj with ⟨ej, et⟩ | ⟨nj, hj⟩
    · rcases set_get hk with ⟨ek, _⟩ | ⟨nk, hk⟩
      · rw [ej, ek]
      · exact absurd hk (hd a m et.symm k m' nk)
    · rcases set_get hk with ⟨ek, et⟩ | ⟨nk, hk⟩
      · exact absurd hj (hd a m' et.symm j m nj)
      · exact e.dis j k a m m' hj hk
theorem Env.set (e : Env S G H σ ρ) (i : Nat) {v : V} {s : Sl} (h : RS S.K G v s) : Env S G H (σ.set i (some v)) (ρ.set i s) := by
  cases s with
  | no => exact h.elim
  | own a m => exact h.elim
  | dat d => exact e.put i _ _ ⟨v, rfl, h⟩ fun a m z => by cases z
  | raw w => exact e.put i _ _ (congrArg some h) fun a m z => by cases z
theorem Env.unset (e : Env S G H σ ρ) (i : Nat) (o : Option V) : Env S G H (σ.set i o) (ρ.set i .no) := e.put i o .no True.intro fun a m z => by cases z
/-- less is told of a slot -/
theorem Env.forget (e : Env S G H σ ρ) (i : Nat) : Env S G H σ (ρ.set i .no) := by
  refine ⟨by simp [e.len], fun j t ht => ?_, fun j k a m m' hj hk => ?_⟩
  · rcases set_get ht with ⟨ej, et⟩ | ⟨nj, ht⟩
    · subst ej et
      have hl : j < σ.length := by
        rw [e.len]
        have := (List.getElem?_eq_some_iff.mp ht).1
        simpa using this
      exact ⟨σ[j], by simp [hl], True.intro⟩
    · exact e.at_ j t ht
  · rcases set_get hj with ⟨_, et⟩ | ⟨nj, hj⟩
    · cases et
    · rcases set_get hk with ⟨_, et⟩ | ⟨nk, hk⟩
      · cases et
      · exact e.dis j k a m m' hj hk
/-- a list that was ours is data from now on -/
theorem Env.freeze (k : Kn S.fx G H) (e : Env S G H σ ρ) {i : Nat} {a : Addr} {ds : List D} (h : ρ[i]? = some (.own a (.lst ds))) :
    ∃ u, H a = some u ∧ Kn S.fx (upd G a u) H ∧ Same G (upd G a u) ∧ S.B a = none ∧ G a = none ∧ R S.K (upd G a u) (.ref a) (.list ds) ∧ Env S (upd G a u) H σ (ρ.set i (.dat (.list ds))) := by
  obtain ⟨v, h1, e1, ga, ba', va, u, ha, r⟩ := e.get h
  have ba : S.B a = none := ba'.elim id fun z => z.2.elim
  cases u with
  | lst vs =>
    have sg : Same G (upd G a (.lst vs)) := same_new ga
    have sh : Same (upd G a (.lst vs)) H := fun b o hb => by
      by_cases q : b = a
      · subst q
        rw [upd_same] at hb
        rw [ha]
        exact hb
      · rw [upd_ne q] at hb
        exact k.gh b o hb
    have kn : Kn S.fx (upd G a (.lst vs)) H := ⟨sh, k.inv, fun b vb => by
      have q : b ≠ a := fun q => va (q ▸ vb)
      rw [upd_ne q]
      exact k.vn b vb⟩
    have rr : R S.K (upd G a (.lst vs)) (.ref a) (.list ds) := .lst (SqL.of upd_same) (RA.mono sg r)
    refine ⟨_, ha, kn, sg, ba, ga, rr, ?_⟩
    have ev : v = .ref a := Option.some.inj e1
    subst ev
    have hi : i < σ.length := (List.getElem?_eq_some_iff.mp h1).1
    have es : σ.set i (some (.ref a)) = σ := by
      apply List.ext_getElem?
      intro j
      by_cases q : j = i
      · subst q
        rw [List.getElem?_set_self hi, h1]
      · rw [List.getElem?_set_ne (Ne.symm q)]
    have base : Env S (upd G a (.lst vs)) H (σ.set i (some (.ref a))) (ρ.set i (.dat (.list ds))) := by
      refine ⟨by simp [e.len], fun j t ht => ?_, fun j k' b m m' hj hk => ?_⟩
      · rcases set_get ht with ⟨ej, et⟩ | ⟨nj, ht⟩
        · subst ej et
          exact ⟨_, List.getElem?_set_self hi, _, rfl, rr⟩
        · obtain ⟨o', q1, q2⟩ := e.at_ j t ht
          refine ⟨o', by rw [List.getElem?_set_ne (Ne.symm nj)]; exact q1, ?_⟩
          cases t with
          | no => exact True.intro
          | dat d =>
            obtain ⟨v, e', r'⟩ := q2
            exact ⟨v, e', r'.mono sg⟩
          | raw w => exact q2
          | own b m =>
            obtain ⟨x1, x2, x3, x4, u, x5, x6⟩ := q2
            have q : b ≠ a := fun q => nj (e.dis j i a m _ (q ▸ ht) h)
            exact ⟨x1, by rw [upd_ne q]; exact x2, x3, x4, u, x5, x6.mono sg⟩
      · rcases set_get hj with ⟨_, et⟩ | ⟨nj, hj⟩
        · cases et
        · rcases set_get hk with ⟨_, et⟩ | ⟨nk, hk⟩
          · cases et
          · exact e.dis j k' b m m' hj hk
    rw [es] at base
    exact base
  | _ => exact r.elim
end
end Dl

set_option Elab.async false
set_option linter.all false
set_option maxRecDepth 100000
set_option maxHeartbeats 4000000
/-! Dle: what expressions give, as data. -/
namespace Dl
open PySem PySem.Spec PyProof.Rows L2
def Ev (S : Cf) (te : TE) (ρ : Rho) (P : Sl → Prop) : Prop := ∀ (σ : L2.St) (G H : Hp), Kn S.fx G H → Env S G H σ ρ → ∀ Q : VK,
  (∀ v s G' H', Grow S.fx G H G' H' → Kn S.fx G' H' → P s → RS S.K G' v s → Q v H') → te σ H Q
def EvT (S : Cf) (tt : TT) (ρ : Rho) (P : Bool → Prop) : Prop := ∀ (σ : L2.St) (G H : Hp), Kn S.fx G H → Env S G H σ ρ → ∀ Q : Bool → Hp → Prop,
  (∀ b G' H', Grow S.fx G H G' H' → Kn S.fx G' H' → P b → Q b H') → tt σ H Q
def EvA (S : Cf) (ta : TA) (ρ : Rho) (P : List Sl → Prop) : Prop := ∀ (σ : L2.St) (G H : Hp), Kn S.fx G H → Env S G H σ ρ → ∀ Q : List V → Hp → Prop,
  (∀ vs ss G' H', Grow S.fx G H G' H' → Kn S.fx G' H' → P ss → RSs S.K G' vs ss → Q vs H') → ta σ H Q
/-- a list that may be read: ours, or known -/
def EvL (S : Cf) (te : TE) (ρ : Rho) (ds : List D) : Prop := ∀ (σ : L2.St) (G H : Hp), Kn S.fx G H → Env S G H σ ρ → ∀ Q : VK,
  (∀ a vs G' H', Grow S.fx G H G' H' → Kn S.fx G' H' → (∀ G2 H2, Grow S.fx G' H' G2 H2 → SqL S.K H2 a vs) → RA S.K G' vs ds → Q (.ref a) H') → te σ H Q
def EvU (S : Cf) (te : TE) (ρ : Rho) (ds : List D) : Prop := ∀ (σ : L2.St) (G H : Hp), Kn S.fx G H → Env S G H σ ρ → ∀ Q : VK,
  (∀ a vs G' H', Grow S.fx G H G' H' → Kn S.fx G' H' → (∀ G2 H2, Grow S.fx G' H' G2 H2 → SqT S.K H2 a vs) → RA S.K G' vs ds → Q (.ref a) H') → te σ H Q
/-- an int of which p holds -/
abbrev EvI (S : Cf) (te : TE) (ρ : Rho) (p : Int → Prop) : Prop := Ev S te ρ (fun s => ∃ i, s = .dat (.int i) ∧ p i)
section
variable {S : Cf} {ρ : Rho} {te ta tb tc : TE} {t u : TT} {r : R2}
theorem Ev.imp {P P' : Sl → Prop} (h : Ev S te ρ P) (i : ∀ s, P s → P' s) : Ev S te ρ P' := fun σ G H k e Q q => h σ G H k e Q fun v s G' H' g k' p r => q v s G' H' g k' (i s p) r
theorem EvT.imp {P P' : Bool → Prop} (h : EvT S t ρ P) (i : ∀ s, P s → P' s) : EvT S t ρ P' := fun σ G H k e Q q => h σ G H k e Q fun v G' H' g k' p => q v G' H' g k' (i v p)
theorem EvA.imp {ta : TA} {P P' : List Sl → Prop} (h : EvA S ta ρ P) (i : ∀ s, P s → P' s) : EvA S ta ρ P' := fun σ G H k e Q q => h σ G H k e Q fun v s G' H' g k' p r => q v s G' H' g k' (i s p) r
theorem Ev.cast {s s' : Sl} (h : Ev S te ρ (Eq s)) (e : s = s') : Ev S te ρ (Eq s') := e ▸ h
theorem Ev.toI {i : Int} {p : Int → Prop} (h : Ev S te ρ (Eq (.dat (.int i)))) (hp : p i) : EvI S te ρ p := h.imp fun s e => ⟨i, e.symm, hp⟩
/-! names and constants -/
theorem ev_int {i : Int} : Ev S (tC (.int i)) ρ (Eq (.dat (.int i))) := fun σ G H k e Q q => q _ _ G H (Grow.refl k) k rfl (.int i)
theorem ev_bl {b : Bool} : Ev S (tC (.bl b)) ρ (Eq (.dat (.bool b))) := fun σ G H k e Q q => q _ _ G H (Grow.refl k) k rfl (.bl b)
theorem ev_str {x : Str} : Ev S (tC (.str x)) ρ (Eq (.dat (.str x))) := fun σ G H k e Q q => q _ _ G H (Grow.refl k) k rfl (.str x)
theorem ev_non : Ev S (tC .non) ρ (Eq (.dat .none)) := fun σ G H k e Q q => q _ _ G H (Grow.refl k) k rfl .non
theorem ev_raw {v : V} : Ev S (tC v) ρ (Eq (.raw v)) := fun σ G H k e Q q => q _ _ G H (Grow.refl k) k rfl rfl
/-- a constant of the module -/
theorem ev_cst {v : V} {d : D} (h : ∀ G : Hp, R S.K G v d) : Ev S (tC v) ρ (Eq (.dat d)) := fun σ G H k e Q q => q _ _ G H (Grow.refl k) k rfl (h G)
theorem ev_var {i : Nat} {d : D} (h : ρ[i]? = some (.dat d)) : Ev S (tVar i) ρ (Eq (.dat d)) := fun σ G H k e Q q => by
  obtain ⟨v, h1, v', e', r⟩ := e.get h
  cases e'
  exact ⟨v, h1, q v _ G H (Grow.refl k) k rfl r⟩
theorem ev_varR {i : Nat} {w : V} (h : ρ[i]? = some (.raw w)) : Ev S (tVar i) ρ (Eq (.raw w)) := fun σ G H k e Q q => by
  obtain ⟨v, h1, e'⟩ := e.get h
  exact ⟨v, h1, q v _ G H (Grow.refl k) k rfl (Option.some.inj e')⟩
theorem ev_varO {i : Nat} {a : Addr} {m : Mo} (h : ρ[i]? = some (.own a m)) : Ev S (tVar i) ρ (Eq (.raw (.ref a))) := fun σ G H k e Q q => by
  obtain ⟨v, h1, e', _⟩ := e.get h
  exact ⟨v, h1, q v _ G H (Grow.refl k) k rfl (Option.some.inj e')⟩
/-! lists and tuples that may be read -/
theorem el_of {ds : List D} (h : Ev S te ρ (Eq (.dat (.list ds)))) : EvL S te ρ ds := fun σ G H k e Q q => h σ G H k e Q fun v s G' H' g k' p r => by
  subst p
  cases r with
  | lst hs ra => exact q _ _ G' H' g k' (fun G2 H2 g2 => (g2.gg.trans g2.gh).seq hs) ra
theorem eu_of {ds : List D} (h : Ev S te ρ (Eq (.dat (.tuple ds)))) : EvU S te ρ ds := fun σ G H k e Q q => h σ G H k e Q fun v s G' H' g k' p r => by
  subst p
  cases r with
  | tup hs ra => exact q _ _ G' H' g k' (fun G2 H2 g2 => sameT (g2.gg.trans g2.gh) hs) ra
theorem el_own {i : Nat} {a : Addr} {ds : List D} (h : ρ[i]? = some (.own a (.lst ds))) : EvL S (tVar i) ρ ds := fun σ G H k e Q q => by
  obtain ⟨v, h1, e', ga, ba, va, u, ha, r⟩ := e.get h
  refine ⟨v, h1, ?_⟩
  cases Option.some.inj e'
  cases u with
  | lst vs => exact q a vs G H (Grow.refl k) k (fun G2 H2 g2 => SqL.of (g2.hh a _ va ha)) r
  | _ => exact r.elim
/-! operators by values -/
def OpD (S : Cf) (r : R2) (x y : Sl) (P : Sl → Prop) : Prop := ∀ (G H : Hp) (v w : V), Kn S.fx G H → RS S.K G v x → RS S.K G w y → ∀ Q : VK,
  (∀ z s G' H', Grow S.fx G H G' H' → Kn S.fx G' H' → P s → RS S.K G' z s → Q z H') → r v w H Q
theorem ev_op {Pa Pb P : Sl → Prop} (ha : Ev S ta ρ Pa) (hb : Ev S tb ρ Pb) (ho : ∀ x y, Pa x → Pb y → OpD S r x y P) : Ev S (tOp r ta tb) ρ P := fun σ G H k e Q q =>
  ha σ G H k e _ fun v x G1 H1 g1 k1 p1 r1 => hb σ G1 H1 k1 (e.grow g1) _ fun w y G2 H2 g2 k2 p2 r2 =>
    ho x y p1 p2 G2 H2 v w k2 (r1.mono g2.gg) r2 Q fun z s G3 H3 g3 k3 p3 r3 => q z s G3 H3 ((g1.trans k1 k2 g2).trans k2 k3 g3) k3 p3 r3
theorem ev_op' {x y : Sl} {P : Sl → Prop} (ha : Ev S ta ρ (Eq x)) (hb : Ev S tb ρ (Eq y)) (ho : OpD S r x y P) : Ev S (tOp r ta tb) ρ P := ev_op ha hb fun a b e1 e2 => e1 ▸ e2 ▸ ho
/-- the value alone, the heap as it is -/
theorem opd_here {x y s : Sl} {z : V} (h : ∀ (G H : Hp) (v w : V), Kn S.fx G H → RS S.K G v x → RS S.K G w y → RS S.K G z s ∧ ∀ Q : VK, Q z H → r v w H Q) : OpD S r x y (Eq s) := fun G H v w k rx ry Q q =>
  (h G H v w k rx ry).2 Q (q z s G H (Grow.refl k) k rfl (h G H v w k rx ry).1)
theorem opd_I0 {f : Int → Int → Int} {i j : Int} : OpD S (rI0 fun i j => .int (f i j)) (.dat (.int i)) (.dat (.int j)) (Eq (.dat (.int (f i j)))) := opd_here (z := .int (f i j)) fun G H v w k rx ry => ⟨.int _, fun Q q => by
  cases rx
  cases ry
  exact ⟨i, j, rfl, rfl, q⟩⟩
theorem opd_C0 {f : Int → Int → Bool} {i j : Int} : OpD S (rI0 fun i j => .bl (f i j)) (.dat (.int i)) (.dat (.int j)) (Eq (.dat (.bool (f i j)))) := opd_here (z := .bl (f i j)) fun G H v w k rx ry => ⟨.bl _, fun Q q => by
  cases rx
  cases ry
  exact ⟨i, j, rfl, rfl, q⟩⟩
theorem opd_IC {C : Int → Int → Prop} {f : Int → Int → Int} {i j : Int} (hc : C i j) : OpD S (rI C fun i j => .int (f i j)) (.dat (.int i)) (.dat (.int j)) (Eq (.dat (.int (f i j)))) := opd_here (z := .int (f i j)) fun G H v w k rx ry => ⟨.int _, fun Q q => by
  cases rx
  cases ry
  exact ⟨i, j, rfl, rfl, hc, q⟩⟩
theorem ev_I0 {f : Int → Int → Int} {i j : Int} (ha : Ev S ta ρ (Eq (.dat (.int i)))) (hb : Ev S tb ρ (Eq (.dat (.int j)))) : Ev S (tOp (rI0 fun i j => .int (f i j)) ta tb) ρ (Eq (.dat (.int (f i j)))) := ev_op' ha hb opd_I0
theorem ev_C0 {f : Int → Int → Bool} {i j : Int} (ha : Ev S ta ρ (Eq (.dat (.int i)))) (hb : Ev S tb ρ (Eq (.dat (.int j)))) : Ev S (tOp (rI0 fun i j => .bl (f i j)) ta tb) ρ (Eq (.dat (.bool (f i j)))) := ev_op' ha hb opd_C0
theorem ev_IC {C : Int → Int → Prop} {f : Int → Int → Int} {i j : Int} (ha : Ev S ta ρ (Eq (.dat (.int i)))) (hb : Ev S tb ρ (Eq (.dat (.int j)))) (hc : C i j) : Ev S (tOp (rI C fun i j => .int (f i j)) ta tb) ρ (Eq (.dat (.int (f i j)))) := ev_op' ha hb (opd_IC hc)
theorem evI_0 {f : Int → Int → Int} {p q s : Int → Prop} (ha : EvI S ta ρ p) (hb : EvI S tb ρ q) (h : ∀ i j, p i → q j → s (f i j)) : EvI S (tOp (rI0 fun i j => .int (f i j)) ta tb) ρ s :=
  ev_op ha hb fun x y ⟨i, ex, hi⟩ ⟨j, ey, hj⟩ => by
    subst ex ey
    intro G H v w k rx ry Q q
    exact opd_I0 G H v w k rx ry Q fun z s G' H' g k' e r => q z s G' H' g k' ⟨_, e.symm, h i j hi hj⟩ r
theorem evI_C {C : Int → Int → Prop} {f : Int → Int → Int} {p q s : Int → Prop} (ha : EvI S ta ρ p) (hb : EvI S tb ρ q) (hc : ∀ i j, p i → q j → C i j) (h : ∀ i j, p i → q j → s (f i j)) : EvI S (tOp (rI C fun i j => .int (f i j)) ta tb) ρ s :=
  ev_op ha hb fun x y ⟨i, ex, hi⟩ ⟨j, ey, hj⟩ => by
    subst ex ey
    intro G H v w k rx ry Q q
    exact opd_IC (hc i j hi hj) G H v w k rx ry Q fun z s G' H' g k' e r => q z s G' H' g k' ⟨_, e.symm, h i j hi hj⟩ r
/-- a comparison of ints of which something is known -/
theorem evT_C0 {f : Int → Int → Bool} {p q : Int → Prop} {P : Bool → Prop} (ha : EvI S ta ρ p) (hb : EvI S tb ρ q) (h : ∀ i j, p i → q j → P (f i j)) : Ev S (tOp (rI0 fun i j => .bl (f i j)) ta tb) ρ (fun s => ∃ b, s = .dat (.bool b) ∧ P b) :=
  ev_op ha hb fun x y ⟨i, ex, hi⟩ ⟨j, ey, hj⟩ => by
    subst ex ey
    intro G H v w k rx ry Q q
    exact opd_C0 G H v w k rx ry Q fun z s G' H' g k' e r => q z s G' H' g k' ⟨_, e.symm, h i j hi hj⟩ r
theorem ev_neg {i : Int} (ha : Ev S ta ρ (Eq (.dat (.int i)))) : Ev S (tUn (rU fun i => .int (-i)) ta) ρ (Eq (.dat (.int (-i)))) := fun σ G H k e Q q => ha σ G H k e _ fun v s G1 H1 g1 k1 p1 r1 => by
  subst p1
  cases r1
  exact ⟨i, rfl, q _ _ G1 H1 g1 k1 rfl (.int _)⟩
theorem ev_eqD {d d' : D} (ha : Ev S ta ρ (Eq (.dat d))) (hb : Ev S tb ρ (Eq (.dat d'))) (s1 : SeqAt.shaped d = true) (s2 : SeqAt.shaped d' = true) : Ev S (tOp (rEqD S.K) ta tb) ρ (Eq (.dat (.bool (PyData.eqv d d')))) :=
  ev_op' ha hb (opd_here (z := .bl (PyData.eqv d d')) fun G H v w k rx ry => ⟨.bl _, fun Q q =>
    ⟨d, d', (R.mono k.gh rx).dp (PyData.hasDict_of_canLay _ (SeqAt.canLay_of_shaped s1)), (R.mono k.gh ry).dp (PyData.hasDict_of_canLay _ (SeqAt.canLay_of_shaped s2)), s1, s2, q⟩⟩)
theorem ev_neD {d d' : D} (ha : Ev S ta ρ (Eq (.dat d))) (hb : Ev S tb ρ (Eq (.dat d'))) (s1 : SeqAt.shaped d = true) (s2 : SeqAt.shaped d' = true) : Ev S (tOp (rNeD S.K) ta tb) ρ (Eq (.dat (.bool (!PyData.eqv d d')))) :=
  ev_op' ha hb (opd_here (z := .bl (!PyData.eqv d d')) fun G H v w k rx ry => ⟨.bl _, fun Q q =>
    ⟨d, d', (R.mono k.gh rx).dp (PyData.hasDict_of_canLay _ (SeqAt.canLay_of_shaped s1)), (R.mono k.gh ry).dp (PyData.hasDict_of_canLay _ (SeqAt.canLay_of_shaped s2)), s1, s2, q⟩⟩)
def isNone : D → Bool
  | .none => true
  | _ => false
theorem R.isN {K : PySem.W.Frag} {G : Hp} {v : V} {d : D} (h : R K G v d) : decide (v = .non) = isNone d := by
  cases h <;> simp [isNone]
theorem ev_isN {d : D} (ha : Ev S ta ρ (Eq (.dat d))) : Ev S (tOp (fun x y H Q => y = .non ∧ Q (.bl (decide (x = .non))) H) ta (tC .non)) ρ (Eq (.dat (.bool (isNone d)))) :=
  ev_op' ha ev_non (opd_here (z := .bl (isNone d)) fun G H v w k rx ry => ⟨.bl _, fun Q q => by
    cases ry
    refine ⟨rfl, ?_⟩
    rw [R.isN rx]
    exact q⟩)
theorem ev_notN {d : D} (ha : Ev S ta ρ (Eq (.dat d))) : Ev S (tOp (fun x y H Q => y = .non ∧ Q (.bl (!decide (x = .non))) H) ta (tC .non)) ρ (Eq (.dat (.bool (!isNone d)))) :=
  ev_op' ha ev_non (opd_here (z := .bl (!isNone d)) fun G H v w k rx ry => ⟨.bl _, fun Q q => by
    cases ry
    refine ⟨rfl, ?_⟩
    rw [R.isN rx]
    exact q⟩)
/-! items -/
theorem RA.at {K : PySem.W.Frag} {G : Hp} {vs : List V} {ds : List D} {i : Int} {d : D} (h : RA K G vs ds) (ha : atI ds i = some d) : ∃ v, atI vs i = some v ∧ R K G v d := by
  unfold atI at ha ⊢
  rw [h.length]
  cases e : ixN ds.length i with
  | none =>
    rw [e] at ha
    cases ha
  | some j =>
    rw [e] at ha
    exact h.get ha
theorem ev_ixL {ds : List D} {i : Int} {d : D} (ha : EvL S ta ρ ds) (hb : Ev S tb ρ (Eq (.dat (.int i)))) (hd : atI ds i = some d) : Ev S (tOp (rIxL S.K) ta tb) ρ (Eq (.dat d)) := fun σ G H k e Q q =>
  ha σ G H k e _ fun a vs G1 H1 g1 k1 st ra => hb σ G1 H1 k1 (e.grow g1) _ fun w y G2 H2 g2 k2 p2 r2 => by
    subst p2
    cases r2
    obtain ⟨v, hv, rv⟩ := ra.at hd
    exact ⟨a, vs, i, v, rfl, rfl, st G2 H2 g2, hv, q v _ G2 H2 (g1.trans k1 k2 g2) k2 rfl (rv.mono g2.gg)⟩
theorem ev_ixT {ds : List D} {i : Int} {d : D} (ha : EvU S ta ρ ds) (hb : Ev S tb ρ (Eq (.dat (.int i)))) (hd : atI ds i = some d) : Ev S (tOp (rIxT S.K) ta tb) ρ (Eq (.dat d)) := fun σ G H k e Q q =>
  ha σ G H k e _ fun a vs G1 H1 g1 k1 st ra => hb σ G1 H1 k1 (e.grow g1) _ fun w y G2 H2 g2 k2 p2 r2 => by
    subst p2
    cases r2
    obtain ⟨v, hv, rv⟩ := ra.at hd
    exact ⟨a, vs, i, v, rfl, rfl, st G2 H2 g2, hv, q v _ G2 H2 (g1.trans k1 k2 g2) k2 rfl (rv.mono g2.gg)⟩
/-- at some place within -/
theorem ev_ixLI {ds : List D} {p : Int → Prop} {P : D → Prop} (ha : EvL S ta ρ ds) (hb : EvI S tb ρ p) (hd : ∀ i, p i → ∃ d, atI ds i = some d ∧ P d) : Ev S (tOp (rIxL S.K) ta tb) ρ (fun s => ∃ d, s = .dat d ∧ P d) := fun σ G H k e Q q =>
  ha σ G H k e _ fun a vs G1 H1 g1 k1 st ra => hb σ G1 H1 k1 (e.grow g1) _ fun w y G2 H2 g2 k2 ⟨i, p2, pi⟩ r2 => by
    subst p2
    cases r2
    obtain ⟨d, hd1, hd2⟩ := hd i pi
    obtain ⟨v, hv, rv⟩ := ra.at hd1
    exact ⟨a, vs, i, v, rfl, rfl, st G2 H2 g2, hv, q v _ G2 H2 (g1.trans k1 k2 g2) k2 ⟨d, rfl, hd2⟩ (rv.mono g2.gg)⟩
/-! arguments, displays -/
theorem ea_nil : EvA S tNil ρ (Eq []) := fun σ G H k e Q q => q _ _ G H (Grow.refl k) k rfl .nil
theorem ea_consP {tr : TA} {Pa : Sl → Prop} {Pr P : List Sl → Prop} (ha : Ev S ta ρ Pa) (hr : EvA S tr ρ Pr) (hp : ∀ x xs, Pa x → Pr xs → P (x :: xs)) : EvA S (tCons ta tr) ρ P := fun σ G H k e Q q =>
  ha σ G H k e _ fun v x G1 H1 g1 k1 p1 r1 => hr σ G1 H1 k1 (e.grow g1) _ fun vs xs G2 H2 g2 k2 p2 r2 => q _ _ G2 H2 (g1.trans k1 k2 g2) k2 (hp _ _ p1 p2) (.cons (r1.mono g2.gg) r2)
theorem ea_cons {tr : TA} {x : Sl} {xs : List Sl} (ha : Ev S ta ρ (Eq x)) (hr : EvA S tr ρ (Eq xs)) : EvA S (tCons ta tr) ρ (Eq (x :: xs)) := ea_consP ha hr fun _ _ a b => a ▸ b ▸ rfl
theorem RSs.toRA {K : PySem.W.Frag} {G : Hp} : ∀ {vs : List V} {ds : List D}, RSs K G vs (ds.map Sl.dat) → RA K G vs ds
  | _, [], h => by
    cases h
    exact .nil
  | _, d :: ds, h => by
    cases h with
    | cons h1 h2 => exact .cons h1 (RSs.toRA h2)
theorem sz_ok {n : Nat} (h : n ≤ 1000000) : n ≤ sizeLine := Nat.le_trans h (by decide)
theorem ev_tup {ta : TA} {ds : List D} (h : EvA S ta ρ (Eq (ds.map Sl.dat))) (hl : ds.length ≤ 1000000) : Ev S (tTup ta) ρ (Eq (.dat (.tuple ds))) := fun σ G H k e Q q =>
  h σ G H k e _ fun vs ss G1 H1 g1 k1 p1 r1 => by
    subst p1
    have ra := r1.toRA
    refine ⟨sz_ok (by rw [ra.length]; exact hl), fun p hp => ?_⟩
    have g2 := Grow.new k1 (.tup vs) hp
    have k2 := Kn.new k1 (.tup vs) hp
    exact q _ _ _ _ (g1.trans k1 k2 g2) k2 rfl (.tup (SqT.of upd_same) (ra.mono g2.gg))
theorem ev_lst {ta : TA} {ds : List D} (h : EvA S ta ρ (Eq (ds.map Sl.dat))) (hl : ds.length ≤ 1000000) : Ev S (tLst ta) ρ (Eq (.dat (.list ds))) := fun σ G H k e Q q =>
  h σ G H k e _ fun vs ss G1 H1 g1 k1 p1 r1 => by
    subst p1
    have ra := r1.toRA
    refine ⟨sz_ok (by rw [ra.length]; exact hl), fun p hp => ?_⟩
    have g2 := Grow.new k1 (.lst vs) hp
    have k2 := Kn.new k1 (.lst vs) hp
    exact q _ _ _ _ (g1.trans k1 k2 g2) k2 rfl (.lst (SqL.of upd_same) (ra.mono g2.gg))
theorem ev_tupP {ta : TA} {p : List D → Prop} (h : EvA S ta ρ (fun ss => ∃ ds, ss = ds.map Sl.dat ∧ ds.length ≤ 1000000 ∧ p ds)) : Ev S (tTup ta) ρ (fun s => ∃ ds, s = .dat (.tuple ds) ∧ p ds) := fun σ G H k e Q q =>
  h σ G H k e _ fun vs ss G1 H1 g1 k1 ⟨ds, p1, hl, pd⟩ r1 => by
    subst p1
    have ra := r1.toRA
    refine ⟨sz_ok (by rw [ra.length]; exact hl), fun p hp => ?_⟩
    have g2 := Grow.new k1 (.tup vs) hp
    have k2 := Kn.new k1 (.tup vs) hp
    exact q _ _ _ _ (g1.trans k1 k2 g2) k2 ⟨ds, rfl, pd⟩ (.tup (SqT.of upd_same) (ra.mono g2.gg))
/-! tests -/
theorem et_test {b : Bool} (h : Ev S te ρ (Eq (.dat (.bool b)))) : EvT S (tTest te) ρ (Eq b) := fun σ G H k e Q q => h σ G H k e _ fun v s G1 H1 g1 k1 p1 r1 => by
  subst p1
  cases r1
  exact ⟨b, rfl, q b G1 H1 g1 k1 rfl⟩
theorem et_testP {P : Bool → Prop} (h : Ev S te ρ (fun s => ∃ b, s = .dat (.bool b) ∧ P b)) : EvT S (tTest te) ρ P := fun σ G H k e Q q => h σ G H k e _ fun v s G1 H1 g1 k1 ⟨b, p1, pb⟩ r1 => by
  subst p1
  cases r1
  exact ⟨b, rfl, q b G1 H1 g1 k1 pb⟩
theorem et_B {b : Bool} (h : Ev S te ρ (Eq (.dat (.bool b)))) : EvT S (tB te) ρ (Eq b) := et_test h
theorem et_and {a b : Bool} (h1 : EvT S t ρ (Eq a)) (h2 : a = true → EvT S u ρ (Eq b)) : EvT S (tAnd t u) ρ (Eq (a && b)) := fun σ G H k e Q q => h1 σ G H k e _ fun c G1 H1 g1 k1 p1 => by
  subst p1
  cases a with
  | true => exact h2 rfl σ G1 H1 k1 (e.grow g1) Q fun c G2 H2 g2 k2 p2 => q c G2 H2 (g1.trans k1 k2 g2) k2 p2
  | false => exact q false G1 H1 g1 k1 rfl
theorem et_or {a b : Bool} (h1 : EvT S t ρ (Eq a)) (h2 : a = false → EvT S u ρ (Eq b)) : EvT S (tOr t u) ρ (Eq (a || b)) := fun σ G H k e Q q => h1 σ G H k e _ fun c G1 H1 g1 k1 p1 => by
  subst p1
  cases a with
  | true => exact q true G1 H1 g1 k1 rfl
  | false => exact h2 rfl σ G1 H1 k1 (e.grow g1) Q fun c G2 H2 g2 k2 p2 => q c G2 H2 (g1.trans k1 k2 g2) k2 p2
theorem et_not {a : Bool} (h1 : EvT S t ρ (Eq a)) : EvT S (tNot t) ρ (Eq (!a)) := fun σ G H k e Q q => h1 σ G H k e _ fun c G1 H1 g1 k1 p1 => by
  subst p1
  exact q _ G1 H1 g1 k1 rfl
theorem et_is {a b : Bool} (h : EvT S t ρ (Eq a)) (e : a = b) : EvT S t ρ (Eq b) := e ▸ h
theorem ev_andV {a b : Bool} (h1 : Ev S ta ρ (Eq (.dat (.bool a)))) (h2 : a = true → Ev S tb ρ (Eq (.dat (.bool b)))) : Ev S (tAndV ta tb) ρ (Eq (.dat (.bool (a && b)))) := fun σ G H k e Q q => h1 σ G H k e _ fun c s G1 H1 g1 k1 p1 r1 => by
  subst p1
  cases r1
  refine ⟨a, rfl, ?_⟩
  cases a with
  | true => exact h2 rfl σ G1 H1 k1 (e.grow g1) Q fun v c G2 H2 g2 k2 p2 => q v c G2 H2 (g1.trans k1 k2 g2) k2 p2
  | false => exact q _ _ G1 H1 g1 k1 rfl (.bl false)
theorem ev_orV {a b : Bool} (h1 : Ev S ta ρ (Eq (.dat (.bool a)))) (h2 : a = false → Ev S tb ρ (Eq (.dat (.bool b)))) : Ev S (tOrV ta tb) ρ (Eq (.dat (.bool (a || b)))) := fun σ G H k e Q q => h1 σ G H k e _ fun c s G1 H1 g1 k1 p1 r1 => by
  subst p1
  cases r1
  refine ⟨a, rfl, ?_⟩
  cases a with
  | true => exact q _ _ G1 H1 g1 k1 rfl (.bl true)
  | false => exact h2 rfl σ G1 H1 k1 (e.grow g1) Q fun v c G2 H2 g2 k2 p2 => q v c G2 H2 (g1.trans k1 k2 g2) k2 p2
theorem ev_notV {a : Bool} (h1 : Ev S ta ρ (Eq (.dat (.bool a)))) : Ev S (tNotV ta) ρ (Eq (.dat (.bool (!a)))) := fun σ G H k e Q q => h1 σ G H k e _ fun c s G1 H1 g1 k1 p1 r1 => by
  subst p1
  cases r1
  exact ⟨a, rfl, q _ _ G1 H1 g1 k1 rfl (.bl _)⟩
theorem ev_if {b : Bool} {P : Sl → Prop} (h : EvT S t ρ (Eq b)) (h1 : b = true → Ev S ta ρ P) (h2 : b = false → Ev S tb ρ P) : Ev S (tIf t ta tb) ρ P := fun σ G H k e Q q => h σ G H k e _ fun c G1 H1 g1 k1 p1 => by
  subst p1
  cases b with
  | true => exact h1 rfl σ G1 H1 k1 (e.grow g1) Q fun v c G2 H2 g2 k2 p2 => q v c G2 H2 (g1.trans k1 k2 g2) k2 p2
  | false => exact h2 rfl σ G1 H1 k1 (e.grow g1) Q fun v c G2 H2 g2 k2 p2 => q v c G2 H2 (g1.trans k1 k2 g2) k2 p2
theorem ev_ifP {P : Sl → Prop} {p : Bool → Prop} (h : EvT S t ρ p) (h1 : p true → Ev S ta ρ P) (h2 : p false → Ev S tb ρ P) : Ev S (tIf t ta tb) ρ P := fun σ G H k e Q q => h σ G H k e _ fun c G1 H1 g1 k1 p1 => by
  cases c with
  | true => exact h1 p1 σ G1 H1 k1 (e.grow g1) Q fun v c G2 H2 g2 k2 p2 => q v c G2 H2 (g1.trans k1 k2 g2) k2 p2
  | false => exact h2 p1 σ G1 H1 k1 (e.grow g1) Q fun v c G2 H2 g2 k2 p2 => q v c G2 H2 (g1.trans k1 k2 g2) k2 p2
/-- a < b < c of ints -/
theorem ev_chain {f f' : Int → Int → Bool} {i j l : Int} (ha : Ev S ta ρ (Eq (.dat (.int i)))) (hb : Ev S tb ρ (Eq (.dat (.int j)))) (hc : f i j = true → Ev S tc ρ (Eq (.dat (.int l)))) :
    Ev S (tChain (rI0 fun i j => .bl (f i j)) (rI0 fun i j => .bl (f' i j)) ta tb tc) ρ (Eq (.dat (.bool (f i j && f' j l)))) := fun σ G H k e Q q => ha σ G H k e _ fun v x G1 H1 g1 k1 p1 r1 => hb σ G1 H1 k1 (e.grow g1) _ fun w y G2 H2 g2 k2 p2 r2 => by
  subst p1 p2
  cases r1
  cases r2
  refine ⟨i, j, rfl, rfl, f i j, rfl, ?_⟩
  cases z : f i j with
  | true =>
    rw [z] at q
    exact hc z σ G2 H2 k2 ((e.grow g1).grow g2) _ fun v3 x3 G3 H3 g3 k3 p3 r3 => by
      subst p3
      cases r3
      exact ⟨j, l, rfl, rfl, q _ _ G3 H3 ((g1.trans k1 k2 g2).trans k2 k3 g3) k3 rfl (.bl _)⟩
  | false =>
    rw [z] at q
    exact q _ _ G2 H2 (g1.trans k1 k2 g2) k2 rfl (.bl false)
/-! built-ins by their values -/
def CbD (S : Cf) (r : List V → Hp → VK → Prop) (ss : List Sl) (P : Sl → Prop) : Prop := ∀ (G H : Hp) (vs : List V), Kn S.fx G H → RSs S.K G vs ss → ∀ Q : VK,
  (∀ z s G' H', Grow S.fx G H G' H' → Kn S.fx G' H' → P s → RS S.K G' z s → Q z H') → r vs H Q
theorem ev_cbP {r : List V → Hp → VK → Prop} {ta : TA} {Pa : List Sl → Prop} {P : Sl → Prop} (ha : EvA S ta ρ Pa) (ho : ∀ ss, Pa ss → CbD S r ss P) : Ev S (tCB r ta) ρ P := fun σ G H k e Q q =>
  ha σ G H k e _ fun vs ss G1 H1 g1 k1 p1 r1 => ho ss p1 G1 H1 vs k1 r1 Q fun z s G2 H2 g2 k2 p2 r2 => q z s G2 H2 (g1.trans k1 k2 g2) k2 p2 r2
theorem ev_cb {r : List V → Hp → VK → Prop} {ta : TA} {ss : List Sl} {P : Sl → Prop} (ha : EvA S ta ρ (Eq ss)) (ho : CbD S r ss P) : Ev S (tCB r ta) ρ P := ev_cbP ha fun _ e => e ▸ ho
theorem cb_gcd {i j : Int} : CbD S rGcd [.dat (.int i), .dat (.int j)] (Eq (.dat (.int ((Nat.gcd i.natAbs j.natAbs : Nat) : Int)))) := fun G H vs k r Q q => by
  cases r with
  | cons r1 r =>
    cases r with
    | cons r2 r =>
      cases r
      cases r1
      cases r2
      exact ⟨i, j, rfl, q _ _ G H (Grow.refl k) k rfl (.int _)⟩
theorem cb_int {i : Int} : CbD S (fun xs H Q => (∃ i, xs = [.int i] ∧ Q (.int i) H) ∨ ∃ k, xs = [.bl k] ∧ Q (.int (if k then 1 else 0)) H) [.dat (.int i)] (Eq (.dat (.int i))) := fun G H vs k r Q q => by
  cases r with
  | cons r1 r =>
    cases r
    cases r1
    exact .inl ⟨i, rfl, q _ _ G H (Grow.refl k) k rfl (.int _)⟩
theorem ev_lenL {ds : List D} (ha : EvL S ta ρ ds) : Ev S (tCB (fun xs H Q => ∃ p ys, xs = [.ref p] ∧ (SqL S.K H p ys ∨ SqT S.K H p ys) ∧ Q (.int ys.length) H) (tCons ta tNil)) ρ (Eq (.dat (.int (ds.length : Nat)))) := fun σ G H k e Q q =>
  ha σ G H k e _ fun a vs G1 H1 g1 k1 st ra => ⟨a, vs, rfl, .inl (st _ _ (Grow.refl k1)), by rw [ra.length]; exact q _ _ G1 H1 g1 k1 rfl (.int _)⟩
theorem ev_lenU {ds : List D} (ha : EvU S ta ρ ds) : Ev S (tCB (fun xs H Q => ∃ p ys, xs = [.ref p] ∧ (SqL S.K H p ys ∨ SqT S.K H p ys) ∧ Q (.int ys.length) H) (tCons ta tNil)) ρ (Eq (.dat (.int (ds.length : Nat)))) := fun σ G H k e Q q =>
  ha σ G H k e _ fun a vs G1 H1 g1 k1 st ra => ⟨a, vs, rfl, .inr (st _ _ (Grow.refl k1)), by rw [ra.length]; exact q _ _ G1 H1 g1 k1 rfl (.int _)⟩
/-- tuple(xs), list(xs) -/
theorem ev_tupL {ds : List D} (ha : EvL S ta ρ ds) : Ev S (tCB (fun xs H Q => ∃ p ys, xs = [.ref p] ∧ ((SqL S.K H p ys ∧ ∀ l, H l = none → Q (.ref l) (upd H l (.tup ys))) ∨ (SqT S.K H p ys ∧ Q (.ref p) H))) (tCons ta tNil)) ρ (Eq (.dat (.tuple ds))) := fun σ G H k e Q q =>
  ha σ G H k e _ fun a vs G1 H1 g1 k1 st ra => ⟨a, vs, rfl, .inl ⟨st _ _ (Grow.refl k1), fun l hl => by
    have g2 := Grow.new k1 (.tup vs) hl
    have k2 := Kn.new k1 (.tup vs) hl
    exact q _ _ _ _ (g1.trans k1 k2 g2) k2 rfl (.tup (SqT.of upd_same) (ra.mono g2.gg))⟩⟩
theorem ev_tupT {ds : List D} (ha : Ev S ta ρ (Eq (.dat (.tuple ds)))) : Ev S (tCB (fun xs H Q => ∃ p ys, xs = [.ref p] ∧ ((SqL S.K H p ys ∧ ∀ l, H l = none → Q (.ref l) (upd H l (.tup ys))) ∨ (SqT S.K H p ys ∧ Q (.ref p) H))) (tCons ta tNil)) ρ (Eq (.dat (.tuple ds))) := fun σ G H k e Q q =>
  ha σ G H k e _ fun v s G1 H1 g1 k1 p1 r1 => by
    subst p1
    have r0 := r1
    cases r1 with
    | tup hs ra => exact ⟨_, _, rfl, .inr ⟨sameT k1.gh hs, q _ _ G1 H1 g1 k1 rfl r0⟩⟩
theorem ev_listL {ds : List D} (ha : EvL S ta ρ ds) : Ev S (tCB (fun xs H Q => ∃ p ys, xs = [.ref p] ∧ (SqL S.K H p ys ∨ SqT S.K H p ys) ∧ ∀ l, H l = none → Q (.ref l) (upd H l (.lst ys))) (tCons ta tNil)) ρ (Eq (.dat (.list ds))) := fun σ G H k e Q q =>
  ha σ G H k e _ fun a vs G1 H1 g1 k1 st ra => ⟨a, vs, rfl, .inl (st _ _ (Grow.refl k1)), fun l hl => by
    have g2 := Grow.new k1 (.lst vs) hl
    have k2 := Kn.new k1 (.lst vs) hl
    exact q _ _ _ _ (g1.trans k1 k2 g2) k2 rfl (.lst (SqL.of upd_same) (ra.mono g2.gg))⟩
theorem ev_all {bs : List Bool} (ha : Ev S ta ρ (Eq (.dat (.list (bs.map PyData.bool))))) : Ev S (tCB (rAll S.K) (tCons ta tNil)) ρ (Eq (.dat (.bool (bs.all id)))) := fun σ G H k e Q q =>
  el_of ha σ G H k e _ fun a vs G1 H1 g1 k1 st ra => ⟨a, bs, rfl, by rw [← ra.bools]; exact st _ _ (Grow.refl k1), q _ _ G1 H1 g1 k1 rfl (.bl _)⟩
theorem ev_sum {ns : List Int} (ha : Ev S ta ρ (Eq (.dat (.list (ns.map PyData.int))))) : Ev S (tCB (rSum S.K) (tCons ta tNil)) ρ (Eq (.dat (.int ns.sum))) := fun σ G H k e Q q =>
  el_of ha σ G H k e _ fun a vs G1 H1 g1 k1 st ra => ⟨a, ns, rfl, by rw [← ra.ints]; exact st _ _ (Grow.refl k1), q _ _ G1 H1 g1 k1 rfl (.int _)⟩
/-! isinstance -/
def tyD : D → String
  | .none => "NoneType"
  | .bool _ => "bool"
  | .int _ => "int"
  | .str _ => "str"
  | .list _ => "list"
  | .tuple _ => "tuple"
  | .dict _ => "dict"
theorem R.ty {K : PySem.W.Frag} {G : Hp} {v : V} {d : D} (h : R K G v d) : TyX K G v (.type (tyD d)) := by
  cases h with
  | non => exact .base .non
  | bl b => exact .base (.bl b)
  | int i => exact .base (.int i)
  | str x => exact .base (.str x)
  | lst hs _ =>
    rcases hs with (h | ⟨o, h⟩) | ⟨o, its, n, hk, hc, _⟩
    · exact .base (.lst h)
    · exact .base (.frz h)
    · exact .kList hk hc
  | tup hs _ =>
    rcases hs with (h | ⟨o, h⟩) | ⟨o, its, n, hk, hc, _⟩
    · exact .base (.tup h)
    · exact .fTuple h
    · exact .kTuple hk hc
  | dic hg _ => exact .base (.dK hg)
/-- isinstance(x, T) -/
theorem ev_isi {d : D} {T : String} {b : Bool} (ha : Ev S ta ρ (Eq (.dat d))) (h : kitB (tyD d) T = some b) : Ev S (tCB (rIsi S.K) (tCons ta (tCons (tC (.ty T)) tNil))) ρ (Eq (.dat (.bool b))) := fun σ G H k e Q q =>
  ha σ G H k e _ fun v s G1 H1 g1 k1 p1 r1 => by
    subst p1
    exact ⟨v, .ty T, .type (tyD d), .type T, b, rfl, .ty T, (R.mono k1.gh r1).ty, kit_ty h, q _ _ G1 H1 g1 k1 rfl (.bl b)⟩
/-- isinstance(x, (T, U)) -/
theorem ev_isi2 {d : D} {T U : String} {b c : Bool} (ha : Ev S ta ρ (Eq (.dat d))) (h1 : kitB (tyD d) T = some b) (h2 : kitB (tyD d) U = some c) :
    Ev S (tCB (rIsiT S.K) (tCons ta (tCons (tTup (tCons (tC (.ty T)) (tCons (tC (.ty U)) tNil))) tNil))) ρ (Eq (.dat (.bool (b || c)))) := fun σ G H k e Q q =>
  ha σ G H k e _ fun v s G1 H1 g1 k1 p1 r1 => by
    subst p1
    refine ⟨by show 2 ≤ sizeLine; decide, fun p hp => ?_⟩
    have e2 : Same H1 (upd H1 p (.tup [.ty T, .ty U])) := same_new hp
    refine ⟨v, p, [.ty T, .ty U], .type (tyD d), [.type T, .type U], b || c, rfl, upd_same, .cons (.ty T) (.cons (.ty U) .nil), (R.mono (k1.gh.trans e2) r1).ty, ?_, ?_⟩
    · exact kitAny_cons (kit_ty h1) (fun hb => kitAny_cons (b := c) (r := b || c) (kit_ty h2) (fun hc => by rw [hb, hc] <;> exact kitAny_nil) fun hc => by rw [hb, hc] <;> rfl) fun hb => by rw [hb] <;> rfl
    · have g2 : Grow S.fx G1 H1 G1 (upd H1 p (.tup [.ty T, .ty U])) := Grow.same k1 e2
      have k2 := k1.same e2
      exact q _ _ _ _ (g1.trans k1 k2 g2) k2 rfl (.bl _)
end
/-! ### calls of defs -/
inductive Re where
  | ok (s : Sl)
  | ex (C : Addr) (d : D)
/-- the promise of a def: i names the arguments; post i tells the way out -/
def spI (K : PySem.W.Frag) (fx : Fx) {ι : Type} (args : ι → List Sl) (pre : ι → Prop) (post : ι → Re → Prop) : Sp := fun vs H Q E => ∃ (i : ι) (G : Hp), pre i ∧ Kn fx G H ∧ RSs K G vs (args i) ∧
  (∀ v s G' H', Grow fx G H G' H' → Kn fx G' H' → RS K G' v s → post i (.ok s) → Q v H') ∧
  (∀ C d dd v G' H', Grow fx G H G' H' → Kn fx G' H' → H' dd = some (.xd [("value", v)]) → R K G' v d → post i (.ex C d) → E (.ref C) (some dd) H')
section
variable {S : Cf} {ρ : Rho} {ι : Type} {args : ι → List Sl} {pre : ι → Prop} {post : ι → Re → Prop} {ta : TA} {E : XK}
/-- f(..), f writes nothing, nothing is raised -/
theorem ev_call {P : Sl → Prop} (i : ι) (ha : EvA S ta ρ (Eq (args i))) (hp : pre i) (ho : ∀ s, post i (.ok s) → P s) (hx : ∀ C d, ¬ post i (.ex C d)) : Ev S (tCall (spI S.K fx0 args pre post) [] E ta) ρ P := fun σ G H k e Q q =>
  ha σ G H k e _ fun vs ss G1 H1 g1 k1 p1 r1 => by
    subst p1
    rw [List.append_nil]
    refine ⟨i, G1, hp, k1.low, r1, fun v s G2 H2 g2 k2 r2 po => ?_, fun C d dd v G2 H2 _ _ _ _ po => absurd po (hx C d)⟩
    have k2' := k1.lift g2
    exact q v s G2 H2 (g1.trans k1 k2' g2.lift) k2' (ho s po) r2
/-- .. what it gives is told -/
theorem ev_callE {f : ι → Sl} (i : ι) (ha : EvA S ta ρ (Eq (args i))) (hp : pre i) : Ev S (tCall (spI S.K fx0 args pre (fun i => Eq (.ok (f i)))) [] E ta) ρ (Eq (f i)) :=
  ev_call i ha hp (fun s h => Re.ok.inj h) (fun C d h => by cases h)
/-- f(..), f may write where all may -/
theorem ev_callF {P : Sl → Prop} {Pa : List Sl → Prop} (ha : EvA S ta ρ Pa) (h : ∀ ss, Pa ss → ∃ i, ss = args i ∧ pre i ∧ (∀ s, post i (.ok s) → P s) ∧ (∀ C d, ¬ post i (.ex C d))) : Ev S (tCall (spI S.K S.fx args pre post) [] E ta) ρ P := fun σ G H k e Q q =>
  ha σ G H k e _ fun vs ss G1 H1 g1 k1 p1 r1 => by
    obtain ⟨i, e1, hp, ho, hx⟩ := h ss p1
    subst e1
    rw [List.append_nil]
    exact ⟨i, G1, hp, k1, r1, fun v s G2 H2 g2 k2 r2 po => q v s G2 H2 (g1.trans k1 k2 g2) k2 (ho s po) r2, fun C d dd v G2 H2 _ _ _ _ po => absurd po (hx C d)⟩
/-- f(..), f writes nothing, the arguments not told -/
theorem ev_callP {P : Sl → Prop} {Pa : List Sl → Prop} (ha : EvA S ta ρ Pa) (h : ∀ ss, Pa ss → ∃ i, ss = args i ∧ pre i ∧ (∀ s, post i (.ok s) → P s) ∧ (∀ C d, ¬ post i (.ex C d))) : Ev S (tCall (spI S.K fx0 args pre post) [] E ta) ρ P := fun σ G H k e Q q =>
  ha σ G H k e _ fun vs ss G1 H1 g1 k1 p1 r1 => by
    obtain ⟨i, e1, hp, ho, hx⟩ := h ss p1
    subst e1
    rw [List.append_nil]
    refine ⟨i, G1, hp, k1.low, r1, fun v s G2 H2 g2 k2 r2 po => ?_, fun C d dd v G2 H2 _ _ _ _ po => absurd po (hx C d)⟩
    have k2' := k1.lift g2
    exact q v s G2 H2 (g1.trans k1 k2' g2.lift) k2' (ho s po) r2
end
end Dl

set_option Elab.async false
set_option linter.all false
set_option maxRecDepth 100000
set_option maxHeartbeats 4000000
/-! Dls: what statements and whole bodies do, as data. -/
namespace Dl
open PySem PySem.Spec PyProof.Rows L2
inductive Oc where
  | nx (ρ : Rho)
  | rt (ρ : Rho) (s : Sl)
  | bk (ρ : Rho)
  | ct (ρ : Rho)
  | ex (C : Addr) (d : D)
/-- .. but for what is written at of one's own -/
structure GrO (fx : Fx) (G H G' H' : Hp) : Prop where
  gg : Same G G'
  gh : Same G' H'
  hh : ∀ a o, ¬ fx.vol a → ¬ fx.mine a → H a = some o → H' a = some o
  nn : ∀ a, H a ≠ none → G a = none → G' a = none
def MnOk (fx : Fx) (G H : Hp) : Prop := ∀ a, fx.mine a → ¬ fx.vol a ∧ G a = none ∧ H a ≠ none
structure OkS (S : Cf) (G H : Hp) : Prop where
  kn : Kn S.fx G H
  k0 : Kn S.fx S.G0 S.B
  gr : GrO S.fx S.G0 S.B G H
  mn : MnOk S.fx G H
  m0 : MnOk S.fx S.G0 S.B
theorem GrO.of {fx : Fx} {G H G1 H1 : Hp} (g : Grow fx G H G1 H1) : GrO fx G H G1 H1 := ⟨g.gg, g.gh, fun a o v _ => g.hh a o v, g.nn⟩
theorem GrO.to {fx : Fx} {G H G1 H1 : Hp} (g : GrO fx G H G1 H1) (hm : ∀ a, ¬ fx.mine a) : Grow fx G H G1 H1 := ⟨g.gg, g.gh, fun a o v => g.hh a o v (hm a), g.nn⟩
theorem MnOk.grow {fx : Fx} {G H G1 H1 : Hp} (m : MnOk fx G H) (g : Grow fx G H G1 H1) : MnOk fx G1 H1 := fun a h => by
  obtain ⟨v, ga, ha⟩ := m a h
  refine ⟨v, g.nn a ha ga, ?_⟩
  cases e : H a with
  | none => exact absurd e ha
  | some o =>
    rw [g.hh a o v e]
    simp
theorem MnOk.none {fx : Fx} {G H : Hp} (hm : ∀ a, ¬ fx.mine a) : MnOk fx G H := fun a h => absurd h (hm a)
theorem GrO.trans {fx : Fx} {G H G1 H1 G2 H2 : Hp} (g : GrO fx G H G1 H1) (k1 : Kn fx G1 H1) (m1 : MnOk fx G1 H1) (k2 : Kn fx G2 H2) (g2 : Grow fx G1 H1 G2 H2) : GrO fx G H G2 H2 :=
  ⟨g.gg.trans g2.gg, g2.gh, fun a o v m h => g2.hh a o v (g.hh a o v m h), fun a h n => by
    by_cases v : fx.vol a
    · exact k2.vn a v
    · cases e : H a with
      | none => exact absurd e h
      | some o =>
        by_cases m : fx.mine a
        · exact g2.nn a (m1 a m).2.2 (g.nn a h n)
        · exact g2.nn a (by rw [g.hh a o v m e]; simp) (g.nn a h n)⟩
structure Fin (S : Cf) (P : Oc → Prop) (De : Ends) (G : Hp) : Prop where
  nx : ∀ (σ : L2.St) (G' H' : Hp) (ρ : Rho), OkS S G' H' → Same G G' → Env S G' H' σ ρ → P (.nx ρ) → De.nx σ H'
  bk : ∀ (σ : L2.St) (G' H' : Hp) (ρ : Rho), OkS S G' H' → Same G G' → Env S G' H' σ ρ → P (.bk ρ) → De.bk σ H'
  ct : ∀ (σ : L2.St) (G' H' : Hp) (ρ : Rho), OkS S G' H' → Same G G' → Env S G' H' σ ρ → P (.ct ρ) → De.ct σ H'
  rt : ∀ (σ : L2.St) (v : V) (s : Sl) (G' H' : Hp) (ρ : Rho), OkS S G' H' → Env S G' H' σ ρ → RS S.K G' v s → P (.rt ρ s) → De.rt v H'
  ex : ∀ (C : Addr) (d : D) (dd : Addr) (v : V) (G' H' : Hp), OkS S G' H' → H' dd = some (.xd [("value", v)]) → R S.K G' v d → P (.ex C d) → S.E (.ref C) (some dd) H'
def Xc (S : Cf) (ts : TS) (ρ : Rho) (P : Oc → Prop) : Prop := ∀ (σ : L2.St) (G H : Hp) (De : Ends), OkS S G H → Env S G H σ ρ → Fin S P De G → ts De σ H
/-- what is asked behind the first of two -/
def SeqP (S : Cf) (u : TS) (P : Oc → Prop) : Oc → Prop
  | .nx ρ => Xc S u ρ P
  | .rt ρ s => P (.rt ρ s)
  | .bk ρ => P (.bk ρ)
  | .ct ρ => P (.ct ρ)
  | .ex C d => P (.ex C d)
/-- .. behind a turn -/
def LoopP (N : Rho → Prop) (P : Oc → Prop) : Oc → Prop
  | .nx ρ => N ρ
  | .ct ρ => N ρ
  | .bk ρ => P (.nx ρ)
  | .rt ρ s => P (.rt ρ s)
  | .ex C d => P (.ex C d)
/-- .. behind a body -/
def RetP (post : Re → Prop) : Oc → Prop
  | .nx _ => post (.ok (.dat .none))
  | .rt _ s => post (.ok s)
  | .ex C d => post (.ex C d)
  | _ => False
section
variable {S : Cf} {G H G1 H1 : Hp} {ρ : Rho} {P : Oc → Prop} {t u : TS} {te ta tb : TE} {tt : TT} {g : TG}
theorem OkS.grow (o : OkS S G H) (g : Grow S.fx G H G1 H1) (k : Kn S.fx G1 H1) : OkS S G1 H1 := ⟨k, o.k0, o.gr.trans o.kn o.mn k g, o.mn.grow g, o.m0⟩
theorem Fin.same {De : Ends} (f : Fin S P De G) (e : Same G G1) : Fin S P De G1 :=
  ⟨fun σ G' H' ρ o s => f.nx σ G' H' ρ o (e.trans s), fun σ G' H' ρ o s => f.bk σ G' H' ρ o (e.trans s), fun σ G' H' ρ o s => f.ct σ G' H' ρ o (e.trans s), f.rt, f.ex⟩
theorem Xc.imp {P' : Oc → Prop} (h : Xc S t ρ P) (i : ∀ o, P o → P' o) : Xc S t ρ P' := fun σ G H De o e f => h σ G H De o e
  ⟨fun σ G' H' ρ o s e p => f.nx σ G' H' ρ o s e (i _ p), fun σ G' H' ρ o s e p => f.bk σ G' H' ρ o s e (i _ p), fun σ G' H' ρ o s e p => f.ct σ G' H' ρ o s e (i _ p), fun σ v s G' H' ρ o e r p => f.rt σ v s G' H' ρ o e r (i _ p),
    fun C d dd v G' H' o h r p => f.ex C d dd v G' H' o h r (i _ p)⟩
theorem xc_seq (h : Xc S t ρ (SeqP S u P)) : Xc S (tSeq t u) ρ P := fun σ G H De o e f => h σ G H { De with nx := u De } o e
  ⟨fun σ' G' H' ρ' o' s e' p => p σ' G' H' De o' e' (f.same s), f.bk, f.ct, f.rt, f.ex⟩
theorem xc_next (h : P (.nx ρ)) : Xc S tNext ρ P := fun σ G H De o e f => f.nx σ G H ρ o (Same.refl G) e h
theorem xc_break (h : P (.bk ρ)) : Xc S tBreak ρ P := fun σ G H De o e f => f.bk σ G H ρ o (Same.refl G) e h
theorem xc_cont (h : P (.ct ρ)) : Xc S tCont ρ P := fun σ G H De o e f => f.ct σ G H ρ o (Same.refl G) e h
theorem xc_never {t : TS} (h : False) : Xc S t ρ P := h.elim
theorem xc_asgP {i : Nat} {p : Sl → Prop} (h : Ev S te ρ p) (hs : ∀ s, p s → P (.nx (ρ.set i s))) : Xc S (tAsg te (gName i)) ρ P := fun σ G H De o e f =>
  h σ G H o.kn e _ fun v s G' H' g k p r => f.nx _ G' H' _ (o.grow g k) g.gg ((e.grow g).set i r) (hs s p)
theorem xc_asg {i : Nat} {s : Sl} (h : Ev S te ρ (Eq s)) (hs : P (.nx (ρ.set i s))) : Xc S (tAsg te (gName i)) ρ P := xc_asgP h fun _ e => e ▸ hs
theorem xc_retP {p : Sl → Prop} (h : Ev S te ρ p) (hs : ∀ s, p s → P (.rt ρ s)) : Xc S (tRet te) ρ P := fun σ G H De o e f => h σ G H o.kn e _ fun v s G' H' g k p r => f.rt σ v s G' H' ρ (o.grow g k) (e.grow g) r (hs s p)
theorem xc_ret {s : Sl} (h : Ev S te ρ (Eq s)) (hs : P (.rt ρ s)) : Xc S (tRet te) ρ P := xc_retP h fun _ e => e ▸ hs
theorem xc_retN (h : P (.rt ρ (.dat .none))) : Xc S tRetN ρ P := fun σ G H De o e f => f.rt σ .non (.dat .none) G H ρ o e .non h
theorem xc_ifP {p : Bool → Prop} (h : EvT S tt ρ p) (h1 : p true → Xc S t ρ P) (h2 : p false → Xc S u ρ P) : Xc S (tIfS tt t u) ρ P := fun σ G H De o e f => h σ G H o.kn e _ fun b G' H' g k p => by
  cases b with
  | true => exact h1 p σ G' H' De (o.grow g k) (e.grow g) (f.same g.gg)
  | false => exact h2 p σ G' H' De (o.grow g k) (e.grow g) (f.same g.gg)
theorem xc_if {b : Bool} (h : EvT S tt ρ (Eq b)) (h1 : b = true → Xc S t ρ P) (h2 : b = false → Xc S u ρ P) : Xc S (tIfS tt t u) ρ P := xc_ifP h h1 h2
theorem xc_dropP {p : Sl → Prop} (h : Ev S te ρ p) (hs : ∀ s, p s → P (.nx ρ)) : Xc S (tDrop te) ρ P := fun σ G H De o e f => h σ G H o.kn e _ fun v s G' H' g k p r => f.nx _ G' H' _ (o.grow g k) g.gg (e.grow g) (hs s p)
/-- x op= e of ints -/
theorem xc_aug {i : Nat} {f : Int → Int → Int} {a b : Int} (hx : ρ[i]? = some (.dat (.int a))) (h : Ev S te ρ (Eq (.dat (.int b)))) (hs : P (.nx (ρ.set i (.dat (.int (f a b)))))) : Xc S (tAug i te (ipI f)) ρ P := fun σ G H De o e fi => by
  obtain ⟨v, h1, v', e', r⟩ := e.get hx
  cases e'
  refine ⟨v, h1, h σ G H o.kn e _ fun w s G' H' g k p r' => ?_⟩
  subst p
  cases r
  cases r'
  exact ⟨a, b, rfl, rfl, fi.nx _ G' H' _ (o.grow g k) g.gg ((e.grow g).set i (s := .dat (.int (f a b))) (.int _)) hs⟩
/-- a, b = e1, e2 -/
theorem xc_par {i j : Nat} {ta : TA} {x y : Sl} (h : EvA S ta ρ (Eq [x, y])) (hs : P (.nx ((ρ.set i x).set j y))) : Xc S (tPar i j ta) ρ P := fun σ G H De o e f => h σ G H o.kn e _ fun vs ss G' H' g k p r => by
  subst p
  cases r with
  | cons r1 r =>
    cases r with
    | cons r2 r =>
      cases r
      exact ⟨_, _, rfl, f.nx _ G' H' _ (o.grow g k) g.gg (((e.grow g).set i r1).set j r2) hs⟩
/-- f(..) as a statement, what is raised leaves -/
theorem xc_callX {ι : Type} {args : ι → List Sl} {pre : ι → Prop} {post : ι → Re → Prop} {ta : TA} (i : ι) (ha : EvA S ta ρ (Eq (args i))) (hp : pre i) (ho : ∀ s, post i (.ok s) → P (.nx ρ)) (hx : ∀ C d, post i (.ex C d) → P (.ex C d)) :
    Xc S (tDrop (tCall (spI S.K fx0 args pre post) [] S.E ta)) ρ P := fun σ G H De o e f => ha σ G H o.kn e _ fun vs ss G1 H1 g1 k1 p1 r1 => by
  subst p1
  rw [List.append_nil]
  have o1 := o.grow g1 k1
  refine ⟨i, G1, hp, k1.low, r1, fun v s G2 H2 g2 k2 r2 po => ?_, fun C d dd v G2 H2 g2 k2 hd r2 po => ?_⟩
  · exact f.nx _ G2 H2 _ (o1.grow g2.lift (k1.lift g2)) (g1.gg.trans g2.gg) ((e.grow g1).grow g2.lift) (ho s po)
  · exact f.ex C d dd v G2 H2 (o1.grow g2.lift (k1.lift g2)) hd r2 (hx C d po)
/-- return f(..), what is raised leaves -/
theorem xc_retX {ι : Type} {args : ι → List Sl} {pre : ι → Prop} {post : ι → Re → Prop} {ta : TA} (i : ι) (ha : EvA S ta ρ (Eq (args i))) (hp : pre i) (ho : ∀ s, post i (.ok s) → P (.rt ρ s)) (hx : ∀ C d, post i (.ex C d) → P (.ex C d)) :
    Xc S (tRet (tCall (spI S.K fx0 args pre post) [] S.E ta)) ρ P := fun σ G H De o e f => ha σ G H o.kn e _ fun vs ss G1 H1 g1 k1 p1 r1 => by
  subst p1
  rw [List.append_nil]
  have o1 := o.grow g1 k1
  refine ⟨i, G1, hp, k1.low, r1, fun v s G2 H2 g2 k2 r2 po => ?_, fun C d dd v G2 H2 g2 k2 hd r2 po => ?_⟩
  · exact f.rt σ v s G2 H2 ρ (o1.grow g2.lift (k1.lift g2)) ((e.grow g1).grow g2.lift) r2 (ho s po)
  · exact f.ex C d dd v G2 H2 (o1.grow g2.lift (k1.lift g2)) hd r2 (hx C d po)
end
/-! ### a list that was just made: ours -/
def EvF (S : Cf) (te : TE) (ρ : Rho) (P : List D → Prop) : Prop := ∀ (σ : L2.St) (G H : Hp), Kn S.fx G H → Env S G H σ ρ → ∀ Q : VK,
  (∀ p vs ds G' H', Grow S.fx G H G' H' → Kn S.fx G' H' → H p = none → G' p = none → H' p = some (.lst vs) → RA S.K G' vs ds → P ds → Q (.ref p) H') → te σ H Q
section
variable {S : Cf} {G H G1 H1 : Hp} {ρ : Rho} {P : Oc → Prop} {t u : TS} {te ta tb : TE} {tt : TT} {g : TG}
theorem EvF.imp {p q : List D → Prop} (h : EvF S te ρ p) (i : ∀ ds, p ds → q ds) : EvF S te ρ q := fun σ G H k e Q f => h σ G H k e Q fun p vs ds G' H' g k' n1 n2 hp r pd => f p vs ds G' H' g k' n1 n2 hp r (i ds pd)
/-- an object of ours is known from now on -/
theorem grow_know (k : Kn S.fx G H) {a : Addr} {u : HO} (g : Grow S.fx G H G1 H1) (k1 : Kn S.fx G1 H1) (hn : H a = none) (n1 : G1 a = none) (ha : H1 a = some u) : Grow S.fx G H (upd G1 a u) H1 ∧ Kn S.fx (upd G1 a u) H1 := by
  have va : ¬ S.fx.vol a := k.fresh hn
  have sh : Same (upd G1 a u) H1 := fun b o hb => by
    by_cases q : b = a
    · subst q
      rw [upd_same] at hb
      rw [ha]
      exact hb
    · rw [upd_ne q] at hb
      exact k1.gh b o hb
  refine ⟨⟨g.gg.trans (same_new n1), sh, g.hh, fun b hb n => ?_⟩, sh, k1.inv, fun b vb => ?_⟩
  · have q : b ≠ a := fun q => hb (by rw [q]; exact hn)
    rw [upd_ne q]
    exact g.nn b hb n
  · have q : b ≠ a := fun q => va (q ▸ vb)
    rw [upd_ne q]
    exact k1.vn b vb
theorem EvF.ev {p : List D → Prop} (h : EvF S te ρ p) : Ev S te ρ (fun s => ∃ ds, s = .dat (.list ds) ∧ p ds) := fun σ G H k e Q f => h σ G H k e Q fun a vs ds G' H' g k' n1 n2 hp r pd => by
  obtain ⟨g2, k2⟩ := grow_know k g k' n1 n2 hp
  exact f _ _ _ H' g2 k2 ⟨ds, rfl, pd⟩ (.lst (SqL.of upd_same) (r.mono (same_new n2)))
theorem EvF.evE {ds : List D} (h : EvF S te ρ (Eq ds)) : Ev S te ρ (Eq (.dat (.list ds))) := h.ev.imp fun s ⟨ds', e, e'⟩ => e' ▸ e.symm
theorem ef_nil : EvF S (tLst tNil) ρ (Eq []) := fun σ G H k e Q q => ⟨Nat.zero_le _, fun p hp => q p [] [] G _ (Grow.same k (same_new hp)) (k.same (same_new hp)) hp (k.freeG hp) upd_same .nil rfl⟩
theorem ef_lst {ta : TA} {ds : List D} (h : EvA S ta ρ (Eq (ds.map Sl.dat))) (hl : ds.length ≤ 1000000) : EvF S (tLst ta) ρ (Eq ds) := fun σ G H k e Q q =>
  h σ G H k e _ fun vs ss G1 H1 g1 k1 p1 r1 => by
    subst p1
    have ra := r1.toRA
    refine ⟨sz_ok (by rw [ra.length]; exact hl), fun p hp => ?_⟩
    have hn : H p = none := by
      cases z : H p with
      | none => rfl
      | some o =>
        by_cases v : S.fx.vol p
        · exact absurd hp (S.fx.there k1.inv v)
        · rw [g1.hh p o v z] at hp
          cases hp
    exact q p vs ds G1 _ (g1.trans k1 (k1.same (same_new hp)) (Grow.same k1 (same_new hp))) (k1.same (same_new hp)) hn (k1.freeG hp) upd_same ra rfl
/-- fresh behind is fresh ahead -/
theorem fresh_of (g : Grow S.fx G H G1 H1) (k1 : Kn S.fx G1 H1) {p : Addr} (hp : H1 p = none) : H p = none := by
  cases z : H p with
  | none => rfl
  | some o =>
    by_cases v : S.fx.vol p
    · exact absurd hp (S.fx.there k1.inv v)
    · rw [g.hh p o v z] at hp
      cases hp
theorem OkS.freshB (o : OkS S G H) {p : Addr} (hp : H p = none) : S.B p = none := by
  cases z : S.B p with
  | none => rfl
  | some u =>
    by_cases v : S.fx.vol p
    · exact absurd hp (S.fx.there o.kn.inv v)
    · by_cases m : S.fx.mine p
      · exact absurd hp (o.mn p m).2.2
      · rw [o.gr.hh p u v m z] at hp
        cases hp
/-- x = a list just made -/
theorem xc_asgF {i : Nat} {p : List D → Prop} (h : EvF S te ρ p) (hs : ∀ a ds, p ds → P (.nx (ρ.set i (.own a (.lst ds))))) : Xc S (tAsg te (gName i)) ρ P := fun σ G H De o e f =>
  h σ G H o.kn e _ fun a vs ds G' H' g k n1 n2 hp r pd => by
    have o1 := o.grow g k
    refine f.nx _ G' H' _ o1 g.gg ((e.grow g).put i (some (.ref a)) (.own a (.lst ds)) ⟨rfl, n2, .inl (o.freshB n1), o.kn.fresh n1, _, hp, r⟩ fun b m z j m' nj hj => ?_) (hs a ds pd)
    cases z
    obtain ⟨w, _, _, _, _, _, u, hu, _⟩ := e.get hj
    rw [n1] at hu
    cases hu
/-- x, a list of ours, is data from now on -/
theorem xc_freeze {i : Nat} {a : Addr} {ds : List D} (h : ρ[i]? = some (.own a (.lst ds))) (hs : Xc S t (ρ.set i (.dat (.list ds))) P) : Xc S t ρ P := fun σ G H De o e f => by
  obtain ⟨u, ha, kn, sg, ba, ga, rr, e2⟩ := e.freeze o.kn h
  have am : ¬ S.fx.mine a := fun m => (o.m0 a m).2.2 ba
  refine hs σ _ H De ⟨kn, o.k0, ⟨o.gr.gg.trans sg, kn.gh, o.gr.hh, fun b hb n => ?_⟩, fun b m => ?_, o.m0⟩ e2 (f.same sg)
  · have q : b ≠ a := fun q => hb (by rw [q]; exact ba)
    rw [upd_ne q]
    exact o.gr.nn b hb n
  · obtain ⟨x, y, z⟩ := o.mn b m
    have q : b ≠ a := fun q => am (q ▸ m)
    exact ⟨x, by rw [upd_ne q]; exact y, z⟩
theorem xc_forget (i : Nat) (hs : Xc S t (ρ.set i .no) P) : Xc S t ρ P := fun σ G H De o e f => hs σ G H De o (e.forget i) f
/-- an object of ours is written -/
theorem own_write {σ : L2.St} (o : OkS S G H) (e : Env S G H σ ρ) {i : Nat} {a : Addr} {m m' : Mo} {u' : HO} (h : ρ[i]? = some (.own a m)) (r : MoOk S.K G u' m') (hi : m.isIns → m'.isIns := by exact fun z => z) :
    OkS S G (upd H a u') ∧ Env S G (upd H a u') σ (ρ.set i (.own a m')) := by
  obtain ⟨v, h1, e1, ga, ba, va, u, ha, ru⟩ := e.get h
  cases Option.some.inj e1
  have nf : ¬ Fixd u := ru.noFix
  have inv' : S.fx.inv (upd H a u') := S.fx.ext (fun b w hb hw => by
    have q : b ≠ a := fun q => by
      rcases hb with hb | hb
      · exact va (q ▸ hb)
      · rw [q, ha] at hw
        cases hw
        exact nf hb
    rw [upd_ne q]
    exact hw) o.kn.inv
  have gh : Same G (upd H a u') := fun b w hb => by
    have q : b ≠ a := fun q => by
      rw [q, ga] at hb
      cases hb
    rw [upd_ne q]
    exact o.kn.gh b w hb
  refine ⟨⟨⟨gh, inv', o.kn.vn⟩, o.k0, ⟨o.gr.gg, gh, fun b w vb mb hb => ?_, o.gr.nn⟩, fun b m => ?_, o.m0⟩, ?_⟩
  · have q : b ≠ a := fun q => by
      rcases ba with ba | ba
      · rw [q, ba] at hb
        cases hb
      · exact mb (q ▸ ba.1)
    rw [upd_ne q]
    exact o.gr.hh b w vb mb hb
  · obtain ⟨x, y, z⟩ := o.mn b m
    refine ⟨x, y, ?_⟩
    by_cases q : b = a
    · rw [q, upd_same]
      simp
    · rw [upd_ne q]
      exact z
  · refine ⟨by simp [e.len], fun j s hj => ?_, fun j l b m1 m2 hj hl => ?_⟩
    · rcases set_get hj with ⟨ej, es⟩ | ⟨nj, hj⟩
      · subst ej es
        exact ⟨_, h1, rfl, ga, ba.imp id fun z => ⟨z.1, hi z.2⟩, va, u', upd_same, r⟩
      · obtain ⟨w, q1, q2⟩ := e.at_ j s hj
        refine ⟨w, q1, ?_⟩
        cases s with
        | no => exact True.intro
        | dat d => exact q2
        | raw x => exact q2
        | own b mb =>
          obtain ⟨y1, y2, y3, y4, ub, y5, y6⟩ := q2
          have q : b ≠ a := fun q => nj (e.dis j i a mb m (q ▸ hj) h)
          exact ⟨y1, y2, y3, y4, ub, by rw [upd_ne q]; exact y5, y6⟩
    · rcases set_get hj with ⟨ej, es⟩ | ⟨nj, hj⟩
      · rcases set_get hl with ⟨el, _⟩ | ⟨nl, hl⟩
        · rw [ej, el]
        · cases es
          exact absurd (e.dis l i a m2 m hl h) nl
      · rcases set_get hl with ⟨el, es⟩ | ⟨nl, hl⟩
        · cases es
          exact absurd (e.dis j i a m1 m hj h) nj
        · exact e.dis j l b m1 m2 hj hl
/-- xs.append(e), xs ours -/
theorem xc_append {i : Nat} {a : Addr} {ds : List D} {p : D → Prop} (hx : ρ[i]? = some (.own a (.lst ds))) (h : Ev S te ρ (fun s => ∃ d, s = .dat d ∧ p d)) (hl : ds.length < 1000000) (hs : ∀ d, p d → P (.nx (ρ.set i (.own a (.lst (ds ++ [d])))))) :
    Xc S (tDrop (tBM S.K "list" rAppend (tVar i) (tCons te tNil))) ρ P := fun σ G H De o e f => by
  obtain ⟨v, h1, e1, ga, ba, va, u, ha, ru⟩ := e.get hx
  cases Option.some.inj e1
  cases u with
  | lst vs =>
    refine ⟨_, h1, .inl ⟨rfl, vs, SqL.of ha⟩, h σ G H o.kn e _ fun w s G1 H1 g1 k1 ⟨d, es, pd⟩ rd => ?_⟩
    subst es
    have o1 := o.grow g1 k1
    have e1 := e.grow g1
    have ra : RA S.K G1 (vs ++ [w]) (ds ++ [d]) := RA.snoc (RA.mono g1.gg ru) rd
    obtain ⟨o2, e2⟩ := own_write (u' := .lst (vs ++ [w])) (m' := .lst (ds ++ [d])) o1 e1 hx ra
    refine ⟨a, vs, w, rfl, rfl, g1.hh a _ va ha, Nat.lt_of_lt_of_le (by rw [RA.length ru]; exact hl) (by decide), ?_⟩
    exact f.nx _ G1 _ _ o2 g1.gg e2 (hs d pd)
  | _ => exact ru.elim
/-- xs.extend(a list just made) -/
theorem xc_extend {i : Nat} {a : Addr} {ds : List D} {p : List D → Prop} (hx : ρ[i]? = some (.own a (.lst ds))) (h : EvF S te ρ p) (hl : ∀ es, p es → ds.length + es.length ≤ 1000000) (hs : ∀ es, p es → P (.nx (ρ.set i (.own a (.lst (ds ++ es)))))) :
    Xc S (tDrop (tBM S.K "list" rExtend (tVar i) (tCons te tNil))) ρ P := fun σ G H De o e f => by
  obtain ⟨v, h1, e1, ga, ba, va, u, ha, ru⟩ := e.get hx
  cases Option.some.inj e1
  cases u with
  | lst vs =>
    refine ⟨_, h1, .inl ⟨rfl, vs, SqL.of ha⟩, h σ G H o.kn e _ fun b ws es G1 H1 g1 k1 n1 n2 hb rw' pe => ?_⟩
    have o1 := o.grow g1 k1
    have e1 := e.grow g1
    have ra : RA S.K G1 (vs ++ ws) (ds ++ es) := RA.append (RA.mono g1.gg ru) rw'
    obtain ⟨o2, e2⟩ := own_write (u' := .lst (vs ++ ws)) (m' := .lst (ds ++ es)) o1 e1 hx ra
    refine ⟨a, b, vs, ws, rfl, rfl, g1.hh a _ va ha, hb, sz_ok (by rw [RA.length ru, rw'.length]; exact hl es pe), ?_⟩
    exact f.nx _ G1 _ _ o2 g1.gg e2 (hs es pe)
  | _ => exact ru.elim
end
/-! ### walks -/
/-- J walks the data ds while what is known stays known -/
def Wk (S : Cf) (J : It) (G : Hp) (ds : List D) : Prop := ∀ (G2 H2 : Hp), Same G G2 → Kn S.fx G2 H2 → J.stop ds.length H2 ∧
  ∀ (i : Nat) (d : D), ds[i]? = some d → J.go i H2 ∧ ∀ x H3, J.yld i H2 x H3 → ∃ G3, Grow S.fx G2 H2 G3 H3 ∧ Kn S.fx G3 H3 ∧ R S.K G3 x d
def Itm (S : Cf) (wi : TI) (ρ : Rho) (P : List D → Prop) : Prop := ∀ (σ : L2.St) (G H : Hp), Kn S.fx G H → Env S G H σ ρ → ∀ Rr : It → Hp → Prop,
  (∀ J ds G' H', Grow S.fx G H G' H' → Kn S.fx G' H' → P ds → Wk S J G' ds → Rr J H') → wi σ H Rr
section
variable {S : Cf} {G H : Hp} {ρ : Rho} {te ta tb : TE}
theorem wk_list {a : Addr} {vs : List V} {ds : List D} (hs : SqL S.K G a vs) (ra : RA S.K G vs ds) : Wk S (Itl S.K a) G ds := fun G2 H2 e k => by
  have hs2 : SqL S.K H2 a vs := (e.trans k.gh).seq hs
  refine ⟨⟨vs, hs2, by rw [ra.length]; exact Nat.le_refl _⟩, fun i d hd => ?_⟩
  obtain ⟨v, hv, rv⟩ := ra.get hd
  exact ⟨⟨vs, v, hs2, hv⟩, fun x H3 ⟨e3, hx⟩ => ⟨G2, by rw [e3]; exact Grow.refl k, by rw [e3]; exact k, by
    have := hx vs hs2
    rw [hv] at this
    cases this
    exact rv.mono e⟩⟩
theorem wk_tup {a : Addr} {vs : List V} {ds : List D} (hs : SqT S.K G a vs) (ra : RA S.K G vs ds) : Wk S (Itt S.K a) G ds := fun G2 H2 e k => by
  have hs2 : SqT S.K H2 a vs := sameT (e.trans k.gh) hs
  refine ⟨⟨vs, hs2, by rw [ra.length]; exact Nat.le_refl _⟩, fun i d hd => ?_⟩
  obtain ⟨v, hv, rv⟩ := ra.get hd
  exact ⟨⟨vs, v, hs2, hv⟩, fun x H3 ⟨e3, hx⟩ => ⟨G2, by rw [e3]; exact Grow.refl k, by rw [e3]; exact k, by
    have := hx vs hs2
    rw [hv] at this
    cases this
    exact rv.mono e⟩⟩
/-- lo, lo + 1, .. -/
def rngD (lo : Int) (n : Nat) : List D := (List.range n).map fun (i : Nat) => PyData.int (lo + (i : Int))
theorem rngD_length (lo : Int) (n : Nat) : (rngD lo n).length = n := by simp [rngD]
theorem rngD_get {lo : Int} {n i : Nat} {d : D} (h : (rngD lo n)[i]? = some d) : i < n ∧ d = .int (lo + (i : Int)) := by
  have hl := (List.getElem?_eq_some_iff.mp h).1
  rw [rngD_length] at hl
  refine ⟨hl, ?_⟩
  simp [rngD, hl] at h
  exact h.symm
theorem wk_range {lo : Int} {n : Nat} : Wk S (Itr lo n) G (rngD lo n) := fun G2 H2 e k => by
  refine ⟨by rw [rngD_length]; exact Nat.le_refl _, fun i d hd => ?_⟩
  obtain ⟨hi, ed⟩ := rngD_get hd
  exact ⟨hi, fun x H3 ⟨e3, hx⟩ => ⟨G2, by rw [e3]; exact Grow.refl k, by rw [e3]; exact k, by rw [hx, ed]; exact .int _⟩⟩
theorem im_list {P : List D → Prop} (h : Ev S te ρ (fun s => ∃ ds, s = .dat (.list ds) ∧ P ds)) : Itm S (iList S.K te) ρ P := fun σ G H k e Rr f => h σ G H k e _ fun v s G' H' g k' ⟨ds, es, pd⟩ r => by
  subst es
  cases r with
  | lst hs ra => exact ⟨_, rfl, ⟨_, k'.gh.seq hs⟩, f _ ds G' H' g k' pd (wk_list hs ra)⟩
theorem im_listE {ds : List D} (h : Ev S te ρ (Eq (.dat (.list ds)))) : Itm S (iList S.K te) ρ (Eq ds) := im_list (h.imp fun s e => ⟨ds, e.symm, rfl⟩)
theorem im_tupE {ds : List D} (h : Ev S te ρ (Eq (.dat (.tuple ds)))) : Itm S (iTup S.K te) ρ (Eq ds) := fun σ G H k e Rr f => h σ G H k e _ fun v s G' H' g k' es r => by
  subst es
  cases r with
  | tup hs ra => exact ⟨_, rfl, ⟨_, sameT k'.gh hs⟩, f _ ds G' H' g k' rfl (wk_tup hs ra)⟩
theorem im_rng1 {P : List D → Prop} (h : EvI S te ρ (fun n => 0 ≤ n ∧ n < 2 ^ 62 ∧ P (rngD 0 n.toNat))) : Itm S (iRng1 (tCons te tNil)) ρ P := fun σ G H k e Rr f => h σ G H k e _ fun v s G' H' g k' ⟨n, es, h1, h2, pd⟩ r => by
  subst es
  cases r
  exact ⟨n, rfl, by omega, h2, f _ _ G' H' g k' pd wk_range⟩
theorem im_rng1E {n : Nat} (h : Ev S te ρ (Eq (.dat (.int (n : Nat))))) (hn : n ≤ 1000000000) : Itm S (iRng1 (tCons te tNil)) ρ (Eq (rngD 0 n)) := im_rng1 (h.toI ⟨by omega, by omega, by rw [Int.toNat_natCast]⟩)
/-- enumerate -/
def enumD (k : Nat) : List D → List D
  | [] => []
  | d :: ds => .tuple [.int (k : Nat), d] :: enumD (k + 1) ds
theorem enumD_length : ∀ (k : Nat) (ds : List D), (enumD k ds).length = ds.length
  | _, [] => rfl
  | k, _ :: ds => congrArg (· + 1) (enumD_length (k + 1) ds)
theorem enumD_get : ∀ {k : Nat} {ds : List D} {i : Nat} {d : D}, (enumD k ds)[i]? = some d → ∃ x, ds[i]? = some x ∧ d = .tuple [.int ((k + i : Nat) : Int), x]
  | k, [], i, d, h => by simp [enumD] at h
  | k, y :: ds, 0, d, h => by
    simp only [enumD, List.getElem?_cons_zero, Option.some.injEq] at h
    exact ⟨y, rfl, by rw [← h]; rfl⟩
  | k, y :: ds, i + 1, d, h => by
    simp only [enumD, List.getElem?_cons_succ] at h
    obtain ⟨x, h1, h2⟩ := enumD_get h
    exact ⟨x, by simpa using h1, by rw [h2, show k + 1 + i = k + (i + 1) by omega]⟩
theorem wk_pair {J : It} {ds : List D} {f : D → D → D} (h : ∀ (G2 H2 : Hp), Same G G2 → Kn S.fx G2 H2 → J.stop ds.length H2 ∧ ∀ (i : Nat) (d : D), ds[i]? = some d → J.go i H2 ∧ ∀ x H3, J.yld i H2 x H3 →
      ∃ (T : Addr) (v w : V) (a b : D), x = .ref T ∧ H2 T = none ∧ H3 = upd H2 T (.tup [v, w]) ∧ R S.K G2 v a ∧ R S.K G2 w b ∧ d = .tuple [a, b]) : Wk S J G ds := fun G2 H2 e k => by
  obtain ⟨h1, h2⟩ := h G2 H2 e k
  refine ⟨h1, fun i d hd => ?_⟩
  obtain ⟨h3, h4⟩ := h2 i d hd
  refine ⟨h3, fun x H3 hy => ?_⟩
  obtain ⟨T, v, w, a, b, ex, hT, eH, rv, rw', ed⟩ := h4 x H3 hy
  subst ex eH ed
  have g3 := Grow.new k (.tup [v, w]) hT
  exact ⟨_, g3, Kn.new k _ hT, .tup (SqT.of upd_same) (.cons (rv.mono g3.gg) (.cons (rw'.mono g3.gg) .nil))⟩
theorem wk_enum {a : Addr} {vs : List V} {ds : List D} (hs : SqL S.K G a vs) (ra : RA S.K G vs ds) : Wk S (Ite S.K a) G (enumD 0 ds) := wk_pair (f := fun a b => .tuple [a, b]) fun G2 H2 e k => by
  have hs2 : SqL S.K H2 a vs := (e.trans k.gh).seq hs
  refine ⟨(walk_enum (K := S.K) (a := a) (xs := vs)).stops H2 hs2 |> fun z => by rw [enumD_length, ← ra.length]; exact z, fun i d hd => ?_⟩
  obtain ⟨x, hx, ed⟩ := enumD_get hd
  obtain ⟨v, hv, rv⟩ := ra.get hx
  have hi : i < vs.length := (List.getElem?_eq_some_iff.mp hv).1
  refine ⟨(walk_enum (K := S.K) (a := a) (xs := vs)).goes i H2 hi hs2, fun y H3 hy => ?_⟩
  obtain ⟨T, p, q, e1, e2, e3, e4, e5⟩ := (walk_enum (K := S.K) (a := a) (xs := vs)).yields i H2 y H3 hi hs2 hy
  have e5 : vs[i]? = some q := e5
  rw [hv] at e5
  cases e5
  cases e4
  exact ⟨T, _, _, .int ((0 + i : Nat) : Int), x, e1, e2, e3, by rw [Nat.zero_add]; exact .int _, rv.mono e, ed⟩
theorem im_enumL {ds : List D} (h : Ev S te ρ (Eq (.dat (.list ds)))) : Itm S (iEnum S.K (tCons te tNil)) ρ (Eq (enumD 0 ds)) := fun σ G H k e Rr f => h σ G H k e _ fun v s G' H' g k' es r => by
  subst es
  cases r with
  | lst hs ra => exact ⟨_, _, rfl, k'.gh.seq hs, f _ _ G' H' g k' rfl (wk_enum hs ra)⟩
end
/-! ### targets -/
structure Diff (js : List Nat) (σ σ' : L2.St) : Prop where
  len : σ'.length = σ.length
  at_ : ∀ i, i ∉ js → σ'[i]? = σ[i]?
def Tgt (S : Cf) (g : TG) (js : List Nat) (d : D) (ρ ρ' : Rho) : Prop := ∀ (σ : L2.St) (G H : Hp) (v : V), Kn S.fx G H → Env S G H σ ρ → R S.K G v d → ∀ Q : L2.St → Hp → Prop, (∀ σ', Diff js σ σ' → Env S G H σ' ρ' → Q σ' H) → g v σ H Q
def Tgts (S : Cf) (g : TGs) (js : List Nat) (ds : List D) (ρ ρ' : Rho) : Prop := ∀ (σ : L2.St) (G H : Hp) (vs : List V), Kn S.fx G H → Env S G H σ ρ → RA S.K G vs ds → ∀ Q : L2.St → Hp → Prop, (∀ σ', Diff js σ σ' → Env S G H σ' ρ' → Q σ' H) → g vs σ H Q
section
variable {S : Cf} {ρ ρ1 ρ2 : Rho} {g : TG} {gs : TGs}
theorem tg_name {j : Nat} {d : D} : Tgt S (gName j) [j] d ρ (ρ.set j (.dat d)) := fun σ G H v k e r Q q => q _ ⟨by simp, fun i hi => by
  have : j ≠ i := fun z => hi (by simp [z])
  rw [List.getElem?_set_ne this]⟩ (e.set j (s := .dat d) r)
theorem tgs_nil : Tgts S gNil [] [] ρ ρ := fun σ G H vs k e r Q q => by
  cases r
  exact ⟨rfl, q σ ⟨rfl, fun _ _ => rfl⟩ e⟩
theorem tgs_cons {js ks : List Nat} {d : D} {ds : List D} (h1 : Tgt S g js d ρ ρ1) (h2 : Tgts S gs ks ds ρ1 ρ2) : Tgts S (gCons g gs) (js ++ ks) (d :: ds) ρ ρ2 := fun σ G H vs k e r Q q => by
  cases r with
  | cons r1 r2 =>
    refine ⟨_, _, rfl, h1 σ G H _ k e r1 _ fun σ1 d1 e1 => h2 σ1 G H _ k e1 r2 Q fun σ2 d2 e2 => q σ2 ⟨d2.len.trans d1.len, fun i hi => ?_⟩ e2⟩
    rw [d2.at_ i fun z => hi (List.mem_append_right _ z), d1.at_ i fun z => hi (List.mem_append_left _ z)]
theorem tg_tup {js : List Nat} {ds : List D} {n : Nat} (h : Tgts S gs js ds ρ ρ1) (hn : ds.length = n := by rfl) : Tgt S (gTup S.K n gs) js (.tuple ds) ρ ρ1 := fun σ G H v k e r Q q => by
  cases r with
  | tup hs ra => exact ⟨_, _, rfl, sameT k.gh hs, by rw [ra.length]; exact hn, h σ G H _ k e ra Q q⟩
/-- two names -/
theorem tg_two {i j : Nat} {a b : D} : Tgt S (gTup S.K 2 (gCons (gName i) (gCons (gName j) gNil))) [i, j] (.tuple [a, b]) ρ ((ρ.set i (.dat a)).set j (.dat b)) := tg_tup (js := [i, j]) (tgs_cons (js := [i]) tg_name (tgs_cons (js := [j]) tg_name tgs_nil))
theorem xc_asgT {te : TE} {P : Oc → Prop} {js : List Nat} {d : D} (h : Ev S te ρ (Eq (.dat d))) (ht : Tgt S g js d ρ ρ1) (hs : P (.nx ρ1)) : Xc S (tAsg te g) ρ P := fun σ G H De o e f =>
  h σ G H o.kn e _ fun v s G' H' g' k es r => by
    subst es
    exact ht σ G' H' v k (e.grow g') r _ fun σ' _ e' => f.nx σ' G' H' ρ1 (o.grow g' k) g'.gg e' hs
/-! ### loops -/
theorem xc_for {wi : TI} {tb : TS} {P : Oc → Prop} {p : List D → Prop} (hi : Itm S wi ρ p) (I : List D → Nat → Rho → Prop) (h0 : ∀ ds, p ds → I ds 0 ρ)
    (hs : ∀ ds i d ρ1, p ds → ds[i]? = some d → I ds i ρ1 → ∃ js ρ2, Tgt S g js d ρ1 ρ2 ∧ Xc S tb ρ2 (LoopP (I ds (i + 1)) P)) (hd : ∀ ds ρ1, p ds → I ds ds.length ρ1 → P (.nx ρ1)) : Xc S (tFor wi g tb) ρ P := fun σ G H De o e f =>
  hi σ G H o.kn e _ fun J ds G1 H1 g1 k1 pd wk => by
    refine ⟨fun i m σ H => m = ds.length - i ∧ i ≤ ds.length ∧ ∃ G ρ', OkS S G H ∧ Same G1 G ∧ Env S G H σ ρ' ∧ I ds i ρ', ⟨_, rfl, Nat.zero_le _, G1, ρ, o.grow g1 k1, Same.refl _, e.grow g1, h0 ds pd⟩, ?_⟩
    rintro i m σ2 H2 ⟨rfl, hi, G2, ρ2, o2, s2, e2, hI⟩
    obtain ⟨w1, w2⟩ := wk G2 H2 s2 o2.kn
    by_cases hlt : i < ds.length
    · obtain ⟨go, yl⟩ := w2 i ds[i] (by simp [hlt])
      refine .inr ⟨go, fun σ' H' => ∃ G ρ', OkS S G H' ∧ Same G1 G ∧ Env S G H' σ' ρ' ∧ I ds (i + 1) ρ', fun σ' H' ⟨G', ρ', q⟩ => ⟨ds.length - (i + 1), by omega, rfl, hlt, G', ρ', q⟩, fun x H3 hy => ?_⟩
      obtain ⟨G3, g3, k3, r3⟩ := yl x H3 hy
      obtain ⟨js, ρ3, tg, xb⟩ := hs ds i ds[i] ρ2 pd (by simp [hlt]) hI
      have o3 := o2.grow g3 k3
      refine tg σ2 G3 H3 x k3 (e2.grow g3) r3 _ fun σ4 _ e4 => xb σ4 G3 H3 _ o3 e4 ?_
      have s3 := s2.trans g3.gg
      exact ⟨fun σ' G' H' ρ' o' s' e' p' => ⟨G', ρ', o', s3.trans s', e', p'⟩, fun σ' G' H' ρ' o' s' e' p' => f.nx σ' G' H' ρ' o' ((g1.gg.trans s3).trans s') e' p', fun σ' G' H' ρ' o' s' e' p' => ⟨G', ρ', o', s3.trans s', e', p'⟩, f.rt, f.ex⟩
    · have e' : i = ds.length := by omega
      subst e'
      exact .inl ⟨w1, f.nx σ2 G2 H2 ρ2 o2 (g1.gg.trans s2) e2 (hd ds ρ2 pd hI)⟩
theorem xc_forE {wi : TI} {tb : TS} {P : Oc → Prop} {ds : List D} (hi : Itm S wi ρ (Eq ds)) (I : Nat → Rho → Prop) (h0 : I 0 ρ)
    (hs : ∀ i d ρ1, ds[i]? = some d → I i ρ1 → ∃ js ρ2, Tgt S g js d ρ1 ρ2 ∧ Xc S tb ρ2 (LoopP (I (i + 1)) P)) (hd : ∀ ρ1, I ds.length ρ1 → P (.nx ρ1)) : Xc S (tFor wi g tb) ρ P :=
  xc_for hi (fun _ => I) (fun _ _ => h0) (fun ds' i d ρ1 e => e ▸ hs i d ρ1) (fun ds' ρ1 e => e ▸ hd ρ1)
theorem xc_while {tt : TT} {tb : TS} {P : Oc → Prop} (I : Nat → Rho → Prop) (m0 : Nat) (h0 : I m0 ρ)
    (hs : ∀ m ρ1, I m ρ1 → EvT S tt ρ1 (fun b => if b = true then Xc S tb ρ1 (LoopP (fun ρ2 => ∃ m', m' < m ∧ I m' ρ2) P) else P (.nx ρ1))) : Xc S (tWhile tt tb) ρ P := fun σ G H De o e f => by
  refine ⟨fun m σ' H' => ∃ G' ρ', OkS S G' H' ∧ Same G G' ∧ Env S G' H' σ' ρ' ∧ I m ρ', ⟨m0, G, ρ, o, Same.refl _, e, h0⟩, ?_⟩
  rintro m σ1 H1 ⟨G1, ρ1, o1, s1, e1, hI⟩
  refine hs m ρ1 hI σ1 G1 H1 o1.kn e1 _ fun b G2 H2 g2 k2 pb => ?_
  have o2 := o1.grow g2 k2
  have e2 := e1.grow g2
  have s2 := s1.trans g2.gg
  cases b with
  | true =>
    rw [if_pos rfl] at pb ⊢
    refine ⟨fun σ' H' => ∃ m', m' < m ∧ ∃ G' ρ', OkS S G' H' ∧ Same G G' ∧ Env S G' H' σ' ρ' ∧ I m' ρ', fun σ' H' ⟨m', hm, q⟩ => ⟨m', hm, q⟩, pb σ1 G2 H2 _ o2 e2 ?_⟩
    exact ⟨fun σ' G' H' ρ' o' s' e' ⟨m', hm, q⟩ => ⟨m', hm, G', ρ', o', s2.trans s', e', q⟩, fun σ' G' H' ρ' o' s' e' p' => f.nx σ' G' H' ρ' o' (s2.trans s') e' p', fun σ' G' H' ρ' o' s' e' ⟨m', hm, q⟩ => ⟨m', hm, G', ρ', o', s2.trans s', e', q⟩, f.rt, f.ex⟩
  | false =>
    rw [if_neg (by decide)] at pb ⊢
    exact f.nx σ1 G2 H2 ρ1 o2 s2 e2 pb
/-! ### comprehensions -/
def wipeR (ρ : Rho) : List Nat → Rho
  | [] => ρ
  | v :: vs => (wipeR ρ vs).set v .no
theorem Env.wipe {G H : Hp} {σ : L2.St} (e : Env S G H σ ρ) : ∀ vs : List Nat, Env S G H (L2.wipe σ vs) (wipeR ρ vs)
  | [] => e
  | v :: vs => (Env.wipe e vs).unset v _
theorem wipe_at (σ : L2.St) : ∀ (vs : List Nat) (i : Nat), (L2.wipe σ vs)[i]? = if i ∈ vs ∧ i < σ.length then some none else σ[i]?
  | [], i => by simp [L2.wipe]
  | v :: vs, i => by
    show ((L2.wipe σ vs).set v none)[i]? = _
    have ih := wipe_at σ vs i
    by_cases e : i = v
    · subst e
      by_cases hl : i < σ.length
      · rw [List.getElem?_set_self (by rw [L2.wipe_length]; exact hl), if_pos ⟨by simp, hl⟩]
      · rw [if_neg (fun z => hl z.2)]
        rw [List.getElem?_eq_none_iff.mpr (by simp [L2.wipe_length]; omega), List.getElem?_eq_none_iff.mpr (by omega)]
    · rw [List.getElem?_set_ne (Ne.symm e), ih]
      simp [e]
theorem wipe_diff {σ σ' : L2.St} {js vs : List Nat} (d : Diff js (L2.wipe σ vs) σ') (h : ∀ j ∈ js, j ∈ vs) : L2.wipe σ' vs = L2.wipe σ vs := by
  apply List.ext_getElem?
  intro i
  have hlen : σ'.length = σ.length := d.len.trans (L2.wipe_length σ vs)
  rw [wipe_at, wipe_at, hlen]
  by_cases hi : i ∈ vs
  · by_cases hl : i < σ.length
    · rw [if_pos ⟨hi, hl⟩, if_pos ⟨hi, hl⟩]
    · rw [if_neg (fun z => hl z.2), if_neg (fun z => hl z.2), List.getElem?_eq_none_iff.mpr (by omega), List.getElem?_eq_none_iff.mpr (by omega)]
  · rw [if_neg (fun z => hi z.1), if_neg (fun z => hi z.1), d.at_ i fun z => hi (h i z), wipe_at, if_neg (fun z => hi z.1)]
/-- [e for x in xs if t] -/
theorem ef_lc {wi : TI} {te : TE} {tt : TT} {vs : List Nat} {p P : List D → Prop} (hi : Itm S wi ρ p) (I : List D → Nat → List D → Prop) (h0 : ∀ ds, p ds → ds.length ≤ 1000000 ∧ I ds 0 [])
    (hs : ∀ ds i d acc, p ds → ds[i]? = some d → acc.length ≤ i → I ds i acc → ∃ js ρ2, (∀ j ∈ js, j ∈ vs) ∧ Tgt S g js d (wipeR ρ vs) ρ2 ∧
      EvT S tt ρ2 (fun b => if b = true then Ev S te ρ2 (fun s => ∃ y, s = .dat y ∧ I ds (i + 1) (acc ++ [y])) else I ds (i + 1) acc)) (hd : ∀ ds acc, p ds → acc.length ≤ ds.length → I ds ds.length acc → P acc) :
    EvF S (tLc wi g tt te vs) ρ P := fun σ G H k e Q q => hi σ G H k e _ fun J ds G1 H1 g1 k1 pd wk Dl hD => by
  obtain ⟨hl, hI0⟩ := h0 ds pd
  have hnD : H Dl = none := fresh_of g1 k1 hD
  have vD : ¬ S.fx.vol Dl := k1.fresh hD
  have e1 := e.grow g1
  -- the state between two turns
  refine ⟨fun i m H2 => m = ds.length - i ∧ i ≤ ds.length ∧ ∃ G2 acc vs', Grow S.fx G1 H1 G2 H2 ∧ Kn S.fx G2 H2 ∧ G2 Dl = none ∧ H2 Dl = some (.lst vs') ∧ RA S.K G2 vs' acc ∧ acc.length ≤ i ∧ I ds i acc,
    ⟨_, rfl, Nat.zero_le _, G1, [], [], Grow.same k1 (same_new hD), k1.same (same_new hD), k1.freeG hD, upd_same, .nil, Nat.le_refl _, hI0⟩, ?_⟩
  rintro i m H2 ⟨rfl, hi, G2, acc, vs', g2, k2, nD, aD, ra, al, hI⟩
  obtain ⟨w1, w2⟩ := wk G2 H2 g2.gg k2
  by_cases hlt : i < ds.length
  · obtain ⟨go, yl⟩ := w2 i ds[i] (by simp [hlt])
    refine .inr ⟨go, fun H' => ∃ G2 acc vs', Grow S.fx G1 H1 G2 H' ∧ Kn S.fx G2 H' ∧ G2 Dl = none ∧ H' Dl = some (.lst vs') ∧ RA S.K G2 vs' acc ∧ acc.length ≤ i + 1 ∧ I ds (i + 1) acc, fun H' h' => ⟨ds.length - (i + 1), by omega, rfl, hlt, h'⟩, fun x H3 hy => ?_⟩
    obtain ⟨G3, g3, k3, r3⟩ := yl x H3 hy
    obtain ⟨js, ρ2, hj, tg, et⟩ := hs ds i ds[i] acc pd (by simp [hlt]) al hI
    have ew : Env S G3 H3 (L2.wipe σ vs) (wipeR ρ vs) := (((e1.grow g2).grow g3)).wipe vs
    refine tg (L2.wipe σ vs) G3 H3 x k3 ew r3 _ fun σ4 df e4 => ⟨wipe_diff df hj, ?_⟩
    refine et σ4 G3 H3 k3 e4 _ fun b G4 H4 g4 k4 pb => ?_
    have g14 : Grow S.fx G1 H1 G4 H4 := ((g2.trans k2 k3 g3).trans k3 k4 g4)
    have nD4 : G4 Dl = none := g4.nn Dl (by rw [g3.hh Dl _ vD aD]; simp) (g3.nn Dl (by rw [aD]; simp) nD)
    have aD4 : H4 Dl = some (.lst vs') := g4.hh Dl _ vD (g3.hh Dl _ vD aD)
    have ra4 : RA S.K G4 vs' acc := ra.mono (g3.gg.trans g4.gg)
    cases b with
    | true =>
      rw [if_pos rfl] at pb ⊢
      refine pb σ4 G4 H4 k4 (e4.grow g4) _ fun y s G5 H5 g5 k5 ⟨d, es, hI'⟩ rd => ?_
      subst es
      have nD5 : G5 Dl = none := g5.nn Dl (by rw [aD4]; simp) nD4
      have aD5 : H5 Dl = some (.lst vs') := g5.hh Dl _ vD aD4
      refine ⟨vs', aD5, Nat.lt_of_lt_of_le (show vs'.length < 1000001 by rw [ra4.length]; omega) (by decide), G5, acc ++ [d], vs' ++ [y], ?_, ?_, nD5, upd_same, RA.snoc (ra4.mono g5.gg) rd, by simp; omega, hI'⟩
      · have g15 := g14.trans k4 k5 g5
        refine ⟨g15.gg, fun b w hb => ?_, fun b w vb hb => ?_, g15.nn⟩
        · have q : b ≠ Dl := fun z => by rw [z, nD5] at hb; cases hb
          rw [upd_ne q]
          exact k5.gh b w hb
        · have q : b ≠ Dl := fun z => by rw [z, hD] at hb; cases hb
          rw [upd_ne q]
          exact g15.hh b w vb hb
      · refine ⟨fun b w hb => ?_, S.fx.ext (fun b w hb hw => ?_) k5.inv, k5.vn⟩
        · have q : b ≠ Dl := fun z => by rw [z, nD5] at hb; cases hb
          rw [upd_ne q]
          exact k5.gh b w hb
        · have q : b ≠ Dl := fun z => by
            rcases hb with hb | hb
            · exact vD (z ▸ hb)
            · rw [z, aD5] at hw
              cases hw
              exact hb
          rw [upd_ne q]
          exact hw
    | false =>
      rw [if_neg (by decide)] at pb ⊢
      exact ⟨G4, acc, vs', g14, k4, nD4, aD4, ra4, by omega, pb⟩
  · have e' : i = ds.length := by omega
    subst e'
    refine .inl ⟨w1, q Dl vs' acc G2 H2 (g1.trans k1 k2 g2) k2 hnD nD aD ra (hd ds acc pd al hI)⟩
/-- each item gives one -/
theorem ef_map {wi : TI} {te : TE} {vs : List Nat} {ds : List D} {f : D → D} (hi : Itm S wi ρ (Eq ds)) (hl : ds.length ≤ 1000000)
    (hs : ∀ d, d ∈ ds → ∃ js ρ2, (∀ j ∈ js, j ∈ vs) ∧ Tgt S g js d (wipeR ρ vs) ρ2 ∧ Ev S te ρ2 (Eq (.dat (f d)))) : EvF S (tLc wi g tYes te vs) ρ (Eq (ds.map f)) := by
  refine ef_lc hi (fun _ i acc => acc = (ds.take i).map f) (fun ds' e => e ▸ ⟨hl, rfl⟩) (fun ds' i d acc e hd al hI => ?_) fun ds' acc e al hI => ?_
  · subst e
    obtain ⟨js, ρ2, h1, h2, h3⟩ := hs d (List.mem_of_getElem? hd)
    refine ⟨js, ρ2, h1, h2, fun σ G H k e Q q => q true G H (Grow.refl k) k ?_⟩
    show if true = true then _ else _
    rw [if_pos rfl]
    refine h3.imp fun s es => ⟨f d, es.symm, ?_⟩
    rw [hI, List.take_add_one, hd]
    simp
  · subst e
    rw [hI, List.take_length]
/-- some items give one -/
theorem ef_filterMap {wi : TI} {te : TE} {tt : TT} {vs : List Nat} {ds : List D} {f : D → Option D} (hi : Itm S wi ρ (Eq ds)) (hl : ds.length ≤ 1000000)
    (hs : ∀ d, d ∈ ds → ∃ js ρ2, (∀ j ∈ js, j ∈ vs) ∧ Tgt S g js d (wipeR ρ vs) ρ2 ∧ EvT S tt ρ2 (Eq (f d).isSome) ∧ ∀ y, f d = some y → Ev S te ρ2 (Eq (.dat y))) : EvF S (tLc wi g tt te vs) ρ (Eq (ds.filterMap f)) := by
  refine ef_lc hi (fun _ i acc => acc = (ds.take i).filterMap f) (fun ds' e => e ▸ ⟨hl, rfl⟩) (fun ds' i d acc e hd al hI => ?_) fun ds' acc e al hI => ?_
  · subst e
    obtain ⟨js, ρ2, h1, h2, h3, h4⟩ := hs d (List.mem_of_getElem? hd)
    refine ⟨js, ρ2, h1, h2, h3.imp fun b eb => ?_⟩
    cases hf : f d with
    | some y =>
      rw [hf] at eb
      subst eb
      rw [if_pos (show (some y).isSome = true from rfl)]
      refine (h4 y hf).imp fun s es => ⟨y, es.symm, ?_⟩
      rw [hI, List.take_add_one, hd]
      simp [hf]
    | none =>
      rw [hf] at eb
      subst eb
      rw [if_neg (show ¬ ((none : Option D).isSome = true) by simp), hI, List.take_add_one, hd]
      simp [hf]
  · subst e
    rw [hI, List.take_length]
end
/-! ### a def -/
section
variable {P : Program} {w : World} {K : PySem.W.Frag} {mg : Str → Option Value} {base : Heap}
theorem env_start {S : Cf} {G H : Hp} : ∀ {vs : List V} {ss : List Sl} (n : Nat), RSs S.K G vs ss → Env S G H (vs.map some ++ List.replicate n none) (ss ++ List.replicate n .no) := fun {vs ss} n r => by
  have hl := r.length
  have key : ∀ {vs : List V} {ss : List Sl} {i : Nat} {s : Sl}, RSs S.K G vs ss → ss[i]? = some s → ∃ v, vs[i]? = some v ∧ RS S.K G v s := by
    intro vs
    induction vs with
    | nil =>
      intro ss i s r h
      cases r
      simp at h
    | cons v vs ih =>
      intro ss i s r h
      cases r with
      | cons r1 r2 =>
        cases i with
        | zero =>
          simp only [List.getElem?_cons_zero, Option.some.injEq] at h
          subst h
          exact ⟨v, rfl, r1⟩
        | succ i =>
          simp only [List.getElem?_cons_succ] at h
          obtain ⟨w, h1, h2⟩ := ih r2 h
          exact ⟨w, by simpa using h1, h2⟩
  have noown : ∀ {i : Nat} {a : Addr} {m : Mo}, (ss ++ List.replicate n Sl.no)[i]? = some (.own a m) → False := fun {i a m} h => by
    by_cases hi : i < ss.length
    · rw [List.getElem?_append_left hi] at h
      obtain ⟨v, _, z⟩ := key r h
      exact z
    · rw [List.getElem?_append_right (by omega), List.getElem?_replicate] at h
      split at h
      · cases h
      · cases h
  refine ⟨by simp [hl], fun i s h => ?_, fun i j a m m' h _ => (noown h).elim⟩
  by_cases hi : i < ss.length
  · rw [List.getElem?_append_left hi] at h
    obtain ⟨v, h1, h2⟩ := key r h
    refine ⟨some v, by rw [List.getElem?_append_left (by simp; omega)]; simp [h1], ?_⟩
    cases s with
    | no => exact True.intro
    | dat d => exact ⟨v, rfl, h2⟩
    | raw x => exact congrArg some h2
    | own a m => exact h2.elim
  · rw [List.getElem?_append_right (by omega), List.getElem?_replicate] at h
    split at h
    · rename_i hn
      cases h
      refine ⟨none, ?_, True.intro⟩
      rw [List.getElem?_append_right (by simp; omega), List.getElem?_replicate]
      simp only [List.length_map, hl]
      rw [if_pos hn]
    · cases h
theorem fn_ok {ι : Type} {args : ι → List Sl} {pre : ι → Prop} {post : ι → Re → Prop} {fx : Fx} {x qual : Str} {st : Stmt} {f : Addr} {fd : FuncData} {N ps : List Str} {k : Nat} (F : Fun K x qual st f fd) (Sc : FnScope N ps (defScope st)) (hl : ∀ i, pre i → (args i).length = ps.length)
    (hbody : ∀ (cdv : Value) (A : Around) (outer : List PySem.Env) (s : Shared) (H : Hp) (E : XK), Room k (A.deeper (envOfC qual (defScope st) s.heap.objs.size f cdv)) → ∀ (i : ι), pre i →
      ∃ t, PSs (cxOf (L2.CX P w) P w K mg base N qual (defScope st) f cdv A outer s H E) (defBody st) t ∧ ∀ G : Hp, Xc ⟨K, fx, G, H, E⟩ t (args i ++ List.replicate (N.length - ps.length) .no) (RetP (post i)))
    (hm : ∀ a, ¬ fx.mine a := by exact fun _ h => h) : FnOk P w K mg base (L2.CX P w) (k + 1) f fd ps (spI K fx args pre post) := by
  refine F.okX Sc (fun vs H Q E h => ?_) fun cdv A outer s H vs Q E hr h => ?_
  · obtain ⟨i, G, hp, _, r, _⟩ := h
    rw [r.length, hl i hp]
  · obtain ⟨i, G, hp, kn, r, q1, q2⟩ := h
    obtain ⟨t, ht, hx⟩ := hbody cdv A outer s H E hr i hp
    refine ⟨t, ht, ?_⟩
    have hn : vs.length = ps.length := by rw [r.length, hl i hp]
    have ev := env_start (S := ⟨K, fx, G, H, E⟩) (H := H) (N.length - ps.length) r
    unfold L2.start
    rw [hn]
    refine hx G _ G H _ ⟨kn, kn, GrO.of (Grow.refl kn), MnOk.none hm, MnOk.none hm⟩ ev ⟨fun σ G' H' ρ o s e p => ?_, fun σ G' H' ρ o s e p => p.elim, fun σ G' H' ρ o s e p => p.elim, fun σ v s G' H' ρ o _ r p => ?_, fun C d dd v G' H' o hd r p => ?_⟩
    · exact q1 .non (.dat .none) G' H' (o.gr.to hm) o.kn .non p
    · exact q1 v s G' H' (o.gr.to hm) o.kn r p
    · exact q2 C d dd v G' H' (o.gr.to hm) o.kn hd r p
end
end Dl

set_option Elab.async false
set_option linter.all false
set_option maxRecDepth 100000
set_option maxHeartbeats 4000000
/-! Dlx: errors raised and caught, repr, the end of a law that hands lambdas on. -/
namespace Dl
open PySem PySem.Spec PyProof.Rows L2
/-! ### an error with one value -/
/-- __init__(self, value): self.value = value -/
def spIni (K : PySem.W.Frag) : Sp := fun vs H Q _ => ∃ (a C : Addr) (v : V), vs = [.ref a, v] ∧ OexC K C ∧ PySem.W.findIn K (.ref C) "value" = some none ∧ H a = some (exo a C none) ∧
  ∀ dx, H dx = none → dx ≠ a → Q .non (upd (upd H dx (exd dx [("value", v)])) a (exo a C (some dx)))
section
variable {P : Program} {w : World} {K : PySem.W.Frag} {mg : Str → Option Value} {base : Heap}
theorem ini_ok {f : Addr} {fd : FuncData} {x qual : Str} {st : Stmt} {b1 b2 b3 b4 b5 : Pos} (F : Fun K x qual st f fd) (Sc : FnScope ["self", "value"] ["self", "value"] (defScope st)) (hs : (defScope st).names = [(PySem.Str.ofString "self", .local), (PySem.Str.ofString "value", .local)])
    (hb : defBody st = [.Assign [.Attribute (.Name "self" b1) "value" b2] (.Name "value" b3) b4]) : FnOk P w K mg base CX0 1 f fd ["self", "value"] (spIni K) := by
  refine F.ok Sc (fun vs H Q E h => ?_) fun cdv A outer s H vs Q E hr h => ?_
  · obtain ⟨a, C, v, rfl, _⟩ := h
    rfl
  · obtain ⟨a, C, v, rfl, T, nv, ha, k⟩ := h
    have v0 : Vis (cxOf CX0 P w K mg base ["self", "value"] qual (defScope st) f cdv A outer s H E).nox.env.scope "self" := .inl (by show (defScope st).names.lookup _ = _; rw [hs]; decide +kernel)
    have v1 : Vis (cxOf CX0 P w K mg base ["self", "value"] qual (defScope st) f cdv A outer s H E).nox.env.scope "value" := .inl (by show (defScope st).names.lookup _ = _; rw [hs]; decide +kernel)
    refine ⟨_, by rw [hb]; exact pss_one (ps_ost (pe_var (i := 0) rfl v0) (pe_var (i := 1) rfl v1)), ?_⟩
    exact ⟨v, rfl, .ref a, rfl, a, C, rfl, T, nv, .inl ⟨ha, fun dx h1 h2 => k dx h1 h2⟩⟩
end
section
variable {S : Cf} {ρ : Rho} {te : TE} {P : Oc → Prop}
/-- raise X(e) -/
theorem xc_raise {C : Addr} {d : D} (T : OexC S.K C) (nv : PySem.W.findIn S.K (.ref C) "value" = some none) (h : Ev S te ρ (Eq (.dat d))) (hs : P (.ex C d)) :
    Xc S (fun _ σ H => tMkO C (spIni S.K) [] (tCons te tNil) σ H fun cls d H' => S.E cls d H') ρ P := fun σ G H De o e f =>
  h σ G H o.kn e _ fun v s G1 H1 g1 k1 es r => by
    subst es
    refine ⟨by show 1 ≤ 1000; decide, fun a ha => ⟨a, C, v, rfl, T, nv, upd_same, fun dx hdx hne => ⟨rfl, dx, [("value", v)], upd_same, by rw [upd_ne hne, upd_same], ?_, ?_⟩⟩⟩
    · rw [upd_ne hne] at hdx
      exact hdx
    · have hd1 : H1 dx = none := by
        rw [upd_ne hne] at hdx
        exact hdx
      have sm : Same H1 (upd (del (upd (upd (upd H1 a (exo a C none)) dx (exd dx [("value", v)])) a (exo a C (some dx))) a) dx (.xd [("value", v)])) := fun b w hb => by
        have n1 : b ≠ a := ne_of_none hb ha
        have n2 : b ≠ dx := ne_of_none hb hd1
        rw [upd_ne n2, del_ne n1, upd_ne n1, upd_ne n2, upd_ne n1]
        exact hb
      have o1 := o.grow g1 k1
      exact f.ex C d dx v G1 _ (o1.grow (Grow.same k1 sm) (k1.same sm)) upd_same r hs
end
/-! ### repr of data -/
def isDisp : D → Bool
  | .list _ => true
  | .tuple _ => true
  | _ => false
def rRepr (K : PySem.W.Frag) : List V → Hp → VK → Prop := fun xs H Q => ∃ (x : V) (d : D), xs = [x] ∧ R K H x d ∧ isDisp d = true ∧ d.hasDict = false ∧ d.showable = true ∧ d.shown.length ≤ sizeLine ∧ d.depth ≤ 20 ∧ Q (.str d.shown) H
theorem cr_repr {X : Cx} (hg : X.A.guards = some []) (hu : X.A.units + 64 < cLine) : CallR X (.builtin "repr") (rRepr X.K) := by
  intro pins s σ H xs us Q I r h
  obtain ⟨x, d, rfl, rx, dd, nd, sh, sz, dp, q⟩ := h
  obtain ⟨u, rfl, ru⟩ := vals1 r
  obtain ⟨as, rd⟩ := Dp.reads I d x u (rx.dp nd) ru
  obtain ⟨a, rfl⟩ : ∃ a, u = Value.ref a := by
    cases rx with
    | lst _ _ => exact ⟨_, ru⟩
    | tup _ _ => exact ⟨_, ru⟩
    | _ => simp [isDisp] at dd
  exact repr_of_reads' rd sh (PyData.noDict_hsm nd) hg (by omega) (fun _ _ e => e) (fun h' u tk hk => ⟨.str d.shown, H, I.kept hk, ⟨u, rfl⟩, q⟩) sz
section
variable {S : Cf} {ρ : Rho} {te : TE}
theorem ev_repr {d : D} (h : Ev S te ρ (Eq (.dat d))) (dd : isDisp d = true) (nd : d.hasDict = false) (sh : d.showable = true) (sz : d.shown.length ≤ sizeLine) (dp : d.depth ≤ 20) : Ev S (tCB (rRepr S.K) (tCons te tNil)) ρ (Eq (.dat (.str d.shown))) := fun σ G H k e Q q =>
  h σ G H k e _ fun v s G1 H1 g1 k1 es r => by
    subst es
    exact ⟨v, d, rfl, r.mono k1.gh, dd, nd, sh, sz, dp, q _ _ G1 H1 g1 k1 rfl (.str _)⟩
end
/-! ### try with several clauses, each with the same name in slot i -/
def wManyN (K : PySem.W.Frag) (i : Nat) (Wout : WX) (De : Ends) : List (Value × (Addr → Value → Option Addr → TS)) → WX
  | [] => Wout
  | (c, ts) :: r => fun cls d σ H => ∃ b, PySem.W.exmOne K cls c = some b ∧
      (b = true → ∀ a, H a = none → ts a cls d { nx := fun σ' H' => De.nx (σ'.set i none) H', rt := De.rt, bk := fun σ' H' => De.bk (σ'.set i none) H', ct := fun σ' H' => De.ct (σ'.set i none) H' } (σ.set i (some (.ref a))) H) ∧
      (b = false → wManyN K i Wout De r cls d σ H)
/-- told of slots of the right number alone -/
def wLen (n : Nat) (W : WX) : WX := fun cls d σ H => σ.length = n → W cls d σ H
inductive HdsN (X : Cx) (n : Str) : List ExceptHandler → List (Value × (Addr → Value → Option Addr → TS)) → Prop
  | nil : HdsN X n [] []
  | cons {x : Str} {c : Value} {ts : Addr → Value → Option Addr → TS} {b0 : Stmt} {su : List Stmt} {np p' : Pos} {hds : List ExceptHandler} {l : List (Value × (Addr → Value → Option Addr → TS))} (hc : Names X x c)
      (hsu : ∀ (a : Addr) (oe : Obj) (cls : Value) (d : Option Addr) (pn : List (Addr × Obj)), Zc cls d oe → (∃ vs, oe.data = .fields vs) → PSs (X.suite a ((a, oe) :: pn)) (b0 :: su) (ts a cls d)) (r : HdsN X n hds l) :
      HdsN X n (.ExceptHandler (some (.Name x np)) (some n) (b0 :: su) p' :: hds) ((c, ts) :: l)
section
variable {X : Cx} {body : List Stmt} {h0 : ExceptHandler} {hds : List ExceptHandler} {l : List (Value × (Addr → Value → Option Addr → TS))} {pos : Pos} {tb : WX → TS} {Wout : WX} {n : Str} {i : Nat}
theorem ps_try_manyN (hs : X.stack = X.env :: X.outer) (hf : X.env.frame = some X.env.locals) (hN : X.N.Nodup) (hi : X.N[i]? = some n) (hln : X.env.kindOf n = some .local) (tk : Takes X Wout)
    (hb : ∀ (W : WX) (pn : List (Addr × Obj)) (xe : Value → Shared → Prop), Takes (X.tr pn xe) W → PassesOwn (model X.prog X.w) X.A X.env xe → PSs (X.tr pn xe) body (tb W))
    (hh : HdsN X n (h0 :: hds) l) : PS X (.Try body (h0 :: hds) [] [] pos) (fun De σ H => tb (wLen X.N.length (wManyN X.K i Wout De l)) De σ H) := ⟨fun pins s σ H De I h => by
  have ok := I.ok
  have hfr : X.A.frames = some (X.env :: X.outer) := by rw [ok.frames, hs]
  refine wpAny_Try_except (wpAny_mono ((hb (wLen X.N.length (wManyN X.K i Wout De l)) (X.pn ++ pins) (fun e s1 => wpAny (model X.prog X.w) X.A (noteFrame e X.env) (fun _ s2 => wpAny (model X.prog X.w) X.A (setFlight e none) (fun _ s3 =>
    wpAny (model X.prog X.w) X.A (handleBy e X.env (h0 :: hds)) (SP X pins De) X.xe s3) X.xe s2) X.xe s1) (fun u s' xx => ?_) PassesOwn.looking).run [] s σ H De (I.toTry _) h) (fun fl s1 hsp => ?_) fun _ _ he => he)
  · obtain ⟨a, B, sI, pins', σ', H', cls, d, rfl, J', nb, up, sky, na, os, ag, wish0⟩ := xx
    have J : Inv X pins σ' H' sI := J'.ofTry ok
    have wish := wish0 J.len
    rw [hs] at sky
    show wpAny (model X.prog X.w) X.A (noteFrame (.ref a) X.env) _ _ _
    refine Sky.land Zc.steady hfr hf sky fun h3 fl3 up3 => ?_
    have J3 : Inv X pins σ' H' { s' with heap := h3 } := J.landed nb fl3.1 (up.trans up3) os ag
    obtain ⟨oe3, vs3, he3, hz3, hd3⟩ := fl3.there
    have nfr : a ∉ frs (X.env :: X.outer) := fun hm => by
      obtain ⟨_, o', e', hnf⟩ := fl3.2.2.1.mem hm
      rw [he3] at e'
      cases e'
      exact hnf _ hd3
    have nL : a ≠ X.env.locals := fun z => nfr (List.mem_filterMap.mpr ⟨X.env, List.mem_cons_self, by rw [hf, z]⟩)
    have nF : a ∉ X.fs := fun hm => by
      obtain ⟨e, he, q⟩ := List.mem_filterMap.mp hm
      exact nfr (List.mem_filterMap.mpr ⟨e, List.mem_cons_of_mem _ he, q⟩)
    have S3 := J3.suite he3 hd3 na nL nF
    suffices key : ∀ {hds' : List ExceptHandler} {l' : List (Value × (Addr → Value → Option Addr → TS))}, HdsN X n hds' l' → wManyN X.K i Wout De l' cls d σ' H' →
        wpAny (model X.prog X.w) X.A (handleBy (.ref a) X.env hds') (SP X pins De) X.xe { s' with heap := h3 } from key hh wish
    intro hds' l' hk
    induction hk with
    | nil =>
      intro w
      refine wpAny_handleBy_nil ?_
      obtain ⟨k1, k2, k3, oe, vs, T, oT, ts', he, hz, hd, h1, hr⟩ := id fl3
      unfold PySem.passOn
      refine wpAny_bind (wpAny_field he hd h1 ?_)
      rw [if_neg (show ¬ ((Value.ref T == Value.none) = true) by simp)]
      have last : wpAny (model X.prog X.w) X.A (setFlight (.ref a) X.env.frame) (fun _ s4 => wpAny (model X.prog X.w) X.A (throw (.ref a) : Sem Flow) (SP X pins De) X.xe s4) X.xe { s' with heap := h3 } := by
        rw [hf]
        exact HandSPX.setFlight_upZ fl3 fun h4 hh4 up4 => wpAny_throw (tk _ _ ⟨a, B, sI, pins, σ', H', cls, d, rfl, J, nb, (up.trans up3).trans up4, .inr (.inr (by rw [hs]; exact hh4)), na, os, ag, w⟩)
      first
        | exact wpAny_bind (wpAny_pure (wpAny_bind last))
        | exact wpAny_bind last
    | @cons x c ts b0 su np p' hds2 l2 hc hsu r ih =>
      intro w
      obtain ⟨b, hb1, hyes, hno⟩ := w
      refine wpAny_handleBy_cons (codeAny_handlers_test ?_) (by intro q; cases q)
      have LM := PySem.W.exm_one (M := model X.prog X.w) J3.kIn (fun A Q E s k q => wpAny_typeOf_ref (k _ _ he3) (by rw [hz3.1]; exact q)) hb1
      have test : ∀ {Q : Value → Shared → Prop} {E : Value → Shared → Prop}, Q c { s' with heap := h3 } → wpAny (model X.prog X.w) (X.A.mark (some (.ref a))) (eval (.Name x np) X.env) Q E { s' with heap := h3 } := fun {Q E} q => by
        obtain ⟨hg, hdbg, hm | ⟨hm, hv, hnn⟩⟩ := hc
        · exact ld_glob (X := X.suite a ((a, oe3) :: (X.pn ++ pins))) S3 hg hm q hdbg
        · exact ld_blt (X := X.suite a ((a, oe3) :: (X.pn ++ pins))) S3 hg hm hv q hnn hdbg
      refine test (LM.here ?_)
      cases b with
      | false =>
        show wpAny _ X.A (handleBy (.ref a) X.env hds2) _ _ _
        exact ih (hno rfl)
      | true =>
        refine codeAny_handlers_suite_as (HandSPX.lands_againZ fl3 fun h4 fl4 up4 => ?_)
        have J4 : Inv X pins σ' H' { s' with heap := h4 } := J.landed nb fl4.1 ((up.trans up3).trans up4) os ag
        obtain ⟨oe4, vs4, he4, hz4, hd4⟩ := fl4.there
        refine store_ok (X := X.suite a ((a, oe4) :: (X.pn ++ pins))) (v := .ref a) (J4.suite he4 hd4 na nL nF) hN hi (.inl hln) rfl (fun s5 S5 => ?_) (.inr hln)
        refine wpAny_mono ((hsu a oe4 cls d (X.pn ++ pins) hz4 ⟨_, hd4⟩).run [] s5 _ H' _ S5 (hyes rfl a na)) (fun fl s6 hsp => ?_) (fun _ _ z => False.elim z)
        have away : ∀ {σ6 : L2.St} {H6 : Hp} {Q : Shared → Prop}, Inv (X.suite a ((a, oe4) :: (X.pn ++ pins))) [] σ6 H6 s6 → (∀ s7, Inv X pins (σ6.set i none) H6 s7 → Q s7) →
            wpAny (model X.prog X.w) X.A (do bindName X.env n .none; unbindBehindTheSuite X.env n p') (fun _ s7 => Q s7) X.xe s6 := fun S6 hq => gone_ok (S6.unsuite ok) hN hi hln hq
        cases fl with
        | next =>
          obtain ⟨σ6, H6, S6, q6⟩ := hsp
          exact away S6 fun s7 J7 => ⟨_, _, J7, q6⟩
        | brk =>
          obtain ⟨σ6, H6, S6, q6⟩ := hsp
          exact away S6 fun s7 J7 => ⟨_, _, J7, q6⟩
        | cont =>
          obtain ⟨σ6, H6, S6, q6⟩ := hsp
          exact away S6 fun s7 J7 => ⟨_, _, J7, q6⟩
        | ret u =>
          obtain ⟨v6, σ6, H6, S6, r6, q6⟩ := hsp
          exact away S6 fun s7 J7 => ⟨_, _, _, J7, r6, q6⟩
  · cases fl with
    | next =>
      obtain ⟨σ', H', J', q⟩ := hsp
      exact wpAny_execs_nil ⟨σ', H', J'.ofTry ok, q⟩
    | brk =>
      obtain ⟨σ', H', J', q⟩ := hsp
      exact ⟨σ', H', J'.ofTry ok, q⟩
    | cont =>
      obtain ⟨σ', H', J', q⟩ := hsp
      exact ⟨σ', H', J'.ofTry ok, q⟩
    | ret u =>
      obtain ⟨v, σ', H', J', r, q⟩ := hsp
      exact ⟨v, σ', H', J'.ofTry ok, r, q⟩⟩
end
/-! ### a def that asks what it is handed, and tells the error: try: ask() / except X1 as e: return ('w1', e.value) .. / return ('', None) -/
def tsR (C : Addr) (w : Str) : Addr → Value → Option Addr → TS := fun a cls d => tRet (tTup (tCons (tC (.str w)) (tCons (tXf a cls d C "value" (tVar 1)) tNil)))
def hdL (cs : List (Addr × Str)) : List (Value × (Addr → Value → Option Addr → TS)) := cs.map fun p => (.ref p.1, tsR p.1 p.2)
/-- the wish of the one who asks -/
def EchR (K : PySem.W.Frag) (Q : VK) : List (Addr × Str) → XK
  | [] => fun _ _ _ => False
  | (C, w) :: r => fun cls d H' => ∃ b, PySem.W.exmOne K cls (.ref C) = some b ∧
      (b = true → cls = .ref C ∧ ∃ (dd : Addr) (v : V), d = some dd ∧ H' dd = some (.xd [("value", v)]) ∧ ∀ p, H' p = none → Q (.ref p) (upd H' p (.tup [.str w, v]))) ∧ (b = false → EchR K Q r cls d H')
def TRef (K : PySem.W.Frag) (cs : List (Addr × Str)) : (XK → Hp → VK → Prop) → Hp → VK → Prop := fun tl H Q =>
  tl (EchR K Q cs) H (fun _ H' => ∀ p, H' p = none → Q (.ref p) (upd H' p (.tup [.str "", .non])))
theorem ech_many {K : PySem.W.Frag} {Q : VK} {De : Ends} (hrt : De.rt = Q) {cls : Value} {d : Option Addr} {σ : L2.St} {H : Hp} (hl : σ.length = 2) : ∀ {cs : List (Addr × Str)}, EchR K Q cs cls d H → wManyN K 1 (fun _ _ _ _ => False) De (hdL cs) cls d σ H
  | [], h => h
  | (C, w) :: r, h => by
    obtain ⟨b, h1, h2, h3⟩ := h
    refine ⟨b, h1, fun hb a ha => ?_, fun hb => ech_many hrt hl (h3 hb)⟩
    obtain ⟨ec, dd, v, ed, hd, k⟩ := h2 hb
    match σ, hl with
    | [x0, x1], _ =>
      refine ⟨.ref a, rfl, rfl, ec, dd, _, v, ed, hd, rfl, by show 2 ≤ sizeLine; decide, fun p hp => ?_⟩
      have hq := k p hp
      rw [← hrt] at hq
      exact hq
section
open LamX
theorem ref_gives {X : Cx} {x q : Str} {sg : Scope} {g : Addr} {cdg : Value} {h0 : ExceptHandler} {hds : List ExceptHandler} {cs : List (Addr × Str)} {a : Str} {j1 j2 : Nat} {k3 : Nat} {p1 p2 p3 pt q1 q2 q3 q4 : Pos} (nd : (["ask", "e"] : List Str).Nodup)
    (hl : sg.names.lookup (PySem.Str.ofString "e") = some NameKind.local)
    (hh : ∀ (s : Shared) (H : Hp), HdsN (cxOf C8.CX0 X.prog X.w X.K X.mg X.base ["ask", "e"] x sg g cdg X.A X.stack s H C8.E0).nox "e" (h0 :: hds) (hdL cs)) :
    GivesTo X ["ask", "e"] x sg g cdg [.Try [.Expr (.Call (.Name a p1) [] [] p2) p3] (h0 :: hds) [] [] pt, .Return (some (.Tuple [.Constant (.str "") j1 q1, .Constant .none j2 q2] k3 q3)) q4] a q (TRef X.K cs) := by
  intro f c' s H Q tl act hc h
  refine ⟨_, pss_cons (ps_try_manyN (X := (cxOf C8.CX0 X.prog X.w X.K X.mg X.base ["ask", "e"] x sg g cdg X.A X.stack s H C8.E0).nox) (i := 1)
      (tb := fun W De σ H => ∃ Ech : XK, (∀ cls d σ' H', Ech cls d H' → W cls d σ' H') ∧ σ[0]? = some (some (.ref f)) ∧ H c' = some (CodeO c' q) ∧ tl Ech H (fun _ H1 => De.nx σ H1))
      rfl rfl nd rfl hl L2.takes0 (fun W pn xe tk _ => ?_) (hh s H)) (pss_one (ps_ret (pe_tup (pa_cons pe_str (pa_cons pe_non pa_nil))))), ?_⟩
  · refine ⟨fun pins s' σ H' De I h' => ?_⟩
    obtain ⟨Ech, hW, h1, h2, h3⟩ := h'
    exact (pss_one (ps_expr (pos := p3) (act W pn xe Ech p1 p2 tk hW))).run pins s' σ H' De I ⟨h1, h2, h3⟩
  · exact ⟨EchR X.K Q cs, fun cls d σ' H' he hlen => ech_many rfl hlen he, rfl, hc, by
      refine (show tl (EchR X.K Q cs) H (fun _ H1 => (2 : Nat) ≤ sizeLine ∧ ∀ p, H1 p = none → Q (.ref p) (upd H1 p (.tup [.str "", .non]))) from ?_)
      have e : (fun (_ : V) (H1 : Hp) => (2 : Nat) ≤ sizeLine ∧ ∀ p, H1 p = none → Q (.ref p) (upd H1 p (.tup [.str "", .non]))) = fun _ H1 => ∀ p, H1 p = none → Q (.ref p) (upd H1 p (.tup [.str "", .non])) := by
        funext _ H1
        exact propext ⟨fun z => z.2, fun z => ⟨by decide, z⟩⟩
      rw [e]
      exact h⟩
end
end Dl

set_option Elab.async false
set_option linter.all false
set_option maxRecDepth 100000
set_option maxHeartbeats 4000000
/-! Dlam: a lambda handed to the def that asks it, as data; the end of a law. -/
namespace Dl
open PySem PySem.Spec PyProof.Rows L2 LamX
/-- all but the table at P stays -/
def ExtP (P : Addr) (H H1 : Hp) : Prop := ∀ b o, b ≠ P → H b = some o → H1 b = some o
section
variable {X : Cx} {pins : List (Addr × Obj)} {σ : L2.St} {H : Hp} {s : Shared}
/-- a lambda is made; what was tracked stays, but for the one table -/
theorem lam_mk {c P : Addr} {params : Arguments} {body : Expr} {scope : Scope} {pos : Pos} {E : Value → Shared → Prop} {Q : Value → Shared → Prop} (I : Inv X pins σ H s) (TB : TabB X.base X.mg c P) (hcode : X.env.code = .ref c)
    (hT : TabS H P (X.env.qual ++ "<lambda>")) (hdef : defaultsOf params X.env = ([], [])) (hfree : ∀ y ∈ scope.names, y.2 = .free → ∃ c, X.env.cells.lookup y.1 = some c)
    (h : ∀ (f c' : Addr) (pm ctv : Value) (H1 : Hp) (s' : Shared), Inv X pins σ H1 s' → ExtP P H H1 → TabS H1 P (X.env.qual ++ "<lambda>") →
      s'.heap.get? f = some (PySem.W.kla_obj "<lambda>" (X.env.qual ++ "<lambda>") params body scope (cloFrom X.env.cells scope.names []) pm c' ctv) → H1 f = none → f ∉ frs X.stack → H1 c' = some (CodeO c' (X.env.qual ++ "<lambda>")) → Q (.ref f) s') :
    wpAny (model X.prog X.w) X.A (eval (.Lambda params body scope pos) X.env) Q E s := by
  obtain ⟨ps, hP, ht, ha⟩ := hT
  have here : s.heap.get? P = some { cls := .none, data := .fields ps } := I.hok P _ hP
  have bP : s.heap.BuiltinsAt X.mg P := TB.bm.keeps I.bk
  have nofr : ∀ f, s.heap.objs.size ≤ f → f ∉ frs X.stack := fun f hf z => (List.mem_cons.mp (I.stkSub _ z)).elim (fun e => by
    have h1 := I.lt
    rw [← e] at h1
    exact Nat.lt_irrefl _ (Nat.lt_of_lt_of_le h1 hf)) fun e => I.nofs hf e
  refine PySem.W.kla_eval hdef ?_
  cases hc : codeAmong pos ps.toList with
  | some cv =>
    obtain ⟨c', rfl, hco⟩ := ha pos cv hc
    exact PySem.W.kla_makeFunctionHit (mg := X.mg) (c := c) (P := P) (ps := ps) (closure_ok hfree) I.ok.glob (I.mod.glob.keeps I.bk) hcode (TB.code.keeps I.bk) here ht hc bP fun ctv h' tk hx hsz =>
      h h'.objs.size c' _ ctv H _ (I.kept (t' := tk) fun b o e => Heap.get?_push_of_some _ (hx b o e)) (fun _ _ _ e => e) ⟨ps, hP, ht, ha⟩ (Heap.get?_push_size _ rfl) (I.hok.fresh hsz) (nofr _ hsz) hco
  | none =>
    refine PySem.W.kla_makeFunction (mg := X.mg) (c := c) (P := P) (ps := ps) (closure_ok hfree) I.ok.glob (I.mod.glob.keeps I.bk) hcode (TB.code.keeps I.bk) here ht hc TB.gP bP fun c' ctv h' tk hx hge hlt hrec htb => ?_
    obtain ⟨c2, oc, vs, t, e2, hoc, hd, hv⟩ := hrec
    cases e2
    have hsz : s.heap.objs.size ≤ h'.objs.size := Nat.le_of_lt (Nat.lt_of_le_of_lt hge hlt)
    have nC : H c' = none := I.hok.fresh hge
    have nPc : P ≠ c' := ne_of_none hP nC
    have J := inv_table (t' := tk) (more := #[rawInt pos.line, rawInt pos.col, .ref c']) (h' := h'.push (PySem.W.kla_obj "<lambda>" (X.env.qual ++ "<lambda>") params body scope (cloFrom X.env.cells scope.names []) ((X.mg "__name__").getD .none) c' ctv)) I hP
      (fun b o hb e => Heap.get?_push_of_some _ (hx b o hb e)) (Heap.get?_push_of_some _ htb) hge ⟨oc, vs, t, Heap.get?_push_of_some _ hoc, hd, hv⟩
    have hE : ExtP P H (upd (upd H P (.tbl (ps ++ #[rawInt pos.line, rawInt pos.col, .ref c']))) c' (CodeO c' (X.env.qual ++ "<lambda>"))) := fun b o nb e => by
      rw [upd_ne (ne_of_none e nC), upd_ne nb]
      exact e
    have eL : (ps ++ #[rawInt pos.line, rawInt pos.col, .ref c']).toList = ps.toList ++ [rawInt pos.line, rawInt pos.col, .ref c'] := by simp
    refine h h'.objs.size c' _ ctv _ _ J hE ⟨_, by rw [upd_ne nPc, upd_same], by rw [eL]; exact PySem.TriplesOk_snoc _ _ _ _ ht, fun p' cv hcv => ?_⟩ (Heap.get?_push_size _ rfl) ?_ (nofr _ hsz) upd_same
    · rw [eL] at hcv
      rcases among_app _ ht hcv with z | z
      · obtain ⟨c0, e1, e2⟩ := ha p' cv z
        exact ⟨c0, e1, hE _ _ (fun q => codeO_ne ps (Option.some.inj (e2.symm.trans (q ▸ hP)))) e2⟩
      · exact ⟨c', z, upd_same⟩
    · have n1 : h'.objs.size ≠ c' := Nat.ne_of_gt hlt
      have n2 : h'.objs.size ≠ P := Nat.ne_of_gt (Nat.lt_of_lt_of_le (Heap.lt_size here) hsz)
      rw [upd_ne n1, upd_ne n2]
      exact I.hok.fresh hsz
end
def tLamP (P : Addr) (q : Str) (TT : (XK → Hp → VK → Prop) → Hp → VK → Prop) (t : XK → TE) : TE := fun σ H Q => TabS H P q ∧ ∀ H1, ExtP P H H1 → TabS H1 P q → TT (fun E H' Q' => t E σ H' Q') H1 Q
/-- what a law's body knows of the def that asks lambdas, and of its own table -/
structure AskOk (X : Cx) (x a : Str) (Ng : List Str) (g c P : Addr) (TT : (XK → Hp → VK → Prop) → Hp → VK → Prop) : Prop where
  gm : X.mg x = some (.ref g)
  gk : PySem.W.keepIn X.K (.ref g) = true
  fn : ∃ (pg : Arguments) (bg : List Stmt) (sg : Scope) (dV kV doc pm cdv ct oc : Value) (an od : Option Addr) (osl : Array (Option Value)), X.K.lookup g = some ⟨oc, od, .func (PySem.W.fnOf x x pg bg sg dV kV doc pm an cdv ct), osl⟩ ∧ PySem.W.codeIn X.K cdv x = true ∧
    L2.Binds X.K (PySem.W.fnOf x x pg bg sg dV kV doc pm an cdv ct) [a] [] ∧ FnScope Ng [a] sg ∧ Vis sg a ∧ GivesTo X Ng x sg g cdv bg a (X.env.qual ++ "<lambda>") TT
  g0 : Ng[0]? = some a
  tb : TabB X.base X.mg c P
  code : X.env.code = .ref c
  d1 : (x == ("__debug__" : Str)) = false
  d2 : (a == ("__debug__" : Str)) = false
  d3 : (a == ("__classdict__" : Str)) = false
section
variable {X : Cx}
/-- x(lambda: body) -/
theorem pe_lam {TT : (XK → Hp → VK → Prop) → Hp → VK → Prop} {x a : Str} {g c P : Addr} {k : Nat} {Ng : List Str} {params : Arguments} {body : Expr} {scope : Scope} {t : XK → TE} {p lpos pos : Pos} (O : AskOk X x a Ng g c P TT) (hg : Gl X x) (hr : Room (k + 2) X.A) (L : LamS X.env.scope scope) (hdef : defaultsOf params X.env = ([], []))
    (hbind : ∀ (q : Str) (cl : List (Str × Addr)) (pm cv ctv : Value), bindArgs (PySem.W.kla_fn "<lambda>" q params body scope cl pm cv ctv) ⟨[], []⟩ = pure [])
    (hbody : ∀ (A : Around) (outer : List PySem.Env) (s : Shared) (H : Hp) (E : XK) (f c' : Addr), Room k (A.deeper (lamEnv X scope s.heap.objs.size f c')) → PE (lamCx X A outer s H E scope f c') body (t E)) :
    PE X (.Call (.Name x p) [.Lambda params body scope lpos] [] pos) (tLamP P (X.env.qual ++ "<lambda>") TT t) := by
  refine ⟨fun pins s σ H Q I ⟨hT, h⟩ => ?_⟩
  obtain ⟨pg, bg, sg, dV, kV, doc, pm, cdv, ct, oc, an, od, osl, lk, hcg, hb, Sg, hva, hG⟩ := O.fn
  refine wpAny_Call_Name_kw (ld_glob I hg O.gm ?_ O.d1)
  refine PySem.W.callWith_K (h₀ := X.base) I.ok.mod.kin O.gk ?_ (by rfl) (by rfl)
  show wpAny _ _ (spliced ((false, eval (.Lambda params body scope lpos) X.env) :: backTo pos (starEach [] X.env))) _ _ s
  refine Calls.spliced_cons (lam_mk I O.tb O.code hT hdef (L.has I.ok) fun f c' pm' ctv H1 s' J eN T1 hf hfn hfr hco => Calls.spliced_nil ⟨J.kIn, ?_⟩)
  refine wpAny_call (codeAny_mono (run_ofS (CX := C8.CX0) (Q := Q) (E := C8.E0) (N := Ng) (ps := [a]) (us := [.ref f]) (vs := [.ref f]) lk hcg Sg hr J.env0 (hb s' [.ref f] J.kIn rfl) (.cons rfl .nil) rfl fun hr' => ?_) fun r s2 hq => ?_)
  · obtain ⟨t', ht', hq'⟩ := hG f c' s' H1 Q (fun E H' Q' => t E σ H' Q') (fun W pn xe E p1 p2 tk hW => pe_act (i := 0) J L hf hfn hfr (hbind _ _ _ _ _) tk hW hr' (fun A outer s H hr2 => hbody A outer s H E f c' hr2) O.g0 hva O.d2 O.d3) hco (h H1 eN T1)
    exact ⟨t', ht'.nox, hq'⟩
  · cases r with
    | error e => exact (show False from hq).elim
    | ok fl =>
      cases fl with
      | ret u => exact J.after hq
      | next => exact False.elim hq
      | brk => exact False.elim hq
      | cont => exact False.elim hq
end
/-! ### as data -/
/-- what a lambda's body does: a value, or an error -/
def EvX (S : Cf) (t : XK → TE) (ρ : Rho) (Pok : Sl → Prop) (Pex : Addr → D → Prop) : Prop := ∀ (σ : L2.St) (G H : Hp), Kn S.fx G H → Env S G H σ ρ → ∀ (E : XK) (Q : VK),
  (∀ v s G' H', Grow S.fx G H G' H' → Kn S.fx G' H' → Pok s → RS S.K G' v s → Q v H') →
  (∀ C d dd v G' H', Grow S.fx G H G' H' → Kn S.fx G' H' → H' dd = some (.xd [("value", v)]) → R S.K G' v d → Pex C d → E (.ref C) (some dd) H') → t E σ H Q
/-- the word that the clauses tell of the class at C -/
def Told (K : PySem.W.Frag) (C : Addr) (w : Str) : List (Addr × Str) → Prop
  | [] => False
  | (C', w') :: r => ∃ b, PySem.W.exmOne K (.ref C) (.ref C') = some b ∧ (b = true → C = C' ∧ w = w') ∧ (b = false → Told K C w r)
section
variable {S : Cf} {ρ : Rho} {Pok : Sl → Prop} {Pex : Addr → D → Prop} {ι : Type} {args : ι → List Sl} {pre : ι → Prop} {post : ι → Re → Prop} {ta : TA}
theorem evx_callP {Pa : List Sl → Prop} (ha : EvA S ta ρ Pa) (h : ∀ ss, Pa ss → ∃ i, ss = args i ∧ pre i ∧ (∀ s, post i (.ok s) → Pok s) ∧ (∀ C d, post i (.ex C d) → Pex C d)) : EvX S (fun E => tCall (spI S.K fx0 args pre post) [] E ta) ρ Pok Pex := fun σ G H k e E Q q1 q2 =>
  ha σ G H k e _ fun vs ss G1 H1 g1 k1 p1 r1 => by
    obtain ⟨i, e1, hp, ho, hx⟩ := h ss p1
    subst e1
    rw [List.append_nil]
    refine ⟨i, G1, hp, k1.low, r1, fun v s G2 H2 g2 k2 r2 po => ?_, fun C d dd v G2 H2 g2 k2 hd r2 po => ?_⟩
    · exact q1 v s G2 H2 (g1.trans k1 (k1.lift g2) g2.lift) (k1.lift g2) (ho s po) r2
    · exact q2 C d dd v G2 H2 (g1.trans k1 (k1.lift g2) g2.lift) (k1.lift g2) hd r2 (hx C d po)
theorem evx_call (i : ι) (ha : EvA S ta ρ (Eq (args i))) (hp : pre i) (ho : ∀ s, post i (.ok s) → Pok s) (hx : ∀ C d, post i (.ex C d) → Pex C d) : EvX S (fun E => tCall (spI S.K fx0 args pre post) [] E ta) ρ Pok Pex := evx_callP ha fun ss e => ⟨i, e.symm, hp, ho, hx⟩
/-- the def that the j-th slot holds -/
theorem evx_callL {j : Nat} {f : Addr} (i : ι) (hj : ρ[j]? = some (.raw (.ref f))) (ha : EvA S ta ρ (Eq (args i))) (hp : pre i) (ho : ∀ s, post i (.ok s) → Pok s) (hx : ∀ C d, post i (.ex C d) → Pex C d) :
    EvX S (fun E => tCallL j f (spI S.K fx0 args pre post) [] E ta) ρ Pok Pex := fun σ G H k e E Q q1 q2 => by
  obtain ⟨v, h1, e'⟩ := e.get hj
  have e2 : v = .ref f := Option.some.inj e'
  subst e2
  exact ⟨h1, evx_call i ha hp ho hx σ G H k e E Q q1 q2⟩
theorem told_ech {K : PySem.W.Frag} {Q : VK} {C dd : Addr} {v : V} {w : Str} {H : Hp} (hd : H dd = some (.xd [("value", v)])) (q : ∀ p, H p = none → Q (.ref p) (upd H p (.tup [.str w, v]))) : ∀ {cs : List (Addr × Str)}, Told K C w cs → EchR K Q cs (.ref C) (some dd) H
  | [], h => h.elim
  | (C', w') :: r, h => by
    obtain ⟨b, h1, h2, h3⟩ := h
    refine ⟨b, h1, fun hb => ?_, fun hb => told_ech hd q (h3 hb)⟩
    obtain ⟨e1, e2⟩ := h2 hb
    subst e1 e2
    exact ⟨rfl, dd, v, rfl, hd, q⟩
/-- x(lambda: ..), x telling the error -/
theorem ev_lam {P : Addr} {q : Str} {cs : List (Addr × Str)} {t : XK → TE} {Pp : Sl → Prop} (hT : ∀ H, S.fx.inv H → TabS H P q) (hv : S.fx.vol P) (hI : ∀ H H1, S.fx.inv H → ExtP P H H1 → TabS H1 P q → S.fx.inv H1)
    (h : EvX S t ρ Pok Pex) (h1 : ∀ s, Pok s → Pp (.dat (.tuple [.str "", .none]))) (h2 : ∀ C d, Pex C d → ∃ w, Told S.K C w cs ∧ Pp (.dat (.tuple [.str w, d]))) : Ev S (tLamP P q (TRef S.K cs) t) ρ Pp := fun σ G H k e Q qq => by
  refine ⟨hT H k.inv, fun H1 eP T1 => ?_⟩
  have gP : G P = none := k.vn P hv
  have k1 : Kn S.fx G H1 := ⟨fun b o hb => eP b o (fun z => by rw [z, gP] at hb; cases hb) (k.gh b o hb), hI H H1 k.inv eP T1, k.vn⟩
  have g1 : Grow S.fx G H G H1 := ⟨Same.refl G, k1.gh, fun b o nv hb => eP b o (fun z => nv (z ▸ hv)) hb, fun _ _ n => n⟩
  refine h σ G H1 k1 (e.grow g1) _ _ (fun v s G2 H2 g2 k2 p2 r2 p hp => ?_) fun C d dd v G2 H2 g2 k2 hd r2 p2 => ?_
  · have g3 := Grow.new k2 (.tup [.str "", .non]) hp
    have k3 := Kn.new k2 (.tup [.str "", .non]) hp
    exact qq _ _ _ _ ((g1.trans k1 k2 g2).trans k2 k3 g3) k3 (h1 s p2) (.tup (SqT.of upd_same) (.cons (.str _) (.cons .non .nil)))
  · obtain ⟨w, tw, pw⟩ := h2 C d p2
    refine told_ech hd (fun p hp => ?_) tw
    have g3 := Grow.new k2 (.tup [.str w, v]) hp
    have k3 := Kn.new k2 (.tup [.str w, v]) hp
    exact qq _ _ _ _ ((g1.trans k1 k2 g2).trans k2 k3 g3) k3 pw (.tup (SqT.of upd_same) (.cons (.str _) (.cons (r2.mono g3.gg) .nil)))
end
end Dl

set_option Elab.async false
set_option linter.all false
set_option maxRecDepth 100000
set_option maxHeartbeats 4000000
/-! Dend: the end of a law whose own body makes lambdas; what runs around the law is known (no repr is under way). -/
namespace Dl
open PySem PySem.Spec PyProof.Rows L2 LamX
/-- the law's run, from any abstract heap that holds its own table and the script -/
def LawRun (P : Program) (w : World) (K : PySem.W.Frag) (mg : Str → Option Value) (fa c T : Addr) : Prop :=
  ∀ (base : Heap) (H : Hp) (s : Shared) (a : Addr) (ns : List Int), K.In base → base.Ns mainGlobals mg → TabB base mg c T → Env0 P w K mg base callerA [] s H → H T = some (.tbl #[]) → a ≠ T →
    SqL K H a (ns.map V.int) → ns.length ≤ 63 → (∀ z ∈ ns, Builtin.Int.intBits z ≤ 1048576) →
    codeAny (model P w) callerA (.call (.ref fa) ⟨[.ref a], []⟩) (CR (L2.CX P w) [] P w H s (fun v _ => v = .bl true) (fun _ _ _ => False)) s
theorem law_call1 {P : Program} {w : World} {K : PySem.W.Frag} {mg mb : Str → Option Value} {fa a c T : Addr} {s1 : Shared} {vs : List Value} {ns : List Int} (KX : K.In s1.heap) (hns : s1.heap.Ns mainGlobals mg) (hb : s1.heap.Ns builtinsNs mb)
    (hbb : ∀ x : Str, x ≠ "__name__" → mb x = bootBuiltins x) (hlim : s1.heap.NoLimit) (hg : s1.gens = #[]) (hT : s1.heap.get? T = some { cls := .none, data := .fields #[] }) (nT : K.lookup T = none) (C : PySem.W.CodeHd s1.heap c T)
    (hbm : ∃ (bm : Addr) (ob : Obj), mg "__builtins__" = some (.ref bm) ∧ bm ≠ builtinsNs ∧ s1.heap.get? bm = some ob ∧ ob.cls = .type "module" ∧ ob.dict = some builtinsNs ∧ ob.data = .plain)
    (ha : s1.heap.get? a = some { cls := .type "list", data := .seq vs.toArray }) (hi : IntsAre vs ns) (hl : ns.length ≤ 63) (hz : ∀ z ∈ ns, Builtin.Int.intBits z ≤ 1048576) (F : LawRun P w K mg fa c T) :
    codeAny (model P w) callerA (.call (.ref fa) ⟨[.ref a], []⟩) (fun r s' => r = .ok (.ret (.bool true)) ∧ OldK s1.heap s'.heap ∧ s'.os = s1.os ∧ AllBare s'.gens) s1 := by
  have lenV := hi.length
  have naT : a ≠ T := fun z => by
    rw [z, hT] at ha
    cases ha
  have hl' : ns.length ≤ sizeLine := Nat.le_trans hl (by decide)
  -- what is tracked: the table, and the script where the written part does not hold it
  let fo : HO := .frz { cls := .type "list", data := .seq vs.toArray } (.lst (ns.map V.int))
  let H : Hp := fun b => if b = T then some (.tbl #[]) else if b = a ∧ K.lookup a = none then some fo else none
  have HT : H T = some (.tbl #[]) := if_pos rfl
  have Hne : ∀ b, b ≠ T → b ≠ a → H b = none := fun b h1 h2 => (if_neg h1).trans (if_neg fun z => h2 z.1)
  have Hcases : ∀ b u, H b = some u → (b = T ∧ u = .tbl #[]) ∨ (b = a ∧ K.lookup a = none ∧ u = fo) := fun b u e => by
    by_cases h1 : b = T
    · have e' := (if_pos h1).symm.trans e
      exact .inl ⟨h1, (Option.some.inj e').symm⟩
    · have e1 := (if_neg h1).symm.trans e
      by_cases h2 : b = a ∧ K.lookup a = none
      · have e2 := (if_pos h2).symm.trans e1
        exact .inr ⟨h2.1, h2.2, (Option.some.inj e2).symm⟩
      · have e2 := (if_neg h2).symm.trans e1
        cases e2
  have hS : SqL K H a (ns.map V.int) := by
    cases hk : K.lookup a with
    | none => exact .inl (.inr ⟨_, (if_neg naT).trans (if_pos ⟨rfl, hk⟩)⟩)
    | some o =>
      have e := KX a o hk
      rw [ha] at e
      cases e
      exact .inr ⟨_, vs.toArray, _, hk, rfl, rfl, rfl, by rw [List.size_toArray, lenV]; exact hl', by simpa using vals_ints hi⟩
  have hok : HOk P w H s1.heap := fun b u e => by
    rcases Hcases b u e with ⟨rfl, rfl⟩ | ⟨rfl, _, rfl⟩
    · exact hT
    · exact ⟨ha, by rw [List.length_map]; exact hl', vs, _, vals_ints hi, ha⟩
  -- an object that is neither stays as it is in the base
  have kept : ∀ {b : Addr} {o : Obj}, s1.heap.get? b = some o → (∀ us n, o.data ≠ .seq us n) → o.data ≠ .fields #[] → H b = none := fun {b o} e h1 h2 => Hne b (fun z => by
    rw [z, hT] at e
    cases e
    exact h2 rfl) fun z => by
    rw [z, ha] at e
    cases e
    exact h1 _ _ rfl
  have noD : ∀ {b : Addr} {o : Obj} {es : Array DictEntry} {ep : Nat}, s1.heap.get? b = some o → o.data = .dict es ep → (hidT s1.heap H).get? b = some o := fun {b o es ep} e d => hidT_get e (kept e (fun us n z => by rw [d] at z; cases z) fun z => by rw [d] at z; cases z)
  have nsK : ∀ {b : Addr} {m : Str → Option Value}, s1.heap.Ns b m → (hidT s1.heap H).Ns b m := fun ⟨o, es, ep, e, d, r⟩ => ⟨o, es, ep, noD e d, d, r⟩
  have KB : K.In (hidT s1.heap H) := fun b o e => hidT_get (KX b o e) (by
    cases q : H b with
    | none => rfl
    | some u =>
      rcases Hcases b u q with ⟨rfl, _⟩ | ⟨rfl, hk, _⟩
      · rw [nT] at e
        cases e
      · rw [hk] at e
        cases e)
  have hM : L2.Mod K mg (hidT s1.heap H) := ⟨KB, nsK hns, ⟨mb, nsK hb, hbb⟩, let ⟨mc, h1, h2⟩ := hlim; ⟨mc, nsK h1, h2⟩⟩
  have TB : TabB (hidT s1.heap H) mg c T := by
    refine ⟨?_, ?_, fun z => ?_⟩
    · obtain ⟨o, us, file, tf, flags, tg, inF, text, tt, e1, r1, r2, r3, r⟩ := C
      refine ⟨o, us, file, tf, flags, tg, inF, text, tt, hidT_get e1 (kept e1 (fun x n z => by rw [r2] at z; cases z) fun z => ?_), r1, r2, r3, r⟩
      rw [r2] at z
      cases z
      simp at r3
    · obtain ⟨bm, ob, b1, b2, b3, b4, b5, b6⟩ := hbm
      refine ⟨bm, ob, b1, b2, fun q => ?_, fun q => ?_, hidT_get b3 (kept b3 (fun x n z => by rw [b6] at z; cases z) fun z => by rw [b6] at z; cases z), b4, b5, b6⟩
      · obtain ⟨o, es, ep, e, hd, _⟩ := hns
        rw [q, e] at b3
        cases b3
        rw [hd] at b6
        cases b6
      · rw [q, hT] at b3
        cases b3
        cases b6
    · obtain ⟨o, es, ep, e, hd, _⟩ := hns
      rw [z, hT] at e
      cases e
      cases hd
  have e0 : Env0 P w K mg (hidT s1.heap H) callerA [] s1 H := ⟨rfl, hM, fun b o e => of_hidT e, Nat.le_of_eq (hidT_size _ _), trivial, fun b hb => absurd (show b ∈ ([] : List Addr) from hb) (by simp), hok, .of_eq hg⟩
  refine codeAny_mono (F _ H s1 a ns KB (nsK hns) TB e0 HT naT hS hl hz) fun r s' h => ?_
  cases r with
  | error e =>
    obtain ⟨_, _, _, _, _, _, _, _, _, _, _, _, z⟩ := (show L2.CX P w [] H s1 (fun _ _ _ => False) e s' from h)
    exact z.elim
  | ok fl =>
    cases fl with
    | next => exact False.elim h
    | brk => exact False.elim h
    | cont => exact False.elim h
    | ret u =>
      obtain ⟨v, H', os, bare, un, hok', rv, q⟩ := h
      have qv : v = .bl true := q
      subst qv
      obtain rfl : u = Value.bool true := rv
      have stay : ∀ b o, b ≠ T → s1.heap.get? b = some o → s'.heap.get? b = some o := fun b o nb e => by
        cases q : H b with
        | none => exact un.keep b o e q (fun z => absurd (show b ∈ ([] : List Addr) from z) (by simp)) (by simp)
        | some u =>
          rcases Hcases b u q with ⟨z, _⟩ | ⟨_, _, z⟩
          · exact absurd z nb
          · subst z
            obtain ⟨e1, _⟩ := hok b _ q
            obtain ⟨e2, _⟩ := hok' b _ (un.frzs b _ _ q)
            rw [e] at e1
            cases e1
            exact e2
      obtain ⟨more, hm⟩ := un.tbls T #[] HT
      have grown : s'.heap.get? T = some { cls := .none, data := .fields (#[] ++ more) } := hok' T _ hm
      rw [Array.empty_append] at grown
      refine ⟨rfl, ⟨fun b o e => ?_, fun b o e => ?_⟩, os, bare⟩
      · by_cases z : b = T
        · subst z
          rw [hT] at e
          cases e
          exact .inr (.inl ⟨(C.tab hT).isCodeTable, rfl, #[], more, rfl, by rw [Array.empty_append]; exact grown⟩)
        · exact .inl (stay b o z e)
      · by_cases z : b = T
        · exact ⟨_, z ▸ grown⟩
        · exact ⟨o, stay b o z e⟩
/-- the facts of the law's own function, code and table -/
structure LawFn (K : PySem.W.Frag) (fa c T : Addr) : Prop where
  fn : ∃ (oc : Value) (od : Option Addr) (fd : FuncData) (sl : Array (Option Value)), K.lookup fa = some ⟨oc, od, .func fd, sl⟩ ∧ fd.code = .ref c
  cd : ∃ (e : Value) (dd : Option Addr) (vs : Array Value) (sl : Array (Option Value)), K.lookup c = some ⟨e, dd, .fields vs, sl⟩ ∧ vs[11]? = some (.ref T)
  hd : PySem.W.codeHdIn K c T = true
  no : K.lookup T = none
theorem walk_end {l : PySem.W.OpenLaw} {q : Program} {loose : List Str} {XP : (Str → Option Value) → Heap → Prop} {YP : World → Heap → Prop} {d : DefRec} {K : Params → PySem.W.Frag} (hn : l.most = some 63) (hdf : d.params.defaults = []) (hrec : ((recsOf q).any fun e => e.name == d.name) = true)
    (hY : ∀ (w : World) (h : Heap), YP w h → (K w.params).In h)
    (F : ∀ (w : World) (mg : Str → Option Value) (fa : Addr) (h : Heap), (K w.params).In h → h.Ns mainGlobals mg → mg d.name = some (.ref fa) → ∃ c T, LawFn (K w.params) fa c T ∧ LawRun l.prog w (K w.params) mg fa c T) :
    PySem.W.WalkO q loose XP YP l.row.toRowW d [] (fun f vs => PySem.call f vs) := by
  refine Att.attach_callB hn hdf fun w s₀ s1 mg mb fa o pm cd doc a vs ns G Y ho hd hcd hmg hobj hints hlen hbits hg => ?_
  have KX := hY w _ Y
  obtain ⟨c, T, ⟨⟨oc, od, fd, sl, k1, k2⟩, ⟨e, dd, cvs, csl, k4, k5⟩, k6, k7⟩, run⟩ := F w mg fa _ KX G.T.g hmg
  have hT : s1.heap.get? T = some { cls := .none, data := .fields #[] } := by
    obtain ⟨dL, hm, hn1⟩ := List.any_eq_true.mp hrec
    have hn2 : dL.name = d.name := beq_iff_eq.mp hn1
    obtain ⟨a', o', fd', c', P', h1, h2, h3, h4, h5, ⟨oc2, vc, e1, _, e3, e4⟩, hP⟩ := G.T.tab dL hm
    rw [hn2, hmg] at h1
    cases h1
    rw [KX _ _ k1] at h2
    cases h2
    cases h3
    rw [k2] at h4
    cases h4
    rw [KX _ _ k4] at e1
    cases e1
    cases e3
    rw [k5] at e4
    cases e4
    exact hP
  exact law_call1 KX G.T.g G.T.b G.T.builtins G.T.nolimit hg hT k7 (PySem.W.codeHd_of_K KX k6) G.T.bmain hobj hints hlen hbits run
/-- the run, by the body -/
theorem law_run {P : Program} {w : World} {K : PySem.W.Frag} {mg : Str → Option Value} {fa c T : Addr} {st : Stmt} {fd : FuncData} {N : List Str} {k : Nat} (F : Fun K "law" "law" st fa fd) (hc : fd.code = .ref c) (Sc : FnScope N ["script"] (defScope st)) (hb : Binds K fd ["script"] []) (hr : Room (k + 1) callerA)
    (hbody : ∀ (base : Heap) (s : Shared) (H : Hp) (a : Addr) (ns : List Int), K.In base → base.Ns mainGlobals mg → TabB base mg c T → Room k (callerA.deeper (envOfC "law" (defScope st) s.heap.objs.size fa (.ref c))) → H T = some (.tbl #[]) → a ≠ T → SqL K H a (ns.map V.int) → ns.length ≤ 63 → (∀ z ∈ ns, Builtin.Int.intBits z ≤ 1048576) →
      ∃ t, PSs (cxOf (L2.CX P w) P w K mg base N "law" (defScope st) fa (.ref c) callerA [] s H (fun _ _ _ => False)) (defBody st) t ∧ t { nx := fun _ H' => V.non = .bl true, rt := fun v _ => v = .bl true } (L2.start N [.ref a]) H) : LawRun P w K mg fa c T := by
  intro base H s a ns KB hG TB e0 HT naT hS hl hz
  obtain ⟨oc, od, kV, doc, pm, an, cdv, ct, osl, rfl, lk, hcd⟩ := F.ex
  have hc' : cdv = .ref c := hc
  subst hc'
  refine run_ofS (N := N) (ps := ["script"]) (us := [.ref a]) (vs := [.ref a]) lk hcd Sc hr e0 (hb s [.ref a] (e0.mod.kin.keeps fun b o e => (e0.bs b o e).1) rfl) (.cons rfl .nil) rfl fun hr' => ?_
  exact hbody base s H a ns KB hG TB hr' HT naT hS hl hz
end Dl

set_option Elab.async false
set_option linter.all false
set_option maxRecDepth 100000
set_option maxHeartbeats 4000000
/-! Dlt: enumerate over a tuple. -/
namespace Dl
open PySem PySem.Spec PyProof.Rows L2
theorem meets_enumT (l : Addr) (items : Array Value) :
    Meets (Builtin.«enumerate.__new__» ⟨[.type "enumerate", .ref l], []⟩) (fun _ R s => s.heap.IsTuple l items ∧
      R (.ok (.ret (.ref (s.heap.push { cls := .type "tuple_iterator", data := .fields #[.ref l, .int 0 0] }).objs.size)))
        { s with heap := (s.heap.push { cls := .type "tuple_iterator", data := .fields #[.ref l, .int 0 0] }).push { cls := .type "enumerate", data := .fields #[.none, .bool false, .ref s.heap.objs.size, rawInt 0, .none, .none] } }) :=
  .of_wp fun prog w A R s h => by
    obtain ⟨hp, g, d, tk, os⟩ := s
    obtain ⟨hL, h⟩ := h
    have hsub := sub_enumerate
    obtain ⟨o, ho, hc, n, hd⟩ := id hL
    wp_walk using AutoSeq1.wpAny_loadPart' ho
    refine wpAny_stack_any fun st => wpAny_pure ?_
    split
    · rename_i c _ _ _ _ _
      cases (c == Value.type "enumerate")
      · wp_walk using AutoSeq1.wpAny_loadPart' ho, wpAny_pyIter_tuple hL
        exact ⟨_, rfl, h⟩
      · wp_walk using AutoSeq1.wpAny_loadPart' ho, wpAny_pyIter_tuple hL
        exact ⟨_, rfl, h⟩
    · wp_walk using AutoSeq1.wpAny_loadPart' ho, wpAny_pyIter_tuple hL
      exact ⟨_, rfl, h⟩

section
variable {prog : Program} {w : World} {A : Around} {E : Value → Shared → Prop} {s : Shared}
theorem call_enumT {l : Addr} {items : Array Value} {Q : Value → Shared → Prop} (hL : s.heap.IsTuple l items)
    (h : ∀ h', IsEnum h' (s.heap.objs.size + 1) s.heap.objs.size 0 .none → h'.IsTupleIter s.heap.objs.size l 0 → (∀ b o, s.heap.get? b = some o → h'.get? b = some o) → Q (.ref (s.heap.objs.size + 1)) { s with heap := h' }) :
    wpAny (model prog w) A (call (.type "enumerate") [.ref l]) Q E s := by
  refine callType_new F.called_enumerate (by decide) (F.typeCall_enumerate_1 _) (F.newCall_enumerate_1 _) (fun obj => F.args_object_init_2 obj _) F.entry_enumerate_new (meets_enumT l items) ⟨hL, ?_⟩
  have hz : (s.heap.push { cls := .type "tuple_iterator", data := .fields #[.ref l, .int 0 0] }).objs.size = s.heap.objs.size + 1 := Heap.size_push ..
  show _ ∧ _
  rw [hz]
  have he : IsEnum ((s.heap.push { cls := .type "tuple_iterator", data := .fields #[.ref l, .int 0 0] }).push
      { cls := .type "enumerate", data := .fields #[.none, .bool false, .ref s.heap.objs.size, rawInt 0, .none, .none] }) (s.heap.objs.size + 1) s.heap.objs.size 0 .none := by
    have q := Heap.get?_push_size (s.heap.push { cls := .type "tuple_iterator", data := .fields #[.ref l, .int 0 0] })
      (o := { cls := .type "enumerate", data := .fields #[.none, .bool false, .ref s.heap.objs.size, rawInt 0, .none, .none] }) rfl
    rw [hz] at q
    exact q
  exact ⟨⟨_, he, rfl⟩, h _ he ⟨_, Heap.get?_push_of_some _ (Heap.get?_push_size _ rfl), rfl, rfl⟩ fun b o x => Heap.get?_push_of_some _ (Heap.get?_push_of_some _ x)⟩
end
/-- the tuple at a, each item in a new pair with its index -/
def IteT (K : PySem.W.Frag) (a : Addr) : It :=
  ⟨fun i H => ∃ (xs : List V) (x : V), SqT K H a xs ∧ xs[i]? = some x, fun i H v H' => ∃ T x, v = .ref T ∧ H T = none ∧ H' = upd H T (.tup [.int (i : Nat), x]) ∧ ∀ xs, SqT K H a xs → xs[i]? = some x, fun i H => ∃ xs : List V, SqT K H a xs ∧ xs.length ≤ i⟩
theorem turn_enumT {P : Program} {w : World} {K : PySem.W.Frag} {elts : List Expr} {kk : Nat} {tpos : Pos} (a e it : Addr) :
    Turn P w K (.Tuple elts kk tpos) (IteT K a) [e, it] e (fun i h => (∃ old, IsEnum h e it ((i : Nat) : Int) old) ∧ h.IsTupleIter it a i ∧ e ≠ it) where
  mem := by simp
  obj := fun i h st b hb => by
    obtain ⟨⟨old, he⟩, ⟨o, ho, hc, hd⟩, _⟩ := st
    rcases (show b = e ∨ b = it by simpa using hb) with z | z
    · exact ⟨_, z ▸ he, fun v q => by cases q⟩
    · exact ⟨o, z ▸ ho, fun v q => by rw [hd] at q; cases q⟩
  keep := fun i h h' st k => ⟨let ⟨old, he⟩ := st.1; ⟨old, k e (by simp) _ he⟩, st.2.1.at fun o q => k it (by simp) o q, st.2.2⟩
  item := by
    intro X hP hw hK hc i pins s σ H E I hf st hg
    subst hP hw hK
    obtain ⟨⟨old, he⟩, hit, hne⟩ := st
    obtain ⟨xs, x, hq, hx⟩ := hg
    obtain ⟨its, rv, p, hz⟩ := I.tuple hq
    obtain ⟨u, hu, ru⟩ := rv.get hx
    have hp : s.heap.IsTuple a its.toArray := p
    have hel : e < s.heap.objs.size := Heap.lt_size he
    have hil : it < s.heap.objs.size := by
      obtain ⟨_, q, _⟩ := hit
      exact Heap.lt_size q
    have nea : e ≠ a := fun z => by
      obtain ⟨o, ho, hcl, _⟩ := hp
      have he' : s.heap.get? e = _ := he
      rw [z, ho] at he'
      cases he'
      simp at hcl
    have nia : a ≠ it := fun z => by
      obtain ⟨o, ho, hcl, _⟩ := hp
      obtain ⟨o2, ho2, hc2, _⟩ := hit
      rw [z, ho2] at ho
      cases ho
      rw [hc2] at hcl
      simp at hcl
    have hi : i < its.toArray.size := by
      have := (List.getElem?_eq_some_iff.mp hu).1
      simpa using this
    refine wpAny_pyNext_enum_itemD (Draws.tuple (A := X.A.in1) (I.ok.hd hc) it a nia its.toArray) he ⟨hit, hp⟩ hi hne (by simp [hne, nea]) fun y h' tk hy ho st' hT hsz hk => ?_
    obtain ⟨hit', _⟩ := st'
    have ey : y = u := by
      have q : its.toArray[i]? = some u := by simpa using hu
      rw [q] at hy
      exact (Option.some.inj hy).symm
    subst ey
    refine ⟨_, rfl, wpAny_letOwnedTupleGo_enum (s := { s with heap := h', toks := tk + 1 }) ho fun h'' he' sb => ?_⟩
    have hT2 : h''.get? s.heap.objs.size = some { cls := .type "tuple", data := .seq #[.int i tk, y] } := (sb.2 _ (Nat.ne_of_gt hel)).trans hT
    have I1 : Inv X pins σ (upd H s.heap.objs.size (.tup [.int (i : Nat), x])) { s with heap := h'', toks := tk + 1 } :=
      I.turnedNew (ch := [e, it]) (fun b ob hb q => (sb.2 b (fun z => hb (by simp [z]))).trans (hk b ob (fun z => hb (by simp [z])) (fun z => hb (by simp [z])) q)) hf (Nat.le_refl _)
        ⟨by show 2 ≤ sizeLine; decide, [.int i tk, y], .cons ⟨_, rfl⟩ (.cons ru .nil), ⟨_, hT2, rfl, _, rfl⟩⟩
    refine ⟨.ref s.heap.objs.size, _, I1, rfl, ⟨_, x, rfl, I.hok.fresh (Nat.le_refl _), rfl, fun ys hy => by rw [I.tuple_inj hy hq]; exact hx⟩, ⟨⟨y, ?_⟩, hit'.at fun o q => (sb.2 it (Ne.symm hne)).trans q, hne⟩, fun b hb => ?_⟩
    · rw [show ((i + 1 : Nat) : Int) = (i : Int) + 1 by omega]
      exact he'
    · have hb' : b < s.heap.objs.size := by
        rcases (show b = e ∨ b = it by simpa using hb) with z | z
        · exact z ▸ hel
        · exact z ▸ hil
      rw [upd_ne (Nat.ne_of_lt hb')]
      exact (hf b hb).1
  done := by
    intro X hP hw hK hc i pins s σ H E I hf st hg
    subst hP hw hK
    obtain ⟨⟨old, he⟩, hit, hne⟩ := st
    obtain ⟨xs, hq, hx⟩ := hg
    obtain ⟨its, rv, p, hz⟩ := I.tuple hq
    have hp : s.heap.IsTuple a its.toArray := p
    obtain ⟨f0, f1, f2, f3, f4, f5⟩ := hf it (by simp)
    have hl := rv.length
    have nia : a ≠ it := fun z => by
      obtain ⟨o, ho, hcl, _⟩ := hp
      obtain ⟨o2, ho2, hc2, _⟩ := hit
      rw [z, ho2] at ho
      cases ho
      rw [hc2] at hcl
      simp at hcl
    have en : wpAny (model X.prog X.w) X.A (pyNext (.ref e)) (fun r s1 => r = none ∧ Inv X pins σ H s1) E s := by
      unfold pyNext
      refine wpAny_bind (wpAny_attempt (wpAny_callSpecial?_slot (name := Str.ofString "__next__") (show s.TypeIs (.ref e) "enumerate" from ⟨_, he, rfl⟩) F.slot_enumerate_next
        (wpAny_call_entry F.slot_enumerate_next (show s.TypeIs (.ref e) "enumerate" from ⟨_, he, rfl⟩) F.entry_enumerate_next ?_ (F.args_enumerate_next_1 _))))
      show wpAny _ _ (field (.ref e) 2 >>= _) _ _ _
      refine wpAny_bind (wpAny_field he rfl (x := .ref it) rfl ?_)
      refine wpAny_bind (wpAny_nextOf_tuple_end (show X.A.in1.handled = none from I.ok.hd hc) hit hp (by simp; omega) fun h' x he' hx' => ?_)
      obtain ⟨o, ho, hc⟩ := hx'
      refine wpAny_bind (wpAny_isInstance (T := "StopIteration") (b := true) ⟨o, ho, hc⟩ isSubtype_stop ?_)
      exact wpAny_pure ⟨rfl, I.turned (t' := s.toks) (fun b o hb q => he' b o hb q) f0 f1 f3 f4 f5⟩
    exact en
  self := fun A i s Q E st h => wpAny_pyIter_enum st.1.choose_spec h
def iEnumT (K : PySem.W.Frag) (ta : TA) : TI := fun σ H R => ta σ H fun vs H1 => ∃ a xs, vs = [.ref a] ∧ SqT K H1 a xs ∧ R (IteT K a) H1
theorem pi_enumT {X : Cx} {e : Expr} {ta : TA} {p pos tpos : Pos} {elts : List Expr} {kk : Nat} (hg : Gl X "enumerate") (hm : X.mg "enumerate" = none) (ha : PA X [e] ta) (hs : starEach [e] X.env = [(false, eval e X.env)] := by rfl) :
    PI X (.Tuple elts kk tpos) (.Call (.Name "enumerate" p) [e] [] pos) (iEnumT X.K ta) := ⟨fun pins s σ H R I h => by
  refine Call_ (ld_blt I hg hm boot_enumerate (PyProof.Rows.callWith_type1 (thn (ha.run pos pins s σ H _ I h) fun us s1 ⟨vs, H1, I1, r1, a, xs, ex, hq, q⟩ => ?_) hs rfl))
  subst ex
  cases r1 with
  | cons r rr =>
    cases rr
    cases r
    obtain ⟨its, rv, p', hz⟩ := I1.tuple hq
    refine call_enumT (show s1.heap.IsTuple a its.toArray from p') fun h' he hit hk => wpAny_pyIter_enum he ?_
    refine ⟨s1.heap.objs.size + 1, [s1.heap.objs.size + 1, s1.heap.objs.size], _, _, H1, rfl, I1.kept (t' := s1.toks) hk, turn_enumT a (s1.heap.objs.size + 1) s1.heap.objs.size, ⟨⟨.none, he⟩, hit, Nat.succ_ne_self _⟩, fun b hb => ?_, q⟩
    have hle : s1.heap.objs.size ≤ b := by
      rcases (show b = s1.heap.objs.size + 1 ∨ b = s1.heap.objs.size by simpa using hb) with z | z
      · exact z ▸ Nat.le_add_right _ _
      · exact z ▸ Nat.le_refl _
    exact I1.fpOk hle (I1.hok.fresh hle)⟩
section
variable {S : Cf} {ρ : Rho} {te : TE} {G : Hp}
theorem wk_enumT {a : Addr} {vs : List V} {ds : List D} (hs : SqT S.K G a vs) (ra : RA S.K G vs ds) : Wk S (IteT S.K a) G (enumD 0 ds) := wk_pair (f := fun a b => .tuple [a, b]) fun G2 H2 e k => by
  have hs2 : SqT S.K H2 a vs := sameT (e.trans k.gh) hs
  refine ⟨⟨vs, hs2, by rw [enumD_length, ra.length]; exact Nat.le_refl _⟩, fun i d hd => ?_⟩
  obtain ⟨x, hx, ed⟩ := enumD_get hd
  obtain ⟨v, hv, rv⟩ := ra.get hx
  refine ⟨⟨vs, v, hs2, hv⟩, fun y H3 hy => ?_⟩
  obtain ⟨T, q, e1, e2, e3, e5⟩ := hy
  have e5 := e5 vs hs2
  rw [hv] at e5
  cases e5
  exact ⟨T, _, _, .int ((0 + i : Nat) : Int), x, e1, e2, e3, by rw [Nat.zero_add]; exact .int _, rv.mono e, ed⟩
theorem im_enumT {ds : List D} (h : Ev S te ρ (Eq (.dat (.tuple ds)))) : Itm S (iEnumT S.K (tCons te tNil)) ρ (Eq (enumD 0 ds)) := fun σ G H k e Rr f => h σ G H k e _ fun v s G' H' g k' es r => by
  subst es
  cases r with
  | tup hs ra => exact ⟨_, _, rfl, sameT k'.gh hs, f _ _ G' H' g k' rfl (wk_enumT hs ra)⟩
end
end Dl

set_option Elab.async false
set_option linter.all false
set_option maxRecDepth 100000
set_option maxHeartbeats 4000000
/-! Dlu: short words. -/
namespace Dl
open PySem PySem.Spec PyProof.Rows L2
section
variable {S : Cf} {ρ : Rho} {te ta tb tc td : TE} {x y z u : D}
theorem ev_tup1 (h1 : Ev S ta ρ (Eq (.dat x))) : Ev S (tTup (tCons ta tNil)) ρ (Eq (.dat (.tuple [x]))) := ev_tup (ds := [x]) (ea_cons h1 ea_nil) (by simp)
theorem ev_tup2 (h1 : Ev S ta ρ (Eq (.dat x))) (h2 : Ev S tb ρ (Eq (.dat y))) : Ev S (tTup (tCons ta (tCons tb tNil))) ρ (Eq (.dat (.tuple [x, y]))) := ev_tup (ds := [x, y]) (ea_cons h1 (ea_cons h2 ea_nil)) (by simp)
theorem ev_tup3 (h1 : Ev S ta ρ (Eq (.dat x))) (h2 : Ev S tb ρ (Eq (.dat y))) (h3 : Ev S tc ρ (Eq (.dat z))) : Ev S (tTup (tCons ta (tCons tb (tCons tc tNil)))) ρ (Eq (.dat (.tuple [x, y, z]))) := ev_tup (ds := [x, y, z]) (ea_cons h1 (ea_cons h2 (ea_cons h3 ea_nil))) (by simp)
theorem ev_tup4 (h1 : Ev S ta ρ (Eq (.dat x))) (h2 : Ev S tb ρ (Eq (.dat y))) (h3 : Ev S tc ρ (Eq (.dat z))) (h4 : Ev S td ρ (Eq (.dat u))) : Ev S (tTup (tCons ta (tCons tb (tCons tc (tCons td tNil))))) ρ (Eq (.dat (.tuple [x, y, z, u]))) :=
  ev_tup (ds := [x, y, z, u]) (ea_cons h1 (ea_cons h2 (ea_cons h3 (ea_cons h4 ea_nil)))) (by simp)
theorem ev_lst0 : Ev S (tLst tNil) ρ (Eq (.dat (.list []))) := ev_lst (ds := []) ea_nil (by decide)
theorem ea_datP {tr : TA} {x : D} {ds : List D} (h : Ev S ta ρ (Eq (.dat x))) (hr : EvA S tr ρ (Eq (ds.map Sl.dat))) : EvA S (tCons ta tr) ρ (Eq ((x :: ds).map Sl.dat)) := ea_cons h hr
theorem ea_dat0 : EvA S tNil ρ (Eq (([] : List D).map Sl.dat)) := ea_nil
/-! ints compared by == and != -/
theorem eqv_int (i j : Int) : PyData.eqv (.int i) (.int j) = decide (i = j) := by
  simp only [PyData.eqv]
  rfl
theorem ev_eqI {i j : Int} (h1 : Ev S ta ρ (Eq (.dat (.int i)))) (h2 : Ev S tb ρ (Eq (.dat (.int j)))) : Ev S (tOp (rEqD S.K) ta tb) ρ (Eq (.dat (.bool (decide (i = j))))) := (ev_eqD h1 h2 rfl rfl).cast (by rw [eqv_int])
theorem ev_neI {i j : Int} (h1 : Ev S ta ρ (Eq (.dat (.int i)))) (h2 : Ev S tb ρ (Eq (.dat (.int j)))) : Ev S (tOp (rNeD S.K) ta tb) ρ (Eq (.dat (.bool (!decide (i = j))))) := (ev_neD h1 h2 rfl rfl).cast (by rw [eqv_int])
theorem ev_isB {b b' : Bool} (h : Ev S ta ρ (Eq (.dat (.bool b)))) (e : b = b') : Ev S ta ρ (Eq (.dat (.bool b'))) := e ▸ h
/-! isinstance -/
def dInt : D → Bool
  | .int _ => true
  | .bool _ => true
  | _ => false
def dBool : D → Bool
  | .bool _ => true
  | _ => false
def dStr : D → Bool
  | .str _ => true
  | _ => false
def dList : D → Bool
  | .list _ => true
  | _ => false
def dTuple : D → Bool
  | .tuple _ => true
  | _ => false
def dDict : D → Bool
  | .dict _ => true
  | _ => false
theorem ev_isInt {d : D} (h : Ev S te ρ (Eq (.dat d))) : Ev S (tCB (rIsi S.K) (tCons te (tCons (tC (.ty "int")) tNil))) ρ (Eq (.dat (.bool (dInt d)))) := ev_isi h (by cases d <;> kernel_rfl)
theorem ev_isBool {d : D} (h : Ev S te ρ (Eq (.dat d))) : Ev S (tCB (rIsi S.K) (tCons te (tCons (tC (.ty "bool")) tNil))) ρ (Eq (.dat (.bool (dBool d)))) := ev_isi h (by cases d <;> kernel_rfl)
theorem ev_isStr {d : D} (h : Ev S te ρ (Eq (.dat d))) : Ev S (tCB (rIsi S.K) (tCons te (tCons (tC (.ty "str")) tNil))) ρ (Eq (.dat (.bool (dStr d)))) := ev_isi h (by cases d <;> kernel_rfl)
theorem ev_isList {d : D} (h : Ev S te ρ (Eq (.dat d))) : Ev S (tCB (rIsi S.K) (tCons te (tCons (tC (.ty "list")) tNil))) ρ (Eq (.dat (.bool (dList d)))) := ev_isi h (by cases d <;> kernel_rfl)
theorem ev_isTuple {d : D} (h : Ev S te ρ (Eq (.dat d))) : Ev S (tCB (rIsi S.K) (tCons te (tCons (tC (.ty "tuple")) tNil))) ρ (Eq (.dat (.bool (dTuple d)))) := ev_isi h (by cases d <;> kernel_rfl)
theorem ev_isDict {d : D} (h : Ev S te ρ (Eq (.dat d))) : Ev S (tCB (rIsi S.K) (tCons te (tCons (tC (.ty "dict")) tNil))) ρ (Eq (.dat (.bool (dDict d)))) := ev_isi h (by cases d <;> kernel_rfl)
theorem ev_isTL {d : D} (h : Ev S te ρ (Eq (.dat d))) : Ev S (tCB (rIsiT S.K) (tCons te (tCons (tTup (tCons (tC (.ty "tuple")) (tCons (tC (.ty "list")) tNil))) tNil))) ρ (Eq (.dat (.bool (dTuple d || dList d)))) := ev_isi2 h (by cases d <;> kernel_rfl) (by cases d <;> kernel_rfl)
theorem ev_isLT {d : D} (h : Ev S te ρ (Eq (.dat d))) : Ev S (tCB (rIsiT S.K) (tCons te (tCons (tTup (tCons (tC (.ty "list")) (tCons (tC (.ty "tuple")) tNil))) tNil))) ρ (Eq (.dat (.bool (dList d || dTuple d)))) := ev_isi2 h (by cases d <;> kernel_rfl) (by cases d <;> kernel_rfl)
theorem ev_andF (h : Ev S ta ρ (Eq (.dat (.bool false)))) : Ev S (tAndV ta tb) ρ (Eq (.dat (.bool false))) := ev_andV (a := false) (b := false) h fun z => by cases z
theorem ev_orT (h : Ev S ta ρ (Eq (.dat (.bool true)))) : Ev S (tOrV ta tb) ρ (Eq (.dat (.bool true))) := ev_orV (a := true) (b := true) h fun z => by cases z
theorem et_andF {tt uu : TT} (h : EvT S tt ρ (Eq false)) : EvT S (tAnd tt uu) ρ (Eq false) := et_and (a := false) (b := false) h fun z => by cases z
theorem et_orT {tt uu : TT} (h : EvT S tt ρ (Eq true)) : EvT S (tOr tt uu) ρ (Eq true) := et_or (a := true) (b := true) h fun z => by cases z
/-- all([e for x in xs]) -/
theorem ev_allMap {wi : TI} {g : TG} {vs : List Nat} {ds : List D} {p : D → Bool} (hi : Itm S wi ρ (Eq ds)) (hl : ds.length ≤ 1000000)
    (hs : ∀ d, d ∈ ds → ∃ js ρ2, (∀ j ∈ js, j ∈ vs) ∧ Tgt S g js d (wipeR ρ vs) ρ2 ∧ Ev S te ρ2 (Eq (.dat (.bool (p d))))) : Ev S (tCB (rAll S.K) (tCons (tLc wi g tYes te vs) tNil)) ρ (Eq (.dat (.bool (ds.all p)))) := by
  have h := (ef_map (f := fun d => .bool (p d)) hi hl hs).evE
  have e : ds.map (fun d => PyData.bool (p d)) = (ds.map p).map PyData.bool := by rw [List.map_map]; rfl
  rw [e] at h
  refine (ev_all h).cast ?_
  rw [List.all_map]
  rfl
/-! statements that follow one another -/
variable {P : Oc → Prop} {t w : TS} {g : TG} {tt : TT} {ts us : TS}
theorem xs_asg {i : Nat} {s : Sl} (h : Ev S te ρ (Eq s)) (k : Xc S w (ρ.set i s) P) : Xc S (tSeq (tAsg te (gName i)) w) ρ P := xc_seq (xc_asg h k)
theorem xs_asgP {i : Nat} {p : Sl → Prop} (h : Ev S te ρ p) (k : ∀ s, p s → Xc S w (ρ.set i s) P) : Xc S (tSeq (tAsg te (gName i)) w) ρ P := xc_seq (xc_asgP h k)
theorem xs_asgF {i : Nat} {p : List D → Prop} (h : EvF S te ρ p) (k : ∀ a ds, p ds → Xc S w (ρ.set i (.own a (.lst ds))) P) : Xc S (tSeq (tAsg te (gName i)) w) ρ P := xc_seq (xc_asgF h k)
theorem xs_asgT {js : List Nat} {d : D} {ρ1 : Rho} (h : Ev S te ρ (Eq (.dat d))) (ht : Tgt S g js d ρ ρ1) (k : Xc S w ρ1 P) : Xc S (tSeq (tAsg te g) w) ρ P := xc_seq (xc_asgT h ht k)
theorem xs_par {i j : Nat} {ta : TA} {x y : Sl} (h : EvA S ta ρ (Eq [x, y])) (k : Xc S w ((ρ.set i x).set j y) P) : Xc S (tSeq (tPar i j ta) w) ρ P := xc_seq (xc_par h k)
theorem xs_if {b : Bool} (h : EvT S tt ρ (Eq b)) (h1 : b = true → Xc S ts ρ (SeqP S w P)) (h2 : b = false → Xc S us ρ (SeqP S w P)) : Xc S (tSeq (tIfS tt ts us) w) ρ P := xc_seq (xc_if h h1 h2)
/-- if t: ..(out), then the rest -/
theorem xs_when {b : Bool} (h : EvT S tt ρ (Eq b)) (h1 : b = true → Xc S ts ρ (SeqP S w P)) (h2 : b = false → Xc S w ρ P) : Xc S (tSeq (tIfS tt ts tNext) w) ρ P := xc_seq (xc_if h h1 fun e => xc_next (h2 e))
theorem xs_whenP {p : Bool → Prop} (h : EvT S tt ρ p) (h1 : p true → Xc S ts ρ (SeqP S w P)) (h2 : p false → Xc S w ρ P) : Xc S (tSeq (tIfS tt ts tNext) w) ρ P := xc_seq (xc_ifP h h1 fun e => xc_next (h2 e))
theorem xs_dropP {p : Sl → Prop} (h : Ev S te ρ p) (k : ∀ s, p s → Xc S w ρ P) : Xc S (tSeq (tDrop te) w) ρ P := xc_seq (xc_dropP h k)
theorem xs_ret {s : Sl} (h : Ev S te ρ (Eq s)) (k : P (.rt ρ s)) : Xc S (tRet te) ρ (SeqP S w P) := xc_ret h k
theorem xc_retB {b b' : Bool} (h : Ev S te ρ (Eq (.dat (.bool b)))) (e : b = b') : Xc S (tRet te) ρ (RetP (Eq (.ok (.dat (.bool b'))))) := xc_ret h (e ▸ rfl)
theorem xc_retD {d d' : D} (h : Ev S te ρ (Eq (.dat d))) (e : d = d') : Xc S (tRet te) ρ (RetP (Eq (.ok (.dat d')))) := xc_ret h (e ▸ rfl)
theorem xs_aug {i : Nat} {f : Int → Int → Int} {a b : Int} (hx : ρ[i]? = some (.dat (.int a))) (h : Ev S te ρ (Eq (.dat (.int b)))) (k : Xc S w (ρ.set i (.dat (.int (f a b)))) P) : Xc S (tSeq (tAug i te (ipI f)) w) ρ P := xc_seq (xc_aug hx h k)
theorem xs_callX {ι : Type} {args : ι → List Sl} {pre : ι → Prop} {post : ι → Re → Prop} {ta : TA} (i : ι) (ha : EvA S ta ρ (Eq (args i))) (hp : pre i) (ho : ∀ s, post i (.ok s) → Xc S w ρ P) (hx : ∀ C d, post i (.ex C d) → P (.ex C d)) :
    Xc S (tSeq (tDrop (tCall (spI S.K fx0 args pre post) [] S.E ta)) w) ρ P := xc_seq (xc_callX i ha hp ho hx)
theorem xs_for {wi : TI} {tb : TS} {ds : List D} (hi : Itm S wi ρ (Eq ds)) (I : Nat → Rho → Prop) (h0 : I 0 ρ)
    (hs : ∀ i d ρ1, ds[i]? = some d → I i ρ1 → ∃ js ρ2, Tgt S g js d ρ1 ρ2 ∧ Xc S tb ρ2 (LoopP (I (i + 1)) (SeqP S w P))) (hd : ∀ ρ1, I ds.length ρ1 → Xc S w ρ1 P) : Xc S (tSeq (tFor wi g tb) w) ρ P := xc_seq (xc_forE hi I h0 hs hd)
theorem xs_while {tb : TS} (I : Nat → Rho → Prop) (m0 : Nat) (h0 : I m0 ρ)
    (hs : ∀ m ρ1, I m ρ1 → EvT S tt ρ1 (fun b => if b = true then Xc S tb ρ1 (LoopP (fun ρ2 => ∃ m', m' < m ∧ I m' ρ2) (SeqP S w P)) else Xc S w ρ1 P)) : Xc S (tSeq (tWhile tt tb) w) ρ P := xc_seq (xc_while I m0 h0 hs)
theorem xs_append {i : Nat} {a : Addr} {ds : List D} {p : D → Prop} (hx : ρ[i]? = some (.own a (.lst ds))) (h : Ev S te ρ (fun s => ∃ d, s = .dat d ∧ p d)) (hl : ds.length < 1000000) (k : ∀ d, p d → Xc S w (ρ.set i (.own a (.lst (ds ++ [d])))) P) :
    Xc S (tSeq (tDrop (tBM S.K "list" rAppend (tVar i) (tCons te tNil))) w) ρ P := xc_seq (xc_append hx h hl k)
end
/-! ### defs by name -/
structure Cal (P : Program) (w : World) (K : PySem.W.Frag) (mg : Str → Option Value) (base : Heap) (k : Nat) (x : Str) (ps : List Str) (sp : Sp) : Prop where
  ex : ∃ (f : Addr) (fd : FuncData), FnOk P w K mg base (L2.CX P w) k f fd ps sp ∧ mg x = some (.ref f) ∧ PySem.W.keepIn K (.ref f) = true ∧ Binds K fd ps []
/-- where the text's def stands -/
def Def (K : PySem.W.Frag) (mg : Str → Option Value) (x : Str) (st : Stmt) : Prop := ∃ (f : Addr) (fd : FuncData), Fun K x x st f fd ∧ mg x = some (.ref f)
section
variable {P : Program} {w : World} {K : PySem.W.Frag} {mg : Str → Option Value} {base : Heap}
theorem mk_cal {ι : Type} {args : ι → List Sl} {pre : ι → Prop} {post : ι → Re → Prop} {fx : Fx} {x : Str} {st : Stmt} {N ps : List Str} {k : Nat} (T : Def K mg x st) (Sc : FnScope N ps (defScope st)) (hl : ∀ i, (args i).length = ps.length)
    (hb : ∀ (kV doc pm : Value) (an : Option Addr) (cdv ct : Value) (us : List Value), us.length = ps.length → bindArgs (PySem.W.fnOf x x (defArgs st) (defBody st) (defScope st) .none kV doc pm an cdv ct) ⟨us, []⟩ = pure (ps.zip us))
    (body : ∀ (f : Addr) (cdv : Value) (A : Around) (outer : List PySem.Env) (s : Shared) (H : Hp) (E : XK), Room k (A.deeper (envOfC x (defScope st) s.heap.objs.size f cdv)) → ∀ (i : ι), pre i →
      ∃ t, PSs (cxOf (L2.CX P w) P w K mg base N x (defScope st) f cdv A outer s H E) (defBody st) t ∧ ∀ G : Hp, Xc ⟨K, fx, G, H, E⟩ t (args i ++ List.replicate (N.length - ps.length) .no) (RetP (post i)))
    (hm : ∀ a, ¬ fx.mine a := by exact fun _ h => h) : Cal P w K mg base (k + 1) x ps (spI K fx args pre post) := by
  obtain ⟨f, fd, F, hmg⟩ := T
  exact ⟨f, fd, fn_ok F Sc (fun i _ => hl i) (fun cdv A outer s H E => body f cdv A outer s H E) hm, hmg, F.kp, F.binds hb⟩
variable {X : Cx} {k : Nat} {x : Str} {ps : List Str} {sp : Sp} {p pos : Pos} {e : Expr} {es : List Expr} {t : TA}
theorem pe_cal (C : Cal X.prog X.w X.K X.mg X.base k x ps sp) (hr : Room k X.A) (hg : Gl X x) (ha : PA X (e :: es) t) (hdb : (x == ("__debug__" : Str)) = false := by decide) (he : starEach (e :: es) X.env = (false, eval e X.env) :: starEach es X.env := by rfl)
    (hpl : (backTo pos (starEach es X.env)).any (·.1) = false := by rfl) : PE X (.Call (.Name x p) (e :: es) [] pos) (tCall sp [] E0 t) := by
  obtain ⟨f, fd, F, hm, hk, hb⟩ := C.ex
  exact pe_call F hr hg hm hk hb .nil passL ha hdb he hpl
/-- .. that may raise what leaves this def too -/
theorem pe_calX {E : XK} (C : Cal X.prog X.w X.K X.mg X.base k x ps sp) (hr : Room k X.A) (hg : Gl X x) (ha : PA X (e :: es) t) (tk : Takes X (fun cls d _ H => E cls d H)) (hdb : (x == ("__debug__" : Str)) = false := by decide) (he : starEach (e :: es) X.env = (false, eval e X.env) :: starEach es X.env := by rfl)
    (hpl : (backTo pos (starEach es X.env)).any (·.1) = false := by rfl) : PE X (.Call (.Name x p) (e :: es) [] pos) (tCall sp [] E t) := by
  obtain ⟨f, fd, F, hm, hk, hb⟩ := C.ex
  exact pe_call F hr hg hm hk hb .nil (passes_call tk fun _ _ _ _ h => h) ha hdb he hpl
theorem Cal.mono {j : Nat} (C : Cal P w K mg base j x ps sp) (h : j ≤ k) : Cal P w K mg base k x ps sp := by
  obtain ⟨f, fd, F, r⟩ := C.ex
  exact ⟨f, fd, F.mono h, r⟩
theorem u64 {k : Nat} {A : Around} (r : Room k A) : A.units + 64 < cLine := by
  have := r.un
  omega
theorem u65 {k : Nat} {A : Around} (r : Room k A) : A.units + 65 < cLine := by
  have := r.un
  omega
end
/-! ### constants of the module -/
section
variable {X : Cx} {x : Str} {pos : Pos}
theorem pe_gint {n : Int} (hg : Gl X x) (h : ∃ t, X.mg x = some (.int n t)) (hd : (x == ("__debug__" : Str)) = false := by decide) : PE X (.Name x pos) (tC (.int n)) := by
  obtain ⟨t, h⟩ := h
  exact pe_glob hg h ⟨t, rfl⟩ hd
theorem pe_gstr {n : Str} (hg : Gl X x) (h : ∃ t, X.mg x = some (.str n t)) (hd : (x == ("__debug__" : Str)) = false := by decide) : PE X (.Name x pos) (tC (.str n)) := by
  obtain ⟨t, h⟩ := h
  exact pe_glob hg h ⟨t, rfl⟩ hd
theorem pe_gref {a : Addr} (hg : Gl X x) (h : X.mg x = some (.ref a)) (hd : (x == ("__debug__" : Str)) = false := by decide) : PE X (.Name x pos) (tC (.ref a)) := pe_glob hg h rfl hd
end
/-! ### own errors -/
structure ErrC (K : PySem.W.Frag) (mg : Str → Option Value) (x : Str) (C fI : Addr) : Prop where
  gC : mg x = some (.ref C)
  oex : OexC K C
  nv : PySem.W.findIn K (.ref C) "value" = some none
  iC : PySem.W.findIn K (.ref C) "__init__" = some (some (.ref fI))
  tI : PySem.W.typeIn K (.ref fI) = some (.type "function")
  xf : XfC K C
structure IniF (P : Program) (w : World) (K : PySem.W.Frag) (mg : Str → Option Value) (base : Heap) (fI : Addr) : Prop where
  ex : ∃ fd : FuncData, FnOk P w K mg base CX0 1 fI fd ["self", "value"] (spIni K) ∧ Binds K fd ["self", "value"] []
section
variable {X : Cx} {x : Str} {C fI : Addr} {k : Nat} {e : Expr} {te : TE} {p pos pos' : Pos} {E : XK}
theorem ps_err (T : ErrC X.K X.mg x C fI) (I : IniF X.prog X.w X.K X.mg X.base fI) (hc : X.calm = true) (hr : Room (k + 2) X.A) (hg : Gl X x) (tk : Takes X (fun cls d _ H => E cls d H)) (he : PE X e te) (hdb : (x == ("__debug__" : Str)) = false := by decide)
    (hs : starEach [e] X.env = (false, eval e X.env) :: starEach [] X.env := by rfl) :
    PS X (.Raise (some (.Call (.Name x p) [e] [] pos)) none pos') (fun _ σ H => tMkO C (spIni X.K) [] (tCons te tNil) σ H fun cls d H' => E cls d H') := by
  obtain ⟨fd, F, hb⟩ := I.ex
  exact ps_raise hc tk (pmk_oex T.oex T.iC T.tI F (hr.mono (Nat.le_add_left 2 k)) hb .nil pass0 hg T.gC (pa_cons he pa_nil hs) hdb hs (by rfl))
end
end Dl

set_option Elab.async false
set_option linter.all false
set_option maxRecDepth 100000
set_option maxHeartbeats 4000000
/-! Dlr: the laws' own source of numbers: a row that is written again and again. -/
namespace Dl
open PySem PySem.Spec PyProof.Rows L2 LamX
/-! ### a raw promise of a def -/
section
variable {P : Program} {w : World} {K : PySem.W.Frag} {mg : Str → Option Value} {base : Heap}
theorem mk_calR {sp : Sp} {x : Str} {st : Stmt} {N ps : List Str} {k : Nat} (T : Def K mg x st) (Sc : FnScope N ps (defScope st)) (hl : ∀ vs H Q E, sp vs H Q E → vs.length = ps.length)
    (hb : ∀ (kV doc pm : Value) (an : Option Addr) (cdv ct : Value) (us : List Value), us.length = ps.length → bindArgs (PySem.W.fnOf x x (defArgs st) (defBody st) (defScope st) .none kV doc pm an cdv ct) ⟨us, []⟩ = pure (ps.zip us))
    (body : ∀ (f : Addr) (cdv : Value) (A : Around) (outer : List PySem.Env) (s : Shared) (H : Hp) (E : XK) (vs : List V) (Q : VK), Room k (A.deeper (envOfC x (defScope st) s.heap.objs.size f cdv)) → sp vs H Q E →
      ∃ t, PSs (cxOf (L2.CX P w) P w K mg base N x (defScope st) f cdv A outer s H E) (defBody st) t ∧ t { nx := fun _ H' => Q .non H', rt := Q } (L2.start N vs) H) :
    Cal P w K mg base (k + 1) x ps sp := by
  obtain ⟨f, fd, F, hm⟩ := T
  exact ⟨f, fd, F.okX Sc hl fun cdv A outer s H vs Q E hr h => body f cdv A outer s H E vs Q hr h, hm, F.kp, F.binds hb⟩
/-- a promise for each z -/
def spZ {Z : Type} (sp : Z → Sp) : Sp := fun vs H Q E => ∃ z, sp z vs H Q E
theorem mk_calZ {Z ι : Type} {args : Z → ι → List Sl} {pre : Z → ι → Prop} {post : Z → ι → Re → Prop} {fx : Z → Fx} {x : Str} {st : Stmt} {N ps : List Str} {k : Nat} (T : Def K mg x st) (Sc : FnScope N ps (defScope st)) (hl : ∀ z i, (args z i).length = ps.length)
    (hb : ∀ (kV doc pm : Value) (an : Option Addr) (cdv ct : Value) (us : List Value), us.length = ps.length → bindArgs (PySem.W.fnOf x x (defArgs st) (defBody st) (defScope st) .none kV doc pm an cdv ct) ⟨us, []⟩ = pure (ps.zip us))
    (body : ∀ (z : Z) (f : Addr) (cdv : Value) (A : Around) (outer : List PySem.Env) (s : Shared) (H : Hp) (E : XK), Room k (A.deeper (envOfC x (defScope st) s.heap.objs.size f cdv)) → ∀ (i : ι), pre z i →
      ∃ t, PSs (cxOf (L2.CX P w) P w K mg base N x (defScope st) f cdv A outer s H E) (defBody st) t ∧ ∀ G : Hp, Xc ⟨K, fx z, G, H, E⟩ t (args z i ++ List.replicate (N.length - ps.length) .no) (RetP (post z i)))
    (hm : ∀ z a, ¬ (fx z).mine a := by exact fun _ _ h => h) : Cal P w K mg base (k + 1) x ps (spZ fun z => spI K (fx z) (args z) (pre z) (post z)) := by
  obtain ⟨f, fd, F, hmg⟩ := T
  have h := fun z => fn_ok (base := base) (k := k) F Sc (fun i _ => hl z i) (fun cdv A outer s H E => body z f cdv A outer s H E) (hm z)
  exact ⟨f, fd, ⟨fun vs H Q E ⟨z, q⟩ => (h z).len vs H Q E q, fun A outer s H args us vs Q E hr he hbd hv ⟨z, q⟩ => (h z).run A outer s H args us vs Q E hr he hbd hv q⟩, hmg, F.kp, F.binds hb⟩
end
/-! ### values that change nothing -/
def Gv (te : TE) (σ : L2.St) (H : Hp) (v : V) : Prop := ∀ Q : VK, Q v H → te σ H Q
def Gt (tt : TT) (σ : L2.St) (H : Hp) (b : Bool) : Prop := ∀ Q : Bool → Hp → Prop, Q b H → tt σ H Q
section
variable {K : PySem.W.Frag} {σ : L2.St} {H : Hp} {ta tb te : TE} {i j k : Int} {v : V} {a : Addr} {xs : List V} {n : Nat}
theorem gv_int : Gv (tC (.int k)) σ H (.int k) := fun Q q => q
theorem gv_var (h : σ[n]? = some (some v)) : Gv (tVar n) σ H v := fun Q q => ⟨v, h, q⟩
theorem gv_I0 {f : Int → Int → Int} (ha : Gv ta σ H (.int i)) (hb : Gv tb σ H (.int j)) : Gv (tOp (rI0 fun i j => .int (f i j)) ta tb) σ H (.int (f i j)) := fun Q q => ha _ (hb _ ⟨i, j, rfl, rfl, q⟩)
theorem gv_C0 {f : Int → Int → Bool} (ha : Gv ta σ H (.int i)) (hb : Gv tb σ H (.int j)) : Gv (tOp (rI0 fun i j => .bl (f i j)) ta tb) σ H (.bl (f i j)) := fun Q q => ha _ (hb _ ⟨i, j, rfl, rfl, q⟩)
theorem gv_IC {C : Int → Int → Prop} {f : Int → Int → Int} (ha : Gv ta σ H (.int i)) (hb : Gv tb σ H (.int j)) (hc : C i j) : Gv (tOp (rI C fun i j => .int (f i j)) ta tb) σ H (.int (f i j)) := fun Q q => ha _ (hb _ ⟨i, j, rfl, rfl, hc, q⟩)
theorem gv_ix (ha : Gv ta σ H (.ref a)) (hb : Gv tb σ H (.int i)) (hl : SqL K H a xs) (hv : atI xs i = some v) : Gv (tOp (rIxL K) ta tb) σ H v := fun Q q => ha _ (hb _ ⟨a, xs, i, v, rfl, rfl, hl, hv, q⟩)
theorem gv_toInt (ha : Gv ta σ H (.int i)) : Gv (tCB (fun xs H Q => (∃ i, xs = [.int i] ∧ Q (.int i) H) ∨ ∃ k, xs = [.bl k] ∧ Q (.int (if k then 1 else 0)) H) (tCons ta tNil)) σ H (.int i) := fun Q q => ha _ (.inl ⟨i, rfl, q⟩)
theorem gv_len (ha : Gv ta σ H (.ref a)) (hl : SqL K H a xs) : Gv (tCB (fun xs H Q => ∃ p ys, xs = [.ref p] ∧ (SqL K H p ys ∨ SqT K H p ys) ∧ Q (.int ys.length) H) (tCons ta tNil)) σ H (.int xs.length) := fun Q q => ha _ ⟨a, xs, rfl, .inl hl, q⟩
theorem gt_test {b : Bool} (h : Gv te σ H (.bl b)) : Gt (tTest te) σ H b := fun Q q => h _ ⟨b, rfl, q⟩
variable {De : Ends} {t u w : TS} {tt : TT}
/-- if t: ..(out), then the rest -/
theorem gs_when {b : Bool} (h : Gt tt σ H b) (h1 : b = true → t { De with nx := w De } σ H) (h2 : b = false → w De σ H) : tSeq (tIfS tt t tNext) w De σ H := h _ (by
  cases b with
  | true => exact h1 rfl
  | false => exact h2 rfl)
theorem gs_asg (h : Gv te σ H v) (k : w De (σ.set n (some v)) H) : tSeq (tAsg te (gName n)) w De σ H := h _ k
theorem gs_ret (h : Gv te σ H v) (k : De.rt v H) : tRet te De σ H := h _ k
/-- row[k] = e -/
theorem gs_put {m : Nat} (h : Gv te σ H v) (ho : σ[m]? = some (some (.ref a))) (hl : H a = some (.lst xs)) (hi : ixN xs.length k = some n) (q : w De σ (upd H a (.lst (xs.set n v)))) : tSeq (tAsg te (gSub (tVar m) (tC (.int k)) rSetL)) w De σ H :=
  h _ ⟨.ref a, ho, a, xs, k, n, rfl, rfl, hl, hi, q⟩
theorem gs_put1 {m : Nat} (h : Gv te σ H v) (ho : σ[m]? = some (some (.ref a))) (hl : H a = some (.lst xs)) (hi : ixN xs.length k = some n) (q : De.nx σ (upd H a (.lst (xs.set n v)))) : tAsg te (gSub (tVar m) (tC (.int k)) rSetL) De σ H :=
  h _ ⟨.ref a, ho, a, xs, k, n, rfl, rfl, hl, hi, q⟩
theorem gs_if {b : Bool} (h : Gt tt σ H b) (h1 : b = true → t { De with nx := w De } σ H) (h2 : b = false → u { De with nx := w De } σ H) : tSeq (tIfS tt t u) w De σ H := h _ (by
  cases b with
  | true => exact h1 rfl
  | false => exact h2 rfl)
theorem upd_twice {H : Hp} {p : Addr} {o o' : HO} : upd (upd H p o) p o' = upd H p o' := by
  funext b
  by_cases e : b = p
  · subst e
    rw [upd_same, upd_same]
  · rw [upd_ne e, upd_ne e, upd_ne e]
theorem sq_upd {p : Addr} {o : HO} (h : SqL K H a xs) (n : p ≠ a) : SqL K (upd H p o) a xs := by
  rcases h with (h | ⟨o', h⟩) | h
  · exact .inl (.inl (by rw [upd_ne n.symm]; exact h))
  · exact .inl (.inr ⟨o', by rw [upd_ne n.symm]; exact h⟩)
  · exact .inr h
end
/-! ### the row -/
structure RowZ where
  r : Addr
  sc : Addr
  T : Addr
  q : Str
  vs : List Int
  t : Prop
def ScOk (K : PySem.W.Frag) (z : RowZ) (H : Hp) : Prop := (z.t ∧ H z.sc = some (.lst (z.vs.map V.int))) ∨ (∃ o, H z.sc = some (.frz o (.lst (z.vs.map V.int)))) ∨ (¬ z.t ∧ SqL K (fun _ => none) z.sc (z.vs.map V.int))
def rowHO (sc : Addr) (p m c : Int) : HO := .lst [.ref sc, .int p, .int m, .int c]
def RowAt (z : RowZ) (H : Hp) : Prop := ∃ p m c : Int, 0 ≤ p ∧ 0 ≤ m ∧ m < 2147483648 ∧ H z.r = some (rowHO z.sc p m c)
theorem row_ne {H : Hp} {r sc : Addr} {p m c : Int} {ns : List Int} (h1 : H r = some (rowHO sc p m c)) (h2 : H sc = some (.lst (ns.map V.int))) : r ≠ sc := fun q => by
  rw [q, h2] at h1
  cases ns with
  | nil => cases h1
  | cons n ns => cases h1
theorem row_neF {H : Hp} {r sc : Addr} {p m c : Int} {o : Obj} {u : HO} (h1 : H r = some (rowHO sc p m c)) (h2 : H sc = some (.frz o u)) : r ≠ sc := fun q => by
  rw [q, h2] at h1
  cases h1
theorem ScOk.sq {K : PySem.W.Frag} {z : RowZ} {H : Hp} (h : ScOk K z H) : SqL K H z.sc (z.vs.map V.int) := by
  rcases h with ⟨_, h⟩ | ⟨o, h⟩ | ⟨_, h⟩
  · exact .inl (.inl h)
  · exact .inl (.inr ⟨o, h⟩)
  · exact Same.seq (fun a o e => by cases e) h
theorem tabS_ext {H H' : Hp} {P : Addr} {q : Str} (e : ∀ a o, a = P ∨ Fixd o → H a = some o → H' a = some o) (h : TabS H P q) : TabS H' P q := by
  obtain ⟨ps, h1, h2, h3⟩ := h
  refine ⟨ps, e _ _ (.inl rfl) h1, h2, fun pos cv hc => ?_⟩
  obtain ⟨c, e1, e2⟩ := h3 pos cv hc
  exact ⟨c, e1, e c _ (.inr True.intro) e2⟩
theorem ScOk.sq' {K : PySem.W.Frag} {z : RowZ} {H : Hp} {p m c : Int} (hr : H z.r = some (rowHO z.sc p m c)) (h : ScOk K z H) (o : HO) : SqL K (upd H z.r o) z.sc (z.vs.map V.int) := by
  rcases h with ⟨_, h⟩ | ⟨o', h⟩ | ⟨_, h⟩
  · exact .inl (.inl (by rw [upd_ne (row_ne hr h).symm]; exact h))
  · exact .inl (.inr ⟨o', by rw [upd_ne (row_neF hr h).symm]; exact h⟩)
  · exact Same.seq (fun a o e => by cases e) h
def rowFx (K : PySem.W.Frag) (z : RowZ) : Fx where
  vol a := a = z.r ∨ a = z.T ∨ (a = z.sc ∧ z.t)
  mine _ := False
  inv H := RowAt z H ∧ ScOk K z H ∧ TabS H z.T z.q
  ext := fun {H H'} e ⟨⟨p, m, c, h1, h2, h3, h4⟩, h5, h6⟩ => ⟨⟨p, m, c, h1, h2, h3, e _ _ (.inl (.inl rfl)) h4⟩, by
    rcases h5 with ⟨t, h⟩ | ⟨o, h⟩ | h
    · exact .inl ⟨t, e _ _ (.inl (.inr (.inr ⟨rfl, t⟩))) h⟩
    · exact .inr (.inl ⟨o, e _ _ (.inr True.intro) h⟩)
    · exact .inr (.inr h), tabS_ext (fun a o q h => e a o (q.elim (fun q => .inl (.inr (.inl q))) .inr) h) h6⟩
  there := fun {H a} ⟨⟨p, m, c, h1, h2, h3, h4⟩, h5, h6⟩ hv => by
    rcases hv with rfl | rfl | ⟨rfl, t⟩
    · rw [h4]
      simp
    · obtain ⟨ps, h, _⟩ := h6
      rw [h]
      simp
    · rcases h5 with ⟨_, h⟩ | ⟨o, h⟩ | h
      · rw [h]
        simp
      · rw [h]
        simp
      · exact absurd t h.1
/-- what row and many give -/
def spTaken (K : PySem.W.Frag) : Sp := fun vs H Q _ => ∃ (r sc : Addr) (ns : List Int) (many p m c : Int), vs = [.ref r, .int many] ∧ 0 < many ∧ many < 1073741824 ∧ 0 ≤ p ∧ 0 ≤ m ∧ m < 2147483648 ∧ H r = some (rowHO sc p m c) ∧ SqL K H sc (ns.map V.int) ∧ (∀ o, SqL K (upd H r o) sc (ns.map V.int)) ∧
  ∀ x p' m' c' : Int, 0 ≤ x → x < many → 0 ≤ p' → 0 ≤ m' → m' < 2147483648 → Q (.int x) (upd H r (rowHO sc p' m' c'))
section
variable {K : PySem.W.Frag} {G0 B : Hp} {E : XK} {z : RowZ} {ρ : Rho} {te ti : TE}
theorem row_new {G H : Hp} (k : Kn (rowFx K z) G H) {p m c : Int} (h1 : 0 ≤ p) (h2 : 0 ≤ m) (h3 : m < 2147483648) : Grow (rowFx K z) G H G (upd H z.r (rowHO z.sc p m c)) ∧ Kn (rowFx K z) G (upd H z.r (rowHO z.sc p m c)) := by
  have hr : G z.r = none := k.vn _ (.inl rfl)
  have hs : Same G (upd H z.r (rowHO z.sc p m c)) := fun a o e => by
    have q : a ≠ z.r := fun q => by rw [q, hr] at e; cases e
    rw [upd_ne q]
    exact k.gh a o e
  obtain ⟨⟨p0, m0, c0, _, _, _, h4⟩, h5, ⟨ps, t1, t2, t3⟩⟩ := k.inv
  have nT : z.T ≠ z.r := fun q => by
    rw [q, h4] at t1
    cases t1
  refine ⟨⟨Same.refl G, hs, fun a o v e => ?_, fun _ _ h => h⟩, hs, ⟨⟨p, m, c, h1, h2, h3, upd_same⟩, ?_, ⟨ps, ?_, t2, fun pos cv hc => ?_⟩⟩, k.vn⟩
  · have q : a ≠ z.r := fun q => v (.inl q)
    rw [upd_ne q]
    exact e
  · rcases h5 with ⟨t, h⟩ | ⟨o, h⟩ | h
    · exact .inl ⟨t, by rw [upd_ne (row_ne h4 h).symm]; exact h⟩
    · exact .inr (.inl ⟨o, by rw [upd_ne (row_neF h4 h).symm]; exact h⟩)
    · exact .inr (.inr h)
  · rw [upd_ne nT]
    exact t1
  · obtain ⟨c', e1, e2⟩ := t3 pos cv hc
    have q : c' ≠ z.r := fun q => by
      rw [q, h4] at e2
      cases e2
    exact ⟨c', e1, by rw [upd_ne q]; exact e2⟩
/-- _law_taken(row, e) -/
theorem ev_taken {many : Int} {E' : XK} (hi : Ev ⟨K, rowFx K z, G0, B, E⟩ ti ρ (Eq (.raw (.ref z.r)))) (he : Ev ⟨K, rowFx K z, G0, B, E⟩ te ρ (Eq (.dat (.int many)))) (h0 : 0 < many) (h1 : many < 1073741824) :
    Ev ⟨K, rowFx K z, G0, B, E⟩ (tCall (spTaken K) [] E' (tCons ti (tCons te tNil))) ρ (fun s => ∃ x, s = .dat (.int x) ∧ 0 ≤ x ∧ x < many) := fun σ G H k e Q q =>
  hi σ G H k e _ fun v s G1 H1 g1 k1 es r1 => he σ G1 H1 k1 (e.grow g1) _ fun u s2 G2 H2 g2 k2 es2 r2 => by
    subst es es2
    cases r2
    cases (show v = _ from r1)
    obtain ⟨⟨p, m, c, a1, a2, a3, a4⟩, h5, h6⟩ := id k2.inv
    refine ⟨z.r, z.sc, z.vs, many, p, m, c, rfl, h0, h1, a1, a2, a3, a4, h5.sq, h5.sq' a4, fun x p' m' c' x0 x1 p0 m0 m1 => ?_⟩
    obtain ⟨g3, k3⟩ := row_new k2 (c := c') p0 m0 m1
    exact q _ _ G2 _ ((g1.trans k1 k2 g2).trans k2 k3 g3) k3 ⟨x, rfl, x0, x1⟩ (.int x)
/-- a def that may write where all may -/
theorem ev_callZ {Z ι : Type} {fx : Z → Fx} {args : Z → ι → List Sl} {pre : Z → ι → Prop} {post : Z → ι → Re → Prop} {ta : TA} {E' : XK} (y : Z) {P : Sl → Prop} {Pa : List Sl → Prop} (ha : EvA ⟨K, fx y, G0, B, E⟩ ta ρ Pa) (h : ∀ ss, Pa ss → ∃ i, ss = args y i ∧ pre y i ∧ (∀ s, post y i (.ok s) → P s) ∧ (∀ C d, ¬ post y i (.ex C d))) :
    Ev ⟨K, fx y, G0, B, E⟩ (tCall (spZ fun z => spI K (fx z) (args z) (pre z) (post z)) [] E' ta) ρ P := fun σ G H k e Q q =>
  ha σ G H k e _ fun vs ss G1 H1 g1 k1 p1 r1 => by
    obtain ⟨i, e1, hp, ho, hx⟩ := h ss p1
    subst e1
    rw [List.append_nil]
    exact ⟨y, i, G1, hp, k1, r1, fun v s G2 H2 g2 k2 r2 po => q v s G2 H2 (g1.trans k1 k2 g2) k2 (ho s po) r2, fun C d dd v G2 H2 _ _ _ _ po => absurd po (hx C d)⟩
end
section
variable {S : Cf} {ρ : Rho} {P : Oc → Prop} {w : TS} {ta : TA}
/-- a, b, c = e1, e2, e3 -/
theorem xc_par3 {i j l : Nat} {x y z : Sl} (h : EvA S ta ρ (Eq [x, y, z])) (hs : P (.nx (((ρ.set i x).set j y).set l z))) : Xc S (tPar3 i j l ta) ρ P := fun σ G H De o e f => h σ G H o.kn e _ fun vs ss G' H' g k p r => by
  subst p
  cases r with
  | cons r1 r =>
    cases r with
    | cons r2 r =>
      cases r with
      | cons r3 r =>
        cases r
        exact ⟨_, _, _, rfl, f.nx _ G' H' _ (o.grow g k) g.gg ((((e.grow g).set i r1).set j r2).set l r3) hs⟩
theorem xs_par3 {i j l : Nat} {x y z : Sl} (h : EvA S ta ρ (Eq [x, y, z])) (k : Xc S w (((ρ.set i x).set j y).set l z) P) : Xc S (tSeq (tPar3 i j l ta) w) ρ P := xc_seq (xc_par3 h k)
end
end Dl

set_option Elab.async false
set_option linter.all false
set_option maxRecDepth 100000
set_option maxHeartbeats 4000000
/-! Dlv: more of lists; loops over raw values; lambdas over the row. -/
namespace Dl
open PySem PySem.Spec PyProof.Rows L2 LamX
/-! ### xs + ys of any lists -/
def rCatL (K : PySem.W.Frag) : R2 := fun x y H Q => ∃ l b xs zs, x = .ref l ∧ y = .ref b ∧ SqL K H l xs ∧ SqL K H b zs ∧ xs.length + zs.length ≤ sizeLine ∧ ∀ p, H p = none → Q (.ref p) (upd H p (.lst (xs ++ zs)))
theorem op_catL {X : Cx} : OpR X (binaryOp .Add) (rCatL X.K) := by
  intro pins s σ H x y v u Q I rx ry h
  obtain ⟨l, b, xs, zs, rfl, rfl, hH, hB, hz, q⟩ := h
  cases rx
  cases ry
  obtain ⟨its, r, ⟨⟨c1, d1, t1, s1⟩, n, e, ec, ed, et⟩, z⟩ := I.list hH
  obtain ⟨its2, r2, ⟨⟨c2, d2, t2, s2⟩, n2, e2, ec2, ed2, et2⟩, z2⟩ := I.list hB
  simp only at ec ed et ec2 ed2 et2
  subst ec ed et ec2 ed2 et2
  have hsz : its.toArray.size + its2.toArray.size ≤ sizeLine := by
    rw [List.size_toArray, List.size_toArray, ← r.length, ← r2.length]
    exact hz
  refine concat_meets ⟨_, e, rfl⟩ ⟨_, e2, rfl⟩ noFill_list_add seq_list_add PySem.F.slot_list_add PySem.F.entry_list_add (PySem.F.args_list_add_2 _ _) (list_addW l b its.toArray its2.toArray n n2 none none s1 s2 hsz) ⟨e, e2, ?_⟩
  have ea : its.toArray ++ its2.toArray = (its ++ its2).toArray := by simp
  rw [ea]
  exact ⟨.ref _, _, I.lnew (t' := s.toks) (r.append r2) (by rw [List.length_append]; omega), rfl, q _ I.fresh⟩
section
variable {S : Cf} {ρ : Rho} {te ta tb : TE} {P : Oc → Prop} {w : TS}
theorem ef_catL {ds es : List D} (ha : EvL S ta ρ ds) (hb : EvL S tb ρ es) (hl : ds.length + es.length ≤ 1000000) : EvF S (tOp (rCatL S.K) ta tb) ρ (Eq (ds ++ es)) := fun σ G H k e Q q =>
  ha σ G H k e _ fun a vs G1 H1 g1 k1 st1 ra1 => hb σ G1 H1 k1 (e.grow g1) _ fun b ws G2 H2 g2 k2 st2 ra2 =>
    ⟨a, b, vs, ws, rfl, rfl, st1 G2 H2 g2, st2 _ _ (Grow.refl k2), sz_ok (by rw [ra1.length, ra2.length]; exact hl), fun p hp => by
      have g := g1.trans k1 k2 g2
      exact q p _ _ G2 _ (g.trans k2 (k2.same (same_new hp)) (Grow.same k2 (same_new hp))) (k2.same (same_new hp)) (fresh_of g k2 hp) (k2.freeG hp) upd_same ((ra1.mono g2.gg).append ra2) rfl⟩
theorem ef_rev {ds : List D} (ha : EvL S ta ρ ds) : EvF S (tRevL S.K ta) ρ (Eq ds.reverse) := fun σ G H k e Q q =>
  ha σ G H k e _ fun a vs G1 H1 g1 k1 st1 ra1 => ⟨a, vs, rfl, st1 _ _ (Grow.refl k1), fun p hp =>
    q p _ _ G1 _ (g1.trans k1 (k1.same (same_new hp)) (Grow.same k1 (same_new hp))) (k1.same (same_new hp)) (fresh_of g1 k1 hp) (k1.freeG hp) upd_same ra1.reverse rfl⟩
theorem RA.rep {K : PySem.W.Frag} {G : Hp} {vs : List V} {ds : List D} (h : RA K G vs ds) : ∀ n : Nat, RA K G (List.replicate n vs).flatten (List.replicate n ds).flatten
  | 0 => .nil
  | n + 1 => by
    rw [List.replicate_succ, List.replicate_succ, List.flatten_cons, List.flatten_cons]
    exact h.append (RA.rep h n)
/-- a list just made, times n -/
theorem ef_rep {ds : List D} {n : Nat} (ha : EvF S ta ρ (Eq ds)) (hb : Ev S tb ρ (Eq (.dat (.int (n : Nat))))) (hn : n ≤ 1000000) (hl : ds.length * n ≤ 1000000) : EvF S (tOp rRep ta tb) ρ (Eq (List.replicate n ds).flatten) := fun σ G H k e Q q =>
  ha σ G H k e _ fun a vs ds' G1 H1 g1 k1 n0 n1 ha1 ra1 ed => hb σ G1 H1 k1 (e.grow g1) _ fun y s G2 H2 g2 k2 es r2 => by
    subst ed es
    cases r2
    have va : ¬ S.fx.vol a := k.fresh n0
    have ha2 : H2 a = some (.lst vs) := g2.hh a _ va ha1
    refine ⟨a, (n : Nat), vs, rfl, rfl, ha2, by omega, by omega, sz_ok (by rw [Int.toNat_natCast, ra1.length]; exact hl), fun p hp => ?_⟩
    rw [Int.toNat_natCast]
    have g := g1.trans k1 k2 g2
    exact q p _ _ G2 _ (g.trans k2 (k2.same (same_new hp)) (Grow.same k2 (same_new hp))) (k2.same (same_new hp)) (fresh_of g k2 hp) (k2.freeG hp) upd_same ((ra1.mono g2.gg).rep n) rfl
/-- strings that are alike -/
theorem ev_neS {x y : Str} (ha : Ev S ta ρ (Eq (.dat (.str x)))) (hb : Ev S tb ρ (Eq (.dat (.str y)))) : Ev S (tOp rNe ta tb) ρ (Eq (.dat (.bool (!decide (x = y))))) :=
  ev_op' ha hb (opd_here (z := .bl (!decide (x = y))) fun G H v w k rx ry => ⟨.bl _, fun Q q => by
    cases rx
    cases ry
    refine ⟨rfl, ?_⟩
    rw [show decide (V.str x = V.str y) = decide (x = y) by rw [decide_eq_decide]; exact ⟨V.str.inj, congrArg V.str⟩]
    exact q⟩)
theorem ev_eqS {x y : Str} (ha : Ev S ta ρ (Eq (.dat (.str x)))) (hb : Ev S tb ρ (Eq (.dat (.str y)))) : Ev S (tOp rEq ta tb) ρ (Eq (.dat (.bool (decide (x = y))))) :=
  ev_op' ha hb (opd_here (z := .bl (decide (x = y))) fun G H v w k rx ry => ⟨.bl _, fun Q q => by
    cases rx
    cases ry
    refine ⟨rfl, ?_⟩
    rw [show decide (V.str x = V.str y) = decide (x = y) by rw [decide_eq_decide]; exact ⟨V.str.inj, congrArg V.str⟩]
    exact q⟩)
/-- a, b = e1, e2, not told -/
theorem xc_parP {i j : Nat} {ta : TA} {p : Sl → Sl → Prop} (h : EvA S ta ρ (fun ss => ∃ x y, ss = [x, y] ∧ p x y)) (hs : ∀ x y, p x y → P (.nx ((ρ.set i x).set j y))) : Xc S (tPar i j ta) ρ P := fun σ G H De o e f => h σ G H o.kn e _ fun vs ss G' H' g k ⟨x, y, es, pp⟩ r => by
  subst es
  cases r with
  | cons r1 r =>
    cases r with
    | cons r2 r =>
      cases r
      exact ⟨_, _, rfl, f.nx _ G' H' _ (o.grow g k) g.gg (((e.grow g).set i r1).set j r2) (hs x y pp)⟩
theorem xs_parP {i j : Nat} {ta : TA} {p : Sl → Sl → Prop} (h : EvA S ta ρ (fun ss => ∃ x y, ss = [x, y] ∧ p x y)) (k : ∀ x y, p x y → Xc S w ((ρ.set i x).set j y) P) : Xc S (tSeq (tPar i j ta) w) ρ P := xc_seq (xc_parP h k)
theorem ea_two {Pa Pb : Sl → Prop} (ha : Ev S ta ρ Pa) (hb : Ev S tb ρ Pb) : EvA S (tCons ta (tCons tb tNil)) ρ (fun ss => ∃ x y, ss = [x, y] ∧ Pa x ∧ Pb y) :=
  ea_consP ha (ea_consP (P := fun ss => ∃ y, ss = [y] ∧ Pb y) hb ea_nil fun y ys h e => ⟨y, by rw [← e], h⟩) fun x xs h ⟨y, e, hy⟩ => ⟨x, y, by rw [e], h, hy⟩
theorem xs_freeze {i : Nat} {a : Addr} {ds : List D} (h : ρ[i]? = some (.own a (.lst ds))) (hs : Xc S w (ρ.set i (.dat (.list ds))) P) : Xc S w ρ P := xc_freeze h hs
/-! ### for x in [f, g, ..], the values raw -/
theorem RSs.raws {K : PySem.W.Frag} {G : Hp} : ∀ {vs ws : List V}, RSs K G vs (ws.map Sl.raw) → vs = ws
  | _, [], h => by
    cases h
    rfl
  | _, w :: ws, h => by
    cases h with
    | cons h1 h2 => rw [RSs.raws h2, show _ = w from h1]
theorem xc_forR {ta : TA} {tb : TS} {j : Nat} {ws : List V} (hi : EvA S ta ρ (Eq (ws.map Sl.raw))) (hl : ws.length ≤ 1000000) (I : Nat → Rho → Prop) (h0 : I 0 ρ)
    (hs : ∀ i v ρ1, ws[i]? = some v → I i ρ1 → Xc S tb (ρ1.set j (.raw v)) (LoopP (I (i + 1)) P)) (hd : ∀ ρ1, I ws.length ρ1 → P (.nx ρ1)) : Xc S (tFor (iList S.K (tLst ta)) (gName j) tb) ρ P := fun σ G H De o e f =>
  hi σ G H o.kn e _ fun vs ss G0 H0 g0 k0 es rs => by
    subst es
    obtain rfl := rs.raws
    refine ⟨sz_ok hl, fun p hp => ?_⟩
    have g1 := Grow.new k0 (.lst vs) hp
    have k1 := Kn.new k0 (.lst vs) hp
    have o1 := (o.grow g0 k0).grow g1 k1
    have hG : (upd G0 p (.lst vs)) p = some (.lst vs) := upd_same
    refine ⟨p, rfl, ⟨vs, SqL.of upd_same⟩, ?_⟩
    have gg := g0.trans k0 k1 g1
    revert hG o1 gg
    generalize upd G0 p (.lst vs) = G1
    intro o1 hG gg
    refine ⟨fun i m σ H => m = vs.length - i ∧ i ≤ vs.length ∧ ∃ G ρ', OkS S G H ∧ Same G1 G ∧ Env S G H σ ρ' ∧ I i ρ', ⟨_, rfl, Nat.zero_le _, G1, ρ, o1, Same.refl _, e.grow gg, h0⟩, ?_⟩
    rintro i m σ2 H2 ⟨rfl, hi, G2, ρ2, o2, s2, e2, hI⟩
    have hs2 : SqL S.K H2 p vs := SqL.of ((s2.trans o2.kn.gh) _ _ hG)
    by_cases hlt : i < vs.length
    · refine .inr ⟨⟨vs, vs[i], hs2, by simp [hlt]⟩, fun σ' H' => ∃ G ρ', OkS S G H' ∧ Same G1 G ∧ Env S G H' σ' ρ' ∧ I (i + 1) ρ', fun σ' H' ⟨G', ρ', q⟩ => ⟨vs.length - (i + 1), by omega, rfl, hlt, G', ρ', q⟩, fun x H3 hy => ?_⟩
      obtain ⟨eh, hx⟩ := hy
      subst eh
      have hx := hx vs hs2
      refine hs i x ρ2 hx hI _ G2 H3 _ o2 (e2.set j (s := .raw x) rfl) ?_
      exact ⟨fun σ' G' H' ρ' o' s' e' p' => ⟨G', ρ', o', s2.trans s', e', p'⟩, fun σ' G' H' ρ' o' s' e' p' => f.nx σ' G' H' ρ' o' ((gg.gg.trans s2).trans s') e' p', fun σ' G' H' ρ' o' s' e' p' => ⟨G', ρ', o', s2.trans s', e', p'⟩, f.rt, f.ex⟩
    · have e' : i = vs.length := by omega
      subst e'
      exact .inl ⟨⟨vs, hs2, Nat.le_refl _⟩, f.nx σ2 G2 H2 ρ2 o2 (gg.gg.trans s2) e2 (hd ρ2 hI)⟩
theorem xs_forR {ta : TA} {tb : TS} {j : Nat} {ws : List V} (hi : EvA S ta ρ (Eq (ws.map Sl.raw))) (hl : ws.length ≤ 1000000) (I : Nat → Rho → Prop) (h0 : I 0 ρ)
    (hs : ∀ i v ρ1, ws[i]? = some v → I i ρ1 → Xc S tb (ρ1.set j (.raw v)) (LoopP (I (i + 1)) (SeqP S w P))) (hd : ∀ ρ1, I ws.length ρ1 → Xc S w ρ1 P) : Xc S (tSeq (tFor (iList S.K (tLst ta)) (gName j) tb) w) ρ P := xc_seq (xc_forR hi hl I h0 hs hd)
end
/-! ### one of two readings -/
def tAlt (t1 t2 : TE) : TE := fun σ H Q => t1 σ H Q ∨ t2 σ H Q
theorem pe_alt {X : Cx} {e : Expr} {t1 t2 : TE} (h1 : PE X e t1) (h2 : PE X e t2) : PE X e (tAlt t1 t2) := ⟨fun pins s σ H Q I h => h.elim (h1.run pins s σ H Q I) (h2.run pins s σ H Q I)⟩
section
variable {S : Cf} {ρ : Rho} {t1 t2 : XK → TE} {Pok : Sl → Prop} {Pex : Addr → D → Prop}
theorem evx_alt1 (h : EvX S t1 ρ Pok Pex) : EvX S (fun E => tAlt (t1 E) (t2 E)) ρ Pok Pex := fun σ G H k e E Q q1 q2 => .inl (h σ G H k e E Q q1 q2)
theorem evx_alt2 (h : EvX S t2 ρ Pok Pex) : EvX S (fun E => tAlt (t1 E) (t2 E)) ρ Pok Pex := fun σ G H k e E Q q1 q2 => .inr (h σ G H k e E Q q1 q2)
end
/-! ### lambdas over the row -/
section
variable {K : PySem.W.Frag} {G0 B : Hp} {E : XK} {z : RowZ} {ρ : Rho} {C : Addr} {w : Str} {d : D} {cs : List (Addr × Str)} {t : XK → TE}
theorem row_ext {H H1 : Hp} (i : (rowFx K z).inv H) (e : ExtP z.T H H1) (T1 : TabS H1 z.T z.q) : (rowFx K z).inv H1 := by
  obtain ⟨⟨p, m, c, a1, a2, a3, a4⟩, h5, ⟨ps, t1, _, _⟩⟩ := i
  have nr : z.r ≠ z.T := fun q => by
    rw [q, t1] at a4
    cases a4
  refine ⟨⟨p, m, c, a1, a2, a3, e _ _ nr a4⟩, ?_, T1⟩
  rcases h5 with ⟨t, h⟩ | ⟨o, h⟩ | h
  · exact .inl ⟨t, e _ _ (fun q => by rw [q, t1] at h; cases h) h⟩
  · exact .inr (.inl ⟨o, e _ _ (fun q => by rw [q, t1] at h; cases h) h⟩)
  · exact .inr (.inr h)
theorem ev_ref (ht : Told K C w cs) (h : EvX ⟨K, rowFx K z, G0, B, E⟩ t ρ (fun _ => False) (fun C' d' => C' = C ∧ d' = d)) : Ev ⟨K, rowFx K z, G0, B, E⟩ (tLamP z.T z.q (TRef K cs) t) ρ (Eq (.dat (.tuple [.str w, d]))) :=
  ev_lam (fun H i => i.2.2) (.inr (.inl rfl)) (fun H H1 i e T1 => row_ext i e T1) h (fun s hs => hs.elim) fun C' d' ⟨e1, e2⟩ => ⟨w, by rw [e1]; exact ht, by rw [e2]⟩
end
/-! ### a def that a slot holds; the def that asks -/
section
variable {X : Cx} {k i : Nat} {x y : Str} {ps : List Str} {sp : Sp} {p pos : Pos} {e : Expr} {es : List Expr} {t : TA} {E : XK} {f : Addr}
theorem pe_calL (C : Cal X.prog X.w X.K X.mg X.base k x ps sp) (hf : X.mg x = some (.ref f)) (hr : Room k X.A) (hN : X.N[i]? = some y) (hv : Vis X.env.scope y) (ha : PA X (e :: es) t) (tk : Takes X (fun cls d _ H => E cls d H)) (hdb : (y == ("__debug__" : Str)) = false := by decide)
    (hcd : (y == ("__classdict__" : Str)) = false := by decide) (he : starEach (e :: es) X.env = (false, eval e X.env) :: starEach es X.env := by rfl) (hpl : (backTo pos (starEach es X.env)).any (·.1) = false := by rfl) : PE X (.Call (.Name y p) (e :: es) [] pos) (tCallL i f sp [] E t) := by
  obtain ⟨f', fd, F, hm, hk, hb⟩ := C.ex
  rw [hf] at hm
  cases hm
  exact pe_callL F hr hN hv hk hb .nil (passes_call tk fun _ _ _ _ h => h) ha hdb hcd he hpl
end
section
variable {P : Program} {w : World} {K : PySem.W.Frag} {mg : Str → Option Value} {base : Heap} {N : List Str} {sc : Scope} {fa c Tb : Addr} {A : Around} {s : Shared} {H : Hp} {E : XK}
theorem ask_ok {x : Str} {st : Stmt} {cs : List (Addr × Str)} (D : Def K mg x st) (Sg : FnScope ["ask", "e"] ["ask"] (defScope st)) (hv : Vis (defScope st) "ask") (tb : TabB base mg c Tb) (d1 : (x == ("__debug__" : Str)) = false)
    (hb : ∀ (kV doc pm : Value) (an : Option Addr) (cdv ct : Value) (us : List Value), us.length = 1 → bindArgs (PySem.W.fnOf x x (defArgs st) (defBody st) (defScope st) .none kV doc pm an cdv ct) ⟨us, []⟩ = pure ((["ask"] : List Str).zip us))
    (hG : ∀ (g : Addr) (cdg : Value), GivesTo (cxOf (L2.CX P w) P w K mg base N "law" sc fa (.ref c) A [] s H E) ["ask", "e"] x (defScope st) g cdg (defBody st) "ask" ((cxOf (L2.CX P w) P w K mg base N "law" sc fa (.ref c) A [] s H E).env.qual ++ "<lambda>") (TRef K cs)) :
    ∃ g, AskOk (cxOf (L2.CX P w) P w K mg base N "law" sc fa (.ref c) A [] s H E) x "ask" ["ask", "e"] g c Tb (TRef K cs) := by
  obtain ⟨g, fd, F, hm⟩ := D
  have kp := F.kp
  have bd := F.binds (ps := ["ask"]) hb
  obtain ⟨oc, od, kV, doc, pm, an, cdv, ct, osl, rfl, lk, hcd⟩ := F.ex
  exact ⟨g, hm, kp, ⟨_, _, _, _, _, _, _, _, _, _, _, _, _, lk, hcd, bd, Sg, hv, hG g cdv⟩, rfl, tb, rfl, d1, by decide, by decide⟩
end
/-! ### the start of a law -/
section
variable {K : PySem.W.Frag} {H : Hp} {a Tb p : Addr} {q : Str} {ns : List Int}
theorem law_start (hT : H Tb = some (.tbl #[])) (hS : SqL K H a (ns.map V.int)) (hp : H p = none) (b m : Int) (hb : 0 ≤ b) (h0 : 0 ≤ m) (h1 : m < 2147483648) (x : Int) : ∃ t : Prop, Kn (rowFx K ⟨p, a, Tb, q, ns, t⟩) (fun _ => none) (upd H p (rowHO a b m x)) := by
  have hx : ∃ t : Prop, (t ∧ H a = some (.lst (ns.map V.int))) ∨ (∃ o, H a = some (.frz o (.lst (ns.map V.int)))) ∨ (¬ t ∧ SqL K (fun _ => none) a (ns.map V.int)) := by
    rcases hS with (h | ⟨o, h⟩) | h
    · exact ⟨True, .inl ⟨trivial, h⟩⟩
    · exact ⟨False, .inr (.inl ⟨o, h⟩)⟩
    · exact ⟨False, .inr (.inr ⟨id, .inr h⟩)⟩
  obtain ⟨t, ht⟩ := hx
  refine ⟨t, fun a o e => (by cases e), ⟨⟨b, m, x, hb, h0, h1, upd_same⟩, ?_, ⟨#[], ?_, ?_, fun pos cv hc => ?_⟩⟩, fun _ _ => rfl⟩
  · rcases ht with ⟨t, h⟩ | ⟨o, h⟩ | h
    · exact .inl ⟨t, by show upd H p _ a = _; rw [upd_ne (ne_of_none h hp)]; exact h⟩
    · exact .inr (.inl ⟨o, by show upd H p _ a = _; rw [upd_ne (ne_of_none h hp)]; exact h⟩)
    · exact .inr (.inr h)
  · show upd H p _ Tb = _
    rw [upd_ne (ne_of_none hT hp)]
    exact hT
  · trivial
  · cases hc
theorem xs_row {i : Nat} {m : Int} {w : TS} {De : Ends} {σ : L2.St} (h0 : σ[0]? = some (some (.ref a))) (k : ∀ p, H p = none → w De (σ.set i (some (.ref p))) (upd H p (rowHO a 0 m 0))) :
    tSeq (tAsg (tLst (tCons (tVar 0) (tCons (tC (.int 0)) (tCons (tC (.int m)) (tCons (tC (.int 0)) tNil))))) (gName i)) w De σ H := ⟨.ref a, h0, (by show 4 ≤ sizeLine; decide), fun p hp => k p hp⟩
theorem xc_start {fx : Fx} {t : TS} {σ : L2.St} {ρ : Rho} (k : Kn fx (fun _ => none) H) (e : Env ⟨K, fx, fun _ => none, H, fun _ _ _ => False⟩ (fun _ => none) H σ ρ) (h : Xc ⟨K, fx, fun _ => none, H, fun _ _ _ => False⟩ t ρ (RetP (Eq (.ok (.dat (.bool true)))))) (hm : ∀ a, ¬ fx.mine a := by exact fun _ h => h) :
    t { nx := fun _ H' => V.non = .bl true, rt := fun v _ => v = .bl true } σ H := by
  refine h σ _ H _ ⟨k, k, GrO.of (Grow.refl k), MnOk.none hm, MnOk.none hm⟩ e ⟨fun σ G' H' ρ o s e p => ?_, fun σ G' H' ρ o s e p => p.elim, fun σ G' H' ρ o s e p => p.elim, fun σ v s G' H' ρ o _ r p => ?_, fun C d dd v G' H' o hd r p => ?_⟩
  · cases (show Re.ok (.dat (.bool true)) = Re.ok (.dat .none) from p)
  · cases (show Re.ok (.dat (.bool true)) = Re.ok s from p)
    cases (show R K G' v (.bool true) from r)
    rfl
  · cases (show Re.ok (.dat (.bool true)) = Re.ex C d from p)
end
section
variable {S : Cf} {ρ : Rho} {ι : Type} {args : ι → List Sl} {pre : ι → Prop} {ta : TA} {E : XK} {r : ι → Re}
theorem ev_callV {s : Sl} (i : ι) (ha : EvA S ta ρ (Eq (args i))) (hp : pre i) (e : r i = .ok s) : Ev S (tCall (spI S.K fx0 args pre (fun i => Eq (r i))) [] E ta) ρ (Eq s) :=
  ev_call i ha hp (fun s' h => by rw [e] at h; exact Re.ok.inj h) fun C d h => by rw [e] at h; cases h
theorem evx_callV {C : Addr} {d : D} (i : ι) (ha : EvA S ta ρ (Eq (args i))) (hp : pre i) (e : r i = .ex C d) : EvX S (fun E => tCall (spI S.K fx0 args pre (fun i => Eq (r i))) [] E ta) ρ (fun _ => False) (fun C' d' => C' = C ∧ d' = d) :=
  evx_call i ha hp (fun s' h => by rw [e] at h; cases h) fun C' d' h => by
    rw [e] at h
    cases h
    exact ⟨rfl, rfl⟩
theorem evx_callLV {C : Addr} {d : D} {j : Nat} {f : Addr} (i : ι) (hj : ρ[j]? = some (.raw (.ref f))) (ha : EvA S ta ρ (Eq (args i))) (hp : pre i) (e : r i = .ex C d) : EvX S (fun E => tCallL j f (spI S.K fx0 args pre (fun i => Eq (r i))) [] E ta) ρ (fun _ => False) (fun C' d' => C' = C ∧ d' = d) :=
  evx_callL i hj ha hp (fun s' h => by rw [e] at h; cases h) fun C' d' h => by
    rw [e] at h
    cases h
    exact ⟨rfl, rfl⟩
theorem et_no {tt : TT} {b : Bool} (h : EvT S tt ρ (Eq b)) (e : b = false) : EvT S tt ρ (Eq false) := e ▸ h
end
end Dl

set_option Elab.async false
set_option linter.all false
set_option maxRecDepth 100000
set_option maxHeartbeats 4000000
/-! Dini: facts of the written part, put together. -/
namespace Dl
open PySem PySem.Spec PyProof.Rows L2 LamX
section
variable {P : Program} {w : World} {K : PySem.W.Frag} {mg : Str → Option Value} {base : Heap}
/-- __init__(self, value=None): self.value = value -/
theorem iniF_mk {fI : Addr} {fd : FuncData} {q : Str} {st : Stmt} {b1 b2 b3 b4 : Pos} (F : FunD K "__init__" q (defArgs st) (defBody st) (defScope st) [.non] [] fI fd) (Sc : FnScope ["self", "value"] ["self", "value"] (defScope st))
    (hs : (defScope st).names = [(PySem.Str.ofString "self", .local), (PySem.Str.ofString "value", .local)]) (hb : defBody st = [.Assign [.Attribute (.Name "self" b1) "value" b2] (.Name "value" b3) b4])
    (hbind : ∀ (T : Addr) (kV doc pm : Value) (an : Option Addr) (cdv ct : Value) (us its : List Value), us.length = 2 → its.length = 1 →
      ∃ k, bindArgs (PySem.W.fnOf "__init__" q (defArgs st) (defBody st) (defScope st) (.ref T) kV doc pm an cdv ct) ⟨us, []⟩ = seqItems? (.ref T) >>= k ∧ k (some its.toArray) = pure ((["self", "value"] : List Str).zip (us ++ its.drop 1))) : IniF P w K mg base fI := by
  obtain ⟨ds, hv, hB⟩ := F.binds1 (ps := ["self", "value"]) 2 1 (by simp) rfl fun T kV doc pm an cdv ct us its h1 h2 => hbind T kV doc pm an cdv ct us its h1 h2
  cases hv
  refine ⟨fd, F.ok (CX := CX0) Sc (fun vs H Q E h => ?_) fun cdv A outer s H vs Q E hr h => ?_, hB⟩
  · obtain ⟨a, C, v, rfl, _⟩ := h
    rfl
  · obtain ⟨a, C, v, rfl, T, nv, ha, k⟩ := h
    have v0 : Vis (cxOf CX0 P w K mg base ["self", "value"] q (defScope st) fI cdv A outer s H E).env.scope "self" := .inl (by show (defScope st).names.lookup _ = _; rw [hs]; decide +kernel)
    have v1 : Vis (cxOf CX0 P w K mg base ["self", "value"] q (defScope st) fI cdv A outer s H E).env.scope "value" := .inl (by show (defScope st).names.lookup _ = _; rw [hs]; decide +kernel)
    refine ⟨_, by rw [hb]; exact pss_one (ps_ost (pe_var (i := 0) rfl v0) (pe_var (i := 1) rfl v1)), ?_⟩
    exact ⟨v, rfl, .ref a, rfl, a, C, rfl, T, nv, .inl ⟨ha, fun dx h1 h2 => k dx h1 h2⟩⟩
theorem exm_of {cls : Value} {S : Addr} {b : Bool} (h1 : PySem.W.subIn K (.ref S) (.type "BaseException") = some true) (h2 : PySem.W.isClsIn K S = true) (h3 : PySem.W.typeIn K (.ref S) = some (.type "type")) (h4 : PySem.W.subIn K cls (.ref S) = some b) : PySem.W.exmOne K cls (.ref S) = some b := by
  have e1 : (PySem.W.subIn K (.ref S) (.type "BaseException") == some true) = true := by rw [h1] <;> rfl
  have e2 : ((PySem.W.clsIn K S).isSome && PySem.W.typeIn K (.ref S) == some (.type "type")) = true := by
    have h2' : (PySem.W.clsIn K S).isSome = true := h2
    rw [h2', h3] <;> rfl
  show (if (PySem.W.subIn K (.ref S) (.type "BaseException") == some true) = true then (if ((PySem.W.clsIn K S).isSome && PySem.W.typeIn K (.ref S) == some (.type "type")) = true then PySem.W.subIn K cls (.ref S) else none) else none) = some b
  rw [if_pos e1, if_pos e2]
  exact h4
/-- the law's code object -/
theorem lawFn_mk {fa c T : Addr} {oc : Value} {od oe' : Option Addr} {fd : FuncData} {sl sl' : Array (Option Value)} {vs : Array Value} {t18 : Tok} {x18 : Str} {i7 i10 : Int} {t7 t10 : Tok} {b9 : Bool} (l : K.lookup fa = some ⟨oc, od, .func fd, sl⟩) (hc : fd.code = .ref c) (lc : K.lookup c = some ⟨.type "code", oe', .fields vs, sl'⟩)
    (v11 : vs[11]? = some (.ref T)) (v18 : vs.getD 18 .none = .str x18 t18) (v7 : vs.getD 7 .none = .int i7 t7) (v9 : vs.getD 9 .none = .bool b9) (v10 : vs.getD 10 .none = .int i10 t10) (ne : (c != T) = true) (no : K.lookup T = none) : LawFn K fa c T := by
  refine ⟨⟨_, _, _, _, l, hc⟩, ⟨_, _, _, _, lc, v11⟩, ?_, no⟩
  unfold PySem.W.codeHdIn
  rw [lc]
  simp only [v11, v18, v7, v9, v10, ne]
  simp
theorem tup_K {a : Addr} {xs : List V} {its : Array Value} {n : Nat} {dd : Option Addr} {sl : Array (Option Value)} (l : K.lookup a = some ⟨.type "tuple", dd, .seq its n, sl⟩) (hz : its.size ≤ sizeLine) (r : Vals xs its.toList) : SqT K (fun _ => none) a xs := .inr ⟨_, _, _, l, rfl, rfl, hz, r⟩
end
end Dl

set_option Elab.async false
set_option linter.all false
set_option maxRecDepth 100000
set_option maxHeartbeats 4000000
/-! Dlo: objects of one's own: their fields are data; a method may write at them. -/
namespace Dl
open PySem PySem.Spec PyProof.Rows L2 LamX
section
variable {K : PySem.W.Frag} {G G' H H' : Hp}
theorem FA.mono {vs : List (Str × V)} {ds : List (Str × D)} (e : Same G G') (h : FA K G vs ds) : FA K G' vs ds := ⟨h.1, RA.mono e h.2⟩
theorem FA.look : ∀ {vs : List (Str × V)} {ds : List (Str × D)} {f : Str} {d : D}, FA K G vs ds → ds.lookup f = some d → ∃ v, vs.lookup f = some v ∧ R K G v d
  | [], [], _, _, _, h => by simp at h
  | [], _ :: _, _, _, ⟨h, _⟩, _ => by simp at h
  | _ :: _, [], _, _, ⟨h, _⟩, _ => by simp at h
  | (g, v) :: vs, (g', d') :: ds, f, d, ⟨h1, h2⟩, h => by
    simp only [List.map_cons, List.cons.injEq] at h1 h2
    obtain ⟨e, h1⟩ := h1
    subst e
    cases h2 with
    | cons r rs =>
      rw [List.lookup_cons] at h ⊢
      cases q : f == g with
      | true =>
        rw [q] at h
        simp only [Option.some.injEq] at h
        subst h
        exact ⟨v, rfl, r⟩
      | false =>
        rw [q] at h
        exact FA.look ⟨h1, rs⟩ h
theorem FA.lookN : ∀ {vs : List (Str × V)} {ds : List (Str × D)} {f : Str}, FA K G vs ds → ds.lookup f = none → vs.lookup f = none
  | [], _, _, _, _ => rfl
  | _ :: _, [], _, ⟨h, _⟩, _ => by simp at h
  | (g, v) :: vs, (g', d') :: ds, f, ⟨h1, h2⟩, h => by
    simp only [List.map_cons, List.cons.injEq] at h1 h2
    obtain ⟨e, h1⟩ := h1
    subst e
    cases h2 with
    | cons r rs =>
      rw [List.lookup_cons] at h ⊢
      cases q : f == g with
      | true =>
        rw [q] at h
        cases h
      | false =>
        rw [q] at h
        exact FA.lookN ⟨h1, rs⟩ h
def putD (f : Str) (v : D) : List (Str × D) → List (Str × D)
  | [] => [(f, v)]
  | (g, x) :: r => if g = f then (g, v) :: r else (g, x) :: putD f v r
theorem FA.put {f : Str} {v : V} {d : D} (r : R K G v d) : ∀ {vs : List (Str × V)} {ds : List (Str × D)}, FA K G vs ds → FA K G (putF f v vs) (putD f d ds)
  | [], [], _ => ⟨rfl, .cons r .nil⟩
  | [], _ :: _, ⟨h, _⟩ => by simp at h
  | _ :: _, [], ⟨h, _⟩ => by simp at h
  | (g, x) :: vs, (g', d') :: ds, ⟨h1, h2⟩ => by
    simp only [List.map_cons, List.cons.injEq] at h1 h2
    obtain ⟨e, h1⟩ := h1
    subst e
    cases h2 with
    | cons q qs =>
      unfold putF putD
      by_cases z : g = f
      · rw [if_pos z, if_pos z]
        exact ⟨by simp [h1], .cons r qs⟩
      · rw [if_neg z, if_neg z]
        obtain ⟨p1, p2⟩ := FA.put r (vs := vs) (ds := ds) ⟨h1, qs⟩
        exact ⟨by simp [p1], .cons q p2⟩
theorem FA.length {vs : List (Str × V)} {ds : List (Str × D)} (h : FA K G vs ds) : vs.length = ds.length := by
  have := congrArg List.length h.1
  simpa using this
end
section
variable {S : Cf} {ρ : Rho} {te ta : TE} {P : Oc → Prop} {w : TS} {i : Nat} {a C dx : Addr} {vf : List (Str × V)} {fs : List (Str × D)} {f : Str}
theorem own_ins {G H : Hp} {σ : L2.St} (e : Env S G H σ ρ) (h : ρ[i]? = some (.own a (.ins C dx vf fs))) : σ[i]? = some (some (.ref a)) ∧ G a = none ∧ (S.B a = none ∨ S.fx.mine a) ∧ ¬ S.fx.vol a ∧ H a = some (.ins C dx vf) ∧ FA S.K G vf fs := by
  obtain ⟨v, h1, e1, ga, ba, va, u, ha, r⟩ := e.get h
  cases Option.some.inj e1
  cases u with
  | ins C' dx' vs =>
    obtain ⟨⟨rfl, rfl, rfl⟩, fa⟩ := r
    exact ⟨h1, ga, ba.imp id fun z => z.1, va, ha, fa⟩
  | _ => exact r.elim
/-- x.f -/
theorem ev_fld {d : D} (h : ρ[i]? = some (.own a (.ins C dx vf fs))) (c : Cls S.K C) (n : NoAttr S.K C f) (l : fs.lookup f = some d) : Ev S (tFld S.K (tVar i) f) ρ (Eq (.dat d)) := fun σ G H k e Q q => by
  obtain ⟨h1, ga, ba, va, ha, fa⟩ := own_ins e h
  obtain ⟨v, lv, rv⟩ := fa.look l
  exact ⟨_, h1, a, C, dx, vf, v, rfl, ha, c, n, lv, q v _ G H (Grow.refl k) k rfl rv⟩
/-- x.f = e -/
theorem xc_setf {p : D → Prop} (h : ρ[i]? = some (.own a (.ins C dx vf fs))) (he : Ev S te ρ (fun s => ∃ d, s = .dat d ∧ p d)) (c : Cls S.K C) (n : NoAttr S.K C f) (hl : fs.length < 900) (k : ∀ d vf', p d → P (.nx (ρ.set i (.own a (.ins C dx vf' (putD f d fs)))))) : Xc S (sFld S.K (tVar i) te f) ρ P := fun σ G H De o e fi =>
  he σ G H o.kn e _ fun v s G1 H1 g1 k1 ⟨d, es, pd⟩ rd => by
    subst es
    have o1 := o.grow g1 k1
    have e1 := e.grow g1
    obtain ⟨h1, ga, ba, va, ha, fa⟩ := own_ins e1 h
    obtain ⟨o2, e2⟩ := own_write (u' := .ins C dx (putF f v vf)) (m' := .ins C dx (putF f v vf) (putD f d fs)) o1 e1 h ⟨⟨rfl, rfl, rfl⟩, fa.put rd⟩
    exact ⟨_, h1, a, C, dx, vf, rfl, ha, c, n, by rw [fa.length]; omega, fi.nx _ G1 _ _ o2 g1.gg e2 (k d _ pd)⟩
theorem xc_setfE {d : D} (h : ρ[i]? = some (.own a (.ins C dx vf fs))) (he : Ev S te ρ (Eq (.dat d))) (c : Cls S.K C) (n : NoAttr S.K C f) (hl : fs.length < 900) (k : ∀ vf', P (.nx (ρ.set i (.own a (.ins C dx vf' (putD f d fs)))))) : Xc S (sFld S.K (tVar i) te f) ρ P :=
  xc_setf (p := Eq d) h (he.imp fun s e => ⟨d, e.symm, rfl⟩) c n hl fun d' vf' e => e ▸ k vf'
theorem xs_setfE {d : D} (h : ρ[i]? = some (.own a (.ins C dx vf fs))) (he : Ev S te ρ (Eq (.dat d))) (c : Cls S.K C) (n : NoAttr S.K C f) (hl : fs.length < 900) (k : ∀ vf', Xc S w (ρ.set i (.own a (.ins C dx vf' (putD f d fs)))) P) : Xc S (tSeq (sFld S.K (tVar i) te f) w) ρ P := xc_seq (xc_setfE h he c n hl k)
end
/-! ### a method's promise -/
def spO (K : PySem.W.Frag) (C : Addr) (ro : Bool) {ι : Type} (args : ι → List Sl) (f0 : ι → List (Str × D)) (pre : ι → Prop) (post : ι → Sl → List (Str × D) → Prop) : Sp := fun vs H Q _ =>
  ∃ (i : ι) (G : Hp) (a dx : Addr) (vf : List (Str × V)) (ws : List V), vs = .ref a :: ws ∧ pre i ∧ Kn fx0 G H ∧ G a = none ∧ H a = some (.ins C dx vf) ∧ FA K G vf (f0 i) ∧ RSs K G ws (args i) ∧
    ∀ v s G' H' dx' vf' fs', GrO (fxM a) G H G' H' → Kn fx0 G' H' → RS K G' v s → H' a = some (.ins C dx' vf') → (ro = true → dx' = dx ∧ vf' = vf) → FA K G' vf' fs' → post i s fs' → Q v H'
def ObjP (a C dx : Addr) (vf : List (Str × V)) (ro : Bool) (post : Sl → List (Str × D) → Prop) : Oc → Prop
  | .nx ρ => ∃ dx' vf' fs', ρ[0]? = some (.own a (.ins C dx' vf' fs')) ∧ (ro = true → dx' = dx ∧ vf' = vf) ∧ post (.dat .none) fs'
  | .rt ρ s => ∃ dx' vf' fs', ρ[0]? = some (.own a (.ins C dx' vf' fs')) ∧ (ro = true → dx' = dx ∧ vf' = vf) ∧ post s fs'
  | _ => False
section
variable {P : Program} {w : World} {K : PySem.W.Frag} {mg : Str → Option Value} {base : Heap}
theorem fn_okO {ι : Type} {C : Addr} {ro : Bool} {args : ι → List Sl} {f0 : ι → List (Str × D)} {pre : ι → Prop} {post : ι → Sl → List (Str × D) → Prop} {x qual : Str} {st : Stmt} {f : Addr} {fd : FuncData} {N ps : List Str} {k : Nat} (F : Fun K x qual st f fd) (Sc : FnScope N ps (defScope st)) (hl : ∀ i, pre i → (args i).length + 1 = ps.length)
    (hbody : ∀ (cdv : Value) (A : Around) (outer : List PySem.Env) (s : Shared) (H : Hp) (E : XK), Room k (A.deeper (envOfC qual (defScope st) s.heap.objs.size f cdv)) → ∀ (i : ι), pre i →
      ∃ t, PSs (cxOf (L2.CX P w) P w K mg base N qual (defScope st) f cdv A outer s H E) (defBody st) t ∧ ∀ (G : Hp) (a dx : Addr) (vf : List (Str × V)), Xc ⟨K, fxM a, G, H, E⟩ t ((.own a (.ins C dx vf (f0 i)) :: args i) ++ List.replicate (N.length - ps.length) .no) (ObjP a C dx vf ro (post i))) :
    FnOk P w K mg base (L2.CX P w) (k + 1) f fd ps (spO K C ro args f0 pre post) := by
  refine F.okX Sc (fun vs H Q E h => ?_) fun cdv A outer s H vs Q E hr h => ?_
  · obtain ⟨i, G, a, dx, vf, ws, rfl, hp, _, _, _, _, r, _⟩ := h
    rw [List.length_cons, r.length, hl i hp]
  · obtain ⟨i, G, a, dx, vf, ws, rfl, hp, kn, ga, ha, fa, r, q⟩ := h
    obtain ⟨t, ht, hx⟩ := hbody cdv A outer s H E hr i hp
    refine ⟨t, ht, ?_⟩
    have hn : (V.ref a :: ws).length = ps.length := by rw [List.length_cons, r.length, hl i hp]
    have r0 : RSs K G (V.ref a :: ws) (.raw (.ref a) :: args i) := .cons rfl r
    have ev0 := env_start (S := ⟨K, fxM a, G, H, E⟩) (H := H) (N.length - ps.length) r0
    have noown : ∀ (j : Nat) (b : Addr) (m : Mo), ((.raw (.ref a) :: args i) ++ List.replicate (N.length - ps.length) Sl.no)[j]? ≠ some (.own b m) := fun j b m z => by
      obtain ⟨o, z1, z2⟩ := ev0.at_ j _ z
      have zz := ev0.dis
      by_cases hj : j < (Sl.raw (.ref a) :: args i).length
      · rw [List.getElem?_append_left hj] at z
        have : ∀ {vs : List V} {ss : List Sl} {j : Nat}, RSs K G vs ss → ss[j]? ≠ some (.own b m) := by
          intro vs ss j r
          induction r generalizing j with
          | nil => simp
          | cons h _ ih =>
            cases j with
            | zero =>
              simp only [List.getElem?_cons_zero, ne_eq, Option.some.injEq]
              intro e
              subst e
              exact h
            | succ j => simpa using ih
        exact this r0 z
      · rw [List.getElem?_append_right (by omega), List.getElem?_replicate] at z
        split at z
        · cases z
        · cases z
    have e1 := ev0.put 0 (some (.ref a)) (.own a (.ins C dx vf (f0 i))) ⟨rfl, ga, .inr ⟨rfl, trivial⟩, fun z => z, _, ha, ⟨rfl, rfl, rfl⟩, fa⟩ (fun b m _ j m' _ => noown j b m')
    unfold L2.start
    rw [hn]
    have kn' : Kn (fxM a) G H := ⟨kn.gh, trivial, fun b v => v.elim⟩
    have mn : MnOk (fxM a) G H := fun b z => by
      cases (show b = a from z)
      exact ⟨fun v => v, ga, by rw [ha]; simp⟩
    refine hx G a dx vf _ G H _ ⟨kn', kn', GrO.of (Grow.refl kn'), mn, mn⟩ e1 ⟨fun σ G' H' ρ o s e p => ?_, fun σ G' H' ρ o s e p => p.elim, fun σ G' H' ρ o s e p => p.elim, fun σ v s G' H' ρ o e r p => ?_, fun C d dd v G' H' o hd r p => p.elim⟩
    · obtain ⟨dx', vf', fs', p0, p1, p2⟩ := p
      obtain ⟨_, _, _, _, ha', fa'⟩ := own_ins e p0
      exact q .non (.dat .none) G' H' dx' vf' fs' o.gr o.kn.low .non ha' p1 fa' p2
    · obtain ⟨dx', vf', fs', p0, p1, p2⟩ := p
      obtain ⟨_, _, _, _, ha', fa'⟩ := own_ins e p0
      exact q v s G' H' dx' vf' fs' o.gr o.kn.low r ha' p1 fa' p2
end
/-! ### calls of methods -/
section
variable {S : Cf} {G H G' H' : Hp} {σ : L2.St} {ρ : Rho} {a : Addr}
/-- behind a call that wrote at one's own place a -/
theorem after_own {u0 : HO} (o : OkS S G H) (ba : S.B a = none ∨ S.fx.mine a) (va : ¬ S.fx.vol a) (ha : H a = some u0) (fu : ¬ Fixd u0) (g : GrO (fxM a) G H G' H') (hn : H' a ≠ none) : OkS S G' H' := by
  have hh : ∀ b u, b ≠ a → H b = some u → H' b = some u := fun b u n e => g.hh b u (fun z => z) n e
  have kn : Kn S.fx G' H' := ⟨g.gh, S.fx.ext (fun b u hb e => hh b u (fun q => by
      rcases hb with hb | hb
      · exact va (q ▸ hb)
      · rw [q, ha] at e
        cases e
        exact fu hb) e) o.kn.inv, fun b v => g.nn b (S.fx.there o.kn.inv v) (o.kn.vn b v)⟩
  have nn : ∀ b, H b ≠ none → H' b ≠ none := fun b hb => by
    by_cases q : b = a
    · rw [q]
      exact hn
    · cases e : H b with
      | none => exact absurd e hb
      | some u =>
        rw [hh b u q e]
        simp
  refine ⟨kn, o.k0, ⟨o.gr.gg.trans g.gg, g.gh, fun b u vb mb hb => ?_, fun b hb n => ?_⟩, fun b m => ?_, o.m0⟩
  · have q : b ≠ a := fun q => by
      rcases ba with ba | ba
      · rw [q, ba] at hb
        cases hb
      · exact mb (q ▸ ba)
    exact hh b u q (o.gr.hh b u vb mb hb)
  · by_cases v : S.fx.vol b
    · exact kn.vn b v
    · refine g.nn b ?_ (o.gr.nn b hb n)
      by_cases m : S.fx.mine b
      · exact (o.mn b m).2.2
      · cases e : S.B b with
        | none => exact absurd e hb
        | some u =>
          rw [o.gr.hh b u v m e]
          simp
  · obtain ⟨x, y, z⟩ := o.mn b m
    exact ⟨x, g.nn b z y, nn b z⟩
/-- the names that do not own the place -/
theorem env_own (e : Env S G H σ ρ) (no : ∀ (j : Nat) (m : Mo), ρ[j]? ≠ some (Sl.own a m)) (g : GrO (fxM a) G H G' H') : Env S G' H' σ ρ := ⟨e.len, fun j s hj => by
  obtain ⟨o, h1, h2⟩ := e.at_ j s hj
  refine ⟨o, h1, ?_⟩
  cases s with
  | no => exact True.intro
  | dat d =>
    obtain ⟨v, e', r⟩ := h2
    exact ⟨v, e', r.mono g.gg⟩
  | raw x => exact h2
  | own b m =>
    obtain ⟨x1, x2, x3, x4, u, x5, x6⟩ := h2
    have q : b ≠ a := fun q => no j m (q ▸ hj)
    exact ⟨x1, g.nn b (by rw [x5]; simp) x2, x3, x4, u, g.hh b u (fun z => z) q x5, x6.mono g.gg⟩, e.dis⟩
theorem env_back (e : Env S G H σ ρ) {i : Nat} {m m' : Mo} (h : ρ[i]? = some (.own a m)) (h1 : σ[i]? = some (some (.ref a))) (g : GrO (fxM a) G H G' H') (ok : SlOk S G' H' (some (.ref a)) (.own a m')) : Env S G' H' σ (ρ.set i (.own a m')) := by
  have e0 := e.forget i
  have no : ∀ (j : Nat) (n : Mo), (ρ.set i Sl.no)[j]? ≠ some (Sl.own a n) := fun j n hj => by
    rcases set_get hj with ⟨_, z⟩ | ⟨nj, z⟩
    · cases z
    · exact nj (e.dis j i a n m z h)
  have e1 := env_own e0 no g
  have e2 := e1.put i (some (.ref a)) (.own a m') ok fun b n z j n' nj hj => by
    cases z
    exact no j n' hj
  have hi : i < σ.length := (List.getElem?_eq_some_iff.mp h1).1
  have es : σ.set i (some (.ref a)) = σ := by
    apply List.ext_getElem?
    intro j
    by_cases q : j = i
    · subst q
      rw [List.getElem?_set_self hi, h1]
    · rw [List.getElem?_set_ne (Ne.symm q)]
  have er : (ρ.set i Sl.no).set i (.own a m') = ρ.set i (.own a m') := by simp
  rw [es, er] at e2
  exact e2
end
section
variable {S : Cf} {ρ : Rho} {te ta : TE} {tr : TA} {P : Oc → Prop} {w : TS} {j : Nat} {a C dx : Addr} {vf : List (Str × V)} {fs : List (Str × D)} {m : Str} {E : XK} {ι : Type} {args : ι → List Sl} {f0 : ι → List (Str × D)} {pre : ι → Prop} {post : ι → Sl → List (Str × D) → Prop}
/-- x.m(..), the object stays as it is -/
theorem ev_methP {Pok : Sl → Prop} {Pa : List Sl → Prop} (h : ρ[j]? = some (.own a (.ins C dx vf fs))) (lm : fs.lookup m = none) (ha : EvA S tr ρ Pa) (hp : ∀ ss, Pa ss → ∃ i, ss = args i ∧ f0 i = fs ∧ pre i ∧ ∀ s fs', post i s fs' → Pok s) :
    Ev S (tMeth C m (spO S.K C true args f0 pre post) [] E (tVar j) tr) ρ Pok := fun σ G H k e Q q => by
  obtain ⟨h1, ga0, ba0, va, ha0, fa0⟩ := own_ins e h
  refine ⟨_, h1, a, dx, vf, rfl, ha0, fa0.lookN lm, ha σ G H k e _ fun ws ss G1 H1 g1 k1 pa r => ?_⟩
  obtain ⟨i, es, ef, hpi, ho⟩ := hp ss pa
  subst es ef
  obtain ⟨_, ga, ba, va, ha1, fa⟩ := own_ins (e.grow g1) h
  rw [List.append_nil]
  refine ⟨i, G1, a, dx, vf, ws, rfl, hpi, k1.low, ga, ha1, fa, r, fun v s G' H' dx' vf' fs' g kn rv ha' hro fa' po => ?_⟩
  obtain ⟨e1, e2⟩ := hro rfl
  subst e1 e2
  have gr : Grow fx0 G1 H1 G' H' := ⟨g.gg, g.gh, fun b u _ hb => by
    by_cases z : b = a
    · subst z
      rw [ha1] at hb
      cases hb
      exact ha'
    · exact g.hh b u (fun z => z) z hb, g.nn⟩
  exact q v s G' H' (g1.trans k1 (k1.lift gr) gr.lift) (k1.lift gr) (ho s fs' po) rv
theorem ev_meth {Pok : Sl → Prop} (i : ι) (h : ρ[j]? = some (.own a (.ins C dx vf fs))) (lm : fs.lookup m = none) (ef : f0 i = fs) (ha : EvA S tr ρ (Eq (args i))) (hp : pre i) (ho : ∀ s fs', post i s fs' → Pok s) : Ev S (tMeth C m (spO S.K C true args f0 pre post) [] E (tVar j) tr) ρ Pok :=
  ev_methP h lm ha fun ss e => ⟨i, e.symm, ef, hp, ho⟩
/-- x.m(..) as a statement, x may be written at -/
theorem xc_meth {ro : Bool} {Pa : List Sl → Prop} (h : ρ[j]? = some (.own a (.ins C dx vf fs))) (lm : fs.lookup m = none) (ha : EvA S tr ρ Pa) (hp : ∀ ss, Pa ss → ∃ i, ss = args i ∧ f0 i = fs ∧ pre i ∧ ∀ s dx' vf' fs', post i s fs' → P (.nx (ρ.set j (.own a (.ins C dx' vf' fs'))))) :
    Xc S (tDrop (tMeth C m (spO S.K C ro args f0 pre post) [] E (tVar j) tr)) ρ P := fun σ G H De o e f => by
  obtain ⟨h1, ga0, ba0, va0, ha0, fa0⟩ := own_ins e h
  refine ⟨_, h1, a, dx, vf, rfl, ha0, fa0.lookN lm, ha σ G H o.kn e _ fun ws ss G1 H1 g1 k1 pa r => ?_⟩
  obtain ⟨i, es, ef, hpi, ho⟩ := hp ss pa
  subst es ef
  have o1 := o.grow g1 k1
  have e1 := e.grow g1
  obtain ⟨_, ga, ba, va, ha1, fa⟩ := own_ins e1 h
  rw [List.append_nil]
  refine ⟨i, G1, a, dx, vf, ws, rfl, hpi, k1.low, ga, ha1, fa, r, fun v s G' H' dx' vf' fs' g kn rv ha' hro fa' po => ?_⟩
  have o2 := after_own o1 ba va ha1 (fun z => z) g (by rw [ha']; simp)
  have e2 := env_back (m' := .ins C dx' vf' fs') e1 h h1 g ⟨rfl, g.nn a (by rw [ha1]; simp) ga, ba.imp id fun z => ⟨z, trivial⟩, va, _, ha', ⟨rfl, rfl, rfl⟩, fa'⟩
  exact f.nx _ G' H' _ o2 (g1.gg.trans g.gg) e2 (ho s dx' vf' fs' po)
/-- x = C(..) -/
theorem xc_make {ro : Bool} {Pa : List Sl → Prop} (ha : EvA S tr ρ Pa) (hp : ∀ ss, Pa ss → ∃ i, ss = args i ∧ f0 i = [] ∧ pre i ∧ ∀ s fs', post i s fs' → s = .dat .none ∧ ∀ a' dx' vf', P (.nx (ρ.set j (.own a' (.ins C dx' vf' fs'))))) :
    Xc S (tAsg (tMake C (spO S.K C ro args f0 pre post) [] E tr) (gName j)) ρ P := fun σ G H De o e f => by
  refine ha σ G H o.kn e _ fun ws ss G1 H1 g1 k1 pa r x dx' hx hd nd => ?_
  obtain ⟨i, es, ef, hpi, ho⟩ := hp ss pa
  subst es
  have o1 := o.grow g1 k1
  have e1 := e.grow g1
  have sm : Same H1 (upd (upd H1 dx' (.own x)) x (.ins C dx' [])) := (same_new hd).trans (same_new (by rw [upd_ne nd.symm]; exact hx))
  have k2 := k1.same sm
  have g2 := Grow.same k1 sm
  have o2 := o1.grow g2 k2
  have e2 := e1.grow g2
  have gx : G1 x = none := k1.freeG hx
  have bx : S.B x = none := o1.freshB hx
  have vx : ¬ S.fx.vol x := k1.fresh hx
  have hx2 : (upd (upd H1 dx' (.own x)) x (.ins C dx' [])) x = some (.ins C dx' []) := upd_same
  rw [List.append_nil]
  refine ⟨i, G1, x, dx', [], ws, rfl, hpi, k2.low, gx, hx2, by rw [ef]; exact ⟨rfl, .nil⟩, r, fun v s G' H' dx'' vf' fs' g kn rv ha' hro fa' po => ?_⟩
  obtain ⟨es, hk⟩ := ho s fs' po
  subst es
  cases rv
  refine ⟨rfl, ?_⟩
  have o3 := after_own o2 (.inl bx) vx hx2 (fun z => z) g (by rw [ha']; simp)
  have no : ∀ (j' : Nat) (m' : Mo), ρ[j']? ≠ some (Sl.own x m') := fun j' m' z => by
    obtain ⟨v, _, _, _, _, _, u, hu, _⟩ := e1.get z
    rw [hx] at hu
    cases hu
  have e3 := env_own e2 no g
  have e4 := e3.put j (some (.ref x)) (.own x (.ins C dx'' vf' fs')) ⟨rfl, g.nn x (by rw [hx2]; simp) gx, .inl bx, vx, _, ha', ⟨rfl, rfl, rfl⟩, fa'⟩ fun b n z j' n' _ hj => by
    cases z
    exact no j' n' hj
  exact f.nx _ G' H' _ o3 (g1.gg.trans g.gg) e4 (hk x dx'' vf')
end
/-! ### methods by name -/
structure CalM (P : Program) (w : World) (K : PySem.W.Frag) (mg : Str → Option Value) (base : Heap) (k : Nat) (C : Addr) (m : Str) (ps : List Str) (sp : Sp) : Prop where
  ex : ∃ (f : Addr) (fd : FuncData), FnOk P w K mg base (L2.CX P w) k f fd ps sp ∧ Cls K C ∧ Meth K C m f ∧ Binds K fd ps []
/-- where the text's method stands -/
structure DefM (K : PySem.W.Frag) (C : Addr) (m qual : Str) (st : Stmt) : Prop where
  ex : ∃ (f : Addr) (fd : FuncData), Fun K m qual st f fd ∧ Meth K C m f
  cls : Cls K C
/-- the class is called: its __init__ -/
structure CalK (P : Program) (w : World) (K : PySem.W.Frag) (mg : Str → Option Value) (base : Heap) (k : Nat) (x : Str) (C : Addr) (ps : List Str) (sp : Sp) : Prop where
  ex : ∃ (f : Addr) (fd : FuncData), FnOk P w K mg base (L2.CX P w) k f fd ps sp ∧ Mk K C f ∧ mg x = some (.ref C) ∧ Binds K fd ps []
structure DefK (K : PySem.W.Frag) (mg : Str → Option Value) (x : Str) (C : Addr) (qual : Str) (st : Stmt) : Prop where
  ex : ∃ (f : Addr) (fd : FuncData), Fun K "__init__" qual st f fd ∧ Mk K C f
  gC : mg x = some (.ref C)
section
variable {P : Program} {w : World} {K : PySem.W.Frag} {mg : Str → Option Value} {base : Heap} {ι : Type} {C : Addr} {ro : Bool} {args : ι → List Sl} {f0 : ι → List (Str × D)} {pre : ι → Prop} {post : ι → Sl → List (Str × D) → Prop} {x m qual : Str} {st : Stmt} {N ps : List Str} {k : Nat}
theorem mk_calM (T : DefM K C m qual st) (Sc : FnScope N ps (defScope st)) (hl : ∀ i, pre i → (args i).length + 1 = ps.length)
    (hb : ∀ (kV doc pm : Value) (an : Option Addr) (cdv ct : Value) (us : List Value), us.length = ps.length → bindArgs (PySem.W.fnOf m qual (defArgs st) (defBody st) (defScope st) .none kV doc pm an cdv ct) ⟨us, []⟩ = pure (ps.zip us))
    (body : ∀ (f : Addr) (cdv : Value) (A : Around) (outer : List PySem.Env) (s : Shared) (H : Hp) (E : XK), Room k (A.deeper (envOfC qual (defScope st) s.heap.objs.size f cdv)) → ∀ (i : ι), pre i →
      ∃ t, PSs (cxOf (L2.CX P w) P w K mg base N qual (defScope st) f cdv A outer s H E) (defBody st) t ∧ ∀ (G : Hp) (a dx : Addr) (vf : List (Str × V)), Xc ⟨K, fxM a, G, H, E⟩ t ((.own a (.ins C dx vf (f0 i)) :: args i) ++ List.replicate (N.length - ps.length) .no) (ObjP a C dx vf ro (post i))) :
    CalM P w K mg base (k + 1) C m ps (spO K C ro args f0 pre post) := by
  obtain ⟨⟨f, fd, F, M⟩, c⟩ := T
  exact ⟨f, fd, fn_okO F Sc hl fun cdv A outer s H E => body f cdv A outer s H E, c, M, F.binds hb⟩
theorem mk_calK (T : DefK K mg x C qual st) (Sc : FnScope N ps (defScope st)) (hl : ∀ i, pre i → (args i).length + 1 = ps.length)
    (hb : ∀ (kV doc pm : Value) (an : Option Addr) (cdv ct : Value) (us : List Value), us.length = ps.length → bindArgs (PySem.W.fnOf "__init__" qual (defArgs st) (defBody st) (defScope st) .none kV doc pm an cdv ct) ⟨us, []⟩ = pure (ps.zip us))
    (body : ∀ (f : Addr) (cdv : Value) (A : Around) (outer : List PySem.Env) (s : Shared) (H : Hp) (E : XK), Room k (A.deeper (envOfC qual (defScope st) s.heap.objs.size f cdv)) → ∀ (i : ι), pre i →
      ∃ t, PSs (cxOf (L2.CX P w) P w K mg base N qual (defScope st) f cdv A outer s H E) (defBody st) t ∧ ∀ (G : Hp) (a dx : Addr) (vf : List (Str × V)), Xc ⟨K, fxM a, G, H, E⟩ t ((.own a (.ins C dx vf (f0 i)) :: args i) ++ List.replicate (N.length - ps.length) .no) (ObjP a C dx vf ro (post i))) :
    CalK P w K mg base (k + 1) x C ps (spO K C ro args f0 pre post) := by
  obtain ⟨⟨f, fd, F, M⟩, g⟩ := T
  exact ⟨f, fd, fn_okO F Sc hl fun cdv A outer s H E => body f cdv A outer s H E, M, g, F.binds hb⟩
end
section
variable {X : Cx} {k : Nat} {C : Addr} {x m : Str} {ps : List Str} {sp : Sp} {p pos apos : Pos} {o e : Expr} {es : List Expr} {t : TA} {to : TE}
theorem pe_calM {pl : Sem Bool} (c : CalM X.prog X.w X.K X.mg X.base k C m ps sp) (hr : Room k X.A) (ho : PE X o to) (ha : PA X (e :: es) t)
    (hst : starEach (e :: es) X.env = (false, eval e X.env) :: starEach es X.env := by rfl) (hpl : (backTo pos (starEach es X.env)).any (·.1) = false := by rfl)
    (ht : eval (.Call (.Attribute o m apos) (e :: es) [] pos) X.env = (do
      let ov ← eval o X.env
      standAt apos.atName
      let (f, first) ← holding [ov] (getMethod ov m pl)
      callWith pos f first (backTo pos (starEach (e :: es) X.env)) (backToKw pos (keywordEach [] X.env))) := by rfl) : PE X (.Call (.Attribute o m apos) (e :: es) [] pos) (tMeth C m sp [] E0 to t) := by
  obtain ⟨f, fd, F, cl, M, hb⟩ := c.ex
  exact pe_meth ho cl M F hr hb .nil passL ha hst hpl ht
theorem pe_calK (c : CalK X.prog X.w X.K X.mg X.base k x C ps sp) (hr : Room (k + 1) X.A) (hg : Gl X x) (ha : PA X (e :: es) t) (hdb : (x == ("__debug__" : Str)) = false := by decide) (he : starEach (e :: es) X.env = (false, eval e X.env) :: starEach es X.env := by rfl)
    (hpl : (backTo pos (starEach es X.env)).any (·.1) = false := by rfl) : PE X (.Call (.Name x p) (e :: es) [] pos) (tMake C sp [] E0 t) := by
  obtain ⟨f, fd, F, M, g, hb⟩ := c.ex
  exact pe_make M F hr hg g hb .nil passL ha hdb he hpl
end
end Dl

set_option Elab.async false
set_option linter.all false
set_option maxRecDepth 100000
set_option maxHeartbeats 4000000
/-! Dlq: order of data, least and greatest, stars, parts of lists. -/
namespace Dl
open PySem PySem.Spec PyProof.Rows L2 LamX StX
/-! ### x < y of data -/
def CmpD (d d' : D) : Prop := PySem.W.alike d d' = true ∧ d ≠ .none ∧ d.depth ≤ 60 ∧ d.hasDict = false ∧ d'.hasDict = false
def rLtD (K : PySem.W.Frag) : R2 := fun x y H Q => ∃ d d', Dp K H x d ∧ Dp K H y d' ∧ CmpD d d' ∧ Q (.bl (PySem.W.dataLt d d')) H
theorem op_ltD {X : Cx} (hu : X.A.units + 64 < cLine) : OpR X (compareOp .Lt) (rLtD X.K) := by
  intro pins s σ H x y v u Q I rx ry h
  obtain ⟨d, d', h1, h2, ⟨c1, c2, c3, _, _⟩, q⟩ := h
  obtain ⟨as, r1⟩ := Dp.reads I d x v h1 rx
  obtain ⟨bs, r2⟩ := Dp.reads I d' y u h2 ry
  exact PySem.W.lt_data r1 r2 c1 c2 (by have : min d.depth d'.depth ≤ d.depth := Nat.min_le_left _ _; omega) ⟨.bl _, H, I, rfl, q⟩
section
variable {S : Cf} {ρ : Rho} {te ta tb tc : TE} {P : Oc → Prop} {w : TS}
theorem ev_ltD {d d' : D} (ha : Ev S ta ρ (Eq (.dat d))) (hb : Ev S tb ρ (Eq (.dat d'))) (c : CmpD d d') : Ev S (tOp (rLtD S.K) ta tb) ρ (Eq (.dat (.bool (PySem.W.dataLt d d')))) :=
  ev_op' ha hb (opd_here (z := .bl (PySem.W.dataLt d d')) fun G H v w k rx ry => ⟨.bl _, fun Q q => ⟨d, d', (R.mono k.gh rx).dp c.2.2.2.1, (R.mono k.gh ry).dp c.2.2.2.2, c, q⟩⟩)
/-! ### max of ints -/
def lmax : List Int → Int
  | [] => 0
  | x :: xs => xs.foldl max x
theorem foldl_max : ∀ (xs : List Int) (x : Int), (xs.foldl max x ∈ x :: xs) ∧ ∀ y ∈ x :: xs, y ≤ xs.foldl max x
  | [], x => ⟨by simp, fun y hy => by
    simp at hy
    subst hy
    exact Int.le_refl _⟩
  | z :: xs, x => by
    obtain ⟨h1, h2⟩ := foldl_max xs (max x z)
    refine ⟨?_, fun y hy => ?_⟩
    · show xs.foldl max (max x z) ∈ _
      rcases List.mem_cons.mp h1 with h | h
      · rw [h]
        rcases Int.le_total x z with q | q
        · rw [Int.max_eq_right q]
          simp
        · rw [Int.max_eq_left q]
          simp
      · exact List.mem_cons_of_mem _ (List.mem_cons_of_mem _ h)
    · show y ≤ xs.foldl max (max x z)
      have hm := h2 (max x z) List.mem_cons_self
      rcases List.mem_cons.mp hy with h | h
      · subst h
        have := Int.le_max_left y z
        omega
      · rcases List.mem_cons.mp h with h | h
        · subst h
          have := Int.le_max_right x y
          omega
        · exact h2 y (List.mem_cons_of_mem _ h)
theorem lmax_ok {ns : List Int} (h : ns ≠ []) : lmax ns ∈ ns ∧ ∀ y ∈ ns, y ≤ lmax ns := by
  cases ns with
  | nil => exact absurd rfl h
  | cons x xs => exact foldl_max xs x
theorem ev_max {ns : List Int} (h : ns ≠ []) (ha : Ev S ta ρ (Eq (.dat (.list (ns.map PyData.int))))) : Ev S (tCB (rMax S.K) (tCons ta tNil)) ρ (Eq (.dat (.int (lmax ns)))) := fun σ G H k e Q q =>
  el_of ha σ G H k e _ fun a vs G1 H1 g1 k1 st ra => ⟨a, ns, rfl, by rw [← ra.ints]; exact st _ _ (Grow.refl k1), List.length_pos_iff.mpr h, fun m hm hy => by
    obtain ⟨h1, h2⟩ := lmax_ok h
    have e : m = lmax ns := Int.le_antisymm (h2 m hm) (hy _ h1)
    rw [e]
    exact q _ _ G1 H1 g1 k1 rfl (.int _)⟩
/-! ### stars -/
theorem ea_star {tr : TA} {ds : List D} {xs : List Sl} (h : EvL S te ρ ds) (hr : EvA S tr ρ (Eq xs)) : EvA S (tStar S.K te tr) ρ (Eq (ds.map Sl.dat ++ xs)) := fun σ G H k e Q q =>
  h σ G H k e _ fun a vs G1 H1 g1 k1 st ra => ⟨a, vs, rfl, .inr (st _ _ (Grow.refl k1)), hr σ G1 H1 k1 (e.grow g1) _ fun ws ss G2 H2 g2 k2 es rs => by
    subst es
    refine q _ _ G2 H2 (g1.trans k1 k2 g2) k2 rfl ?_
    have key : ∀ {vs : List V} {ds : List D}, RA S.K G2 vs ds → RSs S.K G2 (vs ++ ws) (ds.map Sl.dat ++ xs) := fun {vs ds} r => by
      induction vs generalizing ds with
      | nil =>
        cases r
        exact rs
      | cons v vs ih =>
        cases r with
        | cons r1 r2 => exact .cons r1 (ih r2)
    exact key (ra.mono g2.gg)⟩
theorem ea_starU {tr : TA} {ds : List D} {xs : List Sl} (h : EvU S te ρ ds) (hr : EvA S tr ρ (Eq xs)) : EvA S (tStar S.K te tr) ρ (Eq (ds.map Sl.dat ++ xs)) := fun σ G H k e Q q =>
  h σ G H k e _ fun a vs G1 H1 g1 k1 st ra => ⟨a, vs, rfl, .inl (st _ _ (Grow.refl k1)), hr σ G1 H1 k1 (e.grow g1) _ fun ws ss G2 H2 g2 k2 es rs => by
    subst es
    refine q _ _ G2 H2 (g1.trans k1 k2 g2) k2 rfl ?_
    have key : ∀ {vs : List V} {ds : List D}, RA S.K G2 vs ds → RSs S.K G2 (vs ++ ws) (ds.map Sl.dat ++ xs) := fun {vs ds} r => by
      induction vs generalizing ds with
      | nil =>
        cases r
        exact rs
      | cons v vs ih =>
        cases r with
        | cons r1 r2 => exact .cons r1 (ih r2)
    exact key (ra.mono g2.gg)⟩
/-! ### parts of lists -/
/-- a bound of a part -/
def EvO (S : Cf) (to : TO) (ρ : Rho) (o : Option Int) : Prop := ∀ (σ : L2.St) (G H : Hp), Kn S.fx G H → Env S G H σ ρ → ∀ Q : Option Int → Hp → Prop,
  (∀ G' H', Grow S.fx G H G' H' → Kn S.fx G' H' → Q o H') → to σ H Q
theorem eo_none : EvO S (fun _ H Q => Q none H) ρ none := fun σ G H k e Q q => q G H (Grow.refl k) k
theorem eo_some {i : Int} (h : Ev S te ρ (Eq (.dat (.int i)))) : EvO S (tPart te) ρ (some i) := fun σ G H k e Q q => h σ G H k e _ fun v s G1 H1 g1 k1 es r => by
  subst es
  cases r
  exact ⟨i, rfl, q G1 H1 g1 k1⟩
def cutD (ds : List D) (lo hi : Option Int) : List D := (ds.drop (HT.sIx ds.length 0 lo)).take (HT.sIx ds.length ds.length hi - HT.sIx ds.length 0 lo)
theorem RA.cut {K : PySem.W.Frag} {G : Hp} {vs : List V} {ds : List D} (h : RA K G vs ds) (lo hi : Option Int) : RA K G (cutV vs lo hi) (cutD ds lo hi) := by
  unfold cutV cutD
  rw [h.length]
  exact (h.drop _).take _
theorem ef_cut {lo hi : Option Int} {tl th : TO} {ds : List D} (h : EvL S te ρ ds) (hl : EvO S tl ρ lo) (hh : EvO S th ρ hi) : EvF S (tSl (rSlL S.K) te tl th) ρ (Eq (cutD ds lo hi)) := fun σ G H k e Q q =>
  h σ G H k e _ fun a vs G1 H1 g1 k1 st ra => hl σ G1 H1 k1 (e.grow g1) _ fun G2 H2 g2 k2 => hh σ G2 H2 k2 ((e.grow g1).grow g2) _ fun G3 H3 g3 k3 =>
    ⟨a, vs, rfl, st G3 H3 (g2.trans k2 k3 g3), fun p hp => by
      have g := (g1.trans k1 k2 g2).trans k2 k3 g3
      exact q p _ _ G3 _ (g.trans k3 (k3.same (same_new hp)) (Grow.same k3 (same_new hp))) (k3.same (same_new hp)) (fresh_of g k3 hp) (k3.freeG hp) upd_same ((ra.mono (g2.gg.trans g3.gg)).cut lo hi) rfl⟩
theorem cut_take (ds : List D) (n : Nat) (h : n ≤ ds.length) : cutD ds none (some (n : Int)) = ds.take n := by
  unfold cutD
  rw [HT.sIx_none, HT.sIx_nat, Nat.sub_zero, Nat.min_eq_left h]
  rfl
theorem cut_drop (ds : List D) (n : Nat) (h : n ≤ ds.length) : cutD ds (some (n : Int)) none = ds.drop n := by
  unfold cutD
  rw [HT.sIx_none, HT.sIx_nat, Nat.min_eq_left h, List.take_of_length_le]
  rw [List.length_drop]
  omega
/-- t + u of tuples -/
theorem ev_catA {ds es : List D} (ha : Ev S ta ρ (Eq (.dat (.tuple ds)))) (hb : Ev S tb ρ (Eq (.dat (.tuple es)))) (hl : ds.length + es.length ≤ 1000000) : Ev S (tOp (rCatA S.K) ta tb) ρ (Eq (.dat (.tuple (ds ++ es)))) :=
  ev_op' ha hb fun G H v w k rx ry Q q => by
    have rx0 := rx
    have ry0 := ry
    cases rx with
    | @tup _ xs _ hs1 r1 =>
      cases ry with
      | @tup _ ys _ hs2 r2 =>
        refine ⟨_, _, _, _, rfl, rfl, sameT k.gh hs1, sameT k.gh hs2, sz_ok (by rw [r1.length, r2.length]; exact hl), fun e => ?_, fun _ e => ?_, fun _ _ p hp => ?_⟩
        · subst e
          cases r1
          exact q _ _ G H (Grow.refl k) k rfl ry0
        · subst e
          cases r2
          exact q _ _ G H (Grow.refl k) k (by rw [List.append_nil]) rx0
        · have g2 := Grow.new k (.tup (xs ++ ys)) hp
          have k2 := Kn.new k (.tup (xs ++ ys)) hp
          exact q _ _ _ _ g2 k2 rfl (.tup (SqT.of upd_same) ((r1.mono g2.gg).append (r2.mono g2.gg)))
end
/-! ### min of data -/
theorem ra_dpAll {K : PySem.W.Frag} {G H : Hp} (e : Same G H) {vs : List V} {ds : List D} (h : RA K G vs ds) (n : PyData.hasDictAll ds = false) : DpAll K H vs ds := (h.mono e).dp n
def MinOk (ds : List D) : Prop := PySem.W.AlikeAll ds ∧ PyData.depthAll ds ≤ 60 ∧ PyData.hasDictAll ds = false
/-- min(xs, default=z) -/
def rMinDf (K : PySem.W.Frag) : List V → List V → Hp → VK → Prop := fun xs zs H Q => ∃ (a : Addr) (vs : List V) (ds : List D) (z : V), xs = [.ref a] ∧ zs = [z] ∧ SqL K H a vs ∧ DpAll K H vs ds ∧ MinOk ds ∧ (ds = [] → Q z H) ∧
  ∀ y ys (i : Nat) v, ds = y :: ys → vs[i]? = some v → ds[i]? = some (PySem.W.minD y ys) → Q v H
theorem vals_at {vs : List V} {us : List Value} (r : Vals vs us) {i : Nat} {u : Value} (h : us[i]? = some u) : ∃ v, vs[i]? = some v ∧ RelV v u := by
  induction r generalizing i with
  | nil => simp at h
  | cons h1 h2 ih =>
    cases i with
    | zero =>
      simp only [List.getElem?_cons_zero, Option.some.injEq] at h
      subst h
      exact ⟨_, rfl, h1⟩
    | succ i =>
      simp only [List.getElem?_cons_succ] at h ⊢
      exact ih h
theorem readsAll_get {h : Heap} : ∀ {us : List Value} {ds : List D} {as : List Addr} {i : Nat} {u : Value}, ReadsAll h us ds as → us[i]? = some u → ∃ d bs, ds[i]? = some d ∧ Reads h u d bs
  | _, _, _, i, u, .nil, e => by simp at e
  | _, _, _, 0, u, .cons r rs, e => by
    simp only [List.getElem?_cons_zero, Option.some.injEq] at e
    subst e
    exact ⟨_, _, rfl, r⟩
  | _, _, _, i + 1, u, .cons r rs, e => by
    simp only [List.getElem?_cons_succ] at e
    obtain ⟨d, bs, e1, e2⟩ := readsAll_get rs e
    exact ⟨d, bs, by simpa using e1, e2⟩
theorem cr_minDf {X : Cx} (hc : X.calm = true) (hu : X.A.units + 64 < cLine) : CallRK X (.builtin "min") ["default"] (rMinDf X.K) := by
  intro pins s σ H xs zs us ws Q I r rz h
  obtain ⟨a, vs, ds, z, rfl, rfl, hs, hd, ⟨m1, m2, m3⟩, q0, q⟩ := h
  obtain ⟨u, rfl, ru⟩ := vals1 r
  obtain ⟨wz, rfl, rwz⟩ := vals1 rz
  cases ru
  obtain ⟨its, rv, pl, hz⟩ := I.list hs
  obtain ⟨as, ra⟩ := Dp.readsAll I ds vs its hd rv
  refine PySem.W.min_list_default (I.ok.hd hc) pl.isList (as := as) (xs := ds) (by simpa using ra) m1 (by omega) (fun e h' tk hk => ⟨z, H, I.kept hk, rwz, q0 e⟩) fun y ys i v h' tk bs e hi hr hk => ?_
  have hi' : its[i]? = some v := by simpa using hi
  obtain ⟨x, hx, rx⟩ := vals_at rv hi'
  obtain ⟨d, cs, hd1, hd2⟩ := readsAll_get ra hi'
  have eq := (PyProof.Rows.reads_det (fun b o e _ => hk b o e) hd2 hr).1
  exact ⟨x, H, I.kept hk, rx, q y ys i x e hx (by rw [hd1, eq])⟩
/-- min(xs) -/
def rMinL (K : PySem.W.Frag) : List V → Hp → VK → Prop := fun xs H Q => ∃ (a : Addr) (vs : List V) (y : D) (ys : List D), xs = [.ref a] ∧ SqL K H a vs ∧ DpAll K H vs (y :: ys) ∧ MinOk (y :: ys) ∧
  ∀ (i : Nat) v, vs[i]? = some v → (y :: ys)[i]? = some (PySem.W.minD y ys) → Q v H
theorem cr_minL {X : Cx} (hc : X.calm = true) (hu : X.A.units + 64 < cLine) : CallR X (.builtin "min") (rMinL X.K) := by
  intro pins s σ H xs us Q I r h
  obtain ⟨a, vs, y, ys, rfl, hs, hd, ⟨m1, m2, m3⟩, q⟩ := h
  obtain ⟨u, rfl, ru⟩ := vals1 r
  cases ru
  obtain ⟨its, rv, pl, hz⟩ := I.list hs
  obtain ⟨as, ra⟩ := Dp.readsAll I (y :: ys) vs its hd rv
  refine PySem.W.min_list_data (I.ok.hd hc) pl.isList (as := as) (x := y) (xs := ys) (by simpa using ra) m1 (by omega) fun i v h' tk bs hi hr hk => ?_
  have hi' : its[i]? = some v := by simpa using hi
  obtain ⟨x, hx, rx⟩ := vals_at rv hi'
  obtain ⟨d, cs, hd1, hd2⟩ := readsAll_get ra hi'
  have eq := (PyProof.Rows.reads_det (fun b o e _ => hk b o e) hd2 hr).1
  exact ⟨x, H, I.kept hk, rx, q i x hx (by rw [hd1, eq])⟩
/-- the least, if there is one -/
def minO : List D → D
  | [] => .none
  | y :: ys => PySem.W.minD y ys
section
variable {S : Cf} {ρ : Rho} {te ta tb tc : TE}
theorem ev_minDf {ds : List D} (ha : EvL S ta ρ ds) (hz : Ev S tb ρ (Eq (.dat .none))) (m : MinOk ds) : Ev S (tCKw (rMinDf S.K) (tCons ta tNil) (tCons tb tNil)) ρ (Eq (.dat (minO ds))) := fun σ G H k e Q q =>
  ha σ G H k e _ fun a vs G1 H1 g1 k1 st ra => hz σ G1 H1 k1 (e.grow g1) _ fun z s G2 H2 g2 k2 es rz => by
    subst es
    have g := g1.trans k1 k2 g2
    refine ⟨a, vs, ds, z, rfl, rfl, st _ _ g2, ra_dpAll (g2.gg.trans g2.gh) ra m.2.2, m, fun e => ?_, fun y ys i v e hv hd => ?_⟩
    · subst e
      exact q z _ G2 H2 g k2 rfl rz
    · subst e
      obtain ⟨d, hd', rd⟩ := (ra.mono g2.gg).getV hv
      rw [hd] at hd'
      cases hd'
      exact q v _ G2 H2 g k2 rfl rd
theorem ev_minL {y : D} {ys : List D} (ha : EvL S ta ρ (y :: ys)) (m : MinOk (y :: ys)) : Ev S (tCB (rMinL S.K) (tCons ta tNil)) ρ (Eq (.dat (PySem.W.minD y ys))) := fun σ G H k e Q q =>
  ha σ G H k e _ fun a vs G1 H1 g1 k1 st ra => by
    refine ⟨a, vs, y, ys, rfl, st _ _ (Grow.refl k1), ra_dpAll k1.gh ra m.2.2, m, fun i v hv hd => ?_⟩
    obtain ⟨d, hd', rd⟩ := ra.getV hv
    rw [hd] at hd'
    cases hd'
    exact q v _ G1 H1 g1 k1 rfl rd
end
/-! ### comprehensions over what stands for a list -/
section
variable {S : Cf} {ρ : Rho} {te : TE} {tt : TT} {wi : TI} {g : TG} {vs : List Nat}
/-- [e for x in xs if t] -/
theorem ef_filterL {α : Type} {l : List α} {dα : α → D} {c : α → Bool} {f : α → D} (hi : Itm S wi ρ (Eq (l.map dα))) (hl : l.length ≤ 1000000)
    (hs : ∀ x, x ∈ l → ∃ js ρ2, (∀ j ∈ js, j ∈ vs) ∧ Tgt S g js (dα x) (wipeR ρ vs) ρ2 ∧ EvT S tt ρ2 (Eq (c x)) ∧ (c x = true → Ev S te ρ2 (Eq (.dat (f x))))) : EvF S (tLc wi g tt te vs) ρ (Eq ((l.filter c).map f)) := by
  refine ef_lc hi (fun _ i acc => acc = ((l.take i).filter c).map f) (fun ds' e => e ▸ ⟨by rw [List.length_map]; exact hl, rfl⟩) (fun ds' i d acc e hd al hI => ?_) fun ds' acc e al hI => ?_
  · subst e
    rw [List.getElem?_map] at hd
    obtain ⟨x, hx, rfl⟩ := Option.map_eq_some_iff.mp hd
    obtain ⟨js, ρ2, h1, h2, h3, h4⟩ := hs x (List.mem_of_getElem? hx)
    refine ⟨js, ρ2, h1, h2, h3.imp fun b eb => ?_⟩
    have et : l.take (i + 1) = l.take i ++ [x] := by
      rw [List.take_add_one, hx]
      rfl
    cases hc : c x with
    | true =>
      rw [hc] at eb
      subst eb
      rw [if_pos rfl]
      refine (h4 hc).imp fun s es => ⟨f x, es.symm, ?_⟩
      rw [hI, et, List.filter_append, List.map_append]
      simp [hc]
    | false =>
      rw [hc] at eb
      subst eb
      rw [if_neg (by decide), hI, et, List.filter_append, List.map_append]
      simp [hc]
  · subst e
    rw [hI, List.length_map, List.take_length]
/-- [e for x in xs] -/
theorem ef_mapL {α : Type} {l : List α} {dα : α → D} {f : α → D} (hi : Itm S wi ρ (Eq (l.map dα))) (hl : l.length ≤ 1000000)
    (hs : ∀ x, x ∈ l → ∃ js ρ2, (∀ j ∈ js, j ∈ vs) ∧ Tgt S g js (dα x) (wipeR ρ vs) ρ2 ∧ Ev S te ρ2 (Eq (.dat (f x)))) : EvF S (tLc wi g tYes te vs) ρ (Eq (l.map f)) := by
  have h := ef_filterL (S := S) (ρ := ρ) (te := te) (tt := tYes) (wi := wi) (g := g) (vs := vs) (c := fun _ => true) (f := f) hi hl fun x hx => by
    obtain ⟨js, ρ2, h1, h2, h3⟩ := hs x hx
    exact ⟨js, ρ2, h1, h2, fun σ G H k e Q q => q true G H (Grow.refl k) k rfl, fun _ => h3⟩
  have e : l.filter (fun _ => true) = l := List.filter_eq_self.mpr fun _ _ => rfl
  rw [e] at h
  exact h
/-- sum([e for x in xs]), max(..) -/
theorem ev_sumL {α : Type} {l : List α} {dα : α → D} {f : α → Int} (hi : Itm S wi ρ (Eq (l.map dα))) (hl : l.length ≤ 1000000)
    (hs : ∀ x, x ∈ l → ∃ js ρ2, (∀ j ∈ js, j ∈ vs) ∧ Tgt S g js (dα x) (wipeR ρ vs) ρ2 ∧ Ev S te ρ2 (Eq (.dat (.int (f x))))) : Ev S (tCB (rSum S.K) (tCons (tLc wi g tYes te vs) tNil)) ρ (Eq (.dat (.int (l.map f).sum))) :=
  ev_sum ((ef_mapL (f := fun x => .int (f x)) hi hl hs).evE.cast (by rw [List.map_map]; rfl))
theorem ev_maxL {α : Type} {l : List α} {dα : α → D} {f : α → Int} (h0 : l ≠ []) (hi : Itm S wi ρ (Eq (l.map dα))) (hl : l.length ≤ 1000000)
    (hs : ∀ x, x ∈ l → ∃ js ρ2, (∀ j ∈ js, j ∈ vs) ∧ Tgt S g js (dα x) (wipeR ρ vs) ρ2 ∧ Ev S te ρ2 (Eq (.dat (.int (f x))))) : Ev S (tCB (rMax S.K) (tCons (tLc wi g tYes te vs) tNil)) ρ (Eq (.dat (.int (lmax (l.map f))))) :=
  ev_max (by simpa using h0) ((ef_mapL (f := fun x => .int (f x)) hi hl hs).evE.cast (by rw [List.map_map]; rfl))
end
theorem ev_ixU {S : Cf} {ρ : Rho} {te tb : TE} {ds : List D} {i : Int} {d : D} (h : Ev S te ρ (Eq (.dat (.tuple ds)))) (hb : Ev S tb ρ (Eq (.dat (.int i)))) (hd : atI ds i = some d) : Ev S (tOp (rIxT S.K) te tb) ρ (Eq (.dat d)) := ev_ixT (eu_of h) hb hd
/-! ### the row's numbers, where less is known -/
section
variable {K : PySem.W.Frag} {G0 B : Hp} {E : XK} {z : RowZ} {ρ : Rho} {te ti : TE}
theorem ev_takenI {q : Int → Prop} {E' : XK} (hi : Ev ⟨K, rowFx K z, G0, B, E⟩ ti ρ (Eq (.raw (.ref z.r)))) (he : EvI ⟨K, rowFx K z, G0, B, E⟩ te ρ q) (hq : ∀ m, q m → 0 < m ∧ m < 1073741824) :
    EvI ⟨K, rowFx K z, G0, B, E⟩ (tCall (spTaken K) [] E' (tCons ti (tCons te tNil))) ρ (fun x => 0 ≤ x ∧ ∃ m, q m ∧ x < m) := fun σ G H k e Q qq =>
  hi σ G H k e _ fun v s G1 H1 g1 k1 es r1 => he σ G1 H1 k1 (e.grow g1) _ fun u s2 G2 H2 g2 k2 ⟨many, es2, hm⟩ r2 => by
    subst es es2
    cases r2
    cases (show v = _ from r1)
    obtain ⟨h0, h1⟩ := hq many hm
    obtain ⟨⟨p, m, c, a1, a2, a3, a4⟩, h5, h6⟩ := id k2.inv
    refine ⟨z.r, z.sc, z.vs, many, p, m, c, rfl, h0, h1, a1, a2, a3, a4, h5.sq, h5.sq' a4, fun x p' m' c' x0 x1 p0 m0 m1 => ?_⟩
    obtain ⟨g3, k3⟩ := row_new k2 (c := c') p0 m0 m1
    exact qq _ _ G2 _ ((g1.trans k1 k2 g2).trans k2 k3 g3) k3 ⟨x, rfl, x0, many, hm, x1⟩ (.int x)
theorem ev_pick {l : List D} {E' : XK} (hi : Ev ⟨K, rowFx K z, G0, B, E⟩ ti ρ (Eq (.raw (.ref z.r)))) (hl : Ev ⟨K, rowFx K z, G0, B, E⟩ te ρ (Eq (.dat (.list l)))) (h0 : l ≠ []) (h1 : l.length < 1073741824) :
    Ev ⟨K, rowFx K z, G0, B, E⟩ (tCall (spZ fun z : RowZ => spI K (rowFx K z) (fun ds : List D => [.raw (.ref z.r), .dat (.list ds)]) (fun ds => ds ≠ [] ∧ ds.length < 1073741824) (fun ds r => ∃ d, d ∈ ds ∧ r = .ok (.dat d))) [] E' (tCons ti (tCons te tNil))) ρ (fun s => ∃ d, s = .dat d ∧ d ∈ l) :=
  ev_callZ (fx := rowFx K) z (ea_cons hi (ea_cons hl ea_nil)) fun ss e => ⟨l, e.symm, ⟨h0, h1⟩, fun s ⟨d, hd, e⟩ => ⟨d, Re.ok.inj e, hd⟩, fun C d ⟨_, _, e⟩ => by cases e⟩
end
/-- ints of which something is known, compared by == -/
theorem ev_eqIP {S : Cf} {ρ : Rho} {ta tb : TE} {p q : Int → Prop} (ha : EvI S ta ρ p) (hb : EvI S tb ρ q) : Ev S (tOp (rEqD S.K) ta tb) ρ (fun s => ∃ b, s = .dat (.bool b) ∧ True) :=
  ev_op ha hb fun x y ⟨i, ex, _⟩ ⟨j, ey, _⟩ => by
    subst ex ey
    intro G H v w k rx ry Q qq
    exact (opd_here (z := .bl (PyData.eqv (.int i) (.int j))) (s := .dat (.bool (PyData.eqv (.int i) (.int j)))) fun G H v w k rx ry => ⟨.bl _, fun Q q => ⟨.int i, .int j, (R.mono k.gh rx).dp rfl, (R.mono k.gh ry).dp rfl, rfl, rfl, q⟩⟩) G H v w k rx ry Q fun z s G' H' g k' e r => qq z s G' H' g k' ⟨_, e.symm, trivial⟩ r
/-! ### rules that tell the written part by its name (inside comprehensions) -/
section
variable {X : Cx} {K : PySem.W.Frag}
theorem pe_fld' {o : Expr} {f : Str} {ta : TE} {pos : Pos} (hK : X.K = K) (he : PE X o ta) (hb : attributeBase o f X.env (eval o X.env) = eval o X.env := by rfl) : PE X (.Attribute o f pos) (tFld K ta f) := by
  subst hK
  exact pe_fld he hb
theorem pa_star' {e : Expr} {es : List Expr} {te : TE} {t : TA} {p : Pos} (hK : X.K = K) (he : PE X e te) (hr : PA X es t) (hs : starEach (.Starred e p :: es) X.env = (true, eval e X.env) :: starEach es X.env := by rfl) : PA X (.Starred e p :: es) (tStar K te t) := by
  subst hK
  exact pa_star he hr hs
theorem pi_list' {tg l : Expr} {tl : TE} (hK : X.K = K) (hl : PE X l tl) : PI X tg l (iList K tl) := by
  subst hK
  exact pi_list hl
theorem pi_tup' {tg l : Expr} {tl : TE} (hK : X.K = K) (hl : PE X l tl) : PI X tg l (iTup K tl) := by
  subst hK
  exact pi_tup hl
theorem pg_tup' {es : List Expr} {k : Nat} {t : TGs} {n : Nat} {pos : Pos} (hK : X.K = K) (hc : X.calm = true) (h : PGs X es t) (hn : (assignEach es X.env).length = n := by rfl) (hst : (assignEach es X.env).findIdx? (·.1) = none := by rfl) : PG X (.Tuple es k pos) (gTup K n t) := by
  subst hK
  exact pg_tup hc h hn hst
end
end Dl

set_option Elab.async false
set_option linter.all false
set_option maxRecDepth 100000
/-! K17m: shelves of pieces, in plain Lean. -/
namespace K17
open Dl
abbrev F := List (List Nat)
section
variable (ps : List (Int × Int)) (W : Int)
def wd (i : Nat) : Int := (ps.getD i (0, 0)).1
def lg (i : Nat) : Int := (ps.getD i (0, 0)).2
def wsum (sh : List Nat) : Int := (sh.map (wd ps)).sum
def lmx (sh : List Nat) : Int := lmax (sh.map (lg ps))
def len (f : F) : Int := (f.map (lmx ps)).sum
def cntF (f : F) : Nat := (f.map List.length).sum
/-- one more piece: the shelf that it lies on, and all of them -/
def chP (f : F) : List (List Nat × F) := (List.range f.length).map (fun p => (f.getD p [] ++ [cntF f], f.take p ++ [f.getD p [] ++ [cntF f]] ++ f.drop (p + 1))) ++ [([cntF f], f ++ [[cntF f]])]
def ch (f : F) : List F := (chP f).map Prod.snd
def subs : Nat → F → List F
  | 0, f => [f]
  | m + 1, f => (ch f).flatMap (subs m)
def okF (f : F) : Bool := f.all fun sh => decide (wsum ps sh ≤ W)
variable (lt : Int × F → Int × F → Bool)
def updB (best : Option (Int × F)) (f : F) : Option (Int × F) := match best with
  | none => some (len ps f, f)
  | some b => if lt (len ps f, f) b then some (len ps f, f) else some b
def cutB (best : Option (Int × F)) (f : F) : Bool := match best with
  | none => false
  | some b => decide (b.1 < len ps f)
def goP : Nat → Option (Int × F) → F → Option (Int × F)
  | 0, best, f => if cutB ps best f then best else updB ps lt best f
  | m + 1, best, f => if cutB ps best f then best else (((chP f).filter fun c => decide (wsum ps c.1 ≤ W)).map Prod.snd).foldl (goP m) best
end
section
variable {ps : List (Int × Int)} {W : Int} {lt : Int × F → Int × F → Bool}
/-- no piece is less than nothing -/
def Pos (ps : List (Int × Int)) : Prop := ∀ i, 0 ≤ wd ps i ∧ 0 ≤ lg ps i
theorem sum_app (a b : List Int) : (a ++ b).sum = a.sum + b.sum := by
  induction a with
  | nil => simp
  | cons x a ih => simp only [List.cons_append, List.sum_cons, ih]; omega
theorem wsum_snoc (sh : List Nat) (i : Nat) : wsum ps (sh ++ [i]) = wsum ps sh + wd ps i := by
  unfold wsum
  rw [List.map_append, sum_app]
  simp
theorem lmax_nn {l : List Int} (h : ∀ x ∈ l, 0 ≤ x) : 0 ≤ lmax l := by
  cases l with
  | nil => exact Int.le_refl _
  | cons x xs => exact h _ (lmax_ok (by simp)).1
theorem lmx_nn (hp : Pos ps) (sh : List Nat) : 0 ≤ lmx ps sh := lmax_nn fun x hx => by
  obtain ⟨i, _, rfl⟩ := List.mem_map.mp hx
  exact (hp i).2
theorem lmx_mem {sh : List Nat} {i : Nat} (h : i ∈ sh) : lg ps i ≤ lmx ps sh := (lmax_ok (ns := sh.map (lg ps)) (by
  intro z
  rw [List.map_eq_nil_iff] at z
  subst z
  cases h)).2 _ (List.mem_map.mpr ⟨i, h, rfl⟩)
theorem lmx_snoc (hp : Pos ps) (sh : List Nat) (i : Nat) : lmx ps sh ≤ lmx ps (sh ++ [i]) := by
  by_cases h : sh = []
  · subst h
    exact lmx_nn hp _
  · have h1 := (lmax_ok (ns := sh.map (lg ps)) (by simpa using h)).1
    obtain ⟨j, hj, e⟩ := List.mem_map.mp h1
    show lmax (sh.map (lg ps)) ≤ _
    rw [← e]
    exact lmx_mem (List.mem_append_left _ hj)
/-- the cases of one more piece -/
theorem mem_chP {f : F} {c : List Nat × F} (h : c ∈ chP f) : (∃ a sh b, f = a ++ sh :: b ∧ c = (sh ++ [cntF f], a ++ (sh ++ [cntF f]) :: b)) ∨ c = ([cntF f], f ++ [[cntF f]]) := by
  unfold chP at h
  rcases List.mem_append.mp h with h | h
  · obtain ⟨p, hp, rfl⟩ := List.mem_map.mp h
    have hl : p < f.length := List.mem_range.mp hp
    have e : f.getD p [] = f[p] := by simp [hl]
    refine .inl ⟨f.take p, f[p], f.drop (p + 1), ?_, ?_⟩
    · conv => lhs; rw [← List.take_append_drop p f]
      rw [List.drop_eq_getElem_cons hl]
    · rw [e]
      simp
  · exact .inr (List.mem_singleton.mp h)
theorem ch_of {f c : F} (h : c ∈ ch f) : ∃ s, (s, c) ∈ chP f := by
  obtain ⟨x, hx, rfl⟩ := List.mem_map.mp h
  exact ⟨x.1, hx⟩
theorem cnt_ch {f c : F} (h : c ∈ ch f) : cntF c = cntF f + 1 := by
  obtain ⟨s, h⟩ := ch_of h
  rcases mem_chP h with ⟨a, sh, b, e1, e2⟩ | e2
  · have e3 : c = a ++ (sh ++ [cntF f]) :: b := congrArg Prod.snd e2
    have ef : cntF f = (a.map List.length).sum + (sh.length + (b.map List.length).sum) := by
      conv => lhs; rw [e1]
      unfold cntF
      simp
    rw [e3]
    show ((a ++ (sh ++ [cntF f]) :: b).map List.length).sum = _
    rw [List.map_append, List.sum_append, List.map_cons, List.sum_cons, List.length_append, ef]
    simp
    omega
  · have e3 : c = f ++ [[cntF f]] := congrArg Prod.snd e2
    rw [e3]
    show ((f ++ [[cntF f]]).map List.length).sum = (f.map List.length).sum + 1
    simp
theorem len_ch (hp : Pos ps) {f c : F} (h : c ∈ ch f) : len ps f ≤ len ps c := by
  obtain ⟨s, h⟩ := ch_of h
  rcases mem_chP h with ⟨a, sh, b, e1, e2⟩ | e2
  · have e3 : c = a ++ (sh ++ [cntF f]) :: b := congrArg Prod.snd e2
    have h1 := lmx_snoc hp sh (cntF f)
    generalize cntF f = k at *
    rw [e3, e1]
    unfold len
    rw [List.map_append, List.map_append, sum_app, sum_app, List.map_cons, List.map_cons, List.sum_cons, List.sum_cons]
    omega
  · have e3 : c = f ++ [[cntF f]] := congrArg Prod.snd e2
    rw [e3]
    unfold len
    rw [List.map_append, sum_app]
    have := lmx_nn hp [cntF f]
    simp
    omega
theorem subs_len (hp : Pos ps) : ∀ (m : Nat) {f x : F}, x ∈ subs m f → len ps f ≤ len ps x
  | 0, f, x, h => by
    rw [List.mem_singleton.mp h]
    exact Int.le_refl _
  | m + 1, f, x, h => by
    obtain ⟨c, hc, hx⟩ := List.mem_flatMap.mp h
    exact Int.le_trans (len_ch hp hc) (subs_len hp m hx)
theorem subs_cnt : ∀ (m : Nat) {f x : F}, x ∈ subs m f → cntF x = cntF f + m
  | 0, f, x, h => by
    rw [List.mem_singleton.mp h]
    rfl
  | m + 1, f, x, h => by
    obtain ⟨c, hc, hx⟩ := List.mem_flatMap.mp h
    rw [subs_cnt m hx, cnt_ch hc]
    omega
/-- a shelf that is too wide stays so -/
def Bad (ps : List (Int × Int)) (W : Int) (f : F) : Prop := ∃ sh ∈ f, W < wsum ps sh
theorem bad_ch (hp : Pos ps) {f c : F} (h : c ∈ ch f) (b : Bad ps W f) : Bad ps W c := by
  obtain ⟨s, h⟩ := ch_of h
  obtain ⟨z, hz, hw⟩ := b
  rcases mem_chP h with ⟨a, sh, b, e1, e2⟩ | e2
  · have e3 : c = a ++ (sh ++ [cntF f]) :: b := congrArg Prod.snd e2
    rw [e3]
    rw [e1] at hz
    rcases List.mem_append.mp hz with q | q
    · exact ⟨z, List.mem_append_left _ q, hw⟩
    · rcases List.mem_cons.mp q with q | q
      · subst q
        refine ⟨_, List.mem_append_right _ List.mem_cons_self, ?_⟩
        rw [wsum_snoc]
        have := (hp (cntF f)).1
        omega
      · exact ⟨z, List.mem_append_right _ (List.mem_cons_of_mem _ q), hw⟩
  · have e3 : c = f ++ [[cntF f]] := congrArg Prod.snd e2
    rw [e3]
    exact ⟨z, List.mem_append_left _ hz, hw⟩
theorem subs_bad (hp : Pos ps) : ∀ (m : Nat) {f x : F}, x ∈ subs m f → Bad ps W f → Bad ps W x
  | 0, f, x, h, b => by
    rw [List.mem_singleton.mp h]
    exact b
  | m + 1, f, x, h, b => by
    obtain ⟨c, hc, hx⟩ := List.mem_flatMap.mp h
    exact subs_bad hp m hx (bad_ch hp hc b)
theorem okF_not {f : F} (h : Bad ps W f) : okF ps W f = false := by
  obtain ⟨sh, hs, hw⟩ := h
  rw [Bool.eq_false_iff]
  intro z
  have := List.all_eq_true.mp z sh hs
  have := of_decide_eq_true this
  omega
theorem ok_ch {f : F} {c : List Nat × F} (hf : okF ps W f = true) (h : c ∈ chP f) (hw : wsum ps c.1 ≤ W) : okF ps W c.2 = true := by
  rw [okF, List.all_eq_true] at hf ⊢
  rcases mem_chP h with ⟨a, sh, b, e1, e2⟩ | e2
  · intro z hz
    rw [e2] at hz hw
    rcases List.mem_append.mp hz with q | q
    · exact hf z (by rw [e1]; exact List.mem_append_left _ q)
    · rcases List.mem_cons.mp q with q | q
      · rw [q]
        exact decide_eq_true hw
      · exact hf z (by rw [e1]; exact List.mem_append_right _ (List.mem_cons_of_mem _ q))
  · intro z hz
    rw [e2] at hz hw
    rcases List.mem_append.mp hz with q | q
    · exact hf z q
    · rw [List.mem_singleton.mp q]
      exact decide_eq_true hw
theorem bad_of {f : F} {c : List Nat × F} (h : c ∈ chP f) (hw : ¬ wsum ps c.1 ≤ W) : Bad ps W c.2 := by
  rcases mem_chP h with ⟨a, sh, b, e1, e2⟩ | e2
  · rw [e2] at hw ⊢
    exact ⟨_, List.mem_append_right _ List.mem_cons_self, Int.not_le.mp hw⟩
  · rw [e2] at hw ⊢
    exact ⟨_, List.mem_append_right _ (List.mem_singleton.mpr rfl), Int.not_le.mp hw⟩
/-- what is longer is never less -/
def LtOk (lt : Int × F → Int × F → Bool) : Prop := ∀ a b : Int × F, b.1 < a.1 → lt a b = false
theorem fold_cut (hlt : LtOk lt) {b : Int × F} : ∀ {xs : List F}, (∀ x ∈ xs, b.1 < len ps x) → xs.foldl (updB ps lt) (some b) = some b
  | [], _ => rfl
  | x :: xs, h => by
    rw [List.foldl_cons]
    have e : updB ps lt (some b) x = some b := by
      show (if lt (len ps x, x) b = true then some (len ps x, x) else some b) = some b
      rw [hlt (len ps x, x) b (h x List.mem_cons_self)]
      rfl
    rw [e]
    exact fold_cut hlt fun y hy => h y (List.mem_cons_of_mem _ hy)
theorem fold_flat {α β : Type} (g : β → α → β) (s : F → List α) : ∀ (l : List F) (b : β), (l.flatMap s).foldl g b = l.foldl (fun b c => (s c).foldl g b) b
  | [], b => rfl
  | c :: l, b => by
    rw [List.flatMap_cons, List.foldl_append, List.foldl_cons]
    exact fold_flat g s l _
theorem goP_ok (hp : Pos ps) (hlt : LtOk lt) : ∀ (m : Nat) (best : Option (Int × F)) (f : F), okF ps W f = true → goP ps W lt m best f = ((subs m f).filter (okF ps W)).foldl (updB ps lt) best
  | 0, best, f, hf => by
    have e : (subs 0 f).filter (okF ps W) = [f] := by
      show [f].filter _ = [f]
      rw [List.filter_cons, hf]
      rfl
    rw [e]
    unfold goP
    cases best with
    | none => rfl
    | some b =>
      by_cases h : b.1 < len ps f
      · rw [if_pos (show cutB ps (some b) f = true from decide_eq_true h)]
        exact (fold_cut hlt (xs := [f]) fun x hx => by rw [List.mem_singleton.mp hx]; exact h).symm
      · rw [if_neg (by show ¬ cutB ps (some b) f = true; unfold cutB; simpa using h)]
        rfl
  | m + 1, best, f, hf => by
    have main : ((subs (m + 1) f).filter (okF ps W)).foldl (updB ps lt) best = (((chP f).filter fun c => decide (wsum ps c.1 ≤ W)).map Prod.snd).foldl (goP ps W lt m) best := by
      show (((ch f).flatMap (subs m)).filter (okF ps W)).foldl _ _ = _
      rw [List.filter_flatMap, fold_flat]
      have key : ∀ (l : List (List Nat × F)) (b : Option (Int × F)), (∀ c ∈ l, c ∈ chP f) → (l.map Prod.snd).foldl (fun b c => ((subs m c).filter (okF ps W)).foldl (updB ps lt) b) b = ((l.filter fun c => decide (wsum ps c.1 ≤ W)).map Prod.snd).foldl (goP ps W lt m) b := by
        intro l
        induction l with
        | nil => intro b _; rfl
        | cons c l ih =>
          intro b hl
          have hc := hl c List.mem_cons_self
          rw [List.map_cons, List.foldl_cons, List.filter_cons]
          by_cases hw : wsum ps c.1 ≤ W
          · rw [if_pos (by simpa using hw), List.map_cons, List.foldl_cons, goP_ok hp hlt m b c.2 (ok_ch hf hc hw)]
            exact ih _ fun x hx => hl x (List.mem_cons_of_mem _ hx)
          · rw [if_neg (by simpa using hw)]
            have e : (subs m c.2).filter (okF ps W) = [] := List.filter_eq_nil_iff.mpr fun x hx => by
              rw [okF_not (subs_bad hp m hx (bad_of hc hw))]
              simp
            rw [e]
            exact ih b fun x hx => hl x (List.mem_cons_of_mem _ hx)
      exact key (chP f) best fun c hc => hc
    unfold goP
    cases best with
    | none => exact main.symm
    | some b =>
      by_cases h : b.1 < len ps f
      · rw [if_pos (show cutB ps (some b) f = true from decide_eq_true h)]
        refine (fold_cut hlt fun x hx => ?_).symm
        have := subs_len hp (m + 1) (List.mem_filter.mp hx).1
        omega
      · rw [if_neg (by show ¬ cutB ps (some b) f = true; unfold cutB; simpa using h)]
        exact main.symm
/-! ### level by level -/
theorem subs_level : ∀ (m : Nat) (f : F), subs (m + 1) f = (subs m f).flatMap ch
  | 0, f => by
    show (ch f).flatMap (fun c => [c]) = [f].flatMap ch
    simp
  | m + 1, f => by
    show (ch f).flatMap (subs (m + 1)) = ((ch f).flatMap (subs m)).flatMap ch
    rw [List.flatMap_assoc]
    congr 1
    funext c
    exact subs_level m c
/-! ### the area -/
def asum (ps : List (Int × Int)) (sh : List Nat) : Int := (sh.map fun i => wd ps i * lg ps i).sum
def areaF (ps : List (Int × Int)) (f : F) : Int := (f.map (asum ps)).sum
theorem asum_snoc (sh : List Nat) (i : Nat) : asum ps (sh ++ [i]) = asum ps sh + wd ps i * lg ps i := by
  unfold asum
  rw [List.map_append, sum_app]
  simp
theorem area_ch {f c : F} (h : c ∈ ch f) : areaF ps c = areaF ps f + wd ps (cntF f) * lg ps (cntF f) := by
  obtain ⟨s, h⟩ := ch_of h
  rcases mem_chP h with ⟨a, sh, b, e1, e2⟩ | e2
  · have e3 : c = a ++ (sh ++ [cntF f]) :: b := congrArg Prod.snd e2
    have h1 := asum_snoc (ps := ps) sh (cntF f)
    generalize cntF f = k at *
    rw [e3, e1]
    unfold areaF
    rw [List.map_append, List.map_append, sum_app, sum_app, List.map_cons, List.map_cons, List.sum_cons, List.sum_cons, h1]
    omega
  · have e3 : c = f ++ [[cntF f]] := congrArg Prod.snd e2
    rw [e3]
    unfold areaF
    rw [List.map_append, sum_app]
    simp [asum]
def arS (ps : List (Int × Int)) (k m : Nat) : Int := ((List.range' k m).map fun i => wd ps i * lg ps i).sum
theorem subs_area : ∀ (m : Nat) {f x : F}, x ∈ subs m f → areaF ps x = areaF ps f + arS ps (cntF f) m
  | 0, f, x, h => by
    rw [List.mem_singleton.mp h]
    simp [arS]
  | m + 1, f, x, h => by
    obtain ⟨c, hc, hx⟩ := List.mem_flatMap.mp h
    rw [subs_area m hx, area_ch hc, cnt_ch hc]
    unfold arS
    rw [List.range'_succ, List.map_cons, List.sum_cons]
    omega
theorem arS_all : arS ps 0 ps.length = (ps.map fun p => p.1 * p.2).sum := by
  unfold arS
  congr 1
  apply List.ext_getElem
  · simp
  · intro i h1 h2
    simp at h1 h2
    simp [wd, lg, h2]
theorem asum_le (hp : Pos ps) : ∀ (sh : List Nat) (M : Int), (∀ i ∈ sh, lg ps i ≤ M) → asum ps sh ≤ wsum ps sh * M
  | [], M, _ => by simp [asum, wsum]
  | i :: sh, M, h => by
    have h1 := asum_le hp sh M fun j hj => h j (List.mem_cons_of_mem _ hj)
    have h2 := Int.mul_le_mul_of_nonneg_left (h i List.mem_cons_self) (hp i).1
    have e1 : asum ps (i :: sh) = wd ps i * lg ps i + asum ps sh := by simp [asum]
    have e2 : wsum ps (i :: sh) = wd ps i + wsum ps sh := by simp [wsum]
    rw [e1, e2, Int.add_mul]
    omega
theorem area_le (hp : Pos ps) : ∀ (f : F), okF ps W f = true → areaF ps f ≤ W * len ps f
  | [], _ => by simp [areaF, len]
  | sh :: f, h => by
    simp only [okF, List.all_cons, Bool.and_eq_true] at h
    have h1 := area_le hp f h.2
    have h2 := asum_le hp sh (lmx ps sh) fun i hi => lmx_mem hi
    have h3 := Int.mul_le_mul_of_nonneg_right (of_decide_eq_true h.1) (lmx_nn hp sh)
    have e1 : areaF ps (sh :: f) = asum ps sh + areaF ps f := by simp [areaF]
    have e2 : len ps (sh :: f) = lmx ps sh + len ps f := by simp [len]
    rw [e1, e2, Int.mul_add]
    omega
def Cov (f : F) : Prop := ∀ i, i < cntF f → ∃ sh ∈ f, i ∈ sh
theorem cov_ch {f c : F} (h : c ∈ ch f) (hv : Cov f) : Cov c := by
  intro i hi
  rw [cnt_ch h] at hi
  obtain ⟨s, h⟩ := ch_of h
  rcases mem_chP h with ⟨a, sh, b, e1, e2⟩ | e2
  · have e3 : c = a ++ (sh ++ [cntF f]) :: b := congrArg Prod.snd e2
    rw [e3]
    by_cases hc : i = cntF f
    · exact ⟨_, List.mem_append_right _ List.mem_cons_self, by rw [hc]; simp⟩
    · obtain ⟨z, hz, hm⟩ := hv i (by omega)
      rw [e1] at hz
      rcases List.mem_append.mp hz with q | q
      · exact ⟨z, List.mem_append_left _ q, hm⟩
      · rcases List.mem_cons.mp q with q | q
        · exact ⟨_, List.mem_append_right _ List.mem_cons_self, List.mem_append_left _ (q ▸ hm)⟩
        · exact ⟨z, List.mem_append_right _ (List.mem_cons_of_mem _ q), hm⟩
  · have e3 : c = f ++ [[cntF f]] := congrArg Prod.snd e2
    rw [e3]
    by_cases hc : i = cntF f
    · exact ⟨[cntF f], by simp, by rw [hc]; simp⟩
    · obtain ⟨z, hz, hm⟩ := hv i (by omega)
      exact ⟨z, List.mem_append_left _ hz, hm⟩
theorem subs_cov : ∀ (m : Nat) {f x : F}, x ∈ subs m f → Cov f → Cov x
  | 0, f, x, h, hv => by
    rw [List.mem_singleton.mp h]
    exact hv
  | m + 1, f, x, h, hv => by
    obtain ⟨c, hc, hx⟩ := List.mem_flatMap.mp h
    exact subs_cov m hx (cov_ch hc hv)
theorem lmx_le_len (hp : Pos ps) : ∀ {f : F} {sh : List Nat}, sh ∈ f → lmx ps sh ≤ len ps f
  | z :: f, sh, h => by
    have e2 : len ps (z :: f) = lmx ps z + len ps f := by simp [len]
    have h0 := lmx_nn hp z
    have hn : ∀ g : F, 0 ≤ len ps g := fun g => by
      induction g with
      | nil => simp [len]
      | cons y g ih =>
        have e : len ps (y :: g) = lmx ps y + len ps g := by simp [len]
        have := lmx_nn hp y
        omega
    rcases List.mem_cons.mp h with q | q
    · subst q
      have := hn f
      omega
    · have := lmx_le_len hp q
      omega
/-- no way is shorter than what the cloth must be -/
theorem bar_le (hp : Pos ps) (hW : 0 < W) {x : F} (h : x ∈ subs ps.length []) (ho : okF ps W x = true) : 0 ≤ len ps x ∧ ((ps.map fun p => p.1 * p.2).sum + W - 1) / W ≤ len ps x ∧ ∀ p ∈ ps, p.2 ≤ len ps x := by
  have ha := subs_area (ps := ps) _ h
  have hc : Cov x := subs_cov _ h fun i hi => by simp [cntF] at hi
  have hn := subs_cnt _ h
  have e0 : cntF ([] : F) = 0 := rfl
  rw [e0, arS_all] at ha
  have e1 : areaF ps ([] : F) = 0 := rfl
  have h1 := area_le hp x ho
  refine ⟨?_, ?_, fun p hpp => ?_⟩
  · have := subs_len hp _ h
    have e2 : len ps ([] : F) = 0 := rfl
    omega
  · rw [ha, e1, Int.zero_add] at h1
    have : ((ps.map fun p => p.1 * p.2).sum + W - 1) / W < len ps x + 1 := by
      apply Int.ediv_lt_of_lt_mul hW
      rw [Int.add_mul, Int.mul_comm (len ps x) W]
      omega
    omega
  · obtain ⟨i, hi, e⟩ := List.getElem_of_mem hpp
    obtain ⟨sh, h2, h3⟩ := hc i (by rw [hn, e0]; omega)
    have h4 := lmx_mem (ps := ps) h3
    have h5 := lmx_le_len hp h2
    have e3 : lg ps i = p.2 := by
      unfold lg
      simp [hi, e]
    omega
/-- what the law asks of the bar -/
theorem bar_law {A W b : Int} {L : List Int} (hW : 0 < W) (hL : ∀ x ∈ L, 0 ≤ x) (hb : b = lmax (0 :: (A + W - 1) / W :: L)) : A ≤ b * W ∧ lmax (L ++ [0]) ≤ b ∧ ¬ (max (lmax (L ++ [0])) 0 < b ∧ A ≤ (b - 1) * W) ∧ ∀ M, 0 ≤ M → (A + W - 1) / W ≤ M → (∀ x ∈ L, x ≤ M) → b ≤ M := by
  obtain ⟨h1, h2⟩ := lmax_ok (ns := 0 :: (A + W - 1) / W :: L) (by simp)
  obtain ⟨h3, h4⟩ := lmax_ok (ns := L ++ [0]) (by simp)
  rw [← hb] at h1 h2
  have d1 : (A + W - 1) / W * W ≤ A + W - 1 := Int.ediv_mul_le _ (by omega)
  have d2 : A + W - 1 < ((A + W - 1) / W + 1) * W := Int.lt_ediv_add_one_mul_self _ hW
  generalize (A + W - 1) / W = c at *
  have hc := h2 c (by simp)
  refine ⟨?_, ?_, fun ⟨z1, z2⟩ => ?_, fun M m0 m1 m2 => ?_⟩
  · have := Int.mul_le_mul_of_nonneg_right hc (Int.le_of_lt hW)
    rw [Int.add_mul] at d2
    omega
  · rcases List.mem_append.mp h3 with q | q
    · exact h2 _ (by simp [q])
    · rw [List.mem_singleton.mp q]
      exact h2 0 (by simp)
  · have hb0 : b = c := by
      rcases List.mem_cons.mp h1 with q | q
      · have := Int.le_max_right (lmax (L ++ [0])) 0
        omega
      · rcases List.mem_cons.mp q with q | q
        · exact q
        · have := h4 b (List.mem_append_left _ q)
          have := Int.le_max_left (lmax (L ++ [0])) 0
          omega
    rw [hb0, Int.sub_mul] at z2
    omega
  · rcases List.mem_cons.mp h1 with q | q
    · omega
    · rcases List.mem_cons.mp q with q | q
      · omega
      · exact m2 b q
end
end K17

set_option Elab.async false
set_option linter.all false
set_option maxRecDepth 100000
set_option maxHeartbeats 4000000
namespace K17
open PySem PySem.Spec PyProof.Rows L2 Dl LamX StX
def top (i : Nat) : Stmt := PySem.Challenge.pw_sailcut_k17_whole_cloth.main.body.getD i (.Pass ⟨0, 0, 0, 0⟩)
abbrev s_is_integer : Stmt := top 1
theorem sc_is_integer : FnScope ["thing"] ["thing"] (defScope s_is_integer) := ⟨rfl, rfl, rfl, by decide +kernel, rfl, by decide +kernel, by decide +kernel⟩
abbrev s_is_within : Stmt := top 2
theorem sc_is_within : FnScope ["thing", "least", "most"] ["thing", "least", "most"] (defScope s_is_within) := ⟨rfl, rfl, rfl, by decide +kernel, rfl, by decide +kernel, by decide +kernel⟩
abbrev s_is_row : Stmt := top 3
theorem sc_is_row : FnScope ["thing"] ["thing"] (defScope s_is_row) := ⟨rfl, rfl, rfl, by decide +kernel, rfl, by decide +kernel, by decide +kernel⟩
abbrev s_is_tuple_of : Stmt := top 4
theorem sc_is_tuple_of : FnScope ["thing", "many"] ["thing", "many"] (defScope s_is_tuple_of) := ⟨rfl, rfl, rfl, by decide +kernel, rfl, by decide +kernel, by decide +kernel⟩
abbrev s_SailError___init__ : Stmt := inClass (top 6) 0
theorem sc_SailError___init__ : FnScope ["self", "value"] ["self", "value"] (defScope s_SailError___init__) := ⟨rfl, rfl, rfl, by decide +kernel, rfl, by decide +kernel, by decide +kernel⟩
abbrev s_check_pieces : Stmt := top 16
theorem sc_check_pieces : FnScope ["pieces", "index", "piece", "one"] ["pieces"] (defScope s_check_pieces) := ⟨rfl, rfl, rfl, by decide +kernel, rfl, by decide +kernel, by decide +kernel⟩
abbrev s_check_cloth : Stmt := top 17
theorem sc_check_cloth : FnScope ["width", "pieces"] ["width", "pieces"] (defScope s_check_cloth) := ⟨rfl, rfl, rfl, by decide +kernel, rfl, by decide +kernel, by decide +kernel⟩
abbrev s_Shelving___init__ : Stmt := inClass (top 18) 0
theorem sc_Shelving___init__ : FnScope ["self", "width", "pieces"] ["self", "width", "pieces"] (defScope s_Shelving___init__) := ⟨rfl, rfl, rfl, by decide +kernel, rfl, by decide +kernel, by decide +kernel⟩
abbrev s_Shelving_length_of : Stmt := inClass (top 18) 1
theorem sc_Shelving_length_of : FnScope ["self", "found", "shelf", "index"] ["self", "found"] (defScope s_Shelving_length_of) := ⟨rfl, rfl, rfl, by decide +kernel, rfl, by decide +kernel, by decide +kernel⟩
abbrev s_Shelving_go : Stmt := inClass (top 18) 2
theorem sc_Shelving_go : FnScope ["self", "found", "length", "shelf", "index", "told", "place", "one"] ["self", "found"] (defScope s_Shelving_go) := ⟨rfl, rfl, rfl, by decide +kernel, rfl, by decide +kernel, by decide +kernel⟩
abbrev s_told_shelves : Stmt := top 19
theorem sc_told_shelves : FnScope ["width", "pieces", "shelving"] ["width", "pieces"] (defScope s_told_shelves) := ⟨rfl, rfl, rfl, by decide +kernel, rfl, by decide +kernel, by decide +kernel⟩
abbrev s_least_cloth : Stmt := top 20
theorem sc_least_cloth : FnScope ["width", "pieces", "found"] ["width", "pieces"] (defScope s_least_cloth) := ⟨rfl, rfl, rfl, by decide +kernel, rfl, by decide +kernel, by decide +kernel⟩
abbrev s_shelves : Stmt := top 21
theorem sc_shelves : FnScope ["width", "pieces", "found"] ["width", "pieces"] (defScope s_shelves) := ⟨rfl, rfl, rfl, by decide +kernel, rfl, by decide +kernel, by decide +kernel⟩
abbrev s_cloth_bar : Stmt := top 22
theorem sc_cloth_bar : FnScope ["width", "pieces", "area", "wide", "long", "_"] ["width", "pieces"] (defScope s_cloth_bar) := ⟨rfl, rfl, rfl, by decide +kernel, rfl, by decide +kernel, by decide +kernel⟩
abbrev s_best_roll : Stmt := top 23
theorem sc_best_roll : FnScope ["rolls", "pieces", "index", "roll", "rows", "width", "price", "found"] ["rolls", "pieces"] (defScope s_best_roll) := ⟨rfl, rfl, rfl, by decide +kernel, rfl, by decide +kernel, by decide +kernel⟩
abbrev s__law_taken : Stmt := top 25
theorem sc__law_taken : FnScope ["row", "many", "found", "cell"] ["row", "many"] (defScope s__law_taken) := ⟨rfl, rfl, rfl, by decide +kernel, rfl, by decide +kernel, by decide +kernel⟩
abbrev s__law_pick : Stmt := top 26
theorem sc__law_pick : FnScope ["row", "some"] ["row", "some"] (defScope s__law_pick) := ⟨rfl, rfl, rfl, by decide +kernel, rfl, by decide +kernel, by decide +kernel⟩
abbrev s__law_alike : Stmt := top 27
theorem sc__law_alike : FnScope ["found", "due", "k", "key"] ["found", "due"] (defScope s__law_alike) := ⟨rfl, rfl, rfl, by decide +kernel, rfl, by decide +kernel, by decide +kernel⟩
abbrev s__law_parts : Stmt := top 28
theorem sc__law_parts : FnScope ["many", "found", "k", "longer", "one", "at"] ["many"] (defScope s__law_parts) := ⟨rfl, rfl, rfl, by decide +kernel, rfl, by decide +kernel, by decide +kernel⟩
abbrev s__law_shelved : Stmt := top 29
theorem sc__law_shelved : FnScope ["width", "pieces", "best", "one", "told", "shelf", "at"] ["width", "pieces"] (defScope s__law_shelved) := ⟨rfl, rfl, rfl, by decide +kernel, rfl, by decide +kernel, by decide +kernel⟩
abbrev s__law_refused : Stmt := top 30
theorem sc__law_refused : FnScope ["ask", "e"] ["ask"] (defScope s__law_refused) := ⟨rfl, rfl, rfl, by decide +kernel, rfl, by decide +kernel, by decide +kernel⟩
abbrev s_law : Stmt := top 31
theorem sc_law : FnScope ["script", "most", "pieces", "due", "area", "long", "bar", "rows", "at", "told", "ask", "bad", "odd", "rolls", "row", "width", "wrong", "k", "piece"] ["script"] (defScope s_law) := ⟨rfl, rfl, rfl, by decide +kernel, rfl, by decide +kernel, by decide +kernel⟩
/-- what the top has written -/
structure Tx (P : Program) (w : World) (K : PySem.W.Frag) (mg : Str → Option Value) (base : Heap) (C1 C2 C3 fI CS : Addr) : Prop where
  d_is_integer : Def K mg "is_integer" s_is_integer
  d_is_within : Def K mg "is_within" s_is_within
  d_is_row : Def K mg "is_row" s_is_row
  d_is_tuple_of : Def K mg "is_tuple_of" s_is_tuple_of
  d_check_pieces : Def K mg "check_pieces" s_check_pieces
  d_check_cloth : Def K mg "check_cloth" s_check_cloth
  d_told_shelves : Def K mg "told_shelves" s_told_shelves
  d_least_cloth : Def K mg "least_cloth" s_least_cloth
  d_shelves : Def K mg "shelves" s_shelves
  d_cloth_bar : Def K mg "cloth_bar" s_cloth_bar
  d_best_roll : Def K mg "best_roll" s_best_roll
  d__law_taken : Def K mg "_law_taken" s__law_taken
  d__law_pick : Def K mg "_law_pick" s__law_pick
  d__law_alike : Def K mg "_law_alike" s__law_alike
  d__law_parts : Def K mg "_law_parts" s__law_parts
  d__law_shelved : Def K mg "_law_shelved" s__law_shelved
  d__law_refused : Def K mg "_law_refused" s__law_refused
  k_Shelving : DefK K mg "Shelving" CS "Shelving.__init__" s_Shelving___init__
  m_length_of : DefM K CS "length_of" "Shelving.length_of" s_Shelving_length_of
  m_go : DefM K CS "go" "Shelving.go" s_Shelving_go
  a_width : NoAttr K CS "width"
  a_pieces : NoAttr K CS "pieces"
  a_best : NoAttr K CS "best"
  b_isinstance : mg "isinstance" = none
  b_len : mg "len" = none
  b_all : mg "all" = none
  b_enumerate : mg "enumerate" = none
  b_range : mg "range" = none
  b_int : mg "int" = none
  b_bool : mg "bool" = none
  b_str : mg "str" = none
  b_list : mg "list" = none
  b_tuple : mg "tuple" = none
  b_dict : mg "dict" = none
  b_repr : mg "repr" = none
  b_sum : mg "sum" = none
  b_max : mg "max" = none
  b_min : mg "min" = none
  k_MOST_WIDTH : ∃ t, mg "MOST_WIDTH" = some (.int 300 t)
  k_MOST_PIECES : ∃ t, mg "MOST_PIECES" = some (.int 10 t)
  k_MOST_SIDE : ∃ t, mg "MOST_SIDE" = some (.int 100 t)
  k_MOST_ROLLS : ∃ t, mg "MOST_ROLLS" = some (.int 10 t)
  k_MOST_PRICE : ∃ t, mg "MOST_PRICE" = some (.int 1000 t)
  e_BadPieces : ErrC K mg "BadPieces" C1 fI
  e_BadRolls : ErrC K mg "BadRolls" C2 fI
  e_BadWidth : ErrC K mg "BadWidth" C3 fI
  ini : IniF P w K mg base fI
  told1 : Told K C1 "pieces" [(C1, "pieces"), (C2, "rolls"), (C3, "width")]
  told2 : Told K C2 "rolls" [(C1, "pieces"), (C2, "rolls"), (C3, "width")]
  told3 : Told K C3 "width" [(C1, "pieces"), (C2, "rolls"), (C3, "width")]
section
variable {P : Program} {w : World} {K : PySem.W.Frag} {mg : Str → Option Value} {base : Heap} {C1 C2 C3 fI CS : Addr} (T : Tx P w K mg base C1 C2 C3 fI CS)
include T
/-! ### basics -/
def isInt : D → Bool
  | .int _ => true
  | _ => false
theorem c_is_integer : Cal P w K mg base 1 "is_integer" ["thing"] (spI K fx0 (fun d : D => [.dat d]) (fun _ => True) (fun d => Eq (.ok (.dat (.bool (isInt d)))))) := by
  refine mk_cal T.d_is_integer sc_is_integer (fun _ => rfl) (fun _ _ _ _ _ _ us hl => match us, hl with | [_], _ => rfl) (fun f cdv A outer s H E hr d _ => ⟨_, (pss_one (ps_ret (pe_and (pe_callB (r := rIsi K) call_isi (by rfl) T.b_isinstance (by decide +kernel) (pa_cons (pv 0) (pa_cons (pe_bltn (v := .ty "int") (u := .type "int") (by rfl) T.b_int (by decide +kernel) rfl) pa_nil))) (pe_one (pe_not (pe_callB (r := rIsi K) call_isi (by rfl) T.b_isinstance (by decide +kernel) (pa_cons (pv 0) (pa_cons (pe_bltn (v := .ty "bool") (u := .type "bool") (by rfl) T.b_bool (by decide +kernel) rfl) pa_nil)))))))), fun G => ?_⟩)
  cases d <;> exact xc_ret (ev_andV (ev_isInt (ev_var rfl)) fun _ => ev_notV (ev_isBool (ev_var rfl))) rfl
def isWithin (lo hi : Int) : D → Bool
  | .int i => decide (lo ≤ i) && decide (i ≤ hi)
  | _ => false
theorem c_is_within : Cal P w K mg base 2 "is_within" ["thing", "least", "most"] (spI K fx0 (fun i : D × Int × Int => [.dat i.1, .dat (.int i.2.1), .dat (.int i.2.2)]) (fun _ => True) (fun i => Eq (.ok (.dat (.bool (isWithin i.2.1 i.2.2 i.1)))))) := by
  have c_is_integer := c_is_integer T
  refine mk_cal T.d_is_within sc_is_within (fun _ => rfl) (fun _ _ _ _ _ _ us hl => match us, hl with | [_, _, _], _ => rfl) (fun f cdv A outer s H E hr i _ => ⟨_, (pss_one (ps_ret (pe_and (pe_cal c_is_integer (hr.mono (by first | decide | omega)) rfl (pa_cons (pv 0) pa_nil)) (pe_one (pe_chain op_le op_le (pv 1) (pv 0) (pv 2)))))), fun G => ?_⟩)
  obtain ⟨d, lo, hi⟩ := i
  cases d with
  | int n => exact xc_retB (ev_andV (ev_callE (PyData.int n) (ea_cons (ev_var rfl) ea_nil) True.intro) fun _ => ev_chain (ev_var rfl) (ev_var rfl) fun _ => ev_var rfl) rfl
  | none => exact xc_retB (ev_andV (b := false) (ev_callE PyData.none (ea_cons (ev_var rfl) ea_nil) True.intro) fun z => by cases z) rfl
  | bool b => exact xc_retB (ev_andV (b := false) (ev_callE (PyData.bool b) (ea_cons (ev_var rfl) ea_nil) True.intro) fun z => by cases z) rfl
  | str b => exact xc_retB (ev_andV (b := false) (ev_callE (PyData.str b) (ea_cons (ev_var rfl) ea_nil) True.intro) fun z => by cases z) rfl
  | list b => exact xc_retB (ev_andV (b := false) (ev_callE (PyData.list b) (ea_cons (ev_var rfl) ea_nil) True.intro) fun z => by cases z) rfl
  | tuple b => exact xc_retB (ev_andV (b := false) (ev_callE (PyData.tuple b) (ea_cons (ev_var rfl) ea_nil) True.intro) fun z => by cases z) rfl
  | dict b => exact xc_retB (ev_andV (b := false) (ev_callE (PyData.dict b) (ea_cons (ev_var rfl) ea_nil) True.intro) fun z => by cases z) rfl
theorem c_is_row : Cal P w K mg base 1 "is_row" ["thing"] (spI K fx0 (fun d : D => [.dat d]) (fun _ => True) (fun d => Eq (.ok (.dat (.bool (dList d || dTuple d)))))) := by
  refine mk_cal T.d_is_row sc_is_row (fun _ => rfl) (fun _ _ _ _ _ _ us hl => match us, hl with | [_], _ => rfl) (fun f cdv A outer s H E hr d _ => ⟨_, (pss_one (ps_ret (pe_callB (r := rIsiT K) call_isiT (by rfl) T.b_isinstance (by decide +kernel) (pa_cons (pv 0) (pa_cons (pe_tup (pa_cons (pe_bltn (v := .ty "list") (u := .type "list") (by rfl) T.b_list (by decide +kernel) rfl) (pa_cons (pe_bltn (v := .ty "tuple") (u := .type "tuple") (by rfl) T.b_tuple (by decide +kernel) rfl) pa_nil))) pa_nil))))), fun G => ?_⟩)
  exact xc_retB (ev_isLT (ev_var rfl)) rfl
def isTupOf (n : Int) : D → Bool
  | .tuple ds => decide ((ds.length : Int) = n)
  | _ => false
theorem c_is_tuple_of : Cal P w K mg base 1 "is_tuple_of" ["thing", "many"] (spI K fx0 (fun i : D × Int => [.dat i.1, .dat (.int i.2)]) (fun _ => True) (fun i => Eq (.ok (.dat (.bool (isTupOf i.2 i.1)))))) := by
  refine mk_cal T.d_is_tuple_of sc_is_tuple_of (fun _ => rfl) (fun _ _ _ _ _ _ us hl => match us, hl with | [_, _], _ => rfl) (fun f cdv A outer s H E hr i _ => ⟨_, (pss_one (ps_ret (pe_and (pe_callB (r := rIsi K) call_isi (by rfl) T.b_isinstance (by decide +kernel) (pa_cons (pv 0) (pa_cons (pe_bltn (v := .ty "tuple") (u := .type "tuple") (by rfl) T.b_tuple (by decide +kernel) rfl) pa_nil))) (pe_one (pe_cmpR (r := rEqD K) (op_eqD (u64 hr)) (pe_callB (r := fun xs H Q => ∃ p ys, xs = [.ref p] ∧ (SqL K H p ys ∨ SqT K H p ys) ∧ Q (.int ys.length) H) call_len_seq (by rfl) T.b_len (by decide +kernel) (pa_cons (pv 0) pa_nil)) (pv 1) (nomark _)))))), fun G => ?_⟩)
  obtain ⟨d, n⟩ := i
  cases d with
  | tuple ds => exact xc_retB (ev_andV (ev_isTuple (d := PyData.tuple ds) (ev_var rfl)) fun _ => ev_eqI (ev_lenU (ds := ds) (eu_of (ev_var rfl))) (ev_var (d := PyData.int n) rfl)) rfl
  | none => exact xc_retB (ev_andV (b := false) (ev_isTuple (d := PyData.none) (ev_var rfl)) fun z => by cases z) rfl
  | bool b => exact xc_retB (ev_andV (b := false) (ev_isTuple (d := PyData.bool b) (ev_var rfl)) fun z => by cases z) rfl
  | int b => exact xc_retB (ev_andV (b := false) (ev_isTuple (d := PyData.int b) (ev_var rfl)) fun z => by cases z) rfl
  | str b => exact xc_retB (ev_andV (b := false) (ev_isTuple (d := PyData.str b) (ev_var rfl)) fun z => by cases z) rfl
  | list b => exact xc_retB (ev_andV (b := false) (ev_isTuple (d := PyData.list b) (ev_var rfl)) fun z => by cases z) rfl
  | dict b => exact xc_retB (ev_andV (b := false) (ev_isTuple (d := PyData.dict b) (ev_var rfl)) fun z => by cases z) rfl

theorem c__law_taken : Cal P w K mg base 1 "_law_taken" ["row", "many"] (spTaken K) := by
  refine mk_calR T.d__law_taken sc__law_taken (fun vs H Q E h => ?_) (fun _ _ _ _ _ _ us hl => match us, hl with | [_, _], _ => rfl) (fun f cdv A outer s H E vs Q hr h => ⟨_, (pss_cons (ps_if (pt_cmpR op_gt (pe_ix (r := rIxL K) ix_list (pv 0) pe_int (fun _ _ => rfl)) pe_int (nomark _)) (pss_cons (ps_set (i := 2) sc__law_taken.nd rfl (Or.inl rfl) (pe_op op_mod (pe_callTy call_int1 (by rfl) T.b_int (by decide +kernel) (pa_cons (pe_ix (r := rIxL K) ix_list (pv 0) pe_int (fun _ _ => rfl)) pa_nil)) (pv 1)))
      (pss_cons (ps_asg (pe_op op_fdiv (pe_ix (r := rIxL K) ix_list (pv 0) pe_int (fun _ _ => rfl)) (pv 1)) (pg_sub (pv 0) pe_int set_list))
      (pss_one (ps_ret (pv 2))))) pss_nil)
      (pss_cons (ps_asg (pe_op op_add (pe_ix (r := rIxL K) ix_list (pv 0) pe_int (fun _ _ => rfl)) pe_int) (pg_sub (pv 0) pe_int set_list))
      (pss_cons (ps_if (pt_cmpR op_gt (pe_ix (r := rIxL K) ix_list (pv 0) pe_int (fun _ _ => rfl)) (pe_callB (r := fun xs H Q => ∃ p ys, xs = [.ref p] ∧ (SqL K H p ys ∨ SqT K H p ys) ∧ Q (.int ys.length) H) call_len_seq (by rfl) T.b_len (by decide +kernel) (pa_cons (pe_ix (r := rIxL K) ix_list (pv 0) pe_int (fun _ _ => rfl)) pa_nil)) (nomark _)) (pss_cons (ps_asg (pe_op op_mod (pe_callTy call_int1 (by rfl) T.b_int (by decide +kernel) (pa_cons (pe_op op_add (pe_op op_mul (pe_ix (r := rIxL K) ix_list (pv 0) pe_int (fun _ _ => rfl)) pe_int) pe_int) pa_nil)) pe_int) (pg_sub (pv 0) pe_int set_list))
      (pss_one (ps_ret (pe_op op_mod (pe_callTy call_int1 (by rfl) T.b_int (by decide +kernel) (pa_cons (pe_op op_fdiv (pe_ix (r := rIxL K) ix_list (pv 0) pe_int (fun _ _ => rfl)) pe_int) pa_nil)) (pv 1))))) pss_nil)
      (pss_cons (ps_set (i := 3) sc__law_taken.nd rfl (Or.inl rfl) (pe_ix (r := rIxL K) ix_list (pe_ix (r := rIxL K) ix_list (pv 0) pe_int (fun _ _ => rfl)) (pe_op op_sub (pe_ix (r := rIxL K) ix_list (pv 0) pe_int (fun _ _ => rfl)) pe_int) (fun _ _ => rfl)))
      (pss_cons (ps_asg (pe_op op_mod (pe_callTy call_int1 (by rfl) T.b_int (by decide +kernel) (pa_cons (pe_op op_add (pe_op op_add (pe_op op_mul (pe_ix (r := rIxL K) ix_list (pv 0) pe_int (fun _ _ => rfl)) pe_int) (pv 3)) pe_int) pa_nil)) pe_int) (pg_sub (pv 0) pe_int set_list))
      (pss_cons (ps_if (pt_cmpR op_ge (pv 3) (pe_op op_pow pe_int pe_int) (nomark _)) (pss_one (ps_asg (pe_op op_fdiv (pv 3) (pv 1)) (pg_sub (pv 0) pe_int set_list))) pss_nil)
      (pss_one (ps_ret (pe_op op_mod (pe_callTy call_int1 (by rfl) T.b_int (by decide +kernel) (pa_cons (pv 3) pa_nil)) (pv 1)))))))))), ?_⟩)
  · obtain ⟨r, sc, ns, many, p, m, c, rfl, _⟩ := h
    rfl
  obtain ⟨r, sc, ns, many, p, m, c, rfl, h0, h1, p0, m0, m1, hr, hs, hso, q⟩ := h
  have mm : ∀ k : Int, 0 ≤ k % 2147483647 ∧ k % 2147483647 < 2147483648 := fun k => by omega
  refine gs_when (gt_test (gv_C0 (gv_ix (gv_var rfl) gv_int (SqL.of hr) rfl) gv_int)) (fun _ => ?_) fun _ => ?_
  · refine gs_asg (gv_IC (gv_toInt (gv_ix (gv_var rfl) gv_int (SqL.of hr) rfl)) (gv_var rfl) h0) ?_
    refine gs_put (gv_IC (gv_ix (gv_var rfl) gv_int (SqL.of hr) rfl) (gv_var rfl) ⟨h0, h1⟩) rfl hr rfl ?_
    exact gs_ret (gv_var rfl) (q _ p m _ (Int.emod_nonneg _ (by omega)) (Int.emod_lt_of_pos _ h0) p0 m0 m1)
  refine gs_put (gv_I0 (gv_ix (gv_var rfl) gv_int (SqL.of hr) rfl) gv_int) rfl hr rfl ?_
  change tSeq _ _ _ _ (upd H r (rowHO sc (p + 1) m c))
  have hr1 : upd H r (rowHO sc (p + 1) m c) r = some (.lst [.ref sc, .int (p + 1), .int m, .int c]) := upd_same
  have hs1 : SqL K (upd H r (rowHO sc (p + 1) m c)) sc (ns.map V.int) := hso _
  refine gs_when (gt_test (gv_C0 (gv_ix (gv_var rfl) gv_int (SqL.of hr1) rfl) (gv_len (gv_ix (gv_var rfl) gv_int (SqL.of hr1) rfl) hs1))) (fun _ => ?_) fun z => ?_
  · refine gs_put (gv_IC (gv_toInt (gv_I0 (gv_IC (gv_ix (gv_var rfl) gv_int (SqL.of hr1) rfl) gv_int (.inl ⟨by omega, by omega⟩)) gv_int)) gv_int (by omega)) rfl hr1 rfl ?_
    rw [upd_twice]
    have hr2 : upd H r (rowHO sc (p + 1) ((m * 48271 + 11) % 2147483647) c) r = some (.lst [.ref sc, .int (p + 1), .int ((m * 48271 + 11) % 2147483647), .int c]) := upd_same
    refine gs_ret (gv_IC (gv_toInt (gv_IC (gv_ix (gv_var rfl) gv_int (SqL.of hr2) rfl) gv_int ⟨by omega, by omega⟩)) (gv_var rfl) h0) ?_
    exact q _ _ _ _ (Int.emod_nonneg _ (by omega)) (Int.emod_lt_of_pos _ h0) (by omega) (mm _).1 (mm _).2
  · have zl : ¬ (p + 1 > ((ns.map V.int).length : Int)) := of_decide_eq_false z
    rw [List.length_map] at zl
    obtain ⟨i, rfl⟩ : ∃ i : Nat, p = i := ⟨p.toNat, by omega⟩
    have hi : i < ns.length := by omega
    have hv : atI (ns.map V.int) ((i : Int) + 1 - 1) = some (.int ns[i]) := by
      unfold atI ixN
      rw [if_pos (by omega), if_pos (by rw [List.length_map]; omega), show ((i : Int) + 1 - 1).toNat = i by omega]
      simp [hi]
    refine gs_asg (gv_ix (gv_ix (gv_var rfl) gv_int (SqL.of hr1) rfl) (gv_I0 (gv_ix (gv_var rfl) gv_int (SqL.of hr1) rfl) gv_int) hs1 hv) ?_
    refine gs_put (gv_IC (gv_toInt (gv_I0 (gv_I0 (gv_IC (gv_ix (gv_var rfl) gv_int (SqL.of hr1) rfl) gv_int (.inl ⟨by omega, by omega⟩)) (gv_var rfl)) gv_int)) gv_int (by omega)) rfl hr1 rfl ?_
    rw [upd_twice]
    have hr2 : upd H r (rowHO sc ((i : Int) + 1) ((m * 48271 + ns[i] + 11) % 2147483647) c) r = some (.lst [.ref sc, .int ((i : Int) + 1), .int ((m * 48271 + ns[i] + 11) % 2147483647), .int c]) := upd_same
    refine gs_if (gt_test (gv_C0 (gv_var rfl) (gv_IC gv_int gv_int ⟨by omega, by omega, by decide⟩))) (fun _ => ?_) fun _ => ?_
    · refine gs_put1 (gv_IC (gv_var rfl) (gv_var rfl) ⟨h0, h1⟩) rfl hr2 rfl ?_
      dsimp only
      rw [upd_twice]
      exact gs_ret (gv_IC (gv_toInt (gv_var rfl)) (gv_var rfl) h0) (q _ _ _ _ (Int.emod_nonneg _ (by omega)) (Int.emod_lt_of_pos _ h0) (by omega) (mm _).1 (mm _).2)
    · unfold tNext
      dsimp only
      exact gs_ret (gv_IC (gv_toInt (gv_var rfl)) (gv_var rfl) h0) (q _ _ _ c (Int.emod_nonneg _ (by omega)) (Int.emod_lt_of_pos _ h0) (by omega) (mm _).1 (mm _).2)
theorem c__law_pick : Cal P w K mg base 2 "_law_pick" ["row", "some"] (spZ fun z : RowZ => spI K (rowFx K z) (fun ds : List D => [.raw (.ref z.r), .dat (.list ds)]) (fun ds => ds ≠ [] ∧ ds.length < 1073741824) (fun ds r => ∃ d, d ∈ ds ∧ r = .ok (.dat d))) := by
  have c__law_taken := c__law_taken T
  refine mk_calZ T.d__law_pick sc__law_pick (fun _ _ => rfl) (fun _ _ _ _ _ _ us hl => match us, hl with | [_, _], _ => rfl) (fun z f cdv A outer s H E hr ds hp => ⟨_, (pss_one (ps_ret (pe_ix (r := rIxL K) ix_list (pv 1) (pe_cal c__law_taken (hr.mono (by first | decide | omega)) rfl (pa_cons (pv 0) (pa_cons (pe_callB (r := fun xs H Q => ∃ p ys, xs = [.ref p] ∧ (SqL K H p ys ∨ SqT K H p ys) ∧ Q (.int ys.length) H) call_len_seq (by rfl) T.b_len (by decide +kernel) (pa_cons (pv 1) pa_nil)) pa_nil))) (fun _ _ => rfl)))), fun G => ?_⟩)
  obtain ⟨h0, h1⟩ := hp
  have hl : 0 < ds.length := List.length_pos_iff.mpr h0
  refine xc_retP (ev_ixLI (S := ⟨K, rowFx K z, G, H, E⟩) (el_of (ev_var rfl)) (ev_taken (ev_varR rfl) (ev_lenL (ds := ds) (el_of (ev_var rfl))) (by omega) (by omega)) (P := fun d => d ∈ ds) fun i hi => ?_) fun s ⟨d, e, hd⟩ => ⟨d, hd, by rw [e]⟩
  obtain ⟨n, rfl⟩ : ∃ n : Nat, i = n := ⟨i.toNat, by omega⟩
  have hn : n < ds.length := by omega
  refine ⟨ds[n], ?_, List.getElem_mem hn⟩
  unfold atI ixN
  rw [if_pos (by omega), if_pos (by omega), show ((n : Int)).toNat = n by omega]
  simp [hn]
/-- data that _law_alike walks within n calls -/
def FlP : Nat → D → Prop
  | 0, _ => False
  | n + 1, .list ds => ds.length ≤ 1000000 ∧ ∀ x ∈ ds, FlP n x
  | n + 1, .tuple ds => ds.length ≤ 1000000 ∧ ∀ x ∈ ds, FlP n x
  | _ + 1, .dict _ => False
  | _ + 1, .str x => SeqAt.shaped (.str x) = true
  | _ + 1, _ => True
omit T in
theorem fm_none (l : List D) : l.filterMap (fun _ => (none : Option D)) = [] := by
  induction l with
  | nil => rfl
  | cons a l ih => rw [List.filterMap_cons, ih]
omit T in
theorem at_rng {ds : List D} {n : Nat} {d : D} (hn : n = ds.length) (h : d ∈ rngD 0 n) : ∃ i x, d = .int i ∧ atI ds i = some x ∧ x ∈ ds := by
  obtain ⟨i, hi⟩ := List.getElem?_of_mem h
  obtain ⟨h1, h2⟩ := rngD_get hi
  have hl : i < ds.length := by omega
  refine ⟨_, ds[i], h2, ?_, List.getElem_mem hl⟩
  unfold atI ixN
  rw [if_pos (by omega), if_pos (by omega), show ((0 : Int) + (i : Int)).toNat = i by omega]
  simp [hl]
omit T in
theorem eqv_b (b c : Bool) : PyData.eqv (.bool b) (.bool c) = (b == c) := by
  cases b <;> cases c <;> kernel_rfl
omit T in
theorem eqv_s (x : Str) : PyData.eqv (.str x) (.str x) = true := by
  simp [PyData.eqv]
theorem c__law_alike : ∀ n, Cal P w K mg base (n + 1) "_law_alike" ["found", "due"] (spI K fx0 (fun d : D => [.dat d, .dat d]) (fun d => FlP n d) (fun d => Eq (.ok (.dat (.bool true))))) := by
  intro n
  induction n with
  | zero => exact mk_cal T.d__law_alike sc__law_alike (fun _ => rfl) (fun _ _ _ _ _ _ us hl => match us, hl with | [_, _], _ => rfl) (fun f cdv A outer s H E hr d hp => hp.elim)
  | succ n c__law_alike =>
    refine mk_cal T.d__law_alike sc__law_alike (fun _ => rfl) (fun _ _ _ _ _ _ us hl => match us, hl with | [_, _], _ => rfl) (fun f cdv A outer s H E hr d hp => ?_)
    cases d with
    | list ds =>
      refine ⟨_, (pss_cons (ps_if (pt_val (pe_callB (r := rIsiT K) call_isiT (by rfl) T.b_isinstance (by decide +kernel) (pa_cons (pv 1) (pa_cons (pe_tup (pa_cons (pe_bltn (v := .ty "tuple") (u := .type "tuple") (by rfl) T.b_tuple (by decide +kernel) rfl) (pa_cons (pe_bltn (v := .ty "list") (u := .type "list") (by rfl) T.b_list (by decide +kernel) rfl) pa_nil))) pa_nil)))) (pss_cons (ps_if (PW.pt (pw_or (pt_not (pt_val (pe_callB (r := rIsiT K) call_isiT (by rfl) T.b_isinstance (by decide +kernel) (pa_cons (pv 0) (pa_cons (pe_tup (pa_cons (pe_bltn (v := .ty "tuple") (u := .type "tuple") (by rfl) T.b_tuple (by decide +kernel) rfl) (pa_cons (pe_bltn (v := .ty "list") (u := .type "list") (by rfl) T.b_list (by decide +kernel) rfl) pa_nil))) pa_nil))))) (pw_or1 (pt_cmpR (r := rNeD K) (op_neD (u64 hr)) (pe_callB (r := rIsi K) call_isi (by rfl) T.b_isinstance (by decide +kernel) (pa_cons (pv 0) (pa_cons (pe_bltn (v := .ty "list") (u := .type "list") (by rfl) T.b_list (by decide +kernel) rfl) pa_nil))) (pe_callB (r := rIsi K) call_isi (by rfl) T.b_isinstance (by decide +kernel) (pa_cons (pv 1) (pa_cons (pe_bltn (v := .ty "list") (u := .type "list") (by rfl) T.b_list (by decide +kernel) rfl) pa_nil))) (nomark _))))) (pss_one (ps_ret pe_bl)) pss_nil)
      (pss_cons (ps_if (pt_cmpR (r := rNeD K) (op_neD (u64 hr)) (pe_callB (r := fun xs H Q => ∃ p ys, xs = [.ref p] ∧ (SqL K H p ys ∨ SqT K H p ys) ∧ Q (.int ys.length) H) call_len_seq (by rfl) T.b_len (by decide +kernel) (pa_cons (pv 0) pa_nil)) (pe_callB (r := fun xs H Q => ∃ p ys, xs = [.ref p] ∧ (SqL K H p ys ∨ SqT K H p ys) ∧ Q (.int ys.length) H) call_len_seq (by rfl) T.b_len (by decide +kernel) (pa_cons (pv 1) pa_nil)) (nomark _)) (pss_one (ps_ret pe_bl)) pss_nil)
      (pss_one (ps_ret (pe_cmpR (r := rEqD K) (op_eqD (u64 hr)) (pe_lc (own := [("k", 2)]) (by rfl) sc__law_alike.nd (pi_range1 (by rfl) T.b_range (pa_cons (pe_callB (r := fun xs H Q => ∃ p ys, xs = [.ref p] ∧ (SqL K H p ys ∨ SqT K H p ys) ∧ Q (.int ys.length) H) call_len_seq (by rfl) T.b_len (by decide +kernel) (pa_cons (pv 1) pa_nil)) pa_nil)) (blkOk_by (N := ["found", "due", "k", "key"]) (sc := defScope s__law_alike) (own := [("k", 2)]) (by decide +kernel)) (fun _ _ _ _ _ => (pg_name (i := 2) sc__law_alike.nd rfl (Or.inl rfl))) (fun _ _ _ _ _ => (pts_one (pt_not (pt_val (pe_cal c__law_alike hr rfl (pa_cons (pe_ix (r := rIxL K) ix_list (pv 0) (pv 2) (fun _ _ => rfl)) (pa_cons (pe_ix (r := rIxL K) ix_list (pv 1) (pv 2) (fun _ _ => rfl)) pa_nil))))))) (fun _ _ _ _ _ => (pv 2))) (pe_lst pa_nil) (nomark _)))))) pss_nil)
      (pss_cons (ps_if (pt_val (pe_callB (r := rIsi K) call_isi (by rfl) T.b_isinstance (by decide +kernel) (pa_cons (pv 1) (pa_cons (pe_bltn (v := .ty "dict") (u := .type "dict") (by rfl) T.b_dict (by decide +kernel) rfl) pa_nil)))) (pss_cons (ps_if (PW.pt (pw_or (pt_not (pt_val (pe_callB (r := rIsi K) call_isi (by rfl) T.b_isinstance (by decide +kernel) (pa_cons (pv 0) (pa_cons (pe_bltn (v := .ty "dict") (u := .type "dict") (by rfl) T.b_dict (by decide +kernel) rfl) pa_nil))))) (pw_or1 (pt_cmpR (r := rNeD K) (op_neD (u64 hr)) (pe_callTy call_list_of (by rfl) T.b_list (by decide +kernel) (pa_cons (pv 0) pa_nil)) (pe_callTy call_list_of (by rfl) T.b_list (by decide +kernel) (pa_cons (pv 1) pa_nil)) (nomark _))))) (pss_one (ps_ret pe_bl)) pss_nil)
      (pss_one (ps_ret (pe_cmpR (r := rEqD K) (op_eqD (u64 hr)) (pe_lc (own := [("key", 3)]) (by rfl) sc__law_alike.nd (pi_list (pv 1)) (blkOk_by (N := ["found", "due", "k", "key"]) (sc := defScope s__law_alike) (own := [("key", 3)]) (by decide +kernel)) (fun _ _ _ _ _ => (pg_name (i := 3) sc__law_alike.nd rfl (Or.inl rfl))) (fun _ _ _ _ _ => (pts_one (pt_not (pt_val (pe_cal c__law_alike hr rfl (pa_cons (pe_ix (r := rIxL K) ix_list (pv 0) (pv 3) (fun _ _ => rfl)) (pa_cons (pe_ix (r := rIxL K) ix_list (pv 1) (pv 3) (fun _ _ => rfl)) pa_nil))))))) (fun _ _ _ _ _ => (pv 3))) (pe_lst pa_nil) (nomark _))))) pss_nil)
      (pss_cons (ps_if (PW.pt (pw_or (pt_cmpR op_isN (pv 1) pe_non (nomark _)) (pw_or1 (pt_val (pe_callB (r := rIsi K) call_isi (by rfl) T.b_isinstance (by decide +kernel) (pa_cons (pv 1) (pa_cons (pe_bltn (v := .ty "str") (u := .type "str") (by rfl) T.b_str (by decide +kernel) rfl) pa_nil))))))) (pss_one (ps_ret (pe_and (pe_cmpR (r := rEqD K) (op_eqD (u64 hr)) (pv 0) (pv 1) (nomark _)) (pe_one (pe_cmpR (r := rEqD K) (op_eqD (u64 hr)) (pe_callB (r := rIsi K) call_isi (by rfl) T.b_isinstance (by decide +kernel) (pa_cons (pv 0) (pa_cons (pe_bltn (v := .ty "str") (u := .type "str") (by rfl) T.b_str (by decide +kernel) rfl) pa_nil))) (pe_callB (r := rIsi K) call_isi (by rfl) T.b_isinstance (by decide +kernel) (pa_cons (pv 1) (pa_cons (pe_bltn (v := .ty "str") (u := .type "str") (by rfl) T.b_str (by decide +kernel) rfl) pa_nil))) (nomark _)))))) pss_nil)
      (pss_one (ps_ret (pe_and (pe_callB (r := rIsi K) call_isi (by rfl) T.b_isinstance (by decide +kernel) (pa_cons (pv 0) (pa_cons (pe_bltn (v := .ty "int") (u := .type "int") (by rfl) T.b_int (by decide +kernel) rfl) pa_nil))) (pe_and (pe_cmpR (r := rEqD K) (op_eqD (u64 hr)) (pe_callB (r := rIsi K) call_isi (by rfl) T.b_isinstance (by decide +kernel) (pa_cons (pv 0) (pa_cons (pe_bltn (v := .ty "bool") (u := .type "bool") (by rfl) T.b_bool (by decide +kernel) rfl) pa_nil))) (pe_callB (r := rIsi K) call_isi (by rfl) T.b_isinstance (by decide +kernel) (pa_cons (pv 1) (pa_cons (pe_bltn (v := .ty "bool") (u := .type "bool") (by rfl) T.b_bool (by decide +kernel) rfl) pa_nil))) (nomark _)) (pe_one (pe_cmpR (r := rEqD K) (op_eqD (u64 hr)) (pv 0) (pv 1) (nomark _)))))))))), fun G => ?_⟩
      obtain ⟨hl, hd⟩ := hp
      refine xs_when (S := ⟨K, fx0, G, H, E⟩) (et_B (ev_isTL (d := .list ds) (ev_var rfl))) (fun _ => ?_) fun z => by cases z
      refine xs_when (et_or (et_not (et_B (ev_isTL (d := .list ds) (ev_var rfl)))) fun _ => et_B (ev_neD (ev_isList (d := .list ds) (ev_var rfl)) (ev_isList (d := .list ds) (ev_var rfl)) rfl rfl)) (fun z => ?_) fun _ => ?_
      · rw [eqv_b] at z
        cases z
      refine xs_when (et_B (ev_neI (ev_lenL (ds := ds) (el_of (ev_var rfl))) (ev_lenL (ds := ds) (el_of (ev_var rfl))))) (fun z => ?_) fun _ => ?_
      · simp at z
      refine xs_ret (ev_eqD (d := .list ((rngD 0 ds.length).filterMap fun _ => none)) (d' := .list []) (ef_filterMap (im_rng1E (ev_lenL (ds := ds) (el_of (ev_var rfl))) (by omega)) (by rw [rngD_length]; exact hl) fun d hdm => ?_).evE ev_lst0 (by rw [fm_none]; rfl) rfl) (by rw [fm_none]; rfl)
      obtain ⟨i, x, rfl, hat, hx⟩ := at_rng rfl hdm
      exact ⟨[2], _, by simp, tg_name, et_is (et_not (et_B (ev_callE x (ea_cons (ev_ixL (el_of (ev_var rfl)) (ev_var rfl) hat) (ea_cons (ev_ixL (el_of (ev_var rfl)) (ev_var rfl) hat) ea_nil)) (hd x hx)))) rfl, fun y hy => by cases hy⟩
    | tuple ds =>
      refine ⟨_, (pss_cons (ps_if (pt_val (pe_callB (r := rIsiT K) call_isiT (by rfl) T.b_isinstance (by decide +kernel) (pa_cons (pv 1) (pa_cons (pe_tup (pa_cons (pe_bltn (v := .ty "tuple") (u := .type "tuple") (by rfl) T.b_tuple (by decide +kernel) rfl) (pa_cons (pe_bltn (v := .ty "list") (u := .type "list") (by rfl) T.b_list (by decide +kernel) rfl) pa_nil))) pa_nil)))) (pss_cons (ps_if (PW.pt (pw_or (pt_not (pt_val (pe_callB (r := rIsiT K) call_isiT (by rfl) T.b_isinstance (by decide +kernel) (pa_cons (pv 0) (pa_cons (pe_tup (pa_cons (pe_bltn (v := .ty "tuple") (u := .type "tuple") (by rfl) T.b_tuple (by decide +kernel) rfl) (pa_cons (pe_bltn (v := .ty "list") (u := .type "list") (by rfl) T.b_list (by decide +kernel) rfl) pa_nil))) pa_nil))))) (pw_or1 (pt_cmpR (r := rNeD K) (op_neD (u64 hr)) (pe_callB (r := rIsi K) call_isi (by rfl) T.b_isinstance (by decide +kernel) (pa_cons (pv 0) (pa_cons (pe_bltn (v := .ty "list") (u := .type "list") (by rfl) T.b_list (by decide +kernel) rfl) pa_nil))) (pe_callB (r := rIsi K) call_isi (by rfl) T.b_isinstance (by decide +kernel) (pa_cons (pv 1) (pa_cons (pe_bltn (v := .ty "list") (u := .type "list") (by rfl) T.b_list (by decide +kernel) rfl) pa_nil))) (nomark _))))) (pss_one (ps_ret pe_bl)) pss_nil)
      (pss_cons (ps_if (pt_cmpR (r := rNeD K) (op_neD (u64 hr)) (pe_callB (r := fun xs H Q => ∃ p ys, xs = [.ref p] ∧ (SqL K H p ys ∨ SqT K H p ys) ∧ Q (.int ys.length) H) call_len_seq (by rfl) T.b_len (by decide +kernel) (pa_cons (pv 0) pa_nil)) (pe_callB (r := fun xs H Q => ∃ p ys, xs = [.ref p] ∧ (SqL K H p ys ∨ SqT K H p ys) ∧ Q (.int ys.length) H) call_len_seq (by rfl) T.b_len (by decide +kernel) (pa_cons (pv 1) pa_nil)) (nomark _)) (pss_one (ps_ret pe_bl)) pss_nil)
      (pss_one (ps_ret (pe_cmpR (r := rEqD K) (op_eqD (u64 hr)) (pe_lc (own := [("k", 2)]) (by rfl) sc__law_alike.nd (pi_range1 (by rfl) T.b_range (pa_cons (pe_callB (r := fun xs H Q => ∃ p ys, xs = [.ref p] ∧ (SqL K H p ys ∨ SqT K H p ys) ∧ Q (.int ys.length) H) call_len_seq (by rfl) T.b_len (by decide +kernel) (pa_cons (pv 1) pa_nil)) pa_nil)) (blkOk_by (N := ["found", "due", "k", "key"]) (sc := defScope s__law_alike) (own := [("k", 2)]) (by decide +kernel)) (fun _ _ _ _ _ => (pg_name (i := 2) sc__law_alike.nd rfl (Or.inl rfl))) (fun _ _ _ _ _ => (pts_one (pt_not (pt_val (pe_cal c__law_alike hr rfl (pa_cons (pe_ix (r := rIxT K) ix_tup (pv 0) (pv 2) (fun _ _ => rfl)) (pa_cons (pe_ix (r := rIxT K) ix_tup (pv 1) (pv 2) (fun _ _ => rfl)) pa_nil))))))) (fun _ _ _ _ _ => (pv 2))) (pe_lst pa_nil) (nomark _)))))) pss_nil)
      (pss_cons (ps_if (pt_val (pe_callB (r := rIsi K) call_isi (by rfl) T.b_isinstance (by decide +kernel) (pa_cons (pv 1) (pa_cons (pe_bltn (v := .ty "dict") (u := .type "dict") (by rfl) T.b_dict (by decide +kernel) rfl) pa_nil)))) (pss_cons (ps_if (PW.pt (pw_or (pt_not (pt_val (pe_callB (r := rIsi K) call_isi (by rfl) T.b_isinstance (by decide +kernel) (pa_cons (pv 0) (pa_cons (pe_bltn (v := .ty "dict") (u := .type "dict") (by rfl) T.b_dict (by decide +kernel) rfl) pa_nil))))) (pw_or1 (pt_cmpR (r := rNeD K) (op_neD (u64 hr)) (pe_callTy call_list_of (by rfl) T.b_list (by decide +kernel) (pa_cons (pv 0) pa_nil)) (pe_callTy call_list_of (by rfl) T.b_list (by decide +kernel) (pa_cons (pv 1) pa_nil)) (nomark _))))) (pss_one (ps_ret pe_bl)) pss_nil)
      (pss_one (ps_ret (pe_cmpR (r := rEqD K) (op_eqD (u64 hr)) (pe_lc (own := [("key", 3)]) (by rfl) sc__law_alike.nd (pi_list (pv 1)) (blkOk_by (N := ["found", "due", "k", "key"]) (sc := defScope s__law_alike) (own := [("key", 3)]) (by decide +kernel)) (fun _ _ _ _ _ => (pg_name (i := 3) sc__law_alike.nd rfl (Or.inl rfl))) (fun _ _ _ _ _ => (pts_one (pt_not (pt_val (pe_cal c__law_alike hr rfl (pa_cons (pe_ix (r := rIxT K) ix_tup (pv 0) (pv 3) (fun _ _ => rfl)) (pa_cons (pe_ix (r := rIxT K) ix_tup (pv 1) (pv 3) (fun _ _ => rfl)) pa_nil))))))) (fun _ _ _ _ _ => (pv 3))) (pe_lst pa_nil) (nomark _))))) pss_nil)
      (pss_cons (ps_if (PW.pt (pw_or (pt_cmpR op_isN (pv 1) pe_non (nomark _)) (pw_or1 (pt_val (pe_callB (r := rIsi K) call_isi (by rfl) T.b_isinstance (by decide +kernel) (pa_cons (pv 1) (pa_cons (pe_bltn (v := .ty "str") (u := .type "str") (by rfl) T.b_str (by decide +kernel) rfl) pa_nil))))))) (pss_one (ps_ret (pe_and (pe_cmpR (r := rEqD K) (op_eqD (u64 hr)) (pv 0) (pv 1) (nomark _)) (pe_one (pe_cmpR (r := rEqD K) (op_eqD (u64 hr)) (pe_callB (r := rIsi K) call_isi (by rfl) T.b_isinstance (by decide +kernel) (pa_cons (pv 0) (pa_cons (pe_bltn (v := .ty "str") (u := .type "str") (by rfl) T.b_str (by decide +kernel) rfl) pa_nil))) (pe_callB (r := rIsi K) call_isi (by rfl) T.b_isinstance (by decide +kernel) (pa_cons (pv 1) (pa_cons (pe_bltn (v := .ty "str") (u := .type "str") (by rfl) T.b_str (by decide +kernel) rfl) pa_nil))) (nomark _)))))) pss_nil)
      (pss_one (ps_ret (pe_and (pe_callB (r := rIsi K) call_isi (by rfl) T.b_isinstance (by decide +kernel) (pa_cons (pv 0) (pa_cons (pe_bltn (v := .ty "int") (u := .type "int") (by rfl) T.b_int (by decide +kernel) rfl) pa_nil))) (pe_and (pe_cmpR (r := rEqD K) (op_eqD (u64 hr)) (pe_callB (r := rIsi K) call_isi (by rfl) T.b_isinstance (by decide +kernel) (pa_cons (pv 0) (pa_cons (pe_bltn (v := .ty "bool") (u := .type "bool") (by rfl) T.b_bool (by decide +kernel) rfl) pa_nil))) (pe_callB (r := rIsi K) call_isi (by rfl) T.b_isinstance (by decide +kernel) (pa_cons (pv 1) (pa_cons (pe_bltn (v := .ty "bool") (u := .type "bool") (by rfl) T.b_bool (by decide +kernel) rfl) pa_nil))) (nomark _)) (pe_one (pe_cmpR (r := rEqD K) (op_eqD (u64 hr)) (pv 0) (pv 1) (nomark _)))))))))), fun G => ?_⟩
      obtain ⟨hl, hd⟩ := hp
      refine xs_when (S := ⟨K, fx0, G, H, E⟩) (et_B (ev_isTL (d := .tuple ds) (ev_var rfl))) (fun _ => ?_) fun z => by cases z
      refine xs_when (et_or (et_not (et_B (ev_isTL (d := .tuple ds) (ev_var rfl)))) fun _ => et_B (ev_neD (ev_isList (d := .tuple ds) (ev_var rfl)) (ev_isList (d := .tuple ds) (ev_var rfl)) rfl rfl)) (fun z => ?_) fun _ => ?_
      · rw [eqv_b] at z
        cases z
      refine xs_when (et_B (ev_neI (ev_lenU (ds := ds) (eu_of (ev_var rfl))) (ev_lenU (ds := ds) (eu_of (ev_var rfl))))) (fun z => ?_) fun _ => ?_
      · simp at z
      refine xs_ret (ev_eqD (d := .list ((rngD 0 ds.length).filterMap fun _ => none)) (d' := .list []) (ef_filterMap (im_rng1E (ev_lenU (ds := ds) (eu_of (ev_var rfl))) (by omega)) (by rw [rngD_length]; exact hl) fun d hdm => ?_).evE ev_lst0 (by rw [fm_none]; rfl) rfl) (by rw [fm_none]; rfl)
      obtain ⟨i, x, rfl, hat, hx⟩ := at_rng rfl hdm
      exact ⟨[2], _, by simp, tg_name, et_is (et_not (et_B (ev_callE x (ea_cons (ev_ixT (eu_of (ev_var rfl)) (ev_var rfl) hat) (ea_cons (ev_ixT (eu_of (ev_var rfl)) (ev_var rfl) hat) ea_nil)) (hd x hx)))) rfl, fun y hy => by cases hy⟩
    | dict ds => exact hp.elim
    | none =>
      refine ⟨_, (pss_cons (ps_if (pt_val (pe_callB (r := rIsiT K) call_isiT (by rfl) T.b_isinstance (by decide +kernel) (pa_cons (pv 1) (pa_cons (pe_tup (pa_cons (pe_bltn (v := .ty "tuple") (u := .type "tuple") (by rfl) T.b_tuple (by decide +kernel) rfl) (pa_cons (pe_bltn (v := .ty "list") (u := .type "list") (by rfl) T.b_list (by decide +kernel) rfl) pa_nil))) pa_nil)))) (pss_cons (ps_if (PW.pt (pw_or (pt_not (pt_val (pe_callB (r := rIsiT K) call_isiT (by rfl) T.b_isinstance (by decide +kernel) (pa_cons (pv 0) (pa_cons (pe_tup (pa_cons (pe_bltn (v := .ty "tuple") (u := .type "tuple") (by rfl) T.b_tuple (by decide +kernel) rfl) (pa_cons (pe_bltn (v := .ty "list") (u := .type "list") (by rfl) T.b_list (by decide +kernel) rfl) pa_nil))) pa_nil))))) (pw_or1 (pt_cmpR (r := rNeD K) (op_neD (u64 hr)) (pe_callB (r := rIsi K) call_isi (by rfl) T.b_isinstance (by decide +kernel) (pa_cons (pv 0) (pa_cons (pe_bltn (v := .ty "list") (u := .type "list") (by rfl) T.b_list (by decide +kernel) rfl) pa_nil))) (pe_callB (r := rIsi K) call_isi (by rfl) T.b_isinstance (by decide +kernel) (pa_cons (pv 1) (pa_cons (pe_bltn (v := .ty "list") (u := .type "list") (by rfl) T.b_list (by decide +kernel) rfl) pa_nil))) (nomark _))))) (pss_one (ps_ret pe_bl)) pss_nil)
      (pss_cons (ps_if (pt_cmpR (r := rNeD K) (op_neD (u64 hr)) (pe_callB (r := fun xs H Q => ∃ p ys, xs = [.ref p] ∧ (SqL K H p ys ∨ SqT K H p ys) ∧ Q (.int ys.length) H) call_len_seq (by rfl) T.b_len (by decide +kernel) (pa_cons (pv 0) pa_nil)) (pe_callB (r := fun xs H Q => ∃ p ys, xs = [.ref p] ∧ (SqL K H p ys ∨ SqT K H p ys) ∧ Q (.int ys.length) H) call_len_seq (by rfl) T.b_len (by decide +kernel) (pa_cons (pv 1) pa_nil)) (nomark _)) (pss_one (ps_ret pe_bl)) pss_nil)
      (pss_one (ps_ret (pe_cmpR (r := rEqD K) (op_eqD (u64 hr)) (pe_lc (own := [("k", 2)]) (by rfl) sc__law_alike.nd (pi_range1 (by rfl) T.b_range (pa_cons (pe_callB (r := fun xs H Q => ∃ p ys, xs = [.ref p] ∧ (SqL K H p ys ∨ SqT K H p ys) ∧ Q (.int ys.length) H) call_len_seq (by rfl) T.b_len (by decide +kernel) (pa_cons (pv 1) pa_nil)) pa_nil)) (blkOk_by (N := ["found", "due", "k", "key"]) (sc := defScope s__law_alike) (own := [("k", 2)]) (by decide +kernel)) (fun _ _ _ _ _ => (pg_name (i := 2) sc__law_alike.nd rfl (Or.inl rfl))) (fun _ _ _ _ _ => (pts_one (pt_not (pt_val (pe_cal c__law_alike hr rfl (pa_cons (pe_ix (r := rIxT K) ix_tup (pv 0) (pv 2) (fun _ _ => rfl)) (pa_cons (pe_ix (r := rIxT K) ix_tup (pv 1) (pv 2) (fun _ _ => rfl)) pa_nil))))))) (fun _ _ _ _ _ => (pv 2))) (pe_lst pa_nil) (nomark _)))))) pss_nil)
      (pss_cons (ps_if (pt_val (pe_callB (r := rIsi K) call_isi (by rfl) T.b_isinstance (by decide +kernel) (pa_cons (pv 1) (pa_cons (pe_bltn (v := .ty "dict") (u := .type "dict") (by rfl) T.b_dict (by decide +kernel) rfl) pa_nil)))) (pss_cons (ps_if (PW.pt (pw_or (pt_not (pt_val (pe_callB (r := rIsi K) call_isi (by rfl) T.b_isinstance (by decide +kernel) (pa_cons (pv 0) (pa_cons (pe_bltn (v := .ty "dict") (u := .type "dict") (by rfl) T.b_dict (by decide +kernel) rfl) pa_nil))))) (pw_or1 (pt_cmpR (r := rNeD K) (op_neD (u64 hr)) (pe_callTy call_list_of (by rfl) T.b_list (by decide +kernel) (pa_cons (pv 0) pa_nil)) (pe_callTy call_list_of (by rfl) T.b_list (by decide +kernel) (pa_cons (pv 1) pa_nil)) (nomark _))))) (pss_one (ps_ret pe_bl)) pss_nil)
      (pss_one (ps_ret (pe_cmpR (r := rEqD K) (op_eqD (u64 hr)) (pe_lc (own := [("key", 3)]) (by rfl) sc__law_alike.nd (pi_list (pv 1)) (blkOk_by (N := ["found", "due", "k", "key"]) (sc := defScope s__law_alike) (own := [("key", 3)]) (by decide +kernel)) (fun _ _ _ _ _ => (pg_name (i := 3) sc__law_alike.nd rfl (Or.inl rfl))) (fun _ _ _ _ _ => (pts_one (pt_not (pt_val (pe_cal c__law_alike hr rfl (pa_cons (pe_ix (r := rIxT K) ix_tup (pv 0) (pv 3) (fun _ _ => rfl)) (pa_cons (pe_ix (r := rIxT K) ix_tup (pv 1) (pv 3) (fun _ _ => rfl)) pa_nil))))))) (fun _ _ _ _ _ => (pv 3))) (pe_lst pa_nil) (nomark _))))) pss_nil)
      (pss_cons (ps_if (PW.pt (pw_or (pt_cmpR op_isN (pv 1) pe_non (nomark _)) (pw_or1 (pt_val (pe_callB (r := rIsi K) call_isi (by rfl) T.b_isinstance (by decide +kernel) (pa_cons (pv 1) (pa_cons (pe_bltn (v := .ty "str") (u := .type "str") (by rfl) T.b_str (by decide +kernel) rfl) pa_nil))))))) (pss_one (ps_ret (pe_and (pe_cmpR (r := rEqD K) (op_eqD (u64 hr)) (pv 0) (pv 1) (nomark _)) (pe_one (pe_cmpR (r := rEqD K) (op_eqD (u64 hr)) (pe_callB (r := rIsi K) call_isi (by rfl) T.b_isinstance (by decide +kernel) (pa_cons (pv 0) (pa_cons (pe_bltn (v := .ty "str") (u := .type "str") (by rfl) T.b_str (by decide +kernel) rfl) pa_nil))) (pe_callB (r := rIsi K) call_isi (by rfl) T.b_isinstance (by decide +kernel) (pa_cons (pv 1) (pa_cons (pe_bltn (v := .ty "str") (u := .type "str") (by rfl) T.b_str (by decide +kernel) rfl) pa_nil))) (nomark _)))))) pss_nil)
      (pss_one (ps_ret (pe_and (pe_callB (r := rIsi K) call_isi (by rfl) T.b_isinstance (by decide +kernel) (pa_cons (pv 0) (pa_cons (pe_bltn (v := .ty "int") (u := .type "int") (by rfl) T.b_int (by decide +kernel) rfl) pa_nil))) (pe_and (pe_cmpR (r := rEqD K) (op_eqD (u64 hr)) (pe_callB (r := rIsi K) call_isi (by rfl) T.b_isinstance (by decide +kernel) (pa_cons (pv 0) (pa_cons (pe_bltn (v := .ty "bool") (u := .type "bool") (by rfl) T.b_bool (by decide +kernel) rfl) pa_nil))) (pe_callB (r := rIsi K) call_isi (by rfl) T.b_isinstance (by decide +kernel) (pa_cons (pv 1) (pa_cons (pe_bltn (v := .ty "bool") (u := .type "bool") (by rfl) T.b_bool (by decide +kernel) rfl) pa_nil))) (nomark _)) (pe_one (pe_cmpR (r := rEqD K) (op_eqD (u64 hr)) (pv 0) (pv 1) (nomark _)))))))))), fun G => ?_⟩
      refine xs_when (S := ⟨K, fx0, G, H, E⟩) (et_B (ev_isTL (d := .none) (ev_var rfl))) (fun z => by cases z) fun _ => ?_
      refine xs_when (et_B (ev_isDict (d := .none) (ev_var rfl))) (fun z => by cases z) fun _ => ?_
      refine xs_when (et_orT (et_B (ev_isN (d := .none) (ev_var rfl)))) (fun _ => ?_) fun z => by cases z
      exact xs_ret (ev_andV (ev_eqD (d := .none) (d' := .none) (ev_var rfl) (ev_var rfl) rfl rfl) fun _ => ev_eqD (ev_isStr (d := .none) (ev_var rfl)) (ev_isStr (d := .none) (ev_var rfl)) rfl rfl) rfl
    | str x =>
      refine ⟨_, (pss_cons (ps_if (pt_val (pe_callB (r := rIsiT K) call_isiT (by rfl) T.b_isinstance (by decide +kernel) (pa_cons (pv 1) (pa_cons (pe_tup (pa_cons (pe_bltn (v := .ty "tuple") (u := .type "tuple") (by rfl) T.b_tuple (by decide +kernel) rfl) (pa_cons (pe_bltn (v := .ty "list") (u := .type "list") (by rfl) T.b_list (by decide +kernel) rfl) pa_nil))) pa_nil)))) (pss_cons (ps_if (PW.pt (pw_or (pt_not (pt_val (pe_callB (r := rIsiT K) call_isiT (by rfl) T.b_isinstance (by decide +kernel) (pa_cons (pv 0) (pa_cons (pe_tup (pa_cons (pe_bltn (v := .ty "tuple") (u := .type "tuple") (by rfl) T.b_tuple (by decide +kernel) rfl) (pa_cons (pe_bltn (v := .ty "list") (u := .type "list") (by rfl) T.b_list (by decide +kernel) rfl) pa_nil))) pa_nil))))) (pw_or1 (pt_cmpR (r := rNeD K) (op_neD (u64 hr)) (pe_callB (r := rIsi K) call_isi (by rfl) T.b_isinstance (by decide +kernel) (pa_cons (pv 0) (pa_cons (pe_bltn (v := .ty "list") (u := .type "list") (by rfl) T.b_list (by decide +kernel) rfl) pa_nil))) (pe_callB (r := rIsi K) call_isi (by rfl) T.b_isinstance (by decide +kernel) (pa_cons (pv 1) (pa_cons (pe_bltn (v := .ty "list") (u := .type "list") (by rfl) T.b_list (by decide +kernel) rfl) pa_nil))) (nomark _))))) (pss_one (ps_ret pe_bl)) pss_nil)
      (pss_cons (ps_if (pt_cmpR (r := rNeD K) (op_neD (u64 hr)) (pe_callB (r := fun xs H Q => ∃ p ys, xs = [.ref p] ∧ (SqL K H p ys ∨ SqT K H p ys) ∧ Q (.int ys.length) H) call_len_seq (by rfl) T.b_len (by decide +kernel) (pa_cons (pv 0) pa_nil)) (pe_callB (r := fun xs H Q => ∃ p ys, xs = [.ref p] ∧ (SqL K H p ys ∨ SqT K H p ys) ∧ Q (.int ys.length) H) call_len_seq (by rfl) T.b_len (by decide +kernel) (pa_cons (pv 1) pa_nil)) (nomark _)) (pss_one (ps_ret pe_bl)) pss_nil)
      (pss_one (ps_ret (pe_cmpR (r := rEqD K) (op_eqD (u64 hr)) (pe_lc (own := [("k", 2)]) (by rfl) sc__law_alike.nd (pi_range1 (by rfl) T.b_range (pa_cons (pe_callB (r := fun xs H Q => ∃ p ys, xs = [.ref p] ∧ (SqL K H p ys ∨ SqT K H p ys) ∧ Q (.int ys.length) H) call_len_seq (by rfl) T.b_len (by decide +kernel) (pa_cons (pv 1) pa_nil)) pa_nil)) (blkOk_by (N := ["found", "due", "k", "key"]) (sc := defScope s__law_alike) (own := [("k", 2)]) (by decide +kernel)) (fun _ _ _ _ _ => (pg_name (i := 2) sc__law_alike.nd rfl (Or.inl rfl))) (fun _ _ _ _ _ => (pts_one (pt_not (pt_val (pe_cal c__law_alike hr rfl (pa_cons (pe_ix (r := rIxT K) ix_tup (pv 0) (pv 2) (fun _ _ => rfl)) (pa_cons (pe_ix (r := rIxT K) ix_tup (pv 1) (pv 2) (fun _ _ => rfl)) pa_nil))))))) (fun _ _ _ _ _ => (pv 2))) (pe_lst pa_nil) (nomark _)))))) pss_nil)
      (pss_cons (ps_if (pt_val (pe_callB (r := rIsi K) call_isi (by rfl) T.b_isinstance (by decide +kernel) (pa_cons (pv 1) (pa_cons (pe_bltn (v := .ty "dict") (u := .type "dict") (by rfl) T.b_dict (by decide +kernel) rfl) pa_nil)))) (pss_cons (ps_if (PW.pt (pw_or (pt_not (pt_val (pe_callB (r := rIsi K) call_isi (by rfl) T.b_isinstance (by decide +kernel) (pa_cons (pv 0) (pa_cons (pe_bltn (v := .ty "dict") (u := .type "dict") (by rfl) T.b_dict (by decide +kernel) rfl) pa_nil))))) (pw_or1 (pt_cmpR (r := rNeD K) (op_neD (u64 hr)) (pe_callTy call_list_of (by rfl) T.b_list (by decide +kernel) (pa_cons (pv 0) pa_nil)) (pe_callTy call_list_of (by rfl) T.b_list (by decide +kernel) (pa_cons (pv 1) pa_nil)) (nomark _))))) (pss_one (ps_ret pe_bl)) pss_nil)
      (pss_one (ps_ret (pe_cmpR (r := rEqD K) (op_eqD (u64 hr)) (pe_lc (own := [("key", 3)]) (by rfl) sc__law_alike.nd (pi_list (pv 1)) (blkOk_by (N := ["found", "due", "k", "key"]) (sc := defScope s__law_alike) (own := [("key", 3)]) (by decide +kernel)) (fun _ _ _ _ _ => (pg_name (i := 3) sc__law_alike.nd rfl (Or.inl rfl))) (fun _ _ _ _ _ => (pts_one (pt_not (pt_val (pe_cal c__law_alike hr rfl (pa_cons (pe_ix (r := rIxT K) ix_tup (pv 0) (pv 3) (fun _ _ => rfl)) (pa_cons (pe_ix (r := rIxT K) ix_tup (pv 1) (pv 3) (fun _ _ => rfl)) pa_nil))))))) (fun _ _ _ _ _ => (pv 3))) (pe_lst pa_nil) (nomark _))))) pss_nil)
      (pss_cons (ps_if (PW.pt (pw_or (pt_cmpR op_isN (pv 1) pe_non (nomark _)) (pw_or1 (pt_val (pe_callB (r := rIsi K) call_isi (by rfl) T.b_isinstance (by decide +kernel) (pa_cons (pv 1) (pa_cons (pe_bltn (v := .ty "str") (u := .type "str") (by rfl) T.b_str (by decide +kernel) rfl) pa_nil))))))) (pss_one (ps_ret (pe_and (pe_cmpR (r := rEqD K) (op_eqD (u64 hr)) (pv 0) (pv 1) (nomark _)) (pe_one (pe_cmpR (r := rEqD K) (op_eqD (u64 hr)) (pe_callB (r := rIsi K) call_isi (by rfl) T.b_isinstance (by decide +kernel) (pa_cons (pv 0) (pa_cons (pe_bltn (v := .ty "str") (u := .type "str") (by rfl) T.b_str (by decide +kernel) rfl) pa_nil))) (pe_callB (r := rIsi K) call_isi (by rfl) T.b_isinstance (by decide +kernel) (pa_cons (pv 1) (pa_cons (pe_bltn (v := .ty "str") (u := .type "str") (by rfl) T.b_str (by decide +kernel) rfl) pa_nil))) (nomark _)))))) pss_nil)
      (pss_one (ps_ret (pe_and (pe_callB (r := rIsi K) call_isi (by rfl) T.b_isinstance (by decide +kernel) (pa_cons (pv 0) (pa_cons (pe_bltn (v := .ty "int") (u := .type "int") (by rfl) T.b_int (by decide +kernel) rfl) pa_nil))) (pe_and (pe_cmpR (r := rEqD K) (op_eqD (u64 hr)) (pe_callB (r := rIsi K) call_isi (by rfl) T.b_isinstance (by decide +kernel) (pa_cons (pv 0) (pa_cons (pe_bltn (v := .ty "bool") (u := .type "bool") (by rfl) T.b_bool (by decide +kernel) rfl) pa_nil))) (pe_callB (r := rIsi K) call_isi (by rfl) T.b_isinstance (by decide +kernel) (pa_cons (pv 1) (pa_cons (pe_bltn (v := .ty "bool") (u := .type "bool") (by rfl) T.b_bool (by decide +kernel) rfl) pa_nil))) (nomark _)) (pe_one (pe_cmpR (r := rEqD K) (op_eqD (u64 hr)) (pv 0) (pv 1) (nomark _)))))))))), fun G => ?_⟩
      refine xs_when (S := ⟨K, fx0, G, H, E⟩) (et_B (ev_isTL (d := .str x) (ev_var rfl))) (fun z => by cases z) fun _ => ?_
      refine xs_when (et_B (ev_isDict (d := .str x) (ev_var rfl))) (fun z => by cases z) fun _ => ?_
      refine xs_when (et_or (et_B (ev_isN (d := .str x) (ev_var rfl))) fun _ => et_B (ev_isStr (d := .str x) (ev_var rfl))) (fun _ => ?_) fun z => by cases z
      exact xs_ret (ev_andV (ev_eqD (d := .str x) (d' := .str x) (ev_var rfl) (ev_var rfl) hp hp) fun _ => ev_eqD (ev_isStr (d := .str x) (ev_var rfl)) (ev_isStr (d := .str x) (ev_var rfl)) rfl rfl) (by rw [eqv_s, eqv_b]; rfl)
    | int i =>
      refine ⟨_, (pss_cons (ps_if (pt_val (pe_callB (r := rIsiT K) call_isiT (by rfl) T.b_isinstance (by decide +kernel) (pa_cons (pv 1) (pa_cons (pe_tup (pa_cons (pe_bltn (v := .ty "tuple") (u := .type "tuple") (by rfl) T.b_tuple (by decide +kernel) rfl) (pa_cons (pe_bltn (v := .ty "list") (u := .type "list") (by rfl) T.b_list (by decide +kernel) rfl) pa_nil))) pa_nil)))) (pss_cons (ps_if (PW.pt (pw_or (pt_not (pt_val (pe_callB (r := rIsiT K) call_isiT (by rfl) T.b_isinstance (by decide +kernel) (pa_cons (pv 0) (pa_cons (pe_tup (pa_cons (pe_bltn (v := .ty "tuple") (u := .type "tuple") (by rfl) T.b_tuple (by decide +kernel) rfl) (pa_cons (pe_bltn (v := .ty "list") (u := .type "list") (by rfl) T.b_list (by decide +kernel) rfl) pa_nil))) pa_nil))))) (pw_or1 (pt_cmpR (r := rNeD K) (op_neD (u64 hr)) (pe_callB (r := rIsi K) call_isi (by rfl) T.b_isinstance (by decide +kernel) (pa_cons (pv 0) (pa_cons (pe_bltn (v := .ty "list") (u := .type "list") (by rfl) T.b_list (by decide +kernel) rfl) pa_nil))) (pe_callB (r := rIsi K) call_isi (by rfl) T.b_isinstance (by decide +kernel) (pa_cons (pv 1) (pa_cons (pe_bltn (v := .ty "list") (u := .type "list") (by rfl) T.b_list (by decide +kernel) rfl) pa_nil))) (nomark _))))) (pss_one (ps_ret pe_bl)) pss_nil)
      (pss_cons (ps_if (pt_cmpR (r := rNeD K) (op_neD (u64 hr)) (pe_callB (r := fun xs H Q => ∃ p ys, xs = [.ref p] ∧ (SqL K H p ys ∨ SqT K H p ys) ∧ Q (.int ys.length) H) call_len_seq (by rfl) T.b_len (by decide +kernel) (pa_cons (pv 0) pa_nil)) (pe_callB (r := fun xs H Q => ∃ p ys, xs = [.ref p] ∧ (SqL K H p ys ∨ SqT K H p ys) ∧ Q (.int ys.length) H) call_len_seq (by rfl) T.b_len (by decide +kernel) (pa_cons (pv 1) pa_nil)) (nomark _)) (pss_one (ps_ret pe_bl)) pss_nil)
      (pss_one (ps_ret (pe_cmpR (r := rEqD K) (op_eqD (u64 hr)) (pe_lc (own := [("k", 2)]) (by rfl) sc__law_alike.nd (pi_range1 (by rfl) T.b_range (pa_cons (pe_callB (r := fun xs H Q => ∃ p ys, xs = [.ref p] ∧ (SqL K H p ys ∨ SqT K H p ys) ∧ Q (.int ys.length) H) call_len_seq (by rfl) T.b_len (by decide +kernel) (pa_cons (pv 1) pa_nil)) pa_nil)) (blkOk_by (N := ["found", "due", "k", "key"]) (sc := defScope s__law_alike) (own := [("k", 2)]) (by decide +kernel)) (fun _ _ _ _ _ => (pg_name (i := 2) sc__law_alike.nd rfl (Or.inl rfl))) (fun _ _ _ _ _ => (pts_one (pt_not (pt_val (pe_cal c__law_alike hr rfl (pa_cons (pe_ix (r := rIxT K) ix_tup (pv 0) (pv 2) (fun _ _ => rfl)) (pa_cons (pe_ix (r := rIxT K) ix_tup (pv 1) (pv 2) (fun _ _ => rfl)) pa_nil))))))) (fun _ _ _ _ _ => (pv 2))) (pe_lst pa_nil) (nomark _)))))) pss_nil)
      (pss_cons (ps_if (pt_val (pe_callB (r := rIsi K) call_isi (by rfl) T.b_isinstance (by decide +kernel) (pa_cons (pv 1) (pa_cons (pe_bltn (v := .ty "dict") (u := .type "dict") (by rfl) T.b_dict (by decide +kernel) rfl) pa_nil)))) (pss_cons (ps_if (PW.pt (pw_or (pt_not (pt_val (pe_callB (r := rIsi K) call_isi (by rfl) T.b_isinstance (by decide +kernel) (pa_cons (pv 0) (pa_cons (pe_bltn (v := .ty "dict") (u := .type "dict") (by rfl) T.b_dict (by decide +kernel) rfl) pa_nil))))) (pw_or1 (pt_cmpR (r := rNeD K) (op_neD (u64 hr)) (pe_callTy call_list_of (by rfl) T.b_list (by decide +kernel) (pa_cons (pv 0) pa_nil)) (pe_callTy call_list_of (by rfl) T.b_list (by decide +kernel) (pa_cons (pv 1) pa_nil)) (nomark _))))) (pss_one (ps_ret pe_bl)) pss_nil)
      (pss_one (ps_ret (pe_cmpR (r := rEqD K) (op_eqD (u64 hr)) (pe_lc (own := [("key", 3)]) (by rfl) sc__law_alike.nd (pi_list (pv 1)) (blkOk_by (N := ["found", "due", "k", "key"]) (sc := defScope s__law_alike) (own := [("key", 3)]) (by decide +kernel)) (fun _ _ _ _ _ => (pg_name (i := 3) sc__law_alike.nd rfl (Or.inl rfl))) (fun _ _ _ _ _ => (pts_one (pt_not (pt_val (pe_cal c__law_alike hr rfl (pa_cons (pe_ix (r := rIxT K) ix_tup (pv 0) (pv 3) (fun _ _ => rfl)) (pa_cons (pe_ix (r := rIxT K) ix_tup (pv 1) (pv 3) (fun _ _ => rfl)) pa_nil))))))) (fun _ _ _ _ _ => (pv 3))) (pe_lst pa_nil) (nomark _))))) pss_nil)
      (pss_cons (ps_if (PW.pt (pw_or (pt_cmpR op_isN (pv 1) pe_non (nomark _)) (pw_or1 (pt_val (pe_callB (r := rIsi K) call_isi (by rfl) T.b_isinstance (by decide +kernel) (pa_cons (pv 1) (pa_cons (pe_bltn (v := .ty "str") (u := .type "str") (by rfl) T.b_str (by decide +kernel) rfl) pa_nil))))))) (pss_one (ps_ret (pe_and (pe_cmpR (r := rEqD K) (op_eqD (u64 hr)) (pv 0) (pv 1) (nomark _)) (pe_one (pe_cmpR (r := rEqD K) (op_eqD (u64 hr)) (pe_callB (r := rIsi K) call_isi (by rfl) T.b_isinstance (by decide +kernel) (pa_cons (pv 0) (pa_cons (pe_bltn (v := .ty "str") (u := .type "str") (by rfl) T.b_str (by decide +kernel) rfl) pa_nil))) (pe_callB (r := rIsi K) call_isi (by rfl) T.b_isinstance (by decide +kernel) (pa_cons (pv 1) (pa_cons (pe_bltn (v := .ty "str") (u := .type "str") (by rfl) T.b_str (by decide +kernel) rfl) pa_nil))) (nomark _)))))) pss_nil)
      (pss_one (ps_ret (pe_and (pe_callB (r := rIsi K) call_isi (by rfl) T.b_isinstance (by decide +kernel) (pa_cons (pv 0) (pa_cons (pe_bltn (v := .ty "int") (u := .type "int") (by rfl) T.b_int (by decide +kernel) rfl) pa_nil))) (pe_and (pe_cmpR (r := rEqD K) (op_eqD (u64 hr)) (pe_callB (r := rIsi K) call_isi (by rfl) T.b_isinstance (by decide +kernel) (pa_cons (pv 0) (pa_cons (pe_bltn (v := .ty "bool") (u := .type "bool") (by rfl) T.b_bool (by decide +kernel) rfl) pa_nil))) (pe_callB (r := rIsi K) call_isi (by rfl) T.b_isinstance (by decide +kernel) (pa_cons (pv 1) (pa_cons (pe_bltn (v := .ty "bool") (u := .type "bool") (by rfl) T.b_bool (by decide +kernel) rfl) pa_nil))) (nomark _)) (pe_one (pe_cmpR (r := rEqD K) (op_eqD (u64 hr)) (pv 0) (pv 1) (nomark _)))))))))), fun G => ?_⟩
      refine xs_when (S := ⟨K, fx0, G, H, E⟩) (et_B (ev_isTL (d := .int i) (ev_var rfl))) (fun z => by cases z) fun _ => ?_
      refine xs_when (et_B (ev_isDict (d := .int i) (ev_var rfl))) (fun z => by cases z) fun _ => ?_
      refine xs_when (et_or (et_B (ev_isN (d := .int i) (ev_var rfl))) fun _ => et_B (ev_isStr (d := .int i) (ev_var rfl))) (fun z => by cases z) fun _ => ?_
      exact xc_retB (ev_andV (ev_isInt (d := .int i) (ev_var rfl)) fun _ => ev_andV (ev_eqD (ev_isBool (d := .int i) (ev_var rfl)) (ev_isBool (d := .int i) (ev_var rfl)) rfl rfl) fun _ => ev_eqI (ev_var rfl) (ev_var rfl)) (by rw [eqv_b]; simp [dInt, dBool])
    | bool b =>
      refine ⟨_, (pss_cons (ps_if (pt_val (pe_callB (r := rIsiT K) call_isiT (by rfl) T.b_isinstance (by decide +kernel) (pa_cons (pv 1) (pa_cons (pe_tup (pa_cons (pe_bltn (v := .ty "tuple") (u := .type "tuple") (by rfl) T.b_tuple (by decide +kernel) rfl) (pa_cons (pe_bltn (v := .ty "list") (u := .type "list") (by rfl) T.b_list (by decide +kernel) rfl) pa_nil))) pa_nil)))) (pss_cons (ps_if (PW.pt (pw_or (pt_not (pt_val (pe_callB (r := rIsiT K) call_isiT (by rfl) T.b_isinstance (by decide +kernel) (pa_cons (pv 0) (pa_cons (pe_tup (pa_cons (pe_bltn (v := .ty "tuple") (u := .type "tuple") (by rfl) T.b_tuple (by decide +kernel) rfl) (pa_cons (pe_bltn (v := .ty "list") (u := .type "list") (by rfl) T.b_list (by decide +kernel) rfl) pa_nil))) pa_nil))))) (pw_or1 (pt_cmpR (r := rNeD K) (op_neD (u64 hr)) (pe_callB (r := rIsi K) call_isi (by rfl) T.b_isinstance (by decide +kernel) (pa_cons (pv 0) (pa_cons (pe_bltn (v := .ty "list") (u := .type "list") (by rfl) T.b_list (by decide +kernel) rfl) pa_nil))) (pe_callB (r := rIsi K) call_isi (by rfl) T.b_isinstance (by decide +kernel) (pa_cons (pv 1) (pa_cons (pe_bltn (v := .ty "list") (u := .type "list") (by rfl) T.b_list (by decide +kernel) rfl) pa_nil))) (nomark _))))) (pss_one (ps_ret pe_bl)) pss_nil)
      (pss_cons (ps_if (pt_cmpR (r := rNeD K) (op_neD (u64 hr)) (pe_callB (r := fun xs H Q => ∃ p ys, xs = [.ref p] ∧ (SqL K H p ys ∨ SqT K H p ys) ∧ Q (.int ys.length) H) call_len_seq (by rfl) T.b_len (by decide +kernel) (pa_cons (pv 0) pa_nil)) (pe_callB (r := fun xs H Q => ∃ p ys, xs = [.ref p] ∧ (SqL K H p ys ∨ SqT K H p ys) ∧ Q (.int ys.length) H) call_len_seq (by rfl) T.b_len (by decide +kernel) (pa_cons (pv 1) pa_nil)) (nomark _)) (pss_one (ps_ret pe_bl)) pss_nil)
      (pss_one (ps_ret (pe_cmpR (r := rEqD K) (op_eqD (u64 hr)) (pe_lc (own := [("k", 2)]) (by rfl) sc__law_alike.nd (pi_range1 (by rfl) T.b_range (pa_cons (pe_callB (r := fun xs H Q => ∃ p ys, xs = [.ref p] ∧ (SqL K H p ys ∨ SqT K H p ys) ∧ Q (.int ys.length) H) call_len_seq (by rfl) T.b_len (by decide +kernel) (pa_cons (pv 1) pa_nil)) pa_nil)) (blkOk_by (N := ["found", "due", "k", "key"]) (sc := defScope s__law_alike) (own := [("k", 2)]) (by decide +kernel)) (fun _ _ _ _ _ => (pg_name (i := 2) sc__law_alike.nd rfl (Or.inl rfl))) (fun _ _ _ _ _ => (pts_one (pt_not (pt_val (pe_cal c__law_alike hr rfl (pa_cons (pe_ix (r := rIxT K) ix_tup (pv 0) (pv 2) (fun _ _ => rfl)) (pa_cons (pe_ix (r := rIxT K) ix_tup (pv 1) (pv 2) (fun _ _ => rfl)) pa_nil))))))) (fun _ _ _ _ _ => (pv 2))) (pe_lst pa_nil) (nomark _)))))) pss_nil)
      (pss_cons (ps_if (pt_val (pe_callB (r := rIsi K) call_isi (by rfl) T.b_isinstance (by decide +kernel) (pa_cons (pv 1) (pa_cons (pe_bltn (v := .ty "dict") (u := .type "dict") (by rfl) T.b_dict (by decide +kernel) rfl) pa_nil)))) (pss_cons (ps_if (PW.pt (pw_or (pt_not (pt_val (pe_callB (r := rIsi K) call_isi (by rfl) T.b_isinstance (by decide +kernel) (pa_cons (pv 0) (pa_cons (pe_bltn (v := .ty "dict") (u := .type "dict") (by rfl) T.b_dict (by decide +kernel) rfl) pa_nil))))) (pw_or1 (pt_cmpR (r := rNeD K) (op_neD (u64 hr)) (pe_callTy call_list_of (by rfl) T.b_list (by decide +kernel) (pa_cons (pv 0) pa_nil)) (pe_callTy call_list_of (by rfl) T.b_list (by decide +kernel) (pa_cons (pv 1) pa_nil)) (nomark _))))) (pss_one (ps_ret pe_bl)) pss_nil)
      (pss_one (ps_ret (pe_cmpR (r := rEqD K) (op_eqD (u64 hr)) (pe_lc (own := [("key", 3)]) (by rfl) sc__law_alike.nd (pi_list (pv 1)) (blkOk_by (N := ["found", "due", "k", "key"]) (sc := defScope s__law_alike) (own := [("key", 3)]) (by decide +kernel)) (fun _ _ _ _ _ => (pg_name (i := 3) sc__law_alike.nd rfl (Or.inl rfl))) (fun _ _ _ _ _ => (pts_one (pt_not (pt_val (pe_cal c__law_alike hr rfl (pa_cons (pe_ix (r := rIxT K) ix_tup (pv 0) (pv 3) (fun _ _ => rfl)) (pa_cons (pe_ix (r := rIxT K) ix_tup (pv 1) (pv 3) (fun _ _ => rfl)) pa_nil))))))) (fun _ _ _ _ _ => (pv 3))) (pe_lst pa_nil) (nomark _))))) pss_nil)
      (pss_cons (ps_if (PW.pt (pw_or (pt_cmpR op_isN (pv 1) pe_non (nomark _)) (pw_or1 (pt_val (pe_callB (r := rIsi K) call_isi (by rfl) T.b_isinstance (by decide +kernel) (pa_cons (pv 1) (pa_cons (pe_bltn (v := .ty "str") (u := .type "str") (by rfl) T.b_str (by decide +kernel) rfl) pa_nil))))))) (pss_one (ps_ret (pe_and (pe_cmpR (r := rEqD K) (op_eqD (u64 hr)) (pv 0) (pv 1) (nomark _)) (pe_one (pe_cmpR (r := rEqD K) (op_eqD (u64 hr)) (pe_callB (r := rIsi K) call_isi (by rfl) T.b_isinstance (by decide +kernel) (pa_cons (pv 0) (pa_cons (pe_bltn (v := .ty "str") (u := .type "str") (by rfl) T.b_str (by decide +kernel) rfl) pa_nil))) (pe_callB (r := rIsi K) call_isi (by rfl) T.b_isinstance (by decide +kernel) (pa_cons (pv 1) (pa_cons (pe_bltn (v := .ty "str") (u := .type "str") (by rfl) T.b_str (by decide +kernel) rfl) pa_nil))) (nomark _)))))) pss_nil)
      (pss_one (ps_ret (pe_and (pe_callB (r := rIsi K) call_isi (by rfl) T.b_isinstance (by decide +kernel) (pa_cons (pv 0) (pa_cons (pe_bltn (v := .ty "int") (u := .type "int") (by rfl) T.b_int (by decide +kernel) rfl) pa_nil))) (pe_and (pe_cmpR (r := rEqD K) (op_eqD (u64 hr)) (pe_callB (r := rIsi K) call_isi (by rfl) T.b_isinstance (by decide +kernel) (pa_cons (pv 0) (pa_cons (pe_bltn (v := .ty "bool") (u := .type "bool") (by rfl) T.b_bool (by decide +kernel) rfl) pa_nil))) (pe_callB (r := rIsi K) call_isi (by rfl) T.b_isinstance (by decide +kernel) (pa_cons (pv 1) (pa_cons (pe_bltn (v := .ty "bool") (u := .type "bool") (by rfl) T.b_bool (by decide +kernel) rfl) pa_nil))) (nomark _)) (pe_one (pe_cmpR (r := rEqD K) (op_eqD (u64 hr)) (pv 0) (pv 1) (nomark _)))))))))), fun G => ?_⟩
      refine xs_when (S := ⟨K, fx0, G, H, E⟩) (et_B (ev_isTL (d := .bool b) (ev_var rfl))) (fun z => by cases z) fun _ => ?_
      refine xs_when (et_B (ev_isDict (d := .bool b) (ev_var rfl))) (fun z => by cases z) fun _ => ?_
      refine xs_when (et_or (et_B (ev_isN (d := .bool b) (ev_var rfl))) fun _ => et_B (ev_isStr (d := .bool b) (ev_var rfl))) (fun z => by cases z) fun _ => ?_
      exact xc_retB (ev_andV (ev_isInt (d := .bool b) (ev_var rfl)) fun _ => ev_andV (ev_eqD (ev_isBool (d := .bool b) (ev_var rfl)) (ev_isBool (d := .bool b) (ev_var rfl)) rfl rfl) fun _ => ev_eqD (ev_var rfl) (ev_var rfl) rfl rfl) (by rw [eqv_b, eqv_b]; simp [dInt, dBool])

end
end K17

set_option Elab.async false
set_option linter.all false
set_option maxRecDepth 100000
set_option maxHeartbeats 4000000
namespace K17
open PySem PySem.Spec PyProof.Rows L2 Dl LamX StX
/-! ### pieces and shelves as data -/
def dP (p : Int × Int) : D := .tuple [.int p.1, .int p.2]
def dPs (b : Bool) (ps : List (Int × Int)) : D := if b then .list (ps.map dP) else .tuple (ps.map dP)
def dN (i : Nat) : D := .int (i : Nat)
def dS (sh : List Nat) : D := .tuple (sh.map dN)
def dF (f : F) : D := .list (f.map dS)
def dB : Option (Int × F) → D
  | none => .none
  | some b => .tuple [.int b.1, dF b.2]
def fsO (b : Bool) (ps : List (Int × Int)) (W : Int) (best : Option (Int × F)) : List (Str × D) := [("width", .int W), ("pieces", dPs b ps), ("best", dB best)]
structure OI where
  b : Bool
  ps : List (Int × Int)
  W : Int
  best : Option (Int × F)
  f : F
def OI.fs (i : OI) : List (Str × D) := fsO i.b i.ps i.W i.best
/-- shelves of pieces that are there -/
def Wf (n : Nat) (f : F) : Prop := f.length ≤ 1000 ∧ ∀ sh ∈ f, sh ≠ [] ∧ sh.length ≤ 1000 ∧ ∀ i ∈ sh, i < n
theorem at_nat {ds : List D} {i : Nat} {d : D} (h : ds[i]? = some d) : atI ds (i : Int) = some d := by
  have hl := (List.getElem?_eq_some_iff.mp h).1
  unfold atI ixN
  rw [if_pos (by omega), if_pos (by omega), Int.toNat_natCast]
  exact h
theorem at_ps {ps : List (Int × Int)} {i : Nat} (h : i < ps.length) : (ps.map dP)[i]? = some (.tuple [.int (wd ps i), .int (lg ps i)]) := by
  simp [h, wd, lg, dP]
section
variable {P : Program} {w : World} {K : PySem.W.Frag} {mg : Str → Option Value} {base : Heap} {C1 C2 C3 fI CS : Addr} (T : Tx P w K mg base C1 C2 C3 fI CS)
include T
theorem c_Shelving : CalK P w K mg base 1 "Shelving" CS ["self", "width", "pieces"] (spO K CS false (fun i : Bool × List (Int × Int) × Int => [.dat (.int i.2.2), .dat (dPs i.1 i.2.1)]) (fun _ => []) (fun _ => True) (fun i s fs => s = .dat .none ∧ fs = fsO i.1 i.2.1 i.2.2 none)) := by
  refine mk_calK T.k_Shelving sc_Shelving___init__ (fun _ _ => rfl) (fun _ _ _ _ _ _ us hl => match us, hl with | [_, _, _], _ => rfl) (fun f cdv A outer s H E hr i _ => ⟨_, (pss_cons (ps_fld (pv 0) (pv 1) (by rfl))
      (pss_cons (ps_fld (pv 0) (pv 2) (by rfl))
      (pss_one (ps_fld (pv 0) pe_non (by rfl))))), fun G a dx vf => ?_⟩)
  obtain ⟨b, ps, W⟩ := i
  refine xs_setfE (i := 0) (d := .int W) rfl (ev_var rfl) T.m_go.cls T.a_width (by simp) fun vf1 => ?_
  refine xs_setfE (i := 0) (d := dPs b ps) rfl (ev_var rfl) T.m_go.cls T.a_pieces (by simp [putD]) fun vf2 => ?_
  refine xc_setfE (i := 0) (d := .none) rfl ev_non T.m_go.cls T.a_best (by simp [putD]; split <;> simp) fun vf3 => ?_
  exact ⟨_, _, _, rfl, (fun z => by cases z), rfl, rfl⟩
theorem c_Shelving_length_of : CalM P w K mg base 1 CS "length_of" ["self", "found"] (spO K CS true (fun i : OI => [.dat (dF i.f)]) OI.fs (fun i => Wf i.ps.length i.f) (fun i s _ => s = .dat (.int (len i.ps i.f)))) := by
  refine mk_calM T.m_length_of sc_Shelving_length_of (fun _ _ => rfl) (fun _ _ _ _ _ _ us hl => match us, hl with | [_, _], _ => rfl) (fun f cdv A outer s H E hr i hp => ?_)
  obtain ⟨b, ps, W, best, f⟩ := i
  obtain ⟨hl, hw⟩ := hp
  simp only at hl hw
  cases b with
  | true =>
    refine ⟨_, (pss_one (ps_ret (pe_callB (r := rSum K) (cr_sum rfl) (by rfl) T.b_sum (by decide +kernel) (pa_cons (pe_lc (own := [("shelf", 2)]) (by rfl) sc_Shelving_length_of.nd (pi_list (pv 1)) (blkOk_by (N := ["self", "found", "shelf", "index"]) (sc := defScope s_Shelving_length_of) (own := [("shelf", 2)]) (by decide +kernel)) (fun _ _ _ _ _ => (pg_name (i := 2) sc_Shelving_length_of.nd rfl (Or.inl rfl))) (fun _ _ _ _ _ => pts_nil) (fun _ _ _ _ _ => (pe_callB (r := rMax K) (cr_max rfl) (by rfl) T.b_max (by decide +kernel) (pa_cons (pe_lc (own := [("index", 3)]) (by rfl) sc_Shelving_length_of.nd (pi_tup' (K := K) rfl (pv 2)) (blkOk_by (own := [("index", 3)]) (by rfl)) (fun _ _ _ _ _ => (pg_name (i := 3) sc_Shelving_length_of.nd rfl (Or.inl rfl))) (fun _ _ _ _ _ => pts_nil) (fun _ _ _ _ _ => (pe_ix (r := rIxT K) ix_tup (pe_ix (r := rIxL K) ix_list (pe_fld' (K := K) rfl (pv 0)) (pv 3) (fun _ _ => rfl)) pe_int (fun _ _ => rfl)))) pa_nil)))) pa_nil)))), fun G a dx vf => ?_⟩
    refine xc_ret (S := ⟨K, fxM a, G, H, E⟩) (ev_sumL (l := f) (dα := dS) (f := lmx ps) (im_listE (ds := f.map dS) (ev_var rfl)) (by omega) fun sh hsh => ⟨[2], _, by simp, tg_name, ?_⟩) ⟨_, _, _, rfl, fun _ => ⟨rfl, rfl⟩, rfl⟩
    obtain ⟨h1, h2, h3⟩ := hw sh hsh
    refine ev_maxL (l := sh) (dα := dN) (f := lg ps) h1 (im_tupE (ds := sh.map dN) (ev_var rfl)) (by omega) fun i hi => ⟨[3], _, by simp, tg_name, ?_⟩
    exact ev_ixU (ev_ixL (ds := ps.map dP) (el_of (ev_fld (i := 0) rfl T.m_go.cls T.a_pieces rfl)) (ev_var rfl) (at_nat (at_ps (h3 i hi)))) ev_int rfl
  | false =>
    refine ⟨_, (pss_one (ps_ret (pe_callB (r := rSum K) (cr_sum rfl) (by rfl) T.b_sum (by decide +kernel) (pa_cons (pe_lc (own := [("shelf", 2)]) (by rfl) sc_Shelving_length_of.nd (pi_list (pv 1)) (blkOk_by (N := ["self", "found", "shelf", "index"]) (sc := defScope s_Shelving_length_of) (own := [("shelf", 2)]) (by decide +kernel)) (fun _ _ _ _ _ => (pg_name (i := 2) sc_Shelving_length_of.nd rfl (Or.inl rfl))) (fun _ _ _ _ _ => pts_nil) (fun _ _ _ _ _ => (pe_callB (r := rMax K) (cr_max rfl) (by rfl) T.b_max (by decide +kernel) (pa_cons (pe_lc (own := [("index", 3)]) (by rfl) sc_Shelving_length_of.nd (pi_tup' (K := K) rfl (pv 2)) (blkOk_by (own := [("index", 3)]) (by rfl)) (fun _ _ _ _ _ => (pg_name (i := 3) sc_Shelving_length_of.nd rfl (Or.inl rfl))) (fun _ _ _ _ _ => pts_nil) (fun _ _ _ _ _ => (pe_ix (r := rIxT K) ix_tup (pe_ix (r := rIxT K) ix_tup (pe_fld' (K := K) rfl (pv 0)) (pv 3) (fun _ _ => rfl)) pe_int (fun _ _ => rfl)))) pa_nil)))) pa_nil)))), fun G a dx vf => ?_⟩
    refine xc_ret (S := ⟨K, fxM a, G, H, E⟩) (ev_sumL (l := f) (dα := dS) (f := lmx ps) (im_listE (ds := f.map dS) (ev_var rfl)) (by omega) fun sh hsh => ⟨[2], _, by simp, tg_name, ?_⟩) ⟨_, _, _, rfl, fun _ => ⟨rfl, rfl⟩, rfl⟩
    obtain ⟨h1, h2, h3⟩ := hw sh hsh
    refine ev_maxL (l := sh) (dα := dN) (f := lg ps) h1 (im_tupE (ds := sh.map dN) (ev_var rfl)) (by omega) fun i hi => ⟨[3], _, by simp, tg_name, ?_⟩
    exact ev_ixU (ev_ixU (ds := ps.map dP) (ev_fld (i := 0) rfl T.m_go.cls T.a_pieces rfl) (ev_var rfl) (at_nat (at_ps (h3 i hi)))) ev_int rfl
end
end K17

set_option Elab.async false
set_option linter.all false
set_option maxRecDepth 100000
set_option maxHeartbeats 4000000
namespace K17
open PySem PySem.Spec PyProof.Rows L2 Dl LamX StX
/-! ### which way is less -/
def toX (b : Int × F) : Int × List (PySem.W.Tup Int) := (b.1, b.2.map fun sh => ⟨sh.map Int.ofNat⟩)
def dK (b : Int × F) : D := .tuple [.int b.1, dF b.2]
theorem toX_dK (b : Int × F) : PySem.W.Datum.toD (toX b) = dK b := by
  show PyData.tuple [.int b.1, .list ((b.2.map fun sh => (⟨sh.map Int.ofNat⟩ : PySem.W.Tup Int)).map PySem.W.Datum.toD)] = _
  unfold dK dF
  rw [List.map_map]
  congr 3
  congr 1
  apply List.map_congr_left
  intro sh _
  show PyData.tuple ((sh.map Int.ofNat).map PySem.W.Datum.toD) = dS sh
  rw [List.map_map]
  rfl
def ltB (a b : Int × F) : Bool := PySem.W.dataLt (dK a) (dK b)
theorem ltB_ok : LtOk ltB := fun a b h => by
  unfold ltB
  rw [← toX_dK, ← toX_dK, PySem.W.DatumOrd.lt_eq]
  show (if (toX a).1 = (toX b).1 then _ else PySem.W.DatumOrd.lt (toX a).1 (toX b).1) = false
  have h1 : ¬ (toX a).1 = (toX b).1 := fun e => by
    have e' : a.1 = b.1 := e
    omega
  rw [if_neg h1]
  show decide (a.1 < b.1) = false
  exact decide_eq_false (by omega)
theorem noD_F (f : F) : PyData.hasDict (dF f) = false := by
  unfold dF
  simp only [PyData.hasDict]
  induction f with
  | nil => rfl
  | cons sh f ih =>
    rw [List.map_cons]
    simp only [PyData.hasDictAll, ih, Bool.or_false]
    unfold dS
    simp only [PyData.hasDict]
    induction sh with
    | nil => rfl
    | cons i sh ih2 =>
      rw [List.map_cons]
      simp only [PyData.hasDictAll, ih2, Bool.or_false]
      rfl
theorem noD_K (b : Int × F) : PyData.hasDict (dK b) = false := by
  unfold dK
  simp only [PyData.hasDict, PyData.hasDictAll, noD_F]
  rfl
theorem cmp_ok (a b : Int × F) : CmpD (dK a) (dK b) := by
  refine ⟨?_, ?_, ?_, noD_K a, noD_K b⟩
  · rw [← toX_dK, ← toX_dK]
    exact PySem.W.DatumOrd.alike _ _
  · rw [← toX_dK]
    exact PySem.W.DatumOrd.notNone _
  · rw [← toX_dK]
    exact Nat.le_trans (PySem.W.Datum.depth_le _) (by decide)
def lessB (ps : List (Int × Int)) (best : Option (Int × F)) (f : F) : Bool := match best with
  | none => true
  | some q => ltB (len ps f, f) q
theorem goP_cut {ps : List (Int × Int)} {W : Int} {lt : Int × F → Int × F → Bool} {m : Nat} {best : Option (Int × F)} {f : F} (h : cutB ps best f = true) : goP ps W lt m best f = best := by
  cases m <;> (unfold goP; rw [if_pos h])
theorem goP_zero {ps : List (Int × Int)} {W : Int} {lt : Int × F → Int × F → Bool} {best : Option (Int × F)} {f : F} (h : cutB ps best f = false) : goP ps W lt 0 best f = updB ps lt best f := by
  unfold goP
  rw [if_neg (by rw [h]; decide)]
theorem goP_succ {ps : List (Int × Int)} {W : Int} {lt : Int × F → Int × F → Bool} {m : Nat} {best : Option (Int × F)} {f : F} (h : cutB ps best f = false) : goP ps W lt (m + 1) best f = (((chP f).filter fun c => decide (wsum ps c.1 ≤ W)).map Prod.snd).foldl (goP ps W lt m) best := by
  conv => lhs; unfold goP
  rw [if_neg (by rw [h]; decide)]
theorem sum_cnt (f : F) : (f.map fun sh => ((sh.length : Nat) : Int)).sum = ((cntF f : Nat) : Int) := by
  unfold cntF
  induction f with
  | nil => rfl
  | cons sh f ih =>
    rw [List.map_cons, List.sum_cons, ih, List.map_cons, List.sum_cons]
    omega
/-- no shelf is empty, and what lies on it is there -/
def Wg (n : Nat) (f : F) : Prop := ∀ sh ∈ f, sh ≠ [] ∧ ∀ i ∈ sh, i < n
theorem wg_len : ∀ {f : F}, (∀ sh ∈ f, sh ≠ []) → f.length ≤ cntF f ∧ ∀ sh ∈ f, sh.length ≤ cntF f
  | [], _ => ⟨Nat.le_refl _, fun sh h => by cases h⟩
  | z :: f, h => by
    obtain ⟨h1, h2⟩ := wg_len (f := f) fun sh hs => h sh (List.mem_cons_of_mem _ hs)
    have hz := List.length_pos_iff.mpr (h z List.mem_cons_self)
    have e : cntF (z :: f) = z.length + cntF f := by simp [cntF]
    refine ⟨by rw [e, List.length_cons]; omega, fun sh hs => ?_⟩
    rw [e]
    rcases List.mem_cons.mp hs with q | q
    · subst q
      omega
    · have := h2 sh q
      omega
theorem wg_wf {n : Nat} {f : F} (h : Wg n f) (hc : cntF f ≤ n) (hn : n ≤ 100) : Wf n f := by
  obtain ⟨h1, h2⟩ := wg_len (f := f) fun sh hs => (h sh hs).1
  refine ⟨by omega, fun sh hs => ⟨(h sh hs).1, ?_, (h sh hs).2⟩⟩
  have := h2 sh hs
  omega
theorem wg_ch {n : Nat} {f : F} {c : List Nat × F} (h : Wg n f) (hk : cntF f < n) (hc : c ∈ chP f) : Wg n c.2 := by
  rcases mem_chP hc with ⟨a, sh, b, e1, e2⟩ | e2
  · rw [e2]
    intro z hz
    rcases List.mem_append.mp hz with q | q
    · exact h z (by rw [e1]; exact List.mem_append_left _ q)
    · rcases List.mem_cons.mp q with q | q
      · rw [q]
        refine ⟨by simp, fun i hi => ?_⟩
        rcases List.mem_append.mp hi with r | r
        · exact (h sh (by rw [e1]; exact List.mem_append_right _ List.mem_cons_self)).2 i r
        · rw [List.mem_singleton.mp r]
          exact hk
      · exact h z (by rw [e1]; exact List.mem_append_right _ (List.mem_cons_of_mem _ q))
  · rw [e2]
    intro z hz
    rcases List.mem_append.mp hz with q | q
    · exact h z q
    · rw [List.mem_singleton.mp q]
      refine ⟨by simp, fun i hi => ?_⟩
      rw [List.mem_singleton.mp hi]
      exact hk
theorem ea_cast {S : Cf} {ρ : Rho} {t : TA} {xs ys : List Sl} (h : EvA S t ρ (Eq xs)) (e : xs = ys) : EvA S t ρ (Eq ys) := e ▸ h
theorem chP_get {f : F} {p : Nat} {sh : List Nat} (h : f[p]? = some sh) : (chP f)[p]? = some (sh ++ [cntF f], f.take p ++ [sh ++ [cntF f]] ++ f.drop (p + 1)) := by
  have hp : p < f.length := (List.getElem?_eq_some_iff.mp h).1
  have e : f.getD p [] = sh := by simp [h]
  unfold chP
  rw [List.getElem?_append_left (by simp [hp])]
  simp [hp]
  exact (List.getElem?_eq_some_iff.mp h).2
theorem chP_last (f : F) : (chP f)[f.length]? = some ([cntF f], f ++ [[cntF f]]) := by
  unfold chP
  rw [List.getElem?_append_right (by simp)]
  simp
theorem chP_length (f : F) : (chP f).length = f.length + 1 := by
  unfold chP
  simp
theorem take_snoc {α : Type} {l : List α} {p : Nat} {c : α} (h : l[p]? = some c) : l.take (p + 1) = l.take p ++ [c] := by
  rw [List.take_add_one, h]
  rfl
section
variable {P : Program} {w : World} {K : PySem.W.Frag} {mg : Str → Option Value} {base : Heap} {C1 C2 C3 fI CS : Addr} (T : Tx P w K mg base C1 C2 C3 fI CS)
include T
def GoSp (K : PySem.W.Frag) (CS : Addr) (j : Nat) : Sp := spO K CS false (fun i : OI => [.dat (dF i.f)]) OI.fs (fun i => (∃ m, j = m + 1 ∧ cntF i.f + m = i.ps.length) ∧ Wg i.ps.length i.f ∧ i.ps.length ≤ 100) (fun i s fs => s = .dat .none ∧ fs = fsO i.b i.ps i.W (goP i.ps i.W ltB (j - 1) i.best i.f))
theorem c_go_step (m : Nat) (c_Shelving_go : CalM P w K mg base (m + 1) CS "go" ["self", "found"] (GoSp K CS m)) : CalM P w K mg base (m + 2) CS "go" ["self", "found"] (GoSp K CS (m + 1)) := by
  have c_Shelving_length_of := c_Shelving_length_of T
  refine mk_calM T.m_go sc_Shelving_go (fun _ _ => rfl) (fun _ _ _ _ _ _ us hl => match us, hl with | [_, _], _ => rfl) (fun fa cdv A outer s H E hr i hp => ?_)
  obtain ⟨b, ps, W, best, f⟩ := i
  obtain ⟨⟨m', em, hc⟩, hw, hn⟩ := hp
  cases em
  simp only at hc hw hn
  have hW : Wf ps.length f := wg_wf hw (by omega) hn
  have hfl : f.length ≤ 1000 := hW.1
  cases b with
  | true =>
    refine ⟨_, (pss_cons (ps_set (i := 2) sc_Shelving_go.nd rfl (Or.inl rfl) (pe_calM c_Shelving_length_of (hr.mono (by first | decide | omega)) (pv 0) (pa_cons (pv 1) pa_nil)))
      (pss_cons (ps_if (PW.pt (pw_and (pt_cmpR op_notN (pe_fld' (K := K) rfl (pv 0)) pe_non (nomark _)) (pw_and1 (pt_cmpR op_gt (pv 2) (pe_ix (r := rIxT K) ix_tup (pe_fld' (K := K) rfl (pv 0)) pe_int (fun _ _ => rfl)) (nomark _))))) (pss_one ps_retN) pss_nil)
      (pss_cons (ps_set (i := 4) sc_Shelving_go.nd rfl (Or.inl rfl) (pe_callB (r := rSum K) (cr_sum rfl) (by rfl) T.b_sum (by decide +kernel) (pa_cons (pe_lc (own := [("shelf", 3)]) (by rfl) sc_Shelving_go.nd (pi_list (pv 1)) (blkOk_by (N := ["self", "found", "length", "shelf", "index", "told", "place", "one"]) (sc := defScope s_Shelving_go) (own := [("shelf", 3)]) (by decide +kernel)) (fun _ _ _ _ _ => (pg_name (i := 3) sc_Shelving_go.nd rfl (Or.inl rfl))) (fun _ _ _ _ _ => pts_nil) (fun _ _ _ _ _ => (pe_callB (r := fun xs H Q => ∃ p ys, xs = [.ref p] ∧ (SqL K H p ys ∨ SqT K H p ys) ∧ Q (.int ys.length) H) call_len_seq (by rfl) T.b_len (by decide +kernel) (pa_cons (pv 3) pa_nil)))) pa_nil)))
      (pss_cons (ps_if (pt_cmpR (r := rEqD K) (op_eqD (u64 hr)) (pv 4) (pe_callB (r := fun xs H Q => ∃ p ys, xs = [.ref p] ∧ (SqL K H p ys ∨ SqT K H p ys) ∧ Q (.int ys.length) H) call_len_seq (by rfl) T.b_len (by decide +kernel) (pa_cons (pe_fld' (K := K) rfl (pv 0)) pa_nil)) (nomark _)) (pss_cons (ps_set (i := 5) sc_Shelving_go.nd rfl (Or.inl rfl) (pe_tup (pa_cons (pv 2) (pa_cons (pv 1) pa_nil))))
      (pss_cons (ps_fld (pv 0) (pe_ifExp (PW.pt (pw_or (pt_cmpR op_isN (pe_fld' (K := K) rfl (pv 0)) pe_non (nomark _)) (pw_or1 (pt_cmpR (r := rLtD K) (op_ltD (u64 hr)) (pv 5) (pe_fld' (K := K) rfl (pv 0)) (nomark _))))) (pv 5) (pe_fld' (K := K) rfl (pv 0))) (by rfl))
      (pss_one ps_retN))) pss_nil)
      (pss_cons (ps_for (passes_of rfl) rfl (pi_enum (by rfl) T.b_enumerate (pa_cons (pv 1) pa_nil)) (pg_tup (by rfl) (pgs_cons (pg_name (i := 6) sc_Shelving_go.nd rfl (Or.inl rfl)) (pgs_cons (pg_name (i := 3) sc_Shelving_go.nd rfl (Or.inl rfl)) pgs_nil))) (pss_one (ps_if (pt_cmpR op_le (pe_callB (r := rSum K) (cr_sum rfl) (by rfl) T.b_sum (by decide +kernel) (pa_cons (pe_lc (own := [("one", 7)]) (by rfl) sc_Shelving_go.nd (pi_tup (pe_tup (pa_star' (K := K) rfl (pv 3) (pa_cons (pv 4) pa_nil)))) (blkOk_by (N := ["self", "found", "length", "shelf", "index", "told", "place", "one"]) (sc := defScope s_Shelving_go) (own := [("one", 7)]) (by decide +kernel)) (fun _ _ _ _ _ => (pg_name (i := 7) sc_Shelving_go.nd rfl (Or.inl rfl))) (fun _ _ _ _ _ => pts_nil) (fun _ _ _ _ _ => (pe_ix (r := rIxT K) ix_tup (pe_ix (r := rIxL K) ix_list (pe_fld' (K := K) rfl (pv 0)) (pv 7) (fun _ _ => rfl)) pe_int (fun _ _ => rfl)))) pa_nil)) (pe_fld' (K := K) rfl (pv 0)) (nomark _)) (pss_one (ps_expr (pe_calM c_Shelving_go (hr.mono (by first | decide | omega)) (pv 0) (pa_cons (pe_lst (pa_star' (K := K) rfl (pe_slice (r := rSlL K) sl_list (pv 1) po_none (po_some (pv 6))) (pa_cons (pe_tup (pa_star' (K := K) rfl (pv 3) (pa_cons (pv 4) pa_nil))) (pa_star' (K := K) rfl (pe_slice (r := rSlL K) sl_list (pv 1) (po_some (pe_op op_add (pv 6) pe_int)) po_none) pa_nil)))) pa_nil)))) pss_nil)))
      (pss_one (ps_if (pt_cmpR op_le (pe_ix (r := rIxT K) ix_tup (pe_ix (r := rIxL K) ix_list (pe_fld' (K := K) rfl (pv 0)) (pv 4) (fun _ _ => rfl)) pe_int (fun _ _ => rfl)) (pe_fld' (K := K) rfl (pv 0)) (nomark _)) (pss_one (ps_expr (pe_calM c_Shelving_go (hr.mono (by first | decide | omega)) (pv 0) (pa_cons (pe_lst (pa_star' (K := K) rfl (pv 1) (pa_cons (pe_tup (pa_cons (pv 4) pa_nil)) pa_nil))) pa_nil)))) pss_nil))))))), fun G a dx vf => ?_⟩
    have pcs : ∀ {ρ : Rho} {vf' : List (Str × V)} {dx' : Addr} {best' : Option (Int × F)} {te : TE} {i : Nat}, ρ[0]? = some (.own a (.ins CS dx' vf' (fsO true ps W best'))) → Ev ⟨K, fxM a, G, H, E⟩ te ρ (Eq (.dat (dN i))) → i < ps.length → Ev ⟨K, fxM a, G, H, E⟩ (tOp (rIxT K) (tOp (rIxL K) (tFld K (tVar 0) "pieces") te) (tC (.int 0))) ρ (Eq (.dat (.int (wd ps i)))) := fun h hi hl =>
      ev_ixU (ev_ixL (ds := ps.map dP) (el_of (ev_fld h T.m_go.cls T.a_pieces rfl)) hi (at_nat (at_ps hl))) ev_int rfl
    refine xs_asg (S := ⟨K, fxM a, G, H, E⟩) (s := .dat (.int (len ps f))) (ev_meth (⟨true, ps, W, best, f⟩ : OI) rfl rfl rfl (ea_cons (ev_var rfl) ea_nil) hW fun s _ e => e.symm) ?_
    refine xs_when (b := cutB ps best f) (et_is (et_and (b := cutB ps best f) (et_test (ev_notN (d := dB best) (ev_fld (i := 0) rfl T.m_go.cls T.a_best rfl))) fun hz => ?_) ?_) (fun z => xc_retN ⟨_, _, _, rfl, (fun z => by cases z), rfl, ?_⟩) fun zc => ?_
    · cases best with
      | none => cases hz
      | some q => exact et_test (ev_C0 (i := len ps f) (j := q.1) (ev_var rfl) (ev_ixU (ds := [.int q.1, dF q.2]) (ev_fld (i := 0) rfl T.m_go.cls T.a_best rfl) ev_int rfl))
    · cases best <;> simp [dB, isNone, cutB]
    · show fsO true ps W best = fsO true ps W (goP ps W ltB m best f)
      rw [goP_cut z]
    have esum : (f.map fun sh => ((sh.length : Nat) : Int)).sum = ((cntF f : Nat) : Int) := sum_cnt f
    refine xs_asg (s := .dat (.int ((cntF f : Nat) : Int))) ((ev_sumL (l := f) (dα := dS) (f := fun sh => ((sh.length : Nat) : Int)) (im_listE (ds := f.map dS) (ev_var rfl)) (by omega) fun sh _ => ⟨[3], _, by simp, tg_name, (ev_lenU (ds := sh.map dN) (eu_of (ev_var rfl))).cast (by rw [List.length_map])⟩).cast (by rw [esum])) ?_
    refine xs_when (et_test (ev_eqI (i := ((cntF f : Nat) : Int)) (j := ((ps.length : Nat) : Int)) (ev_var rfl) ((ev_lenL (ds := ps.map dP) (el_of (ev_fld (i := 0) rfl T.m_go.cls T.a_pieces rfl))).cast (by rw [List.length_map])))) (fun z => ?_) fun z => ?_
    · have hm : m = 0 := by
        have : ((cntF f : Nat) : Int) = ((ps.length : Nat) : Int) := of_decide_eq_true z
        omega
      subst hm
      refine xs_asg (s := .dat (.tuple [.int (len ps f), dF f])) (ev_tup2 (ev_var rfl) (ev_var rfl)) ?_
      refine xs_setfE (i := 0) (d := dB (updB ps ltB best f)) rfl (ev_if (b := lessB ps best f) (et_is (et_or (b := lessB ps best f) (et_test (ev_isN (d := dB best) (ev_fld (i := 0) rfl T.m_go.cls T.a_best rfl))) fun hz => ?_) ?_) (fun hz => ?_) fun hz => ?_) T.m_go.cls T.a_best (by show 3 < 900; omega) fun vf2 => ?_
      · cases best with
        | none => cases hz
        | some q => exact et_test (ev_ltD (d := .tuple [.int (len ps f), dF f]) (d' := .tuple [.int q.1, dF q.2]) (ev_var rfl) (ev_fld (i := 0) rfl T.m_go.cls T.a_best rfl) (cmp_ok (len ps f, f) q))
      · cases best <;> simp [dB, isNone, lessB]
      · refine (ev_var (d := .tuple [.int (len ps f), dF f]) rfl).cast ?_
        cases best with
        | none => rfl
        | some q =>
          show _ = Sl.dat (dB (if ltB (len ps f, f) q = true then some (len ps f, f) else some q))
          rw [if_pos (show ltB (len ps f, f) q = true from hz)]
          rfl
      · refine (ev_fld (i := 0) (d := dB best) rfl T.m_go.cls T.a_best rfl).cast ?_
        cases best with
        | none => cases hz
        | some q =>
          show _ = Sl.dat (dB (if ltB (len ps f, f) q = true then some (len ps f, f) else some q))
          rw [if_neg (by rw [show ltB (len ps f, f) q = false from hz]; decide)]
      exact xc_retN ⟨_, _, _, rfl, (fun z => by cases z), rfl, by rw [show goP ps W ltB 0 best f = updB ps ltB best f from goP_zero zc]; rfl⟩
    have hk : cntF f < ps.length := by
      have : ((cntF f : Nat) : Int) ≠ ((ps.length : Nat) : Int) := of_decide_eq_false z
      omega
    obtain ⟨m, rfl⟩ : ∃ n, m = n + 1 := ⟨m - 1, by omega⟩
    have hch : ∀ c ∈ chP f, Wg ps.length c.2 ∧ cntF c.2 = cntF f + 1 := fun c hc => ⟨wg_ch hw hk hc, cnt_ch (List.mem_map.mpr ⟨c, hc, rfl⟩)⟩
    have one : ∀ {ρ : Rho} {dx' : Addr} {vf' : List (Str × V)} {best' : Option (Int × F)} {te : TE} {Q : Oc → Prop} {c : List Nat × F}, c ∈ chP f → ρ[0]? = some (.own a (.ins CS dx' vf' (fsO true ps W best'))) → Ev ⟨K, fxM a, G, H, E⟩ te ρ (Eq (.dat (dF c.2))) → (∀ dx'' vf'', Q (.nx (ρ.set 0 (.own a (.ins CS dx'' vf'' (fsO true ps W (goP ps W ltB m best' c.2))))))) →
        Xc ⟨K, fxM a, G, H, E⟩ (tDrop (tMeth CS "go" (GoSp K CS (m + 1)) [] E0 (tVar 0) (tCons te tNil))) ρ Q := fun {ρ dx' vf' best' te Q c} hcm h he hQ => by
      obtain ⟨q1, q2⟩ := hch c hcm
      exact xc_meth (S := ⟨K, fxM a, G, H, E⟩) (Pa := Eq [.dat (dF c.2)]) h rfl (ea_cons he ea_nil) fun ss e => ⟨⟨true, ps, W, best', c.2⟩, e.symm, rfl, ⟨⟨m, rfl, by show cntF c.2 + m = ps.length; omega⟩, q1, hn⟩, fun s dx'' vf'' fs' ⟨_, e2⟩ => by rw [e2]; exact hQ dx'' vf''⟩
    refine xs_for (im_enumL (ds := f.map dS) (ev_var rfl)) (fun p ρ => ∃ (dx' : Addr) (vf' : List (Str × V)) (s3 s5 s6 s7 : Sl), ρ = [.own a (.ins CS dx' vf' (fsO true ps W (((((chP f).take p).filter fun c => decide (wsum ps c.1 ≤ W)).map Prod.snd).foldl (goP ps W ltB m) best))), .dat (dF f), .dat (.int (len ps f)), s3, .dat (.int ((cntF f : Nat) : Int)), s5, s6, s7]) ⟨dx, vf, _, _, _, _, rfl⟩ (fun p d ρ1 hd hI => ?_) fun ρ1 hI => ?_
    · obtain ⟨dx', vf', s3, s5, s6, s7, rfl⟩ := hI
      obtain ⟨x, hx, rfl⟩ := enumD_get hd
      rw [List.getElem?_map] at hx
      obtain ⟨sh, hsh, rfl⟩ := Option.map_eq_some_iff.mp hx
      have hp : p < f.length := (List.getElem?_eq_some_iff.mp hsh).1
      have hsm : sh ∈ f := List.mem_of_getElem? hsh
      have hcp := chP_get hsh
      have hcm := List.mem_of_getElem? hcp
      obtain ⟨h1, h2, h3⟩ := hW.2 sh hsm
      refine ⟨_, _, tg_two, ?_⟩
      rw [Nat.zero_add]
      have etup : (sh.map dN).map Sl.dat ++ [.dat (.int ((cntF f : Nat) : Int))] = ((sh ++ [cntF f]).map dN).map Sl.dat := by
        simp [dN]
      refine xc_if (b := decide (wsum ps (sh ++ [cntF f]) ≤ W)) (et_test (ev_C0 (i := wsum ps (sh ++ [cntF f])) (j := W) (ev_sumL (l := sh ++ [cntF f]) (dα := dN) (f := wd ps) (im_tupE (ev_tup (ds := (sh ++ [cntF f]).map dN) (ea_cast (ea_starU (ds := sh.map dN) (eu_of (ev_var rfl)) (ea_cons (ev_var rfl) ea_nil)) etup) (by simp; omega))) (by simp; omega) fun i hi => ⟨[7], _, by simp, tg_name, pcs rfl (ev_var rfl) ?_⟩) (ev_fld (i := 0) rfl T.m_go.cls T.a_width rfl))) (fun hz => ?_) fun hz => ?_
      · rcases List.mem_append.mp hi with q | q
        · exact h3 i q
        · rw [List.mem_singleton.mp q]
          exact hk
      · have earg : ((f.take p).map dS).map Sl.dat ++ (.dat (dS (sh ++ [cntF f])) :: (((f.drop (p + 1)).map dS).map Sl.dat ++ [])) = ((f.take p ++ [sh ++ [cntF f]] ++ f.drop (p + 1)).map dS).map Sl.dat := by
          simp
        refine one hcm rfl (ev_lst (ds := (f.take p ++ [sh ++ [cntF f]] ++ f.drop (p + 1)).map dS) (ea_cast (ea_star (ds := (f.take p).map dS) (el_of ((ef_cut (ds := f.map dS) (el_of (ev_var rfl)) eo_none (eo_some (i := ((p : Nat) : Int)) (ev_var rfl))).evE.cast (by rw [cut_take _ _ (by rw [List.length_map]; omega), List.map_take])))
          (ea_cons (ev_tup (ds := (sh ++ [cntF f]).map dN) (ea_cast (ea_starU (ds := sh.map dN) (eu_of (ev_var rfl)) (ea_cons (ev_var rfl) ea_nil)) etup) (by simp; omega)) (ea_star (ds := (f.drop (p + 1)).map dS) (el_of ((ef_cut (ds := f.map dS) (el_of (ev_var rfl)) (eo_some (i := ((p + 1 : Nat) : Int)) ((ev_I0 (i := ((p : Nat) : Int)) (j := 1) (ev_var rfl) ev_int).cast rfl)) eo_none).evE.cast (by rw [cut_drop _ _ (by rw [List.length_map]; omega), List.map_drop]))) ea_nil))) earg) (by simp; omega)) fun dx'' vf'' => ?_
        refine ⟨dx'', vf'', .dat (dS sh), s5, .dat (.int ((p : Nat) : Int)), s7, ?_⟩
        rw [take_snoc hcp, List.filter_append, List.map_append, List.foldl_append, List.filter_cons, if_pos (by simpa using hz)]
        rfl
      · refine xc_next ⟨dx', vf', .dat (dS sh), s5, .dat (.int ((p : Nat) : Int)), s7, ?_⟩
        rw [take_snoc hcp, List.filter_append, List.map_append, List.foldl_append, List.filter_cons, if_neg (by rw [hz]; decide)]
        rfl
    · obtain ⟨dx', vf', s3, s5, s6, s7, rfl⟩ := hI
      rw [enumD_length, List.length_map]
      have hlast := chP_last f
      have hcm := List.mem_of_getElem? hlast
      have efin : goP ps W ltB (m + 1) best f = ((((chP f).take (f.length + 1)).filter fun c => decide (wsum ps c.1 ≤ W)).map Prod.snd).foldl (goP ps W ltB m) best := by
        rw [goP_succ zc, List.take_of_length_le (by have := chP_length f; omega)]
      refine xc_if (b := decide (wd ps (cntF f) ≤ W)) (et_test (ev_C0 (i := wd ps (cntF f)) (j := W) (pcs rfl (ev_var (d := dN (cntF f)) rfl) hk) (ev_fld (i := 0) rfl T.m_go.cls T.a_width rfl))) (fun hz => ?_) fun hz => ?_
      · have earg : (f.map dS).map Sl.dat ++ [.dat (dS [cntF f])] = ((f ++ [[cntF f]]).map dS).map Sl.dat := by
          simp
        refine one hcm rfl (ev_lst (ds := (f ++ [[cntF f]]).map dS) (ea_cast (ea_star (ds := f.map dS) (el_of (ev_var rfl)) (ea_cons (ev_tup1 (ev_var rfl)) ea_nil)) earg) (by simp; omega)) fun dx'' vf'' => ⟨dx'', vf'', _, rfl, (fun z => by cases z), rfl, ?_⟩
        show fsO true ps W _ = fsO true ps W (goP ps W ltB (m + 1) best f)
        rw [efin, take_snoc hlast, List.filter_append, List.map_append, List.foldl_append, List.filter_cons, if_pos (by simpa [wsum] using hz)]
        rfl
      · refine xc_next ⟨dx', vf', _, rfl, (fun z => by cases z), rfl, ?_⟩
        show fsO true ps W _ = fsO true ps W (goP ps W ltB (m + 1) best f)
        rw [efin, take_snoc hlast, List.filter_append, List.map_append, List.foldl_append, List.filter_cons, if_neg (by simpa [wsum] using hz)]
        rfl
  | false =>
    refine ⟨_, (pss_cons (ps_set (i := 2) sc_Shelving_go.nd rfl (Or.inl rfl) (pe_calM c_Shelving_length_of (hr.mono (by first | decide | omega)) (pv 0) (pa_cons (pv 1) pa_nil)))
      (pss_cons (ps_if (PW.pt (pw_and (pt_cmpR op_notN (pe_fld' (K := K) rfl (pv 0)) pe_non (nomark _)) (pw_and1 (pt_cmpR op_gt (pv 2) (pe_ix (r := rIxT K) ix_tup (pe_fld' (K := K) rfl (pv 0)) pe_int (fun _ _ => rfl)) (nomark _))))) (pss_one ps_retN) pss_nil)
      (pss_cons (ps_set (i := 4) sc_Shelving_go.nd rfl (Or.inl rfl) (pe_callB (r := rSum K) (cr_sum rfl) (by rfl) T.b_sum (by decide +kernel) (pa_cons (pe_lc (own := [("shelf", 3)]) (by rfl) sc_Shelving_go.nd (pi_list (pv 1)) (blkOk_by (N := ["self", "found", "length", "shelf", "index", "told", "place", "one"]) (sc := defScope s_Shelving_go) (own := [("shelf", 3)]) (by decide +kernel)) (fun _ _ _ _ _ => (pg_name (i := 3) sc_Shelving_go.nd rfl (Or.inl rfl))) (fun _ _ _ _ _ => pts_nil) (fun _ _ _ _ _ => (pe_callB (r := fun xs H Q => ∃ p ys, xs = [.ref p] ∧ (SqL K H p ys ∨ SqT K H p ys) ∧ Q (.int ys.length) H) call_len_seq (by rfl) T.b_len (by decide +kernel) (pa_cons (pv 3) pa_nil)))) pa_nil)))
      (pss_cons (ps_if (pt_cmpR (r := rEqD K) (op_eqD (u64 hr)) (pv 4) (pe_callB (r := fun xs H Q => ∃ p ys, xs = [.ref p] ∧ (SqL K H p ys ∨ SqT K H p ys) ∧ Q (.int ys.length) H) call_len_seq (by rfl) T.b_len (by decide +kernel) (pa_cons (pe_fld' (K := K) rfl (pv 0)) pa_nil)) (nomark _)) (pss_cons (ps_set (i := 5) sc_Shelving_go.nd rfl (Or.inl rfl) (pe_tup (pa_cons (pv 2) (pa_cons (pv 1) pa_nil))))
      (pss_cons (ps_fld (pv 0) (pe_ifExp (PW.pt (pw_or (pt_cmpR op_isN (pe_fld' (K := K) rfl (pv 0)) pe_non (nomark _)) (pw_or1 (pt_cmpR (r := rLtD K) (op_ltD (u64 hr)) (pv 5) (pe_fld' (K := K) rfl (pv 0)) (nomark _))))) (pv 5) (pe_fld' (K := K) rfl (pv 0))) (by rfl))
      (pss_one ps_retN))) pss_nil)
      (pss_cons (ps_for (passes_of rfl) rfl (pi_enum (by rfl) T.b_enumerate (pa_cons (pv 1) pa_nil)) (pg_tup (by rfl) (pgs_cons (pg_name (i := 6) sc_Shelving_go.nd rfl (Or.inl rfl)) (pgs_cons (pg_name (i := 3) sc_Shelving_go.nd rfl (Or.inl rfl)) pgs_nil))) (pss_one (ps_if (pt_cmpR op_le (pe_callB (r := rSum K) (cr_sum rfl) (by rfl) T.b_sum (by decide +kernel) (pa_cons (pe_lc (own := [("one", 7)]) (by rfl) sc_Shelving_go.nd (pi_tup (pe_tup (pa_star' (K := K) rfl (pv 3) (pa_cons (pv 4) pa_nil)))) (blkOk_by (N := ["self", "found", "length", "shelf", "index", "told", "place", "one"]) (sc := defScope s_Shelving_go) (own := [("one", 7)]) (by decide +kernel)) (fun _ _ _ _ _ => (pg_name (i := 7) sc_Shelving_go.nd rfl (Or.inl rfl))) (fun _ _ _ _ _ => pts_nil) (fun _ _ _ _ _ => (pe_ix (r := rIxT K) ix_tup (pe_ix (r := rIxT K) ix_tup (pe_fld' (K := K) rfl (pv 0)) (pv 7) (fun _ _ => rfl)) pe_int (fun _ _ => rfl)))) pa_nil)) (pe_fld' (K := K) rfl (pv 0)) (nomark _)) (pss_one (ps_expr (pe_calM c_Shelving_go (hr.mono (by first | decide | omega)) (pv 0) (pa_cons (pe_lst (pa_star' (K := K) rfl (pe_slice (r := rSlL K) sl_list (pv 1) po_none (po_some (pv 6))) (pa_cons (pe_tup (pa_star' (K := K) rfl (pv 3) (pa_cons (pv 4) pa_nil))) (pa_star' (K := K) rfl (pe_slice (r := rSlL K) sl_list (pv 1) (po_some (pe_op op_add (pv 6) pe_int)) po_none) pa_nil)))) pa_nil)))) pss_nil)))
      (pss_one (ps_if (pt_cmpR op_le (pe_ix (r := rIxT K) ix_tup (pe_ix (r := rIxT K) ix_tup (pe_fld' (K := K) rfl (pv 0)) (pv 4) (fun _ _ => rfl)) pe_int (fun _ _ => rfl)) (pe_fld' (K := K) rfl (pv 0)) (nomark _)) (pss_one (ps_expr (pe_calM c_Shelving_go (hr.mono (by first | decide | omega)) (pv 0) (pa_cons (pe_lst (pa_star' (K := K) rfl (pv 1) (pa_cons (pe_tup (pa_cons (pv 4) pa_nil)) pa_nil))) pa_nil)))) pss_nil))))))), fun G a dx vf => ?_⟩
    have pcs : ∀ {ρ : Rho} {vf' : List (Str × V)} {dx' : Addr} {best' : Option (Int × F)} {te : TE} {i : Nat}, ρ[0]? = some (.own a (.ins CS dx' vf' (fsO false ps W best'))) → Ev ⟨K, fxM a, G, H, E⟩ te ρ (Eq (.dat (dN i))) → i < ps.length → Ev ⟨K, fxM a, G, H, E⟩ (tOp (rIxT K) (tOp (rIxT K) (tFld K (tVar 0) "pieces") te) (tC (.int 0))) ρ (Eq (.dat (.int (wd ps i)))) := fun h hi hl =>
      ev_ixU (ev_ixU (ds := ps.map dP)  (ev_fld h T.m_go.cls T.a_pieces rfl) hi (at_nat (at_ps hl))) ev_int rfl
    refine xs_asg (S := ⟨K, fxM a, G, H, E⟩) (s := .dat (.int (len ps f))) (ev_meth (⟨false, ps, W, best, f⟩ : OI) rfl rfl rfl (ea_cons (ev_var rfl) ea_nil) hW fun s _ e => e.symm) ?_
    refine xs_when (b := cutB ps best f) (et_is (et_and (b := cutB ps best f) (et_test (ev_notN (d := dB best) (ev_fld (i := 0) rfl T.m_go.cls T.a_best rfl))) fun hz => ?_) ?_) (fun z => xc_retN ⟨_, _, _, rfl, (fun z => by cases z), rfl, ?_⟩) fun zc => ?_
    · cases best with
      | none => cases hz
      | some q => exact et_test (ev_C0 (i := len ps f) (j := q.1) (ev_var rfl) (ev_ixU (ds := [.int q.1, dF q.2]) (ev_fld (i := 0) rfl T.m_go.cls T.a_best rfl) ev_int rfl))
    · cases best <;> simp [dB, isNone, cutB]
    · show fsO false ps W best = fsO false ps W (goP ps W ltB m best f)
      rw [goP_cut z]
    have esum : (f.map fun sh => ((sh.length : Nat) : Int)).sum = ((cntF f : Nat) : Int) := sum_cnt f
    refine xs_asg (s := .dat (.int ((cntF f : Nat) : Int))) ((ev_sumL (l := f) (dα := dS) (f := fun sh => ((sh.length : Nat) : Int)) (im_listE (ds := f.map dS) (ev_var rfl)) (by omega) fun sh _ => ⟨[3], _, by simp, tg_name, (ev_lenU (ds := sh.map dN) (eu_of (ev_var rfl))).cast (by rw [List.length_map])⟩).cast (by rw [esum])) ?_
    refine xs_when (et_test (ev_eqI (i := ((cntF f : Nat) : Int)) (j := ((ps.length : Nat) : Int)) (ev_var rfl) ((ev_lenU (ds := ps.map dP) (eu_of (ev_fld (i := 0) rfl T.m_go.cls T.a_pieces rfl))).cast (by rw [List.length_map])))) (fun z => ?_) fun z => ?_
    · have hm : m = 0 := by
        have : ((cntF f : Nat) : Int) = ((ps.length : Nat) : Int) := of_decide_eq_true z
        omega
      subst hm
      refine xs_asg (s := .dat (.tuple [.int (len ps f), dF f])) (ev_tup2 (ev_var rfl) (ev_var rfl)) ?_
      refine xs_setfE (i := 0) (d := dB (updB ps ltB best f)) rfl (ev_if (b := lessB ps best f) (et_is (et_or (b := lessB ps best f) (et_test (ev_isN (d := dB best) (ev_fld (i := 0) rfl T.m_go.cls T.a_best rfl))) fun hz => ?_) ?_) (fun hz => ?_) fun hz => ?_) T.m_go.cls T.a_best (by show 3 < 900; omega) fun vf2 => ?_
      · cases best with
        | none => cases hz
        | some q => exact et_test (ev_ltD (d := .tuple [.int (len ps f), dF f]) (d' := .tuple [.int q.1, dF q.2]) (ev_var rfl) (ev_fld (i := 0) rfl T.m_go.cls T.a_best rfl) (cmp_ok (len ps f, f) q))
      · cases best <;> simp [dB, isNone, lessB]
      · refine (ev_var (d := .tuple [.int (len ps f), dF f]) rfl).cast ?_
        cases best with
        | none => rfl
        | some q =>
          show _ = Sl.dat (dB (if ltB (len ps f, f) q = true then some (len ps f, f) else some q))
          rw [if_pos (show ltB (len ps f, f) q = true from hz)]
          rfl
      · refine (ev_fld (i := 0) (d := dB best) rfl T.m_go.cls T.a_best rfl).cast ?_
        cases best with
        | none => cases hz
        | some q =>
          show _ = Sl.dat (dB (if ltB (len ps f, f) q = true then some (len ps f, f) else some q))
          rw [if_neg (by rw [show ltB (len ps f, f) q = false from hz]; decide)]
      exact xc_retN ⟨_, _, _, rfl, (fun z => by cases z), rfl, by rw [show goP ps W ltB 0 best f = updB ps ltB best f from goP_zero zc]; rfl⟩
    have hk : cntF f < ps.length := by
      have : ((cntF f : Nat) : Int) ≠ ((ps.length : Nat) : Int) := of_decide_eq_false z
      omega
    obtain ⟨m, rfl⟩ : ∃ n, m = n + 1 := ⟨m - 1, by omega⟩
    have hch : ∀ c ∈ chP f, Wg ps.length c.2 ∧ cntF c.2 = cntF f + 1 := fun c hc => ⟨wg_ch hw hk hc, cnt_ch (List.mem_map.mpr ⟨c, hc, rfl⟩)⟩
    have one : ∀ {ρ : Rho} {dx' : Addr} {vf' : List (Str × V)} {best' : Option (Int × F)} {te : TE} {Q : Oc → Prop} {c : List Nat × F}, c ∈ chP f → ρ[0]? = some (.own a (.ins CS dx' vf' (fsO false ps W best'))) → Ev ⟨K, fxM a, G, H, E⟩ te ρ (Eq (.dat (dF c.2))) → (∀ dx'' vf'', Q (.nx (ρ.set 0 (.own a (.ins CS dx'' vf'' (fsO false ps W (goP ps W ltB m best' c.2))))))) →
        Xc ⟨K, fxM a, G, H, E⟩ (tDrop (tMeth CS "go" (GoSp K CS (m + 1)) [] E0 (tVar 0) (tCons te tNil))) ρ Q := fun {ρ dx' vf' best' te Q c} hcm h he hQ => by
      obtain ⟨q1, q2⟩ := hch c hcm
      exact xc_meth (S := ⟨K, fxM a, G, H, E⟩) (Pa := Eq [.dat (dF c.2)]) h rfl (ea_cons he ea_nil) fun ss e => ⟨⟨false, ps, W, best', c.2⟩, e.symm, rfl, ⟨⟨m, rfl, by show cntF c.2 + m = ps.length; omega⟩, q1, hn⟩, fun s dx'' vf'' fs' ⟨_, e2⟩ => by rw [e2]; exact hQ dx'' vf''⟩
    refine xs_for (im_enumL (ds := f.map dS) (ev_var rfl)) (fun p ρ => ∃ (dx' : Addr) (vf' : List (Str × V)) (s3 s5 s6 s7 : Sl), ρ = [.own a (.ins CS dx' vf' (fsO false ps W (((((chP f).take p).filter fun c => decide (wsum ps c.1 ≤ W)).map Prod.snd).foldl (goP ps W ltB m) best))), .dat (dF f), .dat (.int (len ps f)), s3, .dat (.int ((cntF f : Nat) : Int)), s5, s6, s7]) ⟨dx, vf, _, _, _, _, rfl⟩ (fun p d ρ1 hd hI => ?_) fun ρ1 hI => ?_
    · obtain ⟨dx', vf', s3, s5, s6, s7, rfl⟩ := hI
      obtain ⟨x, hx, rfl⟩ := enumD_get hd
      rw [List.getElem?_map] at hx
      obtain ⟨sh, hsh, rfl⟩ := Option.map_eq_some_iff.mp hx
      have hp : p < f.length := (List.getElem?_eq_some_iff.mp hsh).1
      have hsm : sh ∈ f := List.mem_of_getElem? hsh
      have hcp := chP_get hsh
      have hcm := List.mem_of_getElem? hcp
      obtain ⟨h1, h2, h3⟩ := hW.2 sh hsm
      refine ⟨_, _, tg_two, ?_⟩
      rw [Nat.zero_add]
      have etup : (sh.map dN).map Sl.dat ++ [.dat (.int ((cntF f : Nat) : Int))] = ((sh ++ [cntF f]).map dN).map Sl.dat := by
        simp [dN]
      refine xc_if (b := decide (wsum ps (sh ++ [cntF f]) ≤ W)) (et_test (ev_C0 (i := wsum ps (sh ++ [cntF f])) (j := W) (ev_sumL (l := sh ++ [cntF f]) (dα := dN) (f := wd ps) (im_tupE (ev_tup (ds := (sh ++ [cntF f]).map dN) (ea_cast (ea_starU (ds := sh.map dN) (eu_of (ev_var rfl)) (ea_cons (ev_var rfl) ea_nil)) etup) (by simp; omega))) (by simp; omega) fun i hi => ⟨[7], _, by simp, tg_name, pcs rfl (ev_var rfl) ?_⟩) (ev_fld (i := 0) rfl T.m_go.cls T.a_width rfl))) (fun hz => ?_) fun hz => ?_
      · rcases List.mem_append.mp hi with q | q
        · exact h3 i q
        · rw [List.mem_singleton.mp q]
          exact hk
      · have earg : ((f.take p).map dS).map Sl.dat ++ (.dat (dS (sh ++ [cntF f])) :: (((f.drop (p + 1)).map dS).map Sl.dat ++ [])) = ((f.take p ++ [sh ++ [cntF f]] ++ f.drop (p + 1)).map dS).map Sl.dat := by
          simp
        refine one hcm rfl (ev_lst (ds := (f.take p ++ [sh ++ [cntF f]] ++ f.drop (p + 1)).map dS) (ea_cast (ea_star (ds := (f.take p).map dS) (el_of ((ef_cut (ds := f.map dS) (el_of (ev_var rfl)) eo_none (eo_some (i := ((p : Nat) : Int)) (ev_var rfl))).evE.cast (by rw [cut_take _ _ (by rw [List.length_map]; omega), List.map_take])))
          (ea_cons (ev_tup (ds := (sh ++ [cntF f]).map dN) (ea_cast (ea_starU (ds := sh.map dN) (eu_of (ev_var rfl)) (ea_cons (ev_var rfl) ea_nil)) etup) (by simp; omega)) (ea_star (ds := (f.drop (p + 1)).map dS) (el_of ((ef_cut (ds := f.map dS) (el_of (ev_var rfl)) (eo_some (i := ((p + 1 : Nat) : Int)) ((ev_I0 (i := ((p : Nat) : Int)) (j := 1) (ev_var rfl) ev_int).cast rfl)) eo_none).evE.cast (by rw [cut_drop _ _ (by rw [List.length_map]; omega), List.map_drop]))) ea_nil))) earg) (by simp; omega)) fun dx'' vf'' => ?_
        refine ⟨dx'', vf'', .dat (dS sh), s5, .dat (.int ((p : Nat) : Int)), s7, ?_⟩
        rw [take_snoc hcp, List.filter_append, List.map_append, List.foldl_append, List.filter_cons, if_pos (by simpa using hz)]
        rfl
      · refine xc_next ⟨dx', vf', .dat (dS sh), s5, .dat (.int ((p : Nat) : Int)), s7, ?_⟩
        rw [take_snoc hcp, List.filter_append, List.map_append, List.foldl_append, List.filter_cons, if_neg (by rw [hz]; decide)]
        rfl
    · obtain ⟨dx', vf', s3, s5, s6, s7, rfl⟩ := hI
      rw [enumD_length, List.length_map]
      have hlast := chP_last f
      have hcm := List.mem_of_getElem? hlast
      have efin : goP ps W ltB (m + 1) best f = ((((chP f).take (f.length + 1)).filter fun c => decide (wsum ps c.1 ≤ W)).map Prod.snd).foldl (goP ps W ltB m) best := by
        rw [goP_succ zc, List.take_of_length_le (by have := chP_length f; omega)]
      refine xc_if (b := decide (wd ps (cntF f) ≤ W)) (et_test (ev_C0 (i := wd ps (cntF f)) (j := W) (pcs rfl (ev_var (d := dN (cntF f)) rfl) hk) (ev_fld (i := 0) rfl T.m_go.cls T.a_width rfl))) (fun hz => ?_) fun hz => ?_
      · have earg : (f.map dS).map Sl.dat ++ [.dat (dS [cntF f])] = ((f ++ [[cntF f]]).map dS).map Sl.dat := by
          simp
        refine one hcm rfl (ev_lst (ds := (f ++ [[cntF f]]).map dS) (ea_cast (ea_star (ds := f.map dS) (el_of (ev_var rfl)) (ea_cons (ev_tup1 (ev_var rfl)) ea_nil)) earg) (by simp; omega)) fun dx'' vf'' => ⟨dx'', vf'', _, rfl, (fun z => by cases z), rfl, ?_⟩
        show fsO false ps W _ = fsO false ps W (goP ps W ltB (m + 1) best f)
        rw [efin, take_snoc hlast, List.filter_append, List.map_append, List.foldl_append, List.filter_cons, if_pos (by simpa [wsum] using hz)]
        rfl
      · refine xc_next ⟨dx', vf', _, rfl, (fun z => by cases z), rfl, ?_⟩
        show fsO false ps W _ = fsO false ps W (goP ps W ltB (m + 1) best f)
        rw [efin, take_snoc hlast, List.filter_append, List.map_append, List.foldl_append, List.filter_cons, if_neg (by simpa [wsum] using hz)]
        rfl
end
end K17

set_option Elab.async false
set_option linter.all false
set_option maxRecDepth 100000
set_option maxHeartbeats 4000000
namespace K17
open PySem PySem.Spec PyProof.Rows L2 Dl LamX StX
/-! ### rows of data -/
def rows : D → Option (Bool × List D)
  | .list ds => some (true, ds)
  | .tuple ds => some (false, ds)
  | _ => none
/-- the first that is not as p says -/
def fbG (p : D → Bool) : Nat → List D → Option Nat
  | _, [] => none
  | k, d :: ds => if p d then fbG p (k + 1) ds else some k
theorem fbG_at {p : D → Bool} : ∀ (ds : List D) (k i : Nat) (d : D), (∀ x ∈ ds.take i, p x = true) → ds[i]? = some d → p d = false → fbG p k ds = some (k + i)
  | [], k, i, d, _, h, _ => by simp at h
  | x :: ds, k, 0, d, _, h, hd => by
    simp only [List.getElem?_cons_zero, Option.some.injEq] at h
    subst h
    unfold fbG
    rw [hd]
    rfl
  | x :: ds, k, i + 1, d, ha, h, hd => by
    have hx : p x = true := ha x (by simp)
    unfold fbG
    rw [hx, if_pos rfl, fbG_at ds (k + 1) i d (fun y hy => ha y (by simp [hy])) (by simpa using h) hd]
    congr 1
    omega
theorem fbG_none {p : D → Bool} : ∀ (ds : List D) (k : Nat), (∀ x ∈ ds, p x = true) → fbG p k ds = none
  | [], _, _ => rfl
  | x :: ds, k, h => by
    unfold fbG
    rw [h x List.mem_cons_self, if_pos rfl, fbG_none ds (k + 1) fun y hy => h y (List.mem_cons_of_mem _ hy)]
theorem fbG_all {p : D → Bool} : ∀ (ds : List D) (k : Nat), fbG p k ds = none → ∀ x ∈ ds, p x = true
  | [], _, _, x, hx => by cases hx
  | y :: ds, k, h, x, hx => by
    unfold fbG at h
    cases hy : p y with
    | false =>
      rw [hy] at h
      cases h
    | true =>
      rw [hy, if_pos rfl] at h
      rcases List.mem_cons.mp hx with q | q
      · rw [q]
        exact hy
      · exact fbG_all ds (k + 1) h x q
/-- a piece -/
def okPc (d : D) : Bool := isTupOf 2 d && (match d with
  | .tuple ds => ds.all (isWithin 1 100)
  | _ => false)
def chkR (C1 : Addr) (most : Nat) (p : D → Bool) (d : D) : Re := match rows d with
  | none => .ex C1 (.int (-1))
  | some (_, ds) => if most < ds.length then .ex C1 (.int (-1)) else match fbG p 0 ds with
    | some k => .ex C1 (.int (k : Nat))
    | none => .ok (.dat .none)
theorem tup2_of {d : D} (hd : isTupOf 2 d = true) : ∃ a b, d = .tuple [a, b] := by
  cases d with
  | tuple ds =>
    have h' : (ds.length : Int) = 2 := of_decide_eq_true hd
    match ds, h' with
    | [a, b], _ => exact ⟨a, b, rfl⟩
    | [], h' => simp at h'
    | [_], h' => simp at h'
    | _ :: _ :: _ :: _, h' => simp at h'; omega
  | _ => cases hd
section
variable {P : Program} {w : World} {K : PySem.W.Frag} {mg : Str → Option Value} {base : Heap} {C1 C2 C3 fI CS : Addr} (T : Tx P w K mg base C1 C2 C3 fI CS)
include T
theorem c_go : ∀ j, CalM P w K mg base (j + 1) CS "go" ["self", "found"] (GoSp K CS j) := by
  intro j
  induction j with
  | zero => exact mk_calM T.m_go sc_Shelving_go (fun _ _ => rfl) (fun _ _ _ _ _ _ us hl => match us, hl with | [_, _], _ => rfl) (fun fa cdv A outer s H E hr i hp => by
      obtain ⟨⟨m, e, _⟩, _⟩ := hp
      cases e)
  | succ j ih => exact c_go_step T j ih
theorem c_told_shelves : Cal P w K mg base 14 "told_shelves" ["width", "pieces"] (spI K fx0 (fun i : Bool × List (Int × Int) × Int => [.dat (.int i.2.2), .dat (dPs i.1 i.2.1)]) (fun i => i.2.1.length ≤ 10) (fun i => Eq (.ok (.dat (dB (goP i.2.1 i.2.2 ltB i.2.1.length none [])))))) := by
  have c_Shelving := c_Shelving T
  refine mk_cal T.d_told_shelves sc_told_shelves (fun _ => rfl) (fun _ _ _ _ _ _ us hl => match us, hl with | [_, _], _ => rfl) (fun f cdv A outer s H E hr i hp => ?_)
  obtain ⟨b, ps, W⟩ := i
  have hp : ps.length ≤ 10 := hp
  have c_Shelving_go := c_go T (ps.length + 1)
  refine ⟨_, (pss_cons (ps_set (i := 2) sc_told_shelves.nd rfl (Or.inl rfl) (pe_calK c_Shelving (hr.mono (by first | decide | omega)) rfl (pa_cons (pv 0) (pa_cons (pv 1) pa_nil))))
      (pss_cons (ps_expr (pe_calM c_Shelving_go (hr.mono (by first | decide | omega)) (pv 2) (pa_cons (pe_lst pa_nil) pa_nil)))
      (pss_one (ps_ret (pe_fld' (K := K) rfl (pv 2)))))), fun G => ?_⟩
  refine xc_seq (xc_make (S := ⟨K, fx0, G, H, E⟩) (Pa := Eq [.dat (.int W), .dat (dPs b ps)]) (ea_cons (ev_var rfl) (ea_cons (ev_var rfl) ea_nil)) fun ss e => ⟨(b, ps, W), e.symm, rfl, trivial, fun s fs' ⟨e1, e2⟩ => ⟨e1, fun a dx vf => ?_⟩⟩)
  subst e2
  refine xc_seq (xc_meth (S := ⟨K, fx0, G, H, E⟩) (Pa := Eq [.dat (dF [])]) rfl rfl (ea_cons ev_lst0 ea_nil) fun ss e => ⟨(⟨b, ps, W, none, []⟩ : OI), e.symm, rfl, ⟨⟨ps.length, rfl, by show 0 + ps.length = ps.length; omega⟩, ⟨(show Wg ps.length [] from fun sh hs => by cases hs), (show ps.length ≤ 100 by omega)⟩⟩, fun s dx' vf' fs' ⟨_, e2⟩ => ?_⟩)
  subst e2
  exact xc_ret (ev_fld (i := 2) (d := dB (goP ps W ltB ps.length none [])) rfl T.m_go.cls T.a_best rfl) rfl
theorem c_check_pieces : Cal P w K mg base 3 "check_pieces" ["pieces"] (spI K fx0 (fun d : D => [.dat d]) (fun _ => True) (fun d => Eq (chkR C1 10 okPc d))) := by
  have c_is_row := c_is_row T
  have c_is_within := c_is_within T
  have c_is_tuple_of := c_is_tuple_of T
  have onep : ∀ {S : Cf} {ρ : Rho} {x : D}, S.K = K → ρ[2]? = some (.dat x) → ρ.length = 4 → EvT S (tOr (tNot (tB (tCall (spI K fx0 (fun i : D × Int => [.dat i.1, .dat (.int i.2)]) (fun _ => True) (fun i => Eq (.ok (.dat (.bool (isTupOf i.2 i.1)))))) [] E0 (tCons (tVar 2) (tCons (tC (.int 2)) tNil)))))
      (tNot (tB (tCB (rAll K) (tCons (tLc (iTup K (tVar 2)) (gName 3) tYes (tCall (spI K fx0 (fun i : D × Int × Int => [.dat i.1, .dat (.int i.2.1), .dat (.int i.2.2)]) (fun _ => True) (fun i => Eq (.ok (.dat (.bool (isWithin i.2.1 i.2.2 i.1)))))) [] E0 (tCons (tVar 3) (tCons (tC (.int 1)) (tCons (tC (.int 100)) tNil)))) [3]) tNil))))) ρ (Eq (!okPc x)) := by
    intro S ρ x hK h hl
    subst hK
    have h1 : Ev S (tCall (spI S.K fx0 (fun i : D × Int => [.dat i.1, .dat (.int i.2)]) (fun _ => True) (fun i => Eq (.ok (.dat (.bool (isTupOf i.2 i.1)))))) [] E0 (tCons (tVar 2) (tCons (tC (.int 2)) tNil))) ρ (Eq (.dat (.bool (isTupOf 2 x)))) := ev_callE (x, (2 : Int)) (ea_cons (ev_var h) (ea_cons ev_int ea_nil)) True.intro
    cases hx : isTupOf 2 x with
    | false =>
      rw [hx] at h1
      have ho : okPc x = false := by
        unfold okPc
        rw [hx]
        rfl
      rw [ho]
      exact et_orT (et_not (et_B h1))
    | true =>
      rw [hx] at h1
      obtain ⟨u, v, rfl⟩ := tup2_of hx
      have ho : okPc (.tuple [u, v]) = [u, v].all (isWithin 1 100) := by
        unfold okPc
        rw [hx]
        rfl
      rw [ho]
      refine et_is (et_or (et_not (et_B h1)) fun _ => et_not (et_B (ev_allMap (p := isWithin 1 100) (im_tupE (ev_var h)) (by simp) fun d _ => ⟨[3], _, by simp, tg_name, ev_callE (d, 1, 100) (ea_cons (ev_var (by simp [wipeR, hl])) (ea_cons ev_int (ea_cons ev_int ea_nil))) True.intro⟩))) ?_
      simp
  refine mk_cal T.d_check_pieces sc_check_pieces (fun _ => rfl) (fun _ _ _ _ _ _ us hl => match us, hl with | [_], _ => rfl) (fun f cdv A outer s H E hr d hp => ?_)
  cases hd : rows d with
  | none =>
    refine ⟨_, (pss_cons (ps_if (PW.pt (pw_or (pt_not (pt_val (pe_cal c_is_row (hr.mono (by first | decide | omega)) rfl (pa_cons (pv 0) pa_nil)))) (pw_or1 (pt_cmpR op_gt (pe_callB (r := fun xs H Q => ∃ p ys, xs = [.ref p] ∧ (SqL K H p ys ∨ SqT K H p ys) ∧ Q (.int ys.length) H) call_len_seq (by rfl) T.b_len (by decide +kernel) (pa_cons (pv 0) pa_nil)) (pe_gint rfl T.k_MOST_PIECES) (nomark _))))) (pss_one (ps_err (k := 0) T.e_BadPieces T.ini rfl (hr.mono (by first | decide | omega)) rfl (takes_of rfl rfl rfl rfl) (pe_un un_neg pe_int))) pss_nil)
      (pss_one (ps_for (passes_of rfl) rfl (pi_enum (by rfl) T.b_enumerate (pa_cons (pv 0) pa_nil)) (pg_tup (by rfl) (pgs_cons (pg_name (i := 1) sc_check_pieces.nd rfl (Or.inl rfl)) (pgs_cons (pg_name (i := 2) sc_check_pieces.nd rfl (Or.inl rfl)) pgs_nil))) (pss_one (ps_if (PW.pt (pw_or (pt_not (pt_val (pe_cal c_is_tuple_of (hr.mono (by first | decide | omega)) rfl (pa_cons (pv 2) (pa_cons pe_int pa_nil))))) (pw_or1 (pt_not (pt_val (pe_callB (r := rAll K) (cr_all rfl) (by rfl) T.b_all (by decide +kernel) (pa_cons (pe_lc (own := [("one", 3)]) (by rfl) sc_check_pieces.nd (pi_tup (pv 2)) (blkOk_by (N := ["pieces", "index", "piece", "one"]) (sc := defScope s_check_pieces) (own := [("one", 3)]) (by decide +kernel)) (fun _ _ _ _ _ => (pg_name (i := 3) sc_check_pieces.nd rfl (Or.inl rfl))) (fun _ _ _ _ _ => pts_nil) (fun _ _ _ _ _ => (pe_cal c_is_within (hr.mono (by first | decide | omega)) rfl (pa_cons (pv 3) (pa_cons pe_int (pa_cons (pe_gint rfl T.k_MOST_SIDE) pa_nil)))))) pa_nil))))))) (pss_one (ps_err (k := 0) T.e_BadPieces T.ini rfl (hr.mono (by first | decide | omega)) rfl (takes_of rfl rfl rfl rfl) (pv 1))) pss_nil))))), fun G => ?_⟩
    have e : chkR C1 10 okPc d = .ex C1 (.int (-1)) := by
      unfold chkR
      rw [hd]
    have er : (dList d || dTuple d) = false := by
      revert hd
      cases d <;> simp [rows, dList, dTuple]
    rw [e]
    exact xs_when (S := ⟨K, fx0, G, H, E⟩) (b := true) (et_orT ((et_not (et_B (ev_callE d (ea_cons (ev_var rfl) ea_nil) True.intro))).imp fun b hb => by rw [← hb, er]; rfl)) (fun _ => xc_raise T.e_BadPieces.oex T.e_BadPieces.nv (ev_neg ev_int) rfl) fun z => by cases z
  | some q =>
    obtain ⟨b, ds⟩ := q
    have e : chkR C1 10 okPc d = (if 10 < ds.length then .ex C1 (.int (-1)) else match fbG okPc 0 ds with
      | some k => .ex C1 (.int (k : Nat))
      | none => .ok (.dat .none)) := by
      unfold chkR
      rw [hd]
    cases b with
    | true =>
      obtain rfl : d = .list ds := by
        revert hd
        cases d <;> simp [rows]
      refine ⟨_, (pss_cons (ps_if (PW.pt (pw_or (pt_not (pt_val (pe_cal c_is_row (hr.mono (by first | decide | omega)) rfl (pa_cons (pv 0) pa_nil)))) (pw_or1 (pt_cmpR op_gt (pe_callB (r := fun xs H Q => ∃ p ys, xs = [.ref p] ∧ (SqL K H p ys ∨ SqT K H p ys) ∧ Q (.int ys.length) H) call_len_seq (by rfl) T.b_len (by decide +kernel) (pa_cons (pv 0) pa_nil)) (pe_gint rfl T.k_MOST_PIECES) (nomark _))))) (pss_one (ps_err (k := 0) T.e_BadPieces T.ini rfl (hr.mono (by first | decide | omega)) rfl (takes_of rfl rfl rfl rfl) (pe_un un_neg pe_int))) pss_nil)
      (pss_one (ps_for (passes_of rfl) rfl (pi_enum (by rfl) T.b_enumerate (pa_cons (pv 0) pa_nil)) (pg_tup (by rfl) (pgs_cons (pg_name (i := 1) sc_check_pieces.nd rfl (Or.inl rfl)) (pgs_cons (pg_name (i := 2) sc_check_pieces.nd rfl (Or.inl rfl)) pgs_nil))) (pss_one (ps_if (PW.pt (pw_or (pt_not (pt_val (pe_cal c_is_tuple_of (hr.mono (by first | decide | omega)) rfl (pa_cons (pv 2) (pa_cons pe_int pa_nil))))) (pw_or1 (pt_not (pt_val (pe_callB (r := rAll K) (cr_all rfl) (by rfl) T.b_all (by decide +kernel) (pa_cons (pe_lc (own := [("one", 3)]) (by rfl) sc_check_pieces.nd (pi_tup (pv 2)) (blkOk_by (N := ["pieces", "index", "piece", "one"]) (sc := defScope s_check_pieces) (own := [("one", 3)]) (by decide +kernel)) (fun _ _ _ _ _ => (pg_name (i := 3) sc_check_pieces.nd rfl (Or.inl rfl))) (fun _ _ _ _ _ => pts_nil) (fun _ _ _ _ _ => (pe_cal c_is_within (hr.mono (by first | decide | omega)) rfl (pa_cons (pv 3) (pa_cons pe_int (pa_cons (pe_gint rfl T.k_MOST_SIDE) pa_nil)))))) pa_nil))))))) (pss_one (ps_err (k := 0) T.e_BadPieces T.ini rfl (hr.mono (by first | decide | omega)) rfl (takes_of rfl rfl rfl rfl) (pv 1))) pss_nil))))), fun G => ?_⟩
      rw [e]
      refine xs_when (S := ⟨K, fx0, G, H, E⟩) (b := decide (10 < ds.length)) (et_is (et_or (et_not (et_B (ev_callE (.list ds) (ea_cons (ev_var rfl) ea_nil) True.intro))) fun _ => et_B (ev_C0 (ev_lenL (ds := ds) (el_of (ev_var rfl))) ev_int)) (by simp [dList, dTuple]; omega)) (fun z => ?_) fun z => ?_
      · rw [if_pos (of_decide_eq_true z)]
        exact xc_raise T.e_BadPieces.oex T.e_BadPieces.nv (ev_neg ev_int) rfl
      · rw [if_neg (of_decide_eq_false z)]
        refine xc_forE (im_enumL (ds := ds) (ev_var rfl)) (fun k ρ => ∃ s s' s3 : Sl, ρ = [.dat (.list ds), s, s', s3] ∧ ∀ x ∈ ds.take k, okPc x = true) ⟨_, _, _, rfl, by simp⟩ (fun k d ρ1 hd' hI => ?_) (fun ρ1 hI => ?_)
        · obtain ⟨s1, s2, s3, rfl, ha⟩ := hI
          obtain ⟨x, hx, rfl⟩ := enumD_get hd'
          refine ⟨_, _, tg_two, ?_⟩
          refine xc_if (onep (x := x) rfl rfl rfl) (fun z => ?_) fun z => ?_
          · have hz : okPc x = false := by simpa using z
            refine xc_raise T.e_BadPieces.oex T.e_BadPieces.nv (ev_var rfl) ?_
            show _ = _
            rw [fbG_at ds 0 k x ha hx hz]
          · have hz : okPc x = true := by simpa using z
            refine xc_next ⟨_, _, _, rfl, fun y hy => ?_⟩
            rw [List.take_add_one, hx] at hy
            simp at hy
            exact hy.elim (ha y) fun q => q ▸ hz
        · obtain ⟨s1, s2, s3, rfl, ha⟩ := hI
          rw [enumD_length, List.take_length] at ha
          show _ = _
          rw [fbG_none ds 0 ha]
    | false =>
      obtain rfl : d = .tuple ds := by
        revert hd
        cases d <;> simp [rows]
      refine ⟨_, (pss_cons (ps_if (PW.pt (pw_or (pt_not (pt_val (pe_cal c_is_row (hr.mono (by first | decide | omega)) rfl (pa_cons (pv 0) pa_nil)))) (pw_or1 (pt_cmpR op_gt (pe_callB (r := fun xs H Q => ∃ p ys, xs = [.ref p] ∧ (SqL K H p ys ∨ SqT K H p ys) ∧ Q (.int ys.length) H) call_len_seq (by rfl) T.b_len (by decide +kernel) (pa_cons (pv 0) pa_nil)) (pe_gint rfl T.k_MOST_PIECES) (nomark _))))) (pss_one (ps_err (k := 0) T.e_BadPieces T.ini rfl (hr.mono (by first | decide | omega)) rfl (takes_of rfl rfl rfl rfl) (pe_un un_neg pe_int))) pss_nil)
      (pss_one (ps_for (passes_of rfl) rfl (pi_enumT (by rfl) T.b_enumerate (pa_cons (pv 0) pa_nil)) (pg_tup (by rfl) (pgs_cons (pg_name (i := 1) sc_check_pieces.nd rfl (Or.inl rfl)) (pgs_cons (pg_name (i := 2) sc_check_pieces.nd rfl (Or.inl rfl)) pgs_nil))) (pss_one (ps_if (PW.pt (pw_or (pt_not (pt_val (pe_cal c_is_tuple_of (hr.mono (by first | decide | omega)) rfl (pa_cons (pv 2) (pa_cons pe_int pa_nil))))) (pw_or1 (pt_not (pt_val (pe_callB (r := rAll K) (cr_all rfl) (by rfl) T.b_all (by decide +kernel) (pa_cons (pe_lc (own := [("one", 3)]) (by rfl) sc_check_pieces.nd (pi_tup (pv 2)) (blkOk_by (N := ["pieces", "index", "piece", "one"]) (sc := defScope s_check_pieces) (own := [("one", 3)]) (by decide +kernel)) (fun _ _ _ _ _ => (pg_name (i := 3) sc_check_pieces.nd rfl (Or.inl rfl))) (fun _ _ _ _ _ => pts_nil) (fun _ _ _ _ _ => (pe_cal c_is_within (hr.mono (by first | decide | omega)) rfl (pa_cons (pv 3) (pa_cons pe_int (pa_cons (pe_gint rfl T.k_MOST_SIDE) pa_nil)))))) pa_nil))))))) (pss_one (ps_err (k := 0) T.e_BadPieces T.ini rfl (hr.mono (by first | decide | omega)) rfl (takes_of rfl rfl rfl rfl) (pv 1))) pss_nil))))), fun G => ?_⟩
      rw [e]
      refine xs_when (S := ⟨K, fx0, G, H, E⟩) (b := decide (10 < ds.length)) (et_is (et_or (et_not (et_B (ev_callE (.tuple ds) (ea_cons (ev_var rfl) ea_nil) True.intro))) fun _ => et_B (ev_C0 (ev_lenU (ds := ds) (eu_of (ev_var rfl))) ev_int)) (by simp [dList, dTuple]; omega)) (fun z => ?_) fun z => ?_
      · rw [if_pos (of_decide_eq_true z)]
        exact xc_raise T.e_BadPieces.oex T.e_BadPieces.nv (ev_neg ev_int) rfl
      · rw [if_neg (of_decide_eq_false z)]
        refine xc_forE (im_enumT (ds := ds) (ev_var rfl)) (fun k ρ => ∃ s s' s3 : Sl, ρ = [.dat (.tuple ds), s, s', s3] ∧ ∀ x ∈ ds.take k, okPc x = true) ⟨_, _, _, rfl, by simp⟩ (fun k d ρ1 hd' hI => ?_) (fun ρ1 hI => ?_)
        · obtain ⟨s1, s2, s3, rfl, ha⟩ := hI
          obtain ⟨x, hx, rfl⟩ := enumD_get hd'
          refine ⟨_, _, tg_two, ?_⟩
          refine xc_if (onep (x := x) rfl rfl rfl) (fun z => ?_) fun z => ?_
          · have hz : okPc x = false := by simpa using z
            refine xc_raise T.e_BadPieces.oex T.e_BadPieces.nv (ev_var rfl) ?_
            show _ = _
            rw [fbG_at ds 0 k x ha hx hz]
          · have hz : okPc x = true := by simpa using z
            refine xc_next ⟨_, _, _, rfl, fun y hy => ?_⟩
            rw [List.take_add_one, hx] at hy
            simp at hy
            exact hy.elim (ha y) fun q => q ▸ hz
        · obtain ⟨s1, s2, s3, rfl, ha⟩ := hI
          rw [enumD_length, List.take_length] at ha
          show _ = _
          rw [fbG_none ds 0 ha]
end
end K17

set_option Elab.async false
set_option linter.all false
set_option maxRecDepth 100000
set_option maxHeartbeats 4000000
namespace K17
open PySem PySem.Spec PyProof.Rows L2 Dl LamX StX
/-! ### good pieces -/
def GoodP (ps : List (Int × Int)) : Prop := ps.length ≤ 10 ∧ ∀ p ∈ ps, 1 ≤ p.1 ∧ p.1 ≤ 100 ∧ 1 ≤ p.2 ∧ p.2 ≤ 100
theorem okPc_dP {p : Int × Int} (h : 1 ≤ p.1 ∧ p.1 ≤ 100 ∧ 1 ≤ p.2 ∧ p.2 ≤ 100) : okPc (dP p) = true := by
  show (isTupOf 2 (dP p) && ([PyData.int p.1, .int p.2].all (isWithin 1 100))) = true
  simp [isTupOf, isWithin, dP, h.1, h.2.1, h.2.2.1, h.2.2.2]
theorem rows_dPs (b : Bool) (ps : List (Int × Int)) : rows (dPs b ps) = some (b, ps.map dP) := by
  cases b <;> rfl
theorem chk_ok {C1 : Addr} {b : Bool} {ps : List (Int × Int)} (h : GoodP ps) : chkR C1 10 okPc (dPs b ps) = .ok (.dat .none) := by
  unfold chkR
  rw [rows_dPs]
  simp only
  rw [if_neg (by rw [List.length_map]; have := h.1; omega), fbG_none]
  intro x hx
  obtain ⟨p, hp, rfl⟩ := List.mem_map.mp hx
  exact okPc_dP (h.2 p hp)
def ccR (C1 C3 : Addr) (w p : D) : Re := if isWithin 1 300 w then chkR C1 10 okPc p else .ex C3 w
/-- what is asked: good, or refused -/
inductive CI where
  | ok (b : Bool) (ps : List (Int × Int)) (W : Int)
  | no (w p : D) (C : Addr) (d : D)
def CI.args : CI → List Sl
  | .ok b ps W => [.dat (.int W), .dat (dPs b ps)]
  | .no w p _ _ => [.dat w, .dat p]
def CI.pre (C1 C3 : Addr) : CI → Prop
  | .ok _ ps W => GoodP ps ∧ 1 ≤ W ∧ W ≤ 300
  | .no w p C d => ccR C1 C3 w p = .ex C d
def CI.r (v : List (Int × Int) → Int → D) : CI → Re
  | .ok _ ps W => .ok (.dat (v ps W))
  | .no _ _ C d => .ex C d
def bestO (ps : List (Int × Int)) (W : Int) : Option (Int × F) := goP ps W ltB ps.length none []
def lcV (ps : List (Int × Int)) (W : Int) : D := match bestO ps W with
  | none => .none
  | some q => .int q.1
def shV (ps : List (Int × Int)) (W : Int) : D := match bestO ps W with
  | none => .none
  | some q => dF q.2
def area (ps : List (Int × Int)) : Int := (ps.map fun p => p.1 * p.2).sum
def bar (ps : List (Int × Int)) (W : Int) : Int := lmax (0 :: (area ps + W - 1) / W :: ps.map Prod.snd)
theorem im_dPs {S : Cf} {ρ : Rho} {i : Nat} {ps : List (Int × Int)} (h : ρ[i]? = some (.dat (dPs true ps))) : Itm S (iList S.K (tVar i)) ρ (Eq (ps.map dP)) := im_listE (ds := ps.map dP) (ev_var h)
theorem im_dPsT {S : Cf} {ρ : Rho} {i : Nat} {ps : List (Int × Int)} (h : ρ[i]? = some (.dat (dPs false ps))) : Itm S (iTup S.K (tVar i)) ρ (Eq (ps.map dP)) := im_tupE (ds := ps.map dP) (ev_var h)
section
variable {P : Program} {w : World} {K : PySem.W.Frag} {mg : Str → Option Value} {base : Heap} {C1 C2 C3 fI CS : Addr} (T : Tx P w K mg base C1 C2 C3 fI CS)
include T
theorem c_check_cloth : Cal P w K mg base 4 "check_cloth" ["width", "pieces"] (spI K fx0 (fun i : D × D => [.dat i.1, .dat i.2]) (fun _ => True) (fun i => Eq (ccR C1 C3 i.1 i.2))) := by
  have c_is_within := c_is_within T
  have c_check_pieces := c_check_pieces T
  refine mk_cal T.d_check_cloth sc_check_cloth (fun _ => rfl) (fun _ _ _ _ _ _ us hl => match us, hl with | [_, _], _ => rfl) (fun f cdv A outer s H E hr i hp => ⟨_, (pss_cons (ps_if (pt_not (pt_val (pe_cal c_is_within (hr.mono (by first | decide | omega)) rfl (pa_cons (pv 0) (pa_cons pe_int (pa_cons (pe_gint rfl T.k_MOST_WIDTH) pa_nil)))))) (pss_one (ps_err (k := 0) T.e_BadWidth T.ini rfl (hr.mono (by first | decide | omega)) rfl (takes_of rfl rfl rfl rfl) (pv 0))) pss_nil)
      (pss_one (ps_expr (pe_calX c_check_pieces (hr.mono (by first | decide | omega)) rfl (pa_cons (pv 1) pa_nil) (takes_of rfl rfl rfl rfl))))), fun G => ?_⟩)
  obtain ⟨x, p⟩ := i
  refine xs_when (S := ⟨K, fx0, G, H, E⟩) (et_not (et_B (ev_callE (x, 1, 300) (ea_cons (ev_var rfl) (ea_cons ev_int (ea_cons ev_int ea_nil))) True.intro))) (fun z => ?_) fun z => ?_
  · have hz : isWithin 1 300 x = false := by simpa using z
    exact xc_raise T.e_BadWidth.oex T.e_BadWidth.nv (ev_var rfl) (by show (if isWithin 1 300 x = true then _ else _) = _; rw [hz]; rfl)
  · have hz : isWithin 1 300 x = true := by simpa using z
    have e : ccR C1 C3 x p = chkR C1 10 okPc p := if_pos hz
    refine xc_callX (S := ⟨K, fx0, G, H, E⟩) p (ea_cons (ev_var rfl) ea_nil) True.intro (fun s hs => ?_) fun C d hx => ?_
    · show ccR C1 C3 x p = _
      rw [e]
      have hs' : chkR C1 10 okPc p = .ok s := hs
      unfold chkR at hs' ⊢
      split at hs'
      · cases hs'
      · split at hs'
        · cases hs'
        · rename_i hl
          rw [if_neg hl]
          split at hs'
          · cases hs'
          · rfl
    · show ccR C1 C3 x p = _
      rw [e]
      exact hx
theorem cc_ok {b : Bool} {ps : List (Int × Int)} {W : Int} (h : GoodP ps) (h1 : 1 ≤ W) (h2 : W ≤ 300) : ccR C1 C3 (.int W) (dPs b ps) = .ok (.dat .none) := by
  unfold ccR
  rw [if_pos (by simp [isWithin, h1, h2])]
  exact chk_ok h
theorem c_least_cloth : Cal P w K mg base 15 "least_cloth" ["width", "pieces"] (spI K fx0 CI.args (CI.pre C1 C3) (fun i => Eq (CI.r lcV i))) := by
  have c_check_cloth := c_check_cloth T
  have c_told_shelves := c_told_shelves T
  refine mk_cal T.d_least_cloth sc_least_cloth (fun i => by cases i <;> rfl) (fun _ _ _ _ _ _ us hl => match us, hl with | [_, _], _ => rfl) (fun f cdv A outer s H E hr i hp => ⟨_, (pss_cons (ps_expr (pe_calX c_check_cloth (hr.mono (by first | decide | omega)) rfl (pa_cons (pv 0) (pa_cons (pv 1) pa_nil)) (takes_of rfl rfl rfl rfl)))
      (pss_cons (ps_set (i := 2) sc_least_cloth.nd rfl (Or.inl rfl) (pe_cal c_told_shelves (hr.mono (by first | decide | omega)) rfl (pa_cons (pv 0) (pa_cons (pv 1) pa_nil))))
      (pss_one (ps_ret (pe_ifExp (pt_cmpR op_isN (pv 2) pe_non (nomark _)) pe_non (pe_ix (r := rIxT K) ix_tup (pv 2) pe_int (fun _ _ => rfl))))))), fun G => ?_⟩)
  cases i with
  | no x p C d =>
    refine xs_callX (S := ⟨K, fx0, G, H, E⟩) (x, p) (ea_cons (ev_var rfl) (ea_cons (ev_var rfl) ea_nil)) True.intro (fun s hs => ?_) fun C' d' hx => ?_
    · have hp' : ccR C1 C3 x p = .ex C d := hp
      have hs' : ccR C1 C3 x p = .ok s := hs
      rw [hp'] at hs'
      cases hs'
    · have hp' : ccR C1 C3 x p = .ex C d := hp
      have hx' : ccR C1 C3 x p = .ex C' d' := hx
      rw [hp'] at hx'
      exact hx'
  | ok b ps W =>
    obtain ⟨hg, h1, h2⟩ := hp
    refine xs_callX (S := ⟨K, fx0, G, H, E⟩) (.int W, dPs b ps) (ea_cons (ev_var rfl) (ea_cons (ev_var rfl) ea_nil)) True.intro (fun s hs => ?_) fun C' d' hx => ?_
    · refine xs_asg (s := .dat (dB (bestO ps W))) (ev_callE (b, ps, W) (ea_cons (ev_var rfl) (ea_cons (ev_var rfl) ea_nil)) hg.1) ?_
      refine xc_retP (p := Eq (.dat (lcV ps W))) (ev_if (et_test (ev_isN (d := dB (bestO ps W)) (ev_var rfl))) (fun hz => ?_) fun hz => ?_) fun s e => by rw [← e]; rfl
      · unfold lcV
        cases hb : bestO ps W with
        | none => exact ev_non
        | some q =>
          rw [hb] at hz
          cases hz
      · unfold lcV
        cases hb : bestO ps W with
        | none =>
          rw [hb] at hz
          cases hz
        | some q => exact ev_ixU (ds := [.int q.1, dF q.2]) (ev_var rfl) ev_int rfl
    · have hx' : ccR C1 C3 (.int W) (dPs b ps) = .ex C' d' := hx
      rw [cc_ok T hg h1 h2] at hx'
      cases hx'
theorem c_shelves : Cal P w K mg base 15 "shelves" ["width", "pieces"] (spI K fx0 CI.args (CI.pre C1 C3) (fun i => Eq (CI.r shV i))) := by
  have c_check_cloth := c_check_cloth T
  have c_told_shelves := c_told_shelves T
  refine mk_cal T.d_shelves sc_shelves (fun i => by cases i <;> rfl) (fun _ _ _ _ _ _ us hl => match us, hl with | [_, _], _ => rfl) (fun f cdv A outer s H E hr i hp => ⟨_, (pss_cons (ps_expr (pe_calX c_check_cloth (hr.mono (by first | decide | omega)) rfl (pa_cons (pv 0) (pa_cons (pv 1) pa_nil)) (takes_of rfl rfl rfl rfl)))
      (pss_cons (ps_set (i := 2) sc_shelves.nd rfl (Or.inl rfl) (pe_cal c_told_shelves (hr.mono (by first | decide | omega)) rfl (pa_cons (pv 0) (pa_cons (pv 1) pa_nil))))
      (pss_one (ps_ret (pe_ifExp (pt_cmpR op_isN (pv 2) pe_non (nomark _)) pe_non (pe_ix (r := rIxT K) ix_tup (pv 2) pe_int (fun _ _ => rfl))))))), fun G => ?_⟩)
  cases i with
  | no x p C d =>
    refine xs_callX (S := ⟨K, fx0, G, H, E⟩) (x, p) (ea_cons (ev_var rfl) (ea_cons (ev_var rfl) ea_nil)) True.intro (fun s hs => ?_) fun C' d' hx => ?_
    · have hp' : ccR C1 C3 x p = .ex C d := hp
      have hs' : ccR C1 C3 x p = .ok s := hs
      rw [hp'] at hs'
      cases hs'
    · have hp' : ccR C1 C3 x p = .ex C d := hp
      have hx' : ccR C1 C3 x p = .ex C' d' := hx
      rw [hp'] at hx'
      exact hx'
  | ok b ps W =>
    obtain ⟨hg, h1, h2⟩ := hp
    refine xs_callX (S := ⟨K, fx0, G, H, E⟩) (.int W, dPs b ps) (ea_cons (ev_var rfl) (ea_cons (ev_var rfl) ea_nil)) True.intro (fun s hs => ?_) fun C' d' hx => ?_
    · refine xs_asg (s := .dat (dB (bestO ps W))) (ev_callE (b, ps, W) (ea_cons (ev_var rfl) (ea_cons (ev_var rfl) ea_nil)) hg.1) ?_
      refine xc_retP (p := Eq (.dat (shV ps W))) (ev_if (et_test (ev_isN (d := dB (bestO ps W)) (ev_var rfl))) (fun hz => ?_) fun hz => ?_) fun s e => by rw [← e]; rfl
      · unfold shV
        cases hb : bestO ps W with
        | none => exact ev_non
        | some q =>
          rw [hb] at hz
          cases hz
      · unfold shV
        cases hb : bestO ps W with
        | none =>
          rw [hb] at hz
          cases hz
        | some q => exact ev_ixU (ds := [.int q.1, dF q.2]) (ev_var rfl) ev_int rfl
    · have hx' : ccR C1 C3 (.int W) (dPs b ps) = .ex C' d' := hx
      rw [cc_ok T hg h1 h2] at hx'
      cases hx'
theorem c_cloth_bar : Cal P w K mg base 15 "cloth_bar" ["width", "pieces"] (spI K fx0 CI.args (CI.pre C1 C3) (fun i => Eq (CI.r (fun ps W => .int (bar ps W)) i))) := by
  have c_check_cloth := c_check_cloth T
  refine mk_cal T.d_cloth_bar sc_cloth_bar (fun i => by cases i <;> rfl) (fun _ _ _ _ _ _ us hl => match us, hl with | [_, _], _ => rfl) (fun f cdv A outer s H E hr i hp => ?_)
  cases i with
  | no x p C d =>
    refine ⟨_, (pss_cons (ps_expr (pe_calX c_check_cloth (hr.mono (by first | decide | omega)) rfl (pa_cons (pv 0) (pa_cons (pv 1) pa_nil)) (takes_of rfl rfl rfl rfl)))
      (pss_cons (ps_set (i := 2) sc_cloth_bar.nd rfl (Or.inl rfl) (pe_callB (r := rSum K) (cr_sum rfl) (by rfl) T.b_sum (by decide +kernel) (pa_cons (pe_lc (own := [("wide", 3), ("long", 4)]) (by rfl) sc_cloth_bar.nd (pi_list (pv 1)) (blkOk_by (N := ["width", "pieces", "area", "wide", "long", "_"]) (sc := defScope s_cloth_bar) (own := [("wide", 3), ("long", 4)]) (by decide +kernel)) (fun _ _ _ _ _ => (pg_tup' (K := K) (n := 2) rfl rfl (pgs_cons (pg_name (i := 3) sc_cloth_bar.nd rfl (Or.inl rfl)) (pgs_cons (pg_name (i := 4) sc_cloth_bar.nd rfl (Or.inl rfl)) pgs_nil)))) (fun _ _ _ _ _ => pts_nil) (fun _ _ _ _ _ => (pe_op op_mul (pv 3) (pv 4)))) pa_nil)))
      (pss_one (ps_ret (pe_callB (r := rMax K) (cr_max rfl) (by rfl) T.b_max (by decide +kernel) (pa_cons (pe_lst (pa_cons pe_int (pa_cons (pe_op op_fdiv (pe_op op_sub (pe_op op_add (pv 2) (pv 0)) pe_int) (pv 0)) (pa_star' (K := K) rfl (pe_lc (own := [("_", 5), ("long", 4)]) (by rfl) sc_cloth_bar.nd (pi_list (pv 1)) (blkOk_by (N := ["width", "pieces", "area", "wide", "long", "_"]) (sc := defScope s_cloth_bar) (own := [("_", 5), ("long", 4)]) (by decide +kernel)) (fun _ _ _ _ _ => (pg_tup' (K := K) (n := 2) rfl rfl (pgs_cons (pg_name (i := 5) sc_cloth_bar.nd rfl (Or.inl rfl)) (pgs_cons (pg_name (i := 4) sc_cloth_bar.nd rfl (Or.inl rfl)) pgs_nil)))) (fun _ _ _ _ _ => pts_nil) (fun _ _ _ _ _ => (pv 4))) pa_nil)))) pa_nil)))))), fun G => ?_⟩
    refine xs_callX (S := ⟨K, fx0, G, H, E⟩) (x, p) (ea_cons (ev_var rfl) (ea_cons (ev_var rfl) ea_nil)) True.intro (fun s hs => ?_) fun C' d' hx => ?_
    · have hp' : ccR C1 C3 x p = .ex C d := hp
      have hs' : ccR C1 C3 x p = .ok s := hs
      rw [hp'] at hs'
      cases hs'
    · have hp' : ccR C1 C3 x p = .ex C d := hp
      have hx' : ccR C1 C3 x p = .ex C' d' := hx
      rw [hp'] at hx'
      exact hx'
  | ok b ps W =>
    obtain ⟨hg, h1, h2⟩ := hp
    have hlen : ps.length ≤ 1000000 := by have := hg.1; omega
    cases b with
    | true =>
      refine ⟨_, (pss_cons (ps_expr (pe_calX c_check_cloth (hr.mono (by first | decide | omega)) rfl (pa_cons (pv 0) (pa_cons (pv 1) pa_nil)) (takes_of rfl rfl rfl rfl)))
      (pss_cons (ps_set (i := 2) sc_cloth_bar.nd rfl (Or.inl rfl) (pe_callB (r := rSum K) (cr_sum rfl) (by rfl) T.b_sum (by decide +kernel) (pa_cons (pe_lc (own := [("wide", 3), ("long", 4)]) (by rfl) sc_cloth_bar.nd (pi_list (pv 1)) (blkOk_by (N := ["width", "pieces", "area", "wide", "long", "_"]) (sc := defScope s_cloth_bar) (own := [("wide", 3), ("long", 4)]) (by decide +kernel)) (fun _ _ _ _ _ => (pg_tup' (K := K) (n := 2) rfl rfl (pgs_cons (pg_name (i := 3) sc_cloth_bar.nd rfl (Or.inl rfl)) (pgs_cons (pg_name (i := 4) sc_cloth_bar.nd rfl (Or.inl rfl)) pgs_nil)))) (fun _ _ _ _ _ => pts_nil) (fun _ _ _ _ _ => (pe_op op_mul (pv 3) (pv 4)))) pa_nil)))
      (pss_one (ps_ret (pe_callB (r := rMax K) (cr_max rfl) (by rfl) T.b_max (by decide +kernel) (pa_cons (pe_lst (pa_cons pe_int (pa_cons (pe_op op_fdiv (pe_op op_sub (pe_op op_add (pv 2) (pv 0)) pe_int) (pv 0)) (pa_star' (K := K) rfl (pe_lc (own := [("_", 5), ("long", 4)]) (by rfl) sc_cloth_bar.nd (pi_list (pv 1)) (blkOk_by (N := ["width", "pieces", "area", "wide", "long", "_"]) (sc := defScope s_cloth_bar) (own := [("_", 5), ("long", 4)]) (by decide +kernel)) (fun _ _ _ _ _ => (pg_tup' (K := K) (n := 2) rfl rfl (pgs_cons (pg_name (i := 5) sc_cloth_bar.nd rfl (Or.inl rfl)) (pgs_cons (pg_name (i := 4) sc_cloth_bar.nd rfl (Or.inl rfl)) pgs_nil)))) (fun _ _ _ _ _ => pts_nil) (fun _ _ _ _ _ => (pv 4))) pa_nil)))) pa_nil)))))), fun G => ?_⟩
      refine xs_callX (S := ⟨K, fx0, G, H, E⟩) (.int W, dPs true ps) (ea_cons (ev_var rfl) (ea_cons (ev_var rfl) ea_nil)) True.intro (fun s hs => ?_) fun C' d' hx => ?_
      · refine xs_asg (s := .dat (.int (area ps))) (ev_sumL (l := ps) (dα := dP) (f := fun p => p.1 * p.2) (im_dPs rfl) hlen fun p hp => ⟨[3, 4], _, by simp, tg_two, ev_IC (i := p.1) (j := p.2) (ev_var rfl) (ev_var rfl) (.inl (by have := hg.2 p hp; exact ⟨by omega, by omega⟩))⟩) ?_
        have em : [.dat (.int 0), .dat (.int ((area ps + W - 1) / W))] ++ (((ps.map Prod.snd).map PyData.int).map Sl.dat ++ []) = ((0 :: (area ps + W - 1) / W :: ps.map Prod.snd).map PyData.int).map Sl.dat := by
          simp
        exact xc_ret (ev_max (ns := 0 :: (area ps + W - 1) / W :: ps.map Prod.snd) (by simp) (ev_lst (ds := (0 :: (area ps + W - 1) / W :: ps.map Prod.snd).map PyData.int) (ea_cast (ea_cons ev_int (ea_cons (ev_IC (i := area ps + W - 1) (j := W) (ev_I0 (i := area ps + W) (j := 1) (ev_I0 (i := area ps) (j := W) (ev_var rfl) (ev_var rfl)) ev_int) (ev_var rfl) ⟨by omega, by omega⟩)
          (ea_star (ds := (ps.map Prod.snd).map PyData.int) (el_of ((ef_mapL (l := ps) (dα := dP) (f := fun p => .int p.2) (im_dPs rfl) hlen fun p hp => ⟨[5, 4], _, by simp, tg_two, ev_var rfl⟩).evE.cast (by rw [List.map_map]; rfl))) ea_nil))) em) (by simp; have := hg.1; omega))) rfl
      · have hx' : ccR C1 C3 (.int W) (dPs true ps) = .ex C' d' := hx
        rw [cc_ok T hg h1 h2] at hx'
        cases hx'
    | false =>
      refine ⟨_, (pss_cons (ps_expr (pe_calX c_check_cloth (hr.mono (by first | decide | omega)) rfl (pa_cons (pv 0) (pa_cons (pv 1) pa_nil)) (takes_of rfl rfl rfl rfl)))
      (pss_cons (ps_set (i := 2) sc_cloth_bar.nd rfl (Or.inl rfl) (pe_callB (r := rSum K) (cr_sum rfl) (by rfl) T.b_sum (by decide +kernel) (pa_cons (pe_lc (own := [("wide", 3), ("long", 4)]) (by rfl) sc_cloth_bar.nd (pi_tup (pv 1)) (blkOk_by (N := ["width", "pieces", "area", "wide", "long", "_"]) (sc := defScope s_cloth_bar) (own := [("wide", 3), ("long", 4)]) (by decide +kernel)) (fun _ _ _ _ _ => (pg_tup' (K := K) (n := 2) rfl rfl (pgs_cons (pg_name (i := 3) sc_cloth_bar.nd rfl (Or.inl rfl)) (pgs_cons (pg_name (i := 4) sc_cloth_bar.nd rfl (Or.inl rfl)) pgs_nil)))) (fun _ _ _ _ _ => pts_nil) (fun _ _ _ _ _ => (pe_op op_mul (pv 3) (pv 4)))) pa_nil)))
      (pss_one (ps_ret (pe_callB (r := rMax K) (cr_max rfl) (by rfl) T.b_max (by decide +kernel) (pa_cons (pe_lst (pa_cons pe_int (pa_cons (pe_op op_fdiv (pe_op op_sub (pe_op op_add (pv 2) (pv 0)) pe_int) (pv 0)) (pa_star' (K := K) rfl (pe_lc (own := [("_", 5), ("long", 4)]) (by rfl) sc_cloth_bar.nd (pi_tup (pv 1)) (blkOk_by (N := ["width", "pieces", "area", "wide", "long", "_"]) (sc := defScope s_cloth_bar) (own := [("_", 5), ("long", 4)]) (by decide +kernel)) (fun _ _ _ _ _ => (pg_tup' (K := K) (n := 2) rfl rfl (pgs_cons (pg_name (i := 5) sc_cloth_bar.nd rfl (Or.inl rfl)) (pgs_cons (pg_name (i := 4) sc_cloth_bar.nd rfl (Or.inl rfl)) pgs_nil)))) (fun _ _ _ _ _ => pts_nil) (fun _ _ _ _ _ => (pv 4))) pa_nil)))) pa_nil)))))), fun G => ?_⟩
      refine xs_callX (S := ⟨K, fx0, G, H, E⟩) (.int W, dPs false ps) (ea_cons (ev_var rfl) (ea_cons (ev_var rfl) ea_nil)) True.intro (fun s hs => ?_) fun C' d' hx => ?_
      · refine xs_asg (s := .dat (.int (area ps))) (ev_sumL (l := ps) (dα := dP) (f := fun p => p.1 * p.2) (im_dPsT rfl) hlen fun p hp => ⟨[3, 4], _, by simp, tg_two, ev_IC (i := p.1) (j := p.2) (ev_var rfl) (ev_var rfl) (.inl (by have := hg.2 p hp; exact ⟨by omega, by omega⟩))⟩) ?_
        have em : [.dat (.int 0), .dat (.int ((area ps + W - 1) / W))] ++ (((ps.map Prod.snd).map PyData.int).map Sl.dat ++ []) = ((0 :: (area ps + W - 1) / W :: ps.map Prod.snd).map PyData.int).map Sl.dat := by
          simp
        exact xc_ret (ev_max (ns := 0 :: (area ps + W - 1) / W :: ps.map Prod.snd) (by simp) (ev_lst (ds := (0 :: (area ps + W - 1) / W :: ps.map Prod.snd).map PyData.int) (ea_cast (ea_cons ev_int (ea_cons (ev_IC (i := area ps + W - 1) (j := W) (ev_I0 (i := area ps + W) (j := 1) (ev_I0 (i := area ps) (j := W) (ev_var rfl) (ev_var rfl)) ev_int) (ev_var rfl) ⟨by omega, by omega⟩)
          (ea_star (ds := (ps.map Prod.snd).map PyData.int) (el_of ((ef_mapL (l := ps) (dα := dP) (f := fun p => .int p.2) (im_dPsT rfl) hlen fun p hp => ⟨[5, 4], _, by simp, tg_two, ev_var rfl⟩).evE.cast (by rw [List.map_map]; rfl))) ea_nil))) em) (by simp; have := hg.1; omega))) rfl
      · have hx' : ccR C1 C3 (.int W) (dPs false ps) = .ex C' d' := hx
        rw [cc_ok T hg h1 h2] at hx'
        cases hx'
end
end K17

set_option Elab.async false
set_option linter.all false
set_option maxRecDepth 100000
set_option maxHeartbeats 4000000
namespace K17
open PySem PySem.Spec PyProof.Rows L2 Dl LamX StX
/-! ### rolls -/
def prP : D → Int × Int
  | .tuple [.int x, .int y] => (x, y)
  | _ => (0, 0)
def psOf (d : D) : List (Int × Int) := match rows d with
  | some (_, ds) => ds.map prP
  | none => []
def okRl (d : D) : Bool := isTupOf 2 d && (match d with
  | .tuple [a, b] => isWithin 1 300 a && isWithin 0 1000 b
  | _ => false)
theorem okPc_inv {d : D} (h : okPc d = true) : d = dP (prP d) ∧ 1 ≤ (prP d).1 ∧ (prP d).1 ≤ 100 ∧ 1 ≤ (prP d).2 ∧ (prP d).2 ≤ 100 := by
  unfold okPc at h
  simp only [Bool.and_eq_true] at h
  obtain ⟨a, b, rfl⟩ := tup2_of h.1
  have h2 := h.2
  obtain ⟨x, y, rfl, rfl⟩ : ∃ x y, a = .int x ∧ b = .int y := by
    cases a <;> cases b <;> simp [isWithin] at h2
    exact ⟨_, _, rfl, rfl⟩
  simp [isWithin] at h2
  exact ⟨rfl, h2.1.1, h2.1.2, h2.2.1, h2.2.2⟩
theorem okRl_inv {d : D} (h : okRl d = true) : d = dP (prP d) ∧ 1 ≤ (prP d).1 ∧ (prP d).1 ≤ 300 ∧ 0 ≤ (prP d).2 ∧ (prP d).2 ≤ 1000 := by
  unfold okRl at h
  simp only [Bool.and_eq_true] at h
  obtain ⟨a, b, rfl⟩ := tup2_of h.1
  have h2 := h.2
  obtain ⟨x, y, rfl, rfl⟩ : ∃ x y, a = .int x ∧ b = .int y := by
    cases a <;> cases b <;> simp [isWithin] at h2
    exact ⟨_, _, rfl, rfl⟩
  simp [isWithin] at h2
  exact ⟨rfl, h2.1.1, h2.1.2, h2.2.1, h2.2.2⟩
theorem okRl_dP {p : Int × Int} (h : 1 ≤ p.1 ∧ p.1 ≤ 300 ∧ 0 ≤ p.2 ∧ p.2 ≤ 1000) : okRl (dP p) = true := by
  show (isTupOf 2 (dP p) && (isWithin 1 300 (.int p.1) && isWithin 0 1000 (.int p.2))) = true
  simp [isTupOf, isWithin, dP, h.1, h.2.1, h.2.2.1, h.2.2.2]
theorem map_inv {p : D → Bool} (hp : ∀ d, p d = true → d = dP (prP d)) {ds : List D} (h : ∀ x ∈ ds, p x = true) : ds = (ds.map prP).map dP := by
  rw [List.map_map]
  conv => lhs; rw [← List.map_id ds]
  exact List.map_congr_left fun x hx => hp x (h x hx)
theorem rows_dPs' {d : D} {b : Bool} {ds : List D} (h : rows d = some (b, ds)) (e : ds = (ds.map prP).map dP) : d = dPs b (psOf d) := by
  have e1 : psOf d = ds.map prP := by
    unfold psOf
    rw [h]
  rw [e1]
  unfold dPs
  rw [← e]
  cases d <;> simp [rows] at h
  · obtain ⟨rfl, rfl⟩ := h
    rfl
  · obtain ⟨rfl, rfl⟩ := h
    rfl
theorem chk_inv {C1 : Addr} {d : D} {s : Sl} (h : chkR C1 10 okPc d = .ok s) : s = .dat .none ∧ ∃ b, d = dPs b (psOf d) ∧ GoodP (psOf d) := by
  unfold chkR at h
  cases hr : rows d with
  | none =>
    rw [hr] at h
    cases h
  | some q =>
    obtain ⟨b, ds⟩ := q
    rw [hr] at h
    simp only at h
    by_cases hl : 10 < ds.length
    · rw [if_pos hl] at h
      cases h
    · rw [if_neg hl] at h
      cases hf : fbG okPc 0 ds with
      | some k =>
        rw [hf] at h
        cases h
      | none =>
        rw [hf] at h
        cases h
        have ha := fbG_all ds 0 hf
        have e1 : psOf d = ds.map prP := by
          unfold psOf
          rw [hr]
        refine ⟨rfl, b, rows_dPs' hr (map_inv (fun d h => (okPc_inv h).1) ha), ?_, fun p hp => ?_⟩
        · rw [e1, List.length_map]
          omega
        · rw [e1] at hp
          obtain ⟨x, hx, rfl⟩ := List.mem_map.mp hp
          exact (okPc_inv (ha x hx)).2
/-- what each roll costs -/
def rowsP (ps : List (Int × Int)) : Nat → List (Int × Int) → List (Int × Int)
  | _, [] => []
  | k, r :: rs => (match bestO ps r.1 with
    | none => []
    | some q => [(r.2 * q.1, ((k : Nat) : Int))]) ++ rowsP ps (k + 1) rs
theorem rowsP_take (ps : List (Int × Int)) : ∀ (rs : List (Int × Int)) (k i : Nat) (r : Int × Int), rs[i]? = some r → rowsP ps k (rs.take (i + 1)) = rowsP ps k (rs.take i) ++ (match bestO ps r.1 with
    | none => []
    | some q => [(r.2 * q.1, ((k + i : Nat) : Int))])
  | [], _, _, _, h => by simp at h
  | x :: rs, k, 0, r, h => by
    simp only [List.getElem?_cons_zero, Option.some.injEq] at h
    subst h
    simp [rowsP]
  | x :: rs, k, i + 1, r, h => by
    rw [List.take_succ_cons, List.take_succ_cons]
    show (match bestO ps x.1 with | none => [] | some q => _) ++ rowsP ps (k + 1) (rs.take (i + 1)) = ((match bestO ps x.1 with | none => [] | some q => _) ++ rowsP ps (k + 1) (rs.take i)) ++ _
    rw [rowsP_take ps rs (k + 1) i r (by simpa using h), List.append_assoc, show k + 1 + i = k + (i + 1) by omega]
theorem rowsP_len (ps : List (Int × Int)) : ∀ (rs : List (Int × Int)) (k : Nat), (rowsP ps k rs).length ≤ rs.length
  | [], _ => Nat.le_refl _
  | x :: rs, k => by
    unfold rowsP
    rw [List.length_append, List.length_cons]
    have := rowsP_len ps rs (k + 1)
    cases bestO ps x.1 <;> simp <;> omega
theorem min_ok (l : List (Int × Int)) : MinOk (l.map dP) := by
  have e : l.map dP = l.map PySem.W.Datum.toD := rfl
  refine ⟨?_, ?_, ?_⟩
  · rw [e]
    exact PySem.W.alikeAll_datum l
  · rw [e]
    exact Nat.le_trans (PySem.W.depthAll_map l) (by decide)
  · induction l with
    | nil => rfl
    | cons x l ih =>
      rw [List.map_cons]
      simp only [PyData.hasDictAll, ih rfl, Bool.or_false]
      rfl
def brV (rs ps : List (Int × Int)) : D := minO ((rowsP ps 0 rs).map dP)
def brR (C1 C2 : Addr) (r p : D) : Re := match rows r with
  | none => .ex C2 (.int (-1))
  | some (_, ds) => if 1 ≤ ds.length ∧ ds.length ≤ 10 then (match fbG okRl 0 ds with
    | some k => .ex C2 (.int (k : Nat))
    | none => match chkR C1 10 okPc p with
      | .ex C d => .ex C d
      | .ok _ => .ok (.dat (brV (psOf r) (psOf p)))) else .ex C2 (.int (-1))
theorem lenTest (d : D) (n : Nat) (h : (dList d || dTuple d) = true) : (!(dList d || dTuple d) || !(decide ((1 : Int) ≤ (n : Int)) && decide ((n : Int) ≤ 10))) = !decide (1 ≤ n ∧ n ≤ 10) := by
  rw [h]
  simp only [Bool.not_true, Bool.false_or]
  congr 1
  rw [Bool.eq_iff_iff]
  simp
  omega
section
variable {P : Program} {w : World} {K : PySem.W.Frag} {mg : Str → Option Value} {base : Heap} {C1 C2 C3 fI CS : Addr} (T : Tx P w K mg base C1 C2 C3 fI CS)
include T
theorem c_best_roll : Cal P w K mg base 15 "best_roll" ["rolls", "pieces"] (spI K fx0 (fun i : D × D => [.dat i.1, .dat i.2]) (fun _ => True) (fun i => Eq (brR C1 C2 i.1 i.2))) := by
  have c_is_row := c_is_row T
  have c_is_within := c_is_within T
  have c_is_tuple_of := c_is_tuple_of T
  have c_check_pieces := c_check_pieces T
  have c_told_shelves := c_told_shelves T
  refine mk_cal T.d_best_roll sc_best_roll (fun _ => rfl) (fun _ _ _ _ _ _ us hl => match us, hl with | [_, _], _ => rfl) (fun f cdv A outer s H E hr i hp => ?_)
  obtain ⟨r, p⟩ := i
  cases hd : rows r with
  | none =>
    refine ⟨_, (pss_cons (ps_if (PW.pt (pw_or (pt_not (pt_val (pe_cal c_is_row (hr.mono (by first | decide | omega)) rfl (pa_cons (pv 0) pa_nil)))) (pw_or1 (pt_not (pt_chain op_le op_le pe_int (pe_callB (r := fun xs H Q => ∃ p ys, xs = [.ref p] ∧ (SqL K H p ys ∨ SqT K H p ys) ∧ Q (.int ys.length) H) call_len_seq (by rfl) T.b_len (by decide +kernel) (pa_cons (pv 0) pa_nil)) (pe_gint rfl T.k_MOST_ROLLS)))))) (pss_one (ps_err (k := 0) T.e_BadRolls T.ini rfl (hr.mono (by first | decide | omega)) rfl (takes_of rfl rfl rfl rfl) (pe_un un_neg pe_int))) pss_nil)
      (pss_cons (ps_for (passes_of rfl) rfl (pi_enum (by rfl) T.b_enumerate (pa_cons (pv 0) pa_nil)) (pg_tup (by rfl) (pgs_cons (pg_name (i := 2) sc_best_roll.nd rfl (Or.inl rfl)) (pgs_cons (pg_name (i := 3) sc_best_roll.nd rfl (Or.inl rfl)) pgs_nil))) (pss_one (ps_if (PW.pt (pw_or (pt_not (pt_val (pe_cal c_is_tuple_of (hr.mono (by first | decide | omega)) rfl (pa_cons (pv 3) (pa_cons pe_int pa_nil))))) (pw_or (pt_not (pt_val (pe_cal c_is_within (hr.mono (by first | decide | omega)) rfl (pa_cons (pe_ix (r := rIxT K) ix_tup (pv 3) pe_int (fun _ _ => rfl)) (pa_cons pe_int (pa_cons (pe_gint rfl T.k_MOST_WIDTH) pa_nil)))))) (pw_or1 (pt_not (pt_val (pe_cal c_is_within (hr.mono (by first | decide | omega)) rfl (pa_cons (pe_ix (r := rIxT K) ix_tup (pv 3) pe_int (fun _ _ => rfl)) (pa_cons pe_int (pa_cons (pe_gint rfl T.k_MOST_PRICE) pa_nil)))))))))) (pss_one (ps_err (k := 0) T.e_BadRolls T.ini rfl (hr.mono (by first | decide | omega)) rfl (takes_of rfl rfl rfl rfl) (pv 2))) pss_nil)))
      (pss_cons (ps_expr (pe_calX c_check_pieces (hr.mono (by first | decide | omega)) rfl (pa_cons (pv 1) pa_nil) (takes_of rfl rfl rfl rfl)))
      (pss_cons (ps_set (i := 4) sc_best_roll.nd rfl (Or.inl rfl) (pe_lst pa_nil))
      (pss_cons (ps_for (passes_of rfl) rfl (pi_enum (by rfl) T.b_enumerate (pa_cons (pv 0) pa_nil)) (pg_tup (by rfl) (pgs_cons (pg_name (i := 2) sc_best_roll.nd rfl (Or.inl rfl)) (pgs_cons (pg_tup (by rfl) (pgs_cons (pg_name (i := 5) sc_best_roll.nd rfl (Or.inl rfl)) (pgs_cons (pg_name (i := 6) sc_best_roll.nd rfl (Or.inl rfl)) pgs_nil))) pgs_nil))) (pss_cons (ps_set (i := 7) sc_best_roll.nd rfl (Or.inl rfl) (pe_cal c_told_shelves (hr.mono (by first | decide | omega)) rfl (pa_cons (pv 5) (pa_cons (pv 1) pa_nil))))
      (pss_one (ps_if (pt_cmpR op_notN (pv 7) pe_non (nomark _)) (pss_one (ps_expr (pe_bm PySem.F.plainAttrs_list PySem.F.slot_list_append PySem.F.type_list_append mt_append (pv 4) (pa_cons (pe_tup (pa_cons (pe_op op_mul (pv 6) (pe_ix (r := rIxT K) ix_tup (pv 7) pe_int (fun _ _ => rfl))) (pa_cons (pv 2) pa_nil))) pa_nil)))) pss_nil))))
      (pss_one (ps_ret (pe_callBK (cr_minDf rfl (u64 hr)) rfl T.b_min (by decide +kernel) (pa_cons (pv 4) pa_nil) (pk_cons pe_non pk_nil))))))))), fun G => ?_⟩
    have e : brR C1 C2 r p = .ex C2 (.int (-1)) := by
      unfold brR
      rw [hd]
    have er : (dList r || dTuple r) = false := by
      revert hd
      cases r <;> simp [rows, dList, dTuple]
    show Xc _ _ _ (RetP (Eq (brR C1 C2 r p)))
    rw [e]
    exact xs_when (S := ⟨K, fx0, G, H, E⟩) (b := true) (et_orT ((et_not (et_B (ev_callE r (ea_cons (ev_var rfl) ea_nil) True.intro))).imp fun b hb => by rw [← hb, er]; rfl)) (fun _ => xc_raise T.e_BadRolls.oex T.e_BadRolls.nv (ev_neg ev_int) rfl) fun z => by cases z
  | some q =>
    obtain ⟨b, ds⟩ := q
    have e : brR C1 C2 r p = (if 1 ≤ ds.length ∧ ds.length ≤ 10 then (match fbG okRl 0 ds with
      | some k => .ex C2 (.int (k : Nat))
      | none => match chkR C1 10 okPc p with
        | .ex C d => .ex C d
        | .ok _ => .ok (.dat (brV (psOf r) (psOf p)))) else .ex C2 (.int (-1))) := by
      unfold brR
      rw [hd]
    have epr : psOf r = ds.map prP := by
      unfold psOf
      rw [hd]
    cases b with
    | true =>
      obtain rfl : r = .list ds := by
        revert hd
        cases r <;> simp [rows]
      refine ⟨_, (pss_cons (ps_if (PW.pt (pw_or (pt_not (pt_val (pe_cal c_is_row (hr.mono (by first | decide | omega)) rfl (pa_cons (pv 0) pa_nil)))) (pw_or1 (pt_not (pt_chain op_le op_le pe_int (pe_callB (r := fun xs H Q => ∃ p ys, xs = [.ref p] ∧ (SqL K H p ys ∨ SqT K H p ys) ∧ Q (.int ys.length) H) call_len_seq (by rfl) T.b_len (by decide +kernel) (pa_cons (pv 0) pa_nil)) (pe_gint rfl T.k_MOST_ROLLS)))))) (pss_one (ps_err (k := 0) T.e_BadRolls T.ini rfl (hr.mono (by first | decide | omega)) rfl (takes_of rfl rfl rfl rfl) (pe_un un_neg pe_int))) pss_nil)
      (pss_cons (ps_for (passes_of rfl) rfl (pi_enum (by rfl) T.b_enumerate (pa_cons (pv 0) pa_nil)) (pg_tup (by rfl) (pgs_cons (pg_name (i := 2) sc_best_roll.nd rfl (Or.inl rfl)) (pgs_cons (pg_name (i := 3) sc_best_roll.nd rfl (Or.inl rfl)) pgs_nil))) (pss_one (ps_if (PW.pt (pw_or (pt_not (pt_val (pe_cal c_is_tuple_of (hr.mono (by first | decide | omega)) rfl (pa_cons (pv 3) (pa_cons pe_int pa_nil))))) (pw_or (pt_not (pt_val (pe_cal c_is_within (hr.mono (by first | decide | omega)) rfl (pa_cons (pe_ix (r := rIxT K) ix_tup (pv 3) pe_int (fun _ _ => rfl)) (pa_cons pe_int (pa_cons (pe_gint rfl T.k_MOST_WIDTH) pa_nil)))))) (pw_or1 (pt_not (pt_val (pe_cal c_is_within (hr.mono (by first | decide | omega)) rfl (pa_cons (pe_ix (r := rIxT K) ix_tup (pv 3) pe_int (fun _ _ => rfl)) (pa_cons pe_int (pa_cons (pe_gint rfl T.k_MOST_PRICE) pa_nil)))))))))) (pss_one (ps_err (k := 0) T.e_BadRolls T.ini rfl (hr.mono (by first | decide | omega)) rfl (takes_of rfl rfl rfl rfl) (pv 2))) pss_nil)))
      (pss_cons (ps_expr (pe_calX c_check_pieces (hr.mono (by first | decide | omega)) rfl (pa_cons (pv 1) pa_nil) (takes_of rfl rfl rfl rfl)))
      (pss_cons (ps_set (i := 4) sc_best_roll.nd rfl (Or.inl rfl) (pe_lst pa_nil))
      (pss_cons (ps_for (passes_of rfl) rfl (pi_enum (by rfl) T.b_enumerate (pa_cons (pv 0) pa_nil)) (pg_tup (by rfl) (pgs_cons (pg_name (i := 2) sc_best_roll.nd rfl (Or.inl rfl)) (pgs_cons (pg_tup (by rfl) (pgs_cons (pg_name (i := 5) sc_best_roll.nd rfl (Or.inl rfl)) (pgs_cons (pg_name (i := 6) sc_best_roll.nd rfl (Or.inl rfl)) pgs_nil))) pgs_nil))) (pss_cons (ps_set (i := 7) sc_best_roll.nd rfl (Or.inl rfl) (pe_cal c_told_shelves (hr.mono (by first | decide | omega)) rfl (pa_cons (pv 5) (pa_cons (pv 1) pa_nil))))
      (pss_one (ps_if (pt_cmpR op_notN (pv 7) pe_non (nomark _)) (pss_one (ps_expr (pe_bm PySem.F.plainAttrs_list PySem.F.slot_list_append PySem.F.type_list_append mt_append (pv 4) (pa_cons (pe_tup (pa_cons (pe_op op_mul (pv 6) (pe_ix (r := rIxT K) ix_tup (pv 7) pe_int (fun _ _ => rfl))) (pa_cons (pv 2) pa_nil))) pa_nil)))) pss_nil))))
      (pss_one (ps_ret (pe_callBK (cr_minDf rfl (u64 hr)) rfl T.b_min (by decide +kernel) (pa_cons (pv 4) pa_nil) (pk_cons pe_non pk_nil))))))))), fun G => ?_⟩
      show Xc _ _ _ (RetP (Eq (brR C1 C2 (.list ds) p)))
      rw [e]
      refine xs_when (S := ⟨K, fx0, G, H, E⟩) (b := !decide (1 ≤ ds.length ∧ ds.length ≤ 10)) (et_is (et_or (et_not (et_B (ev_callE (.list ds) (ea_cons (ev_var rfl) ea_nil) True.intro))) fun _ => et_not (et_test (ev_chain (i := 1) (j := ((ds.length : Nat) : Int)) (l := 10) ev_int (ev_lenL (ds := ds) (el_of (ev_var rfl))) fun _ => ev_int))) (lenTest _ _ rfl)) (fun z => ?_) fun z => ?_
      · rw [if_neg (fun h => by rw [decide_eq_true h] at z; cases z)]
        exact xc_raise T.e_BadRolls.oex T.e_BadRolls.nv (ev_neg ev_int) rfl
      · have hlen : 1 ≤ ds.length ∧ ds.length ≤ 10 := Decidable.byContradiction fun h => by rw [decide_eq_false h] at z; cases z
        rw [if_pos hlen]
        refine xs_for (im_enumL (ds := ds) (ev_var rfl)) (fun k ρ => ∃ s2 s3 : Sl, ρ = [.dat (.list ds), .dat p, s2, s3, .no, .no, .no, .no] ∧ ∀ x ∈ ds.take k, okRl x = true) ⟨_, _, rfl, by simp⟩ (fun k d ρ1 hd' hI => ?_) (fun ρ1 hI => ?_)
        · obtain ⟨s2, s3, rfl, ha⟩ := hI
          obtain ⟨x, hx, rfl⟩ := enumD_get hd'
          refine ⟨_, _, tg_two, ?_⟩
          have h1 : Ev ⟨K, fx0, G, H, E⟩ (tCall (spI K fx0 (fun i : D × Int => [.dat i.1, .dat (.int i.2)]) (fun _ => True) (fun i => Eq (.ok (.dat (.bool (isTupOf i.2 i.1)))))) [] E0 (tCons (tVar 3) (tCons (tC (.int 2)) tNil))) [.dat (.list ds), .dat p, .dat (.int ((0 + k : Nat) : Int)), .dat x, .no, .no, .no, .no] (Eq (.dat (.bool (isTupOf 2 x)))) := ev_callE (x, (2 : Int)) (ea_cons (ev_var rfl) (ea_cons ev_int ea_nil)) True.intro
          cases hok : okRl x with
          | false =>
            refine xc_if (b := true) ?_ (fun _ => ?_) fun z => by cases z
            · cases hx2 : isTupOf 2 x with
              | false =>
                rw [hx2] at h1
                exact et_orT (et_not (et_B h1))
              | true =>
                rw [hx2] at h1
                obtain ⟨u, v, rfl⟩ := tup2_of hx2
                have ho : (isWithin 1 300 u && isWithin 0 1000 v) = false := by
                  have e0 : okRl (.tuple [u, v]) = (isWithin 1 300 u && isWithin 0 1000 v) := by
                    unfold okRl
                    rw [hx2]
                    rfl
                  rw [← e0]
                  exact hok
                refine et_is (et_or (et_not (et_B h1)) fun _ => et_or (et_not (et_B (ev_callE (u, 1, 300) (ea_cons (ev_ixU (ds := [u, v]) (ev_var rfl) ev_int rfl) (ea_cons ev_int (ea_cons ev_int ea_nil))) True.intro))) fun _ => et_not (et_B (ev_callE (v, 0, 1000) (ea_cons (ev_ixU (ds := [u, v]) (ev_var rfl) ev_int rfl) (ea_cons ev_int (ea_cons ev_int ea_nil))) True.intro))) ?_
                revert ho
                cases isWithin 1 300 u <;> cases isWithin 0 1000 v <;> simp
            · refine xc_raise T.e_BadRolls.oex T.e_BadRolls.nv (ev_var rfl) ?_
              show _ = _
              rw [fbG_at ds 0 k x ha hx hok]
          | true =>
            obtain ⟨ex, hb1, hb2, hb3, hb4⟩ := okRl_inv hok
            refine xc_if (b := false) ?_ (fun z => by cases z) fun _ => ?_
            · generalize prP x = q at ex hb1 hb2 hb3 hb4
              obtain ⟨u, v⟩ := q
              subst ex
              have w1 : isWithin 1 300 (.int u) = true := by simp only [isWithin, Bool.and_eq_true, decide_eq_true_eq]; exact ⟨hb1, hb2⟩
              have w2 : isWithin 0 1000 (.int v) = true := by simp only [isWithin, Bool.and_eq_true, decide_eq_true_eq]; exact ⟨hb3, hb4⟩
              exact et_is (et_or (et_not (et_B h1)) fun _ => et_or (et_not (et_B (ev_callE (PyData.int u, 1, 300) (ea_cons (ev_ixU (ds := [.int u, .int v]) (ev_var rfl) ev_int rfl) (ea_cons ev_int (ea_cons ev_int ea_nil))) True.intro))) fun _ => et_not (et_B (ev_callE (PyData.int v, 0, 1000) (ea_cons (ev_ixU (ds := [.int u, .int v]) (ev_var rfl) ev_int rfl) (ea_cons ev_int (ea_cons ev_int ea_nil))) True.intro))) (by rw [w1, w2]; rfl)
            · refine xc_next ⟨_, _, rfl, fun y hy => ?_⟩
              rw [List.take_add_one, hx] at hy
              simp at hy
              exact hy.elim (ha y) fun q => q ▸ hok
        · obtain ⟨s2, s3, rfl, ha⟩ := hI
          rw [enumD_length, List.take_length] at ha
          rw [fbG_none ds 0 ha]
          have eds : ds = (ds.map prP).map dP := map_inv (fun d h => (okRl_inv h).1) ha
          refine xs_callX (S := ⟨K, fx0, G, H, E⟩) p (ea_cons (ev_var rfl) ea_nil) True.intro (fun s hs => ?_) fun C d hx => ?_
          · have hs' : chkR C1 10 okPc p = .ok s := hs
            obtain ⟨es, b', ep, hg⟩ := chk_inv hs'
            show Xc _ _ _ (RetP (Eq (match chkR C1 10 okPc p with | .ex C d => .ex C d | .ok _ => .ok (.dat (brV (psOf (.list ds)) (psOf p))))))
            rw [hs', epr]
            simp only
            generalize psOf p = ps at ep hg
            subst ep
            refine xs_asgF ef_nil fun aR dsR eR => ?_
            subst eR
            refine xs_for (im_enumL (ds := ds) (ev_var rfl)) (fun k ρ => ∃ s2 s5 s6 s7 : Sl, ρ = [.dat (.list ds), .dat (dPs b' ps), s2, s3, .own aR (.lst ((rowsP ps 0 ((ds.map prP).take k)).map dP)), s5, s6, s7]) ⟨_, _, _, _, rfl⟩ (fun k d ρ1 hd' hI => ?_) (fun ρ1 hI => ?_)
            · obtain ⟨s2, s5, s6, s7, rfl⟩ := hI
              obtain ⟨x, hx, rfl⟩ := enumD_get hd'
              have hxo := ha x (List.mem_of_getElem? hx)
              obtain ⟨ex, hb1, hb2, hb3, hb4⟩ := okRl_inv hxo
              have hxr : (ds.map prP)[k]? = some (prP x) := by
                rw [List.getElem?_map, hx]
                rfl
              have hk10 : k < 10 := by
                have := (List.getElem?_eq_some_iff.mp hx).1
                omega
              generalize prP x = q at ex hb1 hb2 hb3 hb4 hxr
              obtain ⟨u, v⟩ := q
              subst ex
              refine ⟨_, _, tg_tup (js := [2, 5, 6]) (tgs_cons (js := [2]) tg_name (tgs_cons (js := [5, 6]) (tg_two (i := 5) (j := 6)) tgs_nil)), ?_⟩
              refine xs_asg (s := .dat (dB (bestO ps u))) (ev_callE (b', ps, u) (ea_cons (ev_var rfl) (ea_cons (ev_var rfl) ea_nil)) hg.1) ?_
              rw [show rowsP ps 0 ((ds.map prP).take (k + 1)) = _ from rowsP_take ps _ 0 k (u, v) hxr]
              cases hbo : bestO ps u with
              | none =>
                refine xc_if (b := false) (et_test (ev_notN (d := .none) (ev_var rfl))) (fun z => by cases z) fun _ => xc_next ⟨.dat (.int ((0 + k : Nat) : Int)), .dat (.int u), .dat (.int v), .dat (dB none), ?_⟩
                rw [List.append_nil]
                rfl
              | some qq =>
                refine xc_if (b := true) (et_test (ev_notN (d := dB (some qq)) (ev_var rfl))) (fun _ => ?_) fun z => by cases z
                refine xc_append (p := Eq (dP (v * qq.1, ((0 + k : Nat) : Int)))) rfl ((ev_tup2 (x := .int (v * qq.1)) (y := .int ((0 + k : Nat) : Int)) (ev_IC (i := v) (j := qq.1) (ev_var rfl) (ev_ixU (ds := [.int qq.1, dF qq.2]) (ev_var rfl) ev_int rfl) (.inl (by simp at hb3 hb4; exact ⟨by omega, by omega⟩))) (ev_var rfl)).imp fun s e => ⟨_, e.symm, rfl⟩) ?_ fun d ed => ?_
                · rw [List.length_map]
                  have := rowsP_len ps ((ds.map prP).take k) 0
                  rw [List.length_take] at this
                  omega
                · subst ed
                  refine ⟨.dat (.int ((0 + k : Nat) : Int)), .dat (.int u), .dat (.int v), .dat (dB (some qq)), ?_⟩
                  rw [List.map_append]
                  rfl
            · obtain ⟨s2, s5, s6, s7, rfl⟩ := hI
              rw [enumD_length, List.take_of_length_le (by rw [List.length_map]; exact Nat.le_refl _)]
              exact xc_ret (ev_minDf (ds := (rowsP ps 0 (ds.map prP)).map dP) (el_own rfl) ev_non (min_ok _)) rfl
          · have hx' : chkR C1 10 okPc p = .ex C d := hx
            show _ = _
            rw [hx']
    | false =>
      obtain rfl : r = .tuple ds := by
        revert hd
        cases r <;> simp [rows]
      refine ⟨_, (pss_cons (ps_if (PW.pt (pw_or (pt_not (pt_val (pe_cal c_is_row (hr.mono (by first | decide | omega)) rfl (pa_cons (pv 0) pa_nil)))) (pw_or1 (pt_not (pt_chain op_le op_le pe_int (pe_callB (r := fun xs H Q => ∃ p ys, xs = [.ref p] ∧ (SqL K H p ys ∨ SqT K H p ys) ∧ Q (.int ys.length) H) call_len_seq (by rfl) T.b_len (by decide +kernel) (pa_cons (pv 0) pa_nil)) (pe_gint rfl T.k_MOST_ROLLS)))))) (pss_one (ps_err (k := 0) T.e_BadRolls T.ini rfl (hr.mono (by first | decide | omega)) rfl (takes_of rfl rfl rfl rfl) (pe_un un_neg pe_int))) pss_nil)
      (pss_cons (ps_for (passes_of rfl) rfl (pi_enumT (by rfl) T.b_enumerate (pa_cons (pv 0) pa_nil)) (pg_tup (by rfl) (pgs_cons (pg_name (i := 2) sc_best_roll.nd rfl (Or.inl rfl)) (pgs_cons (pg_name (i := 3) sc_best_roll.nd rfl (Or.inl rfl)) pgs_nil))) (pss_one (ps_if (PW.pt (pw_or (pt_not (pt_val (pe_cal c_is_tuple_of (hr.mono (by first | decide | omega)) rfl (pa_cons (pv 3) (pa_cons pe_int pa_nil))))) (pw_or (pt_not (pt_val (pe_cal c_is_within (hr.mono (by first | decide | omega)) rfl (pa_cons (pe_ix (r := rIxT K) ix_tup (pv 3) pe_int (fun _ _ => rfl)) (pa_cons pe_int (pa_cons (pe_gint rfl T.k_MOST_WIDTH) pa_nil)))))) (pw_or1 (pt_not (pt_val (pe_cal c_is_within (hr.mono (by first | decide | omega)) rfl (pa_cons (pe_ix (r := rIxT K) ix_tup (pv 3) pe_int (fun _ _ => rfl)) (pa_cons pe_int (pa_cons (pe_gint rfl T.k_MOST_PRICE) pa_nil)))))))))) (pss_one (ps_err (k := 0) T.e_BadRolls T.ini rfl (hr.mono (by first | decide | omega)) rfl (takes_of rfl rfl rfl rfl) (pv 2))) pss_nil)))
      (pss_cons (ps_expr (pe_calX c_check_pieces (hr.mono (by first | decide | omega)) rfl (pa_cons (pv 1) pa_nil) (takes_of rfl rfl rfl rfl)))
      (pss_cons (ps_set (i := 4) sc_best_roll.nd rfl (Or.inl rfl) (pe_lst pa_nil))
      (pss_cons (ps_for (passes_of rfl) rfl (pi_enumT (by rfl) T.b_enumerate (pa_cons (pv 0) pa_nil)) (pg_tup (by rfl) (pgs_cons (pg_name (i := 2) sc_best_roll.nd rfl (Or.inl rfl)) (pgs_cons (pg_tup (by rfl) (pgs_cons (pg_name (i := 5) sc_best_roll.nd rfl (Or.inl rfl)) (pgs_cons (pg_name (i := 6) sc_best_roll.nd rfl (Or.inl rfl)) pgs_nil))) pgs_nil))) (pss_cons (ps_set (i := 7) sc_best_roll.nd rfl (Or.inl rfl) (pe_cal c_told_shelves (hr.mono (by first | decide | omega)) rfl (pa_cons (pv 5) (pa_cons (pv 1) pa_nil))))
      (pss_one (ps_if (pt_cmpR op_notN (pv 7) pe_non (nomark _)) (pss_one (ps_expr (pe_bm PySem.F.plainAttrs_list PySem.F.slot_list_append PySem.F.type_list_append mt_append (pv 4) (pa_cons (pe_tup (pa_cons (pe_op op_mul (pv 6) (pe_ix (r := rIxT K) ix_tup (pv 7) pe_int (fun _ _ => rfl))) (pa_cons (pv 2) pa_nil))) pa_nil)))) pss_nil))))
      (pss_one (ps_ret (pe_callBK (cr_minDf rfl (u64 hr)) rfl T.b_min (by decide +kernel) (pa_cons (pv 4) pa_nil) (pk_cons pe_non pk_nil))))))))), fun G => ?_⟩
      show Xc _ _ _ (RetP (Eq (brR C1 C2 (.tuple ds) p)))
      rw [e]
      refine xs_when (S := ⟨K, fx0, G, H, E⟩) (b := !decide (1 ≤ ds.length ∧ ds.length ≤ 10)) (et_is (et_or (et_not (et_B (ev_callE (.tuple ds) (ea_cons (ev_var rfl) ea_nil) True.intro))) fun _ => et_not (et_test (ev_chain (i := 1) (j := ((ds.length : Nat) : Int)) (l := 10) ev_int (ev_lenU (ds := ds) (eu_of (ev_var rfl))) fun _ => ev_int))) (lenTest _ _ rfl)) (fun z => ?_) fun z => ?_
      · rw [if_neg (fun h => by rw [decide_eq_true h] at z; cases z)]
        exact xc_raise T.e_BadRolls.oex T.e_BadRolls.nv (ev_neg ev_int) rfl
      · have hlen : 1 ≤ ds.length ∧ ds.length ≤ 10 := Decidable.byContradiction fun h => by rw [decide_eq_false h] at z; cases z
        rw [if_pos hlen]
        refine xs_for (im_enumT (ds := ds) (ev_var rfl)) (fun k ρ => ∃ s2 s3 : Sl, ρ = [.dat (.tuple ds), .dat p, s2, s3, .no, .no, .no, .no] ∧ ∀ x ∈ ds.take k, okRl x = true) ⟨_, _, rfl, by simp⟩ (fun k d ρ1 hd' hI => ?_) (fun ρ1 hI => ?_)
        · obtain ⟨s2, s3, rfl, ha⟩ := hI
          obtain ⟨x, hx, rfl⟩ := enumD_get hd'
          refine ⟨_, _, tg_two, ?_⟩
          have h1 : Ev ⟨K, fx0, G, H, E⟩ (tCall (spI K fx0 (fun i : D × Int => [.dat i.1, .dat (.int i.2)]) (fun _ => True) (fun i => Eq (.ok (.dat (.bool (isTupOf i.2 i.1)))))) [] E0 (tCons (tVar 3) (tCons (tC (.int 2)) tNil))) [.dat (.tuple ds), .dat p, .dat (.int ((0 + k : Nat) : Int)), .dat x, .no, .no, .no, .no] (Eq (.dat (.bool (isTupOf 2 x)))) := ev_callE (x, (2 : Int)) (ea_cons (ev_var rfl) (ea_cons ev_int ea_nil)) True.intro
          cases hok : okRl x with
          | false =>
            refine xc_if (b := true) ?_ (fun _ => ?_) fun z => by cases z
            · cases hx2 : isTupOf 2 x with
              | false =>
                rw [hx2] at h1
                exact et_orT (et_not (et_B h1))
              | true =>
                rw [hx2] at h1
                obtain ⟨u, v, rfl⟩ := tup2_of hx2
                have ho : (isWithin 1 300 u && isWithin 0 1000 v) = false := by
                  have e0 : okRl (.tuple [u, v]) = (isWithin 1 300 u && isWithin 0 1000 v) := by
                    unfold okRl
                    rw [hx2]
                    rfl
                  rw [← e0]
                  exact hok
                refine et_is (et_or (et_not (et_B h1)) fun _ => et_or (et_not (et_B (ev_callE (u, 1, 300) (ea_cons (ev_ixU (ds := [u, v]) (ev_var rfl) ev_int rfl) (ea_cons ev_int (ea_cons ev_int ea_nil))) True.intro))) fun _ => et_not (et_B (ev_callE (v, 0, 1000) (ea_cons (ev_ixU (ds := [u, v]) (ev_var rfl) ev_int rfl) (ea_cons ev_int (ea_cons ev_int ea_nil))) True.intro))) ?_
                revert ho
                cases isWithin 1 300 u <;> cases isWithin 0 1000 v <;> simp
            · refine xc_raise T.e_BadRolls.oex T.e_BadRolls.nv (ev_var rfl) ?_
              show _ = _
              rw [fbG_at ds 0 k x ha hx hok]
          | true =>
            obtain ⟨ex, hb1, hb2, hb3, hb4⟩ := okRl_inv hok
            refine xc_if (b := false) ?_ (fun z => by cases z) fun _ => ?_
            · generalize prP x = q at ex hb1 hb2 hb3 hb4
              obtain ⟨u, v⟩ := q
              subst ex
              have w1 : isWithin 1 300 (.int u) = true := by simp only [isWithin, Bool.and_eq_true, decide_eq_true_eq]; exact ⟨hb1, hb2⟩
              have w2 : isWithin 0 1000 (.int v) = true := by simp only [isWithin, Bool.and_eq_true, decide_eq_true_eq]; exact ⟨hb3, hb4⟩
              exact et_is (et_or (et_not (et_B h1)) fun _ => et_or (et_not (et_B (ev_callE (PyData.int u, 1, 300) (ea_cons (ev_ixU (ds := [.int u, .int v]) (ev_var rfl) ev_int rfl) (ea_cons ev_int (ea_cons ev_int ea_nil))) True.intro))) fun _ => et_not (et_B (ev_callE (PyData.int v, 0, 1000) (ea_cons (ev_ixU (ds := [.int u, .int v]) (ev_var rfl) ev_int rfl) (ea_cons ev_int (ea_cons ev_int ea_nil))) True.intro))) (by rw [w1, w2]; rfl)
            · refine xc_next ⟨_, _, rfl, fun y hy => ?_⟩
              rw [List.take_add_one, hx] at hy
              simp at hy
              exact hy.elim (ha y) fun q => q ▸ hok
        · obtain ⟨s2, s3, rfl, ha⟩ := hI
          rw [enumD_length, List.take_length] at ha
          rw [fbG_none ds 0 ha]
          have eds : ds = (ds.map prP).map dP := map_inv (fun d h => (okRl_inv h).1) ha
          refine xs_callX (S := ⟨K, fx0, G, H, E⟩) p (ea_cons (ev_var rfl) ea_nil) True.intro (fun s hs => ?_) fun C d hx => ?_
          · have hs' : chkR C1 10 okPc p = .ok s := hs
            obtain ⟨es, b', ep, hg⟩ := chk_inv hs'
            show Xc _ _ _ (RetP (Eq (match chkR C1 10 okPc p with | .ex C d => .ex C d | .ok _ => .ok (.dat (brV (psOf (.tuple ds)) (psOf p))))))
            rw [hs', epr]
            simp only
            generalize psOf p = ps at ep hg
            subst ep
            refine xs_asgF ef_nil fun aR dsR eR => ?_
            subst eR
            refine xs_for (im_enumT (ds := ds) (ev_var rfl)) (fun k ρ => ∃ s2 s5 s6 s7 : Sl, ρ = [.dat (.tuple ds), .dat (dPs b' ps), s2, s3, .own aR (.lst ((rowsP ps 0 ((ds.map prP).take k)).map dP)), s5, s6, s7]) ⟨_, _, _, _, rfl⟩ (fun k d ρ1 hd' hI => ?_) (fun ρ1 hI => ?_)
            · obtain ⟨s2, s5, s6, s7, rfl⟩ := hI
              obtain ⟨x, hx, rfl⟩ := enumD_get hd'
              have hxo := ha x (List.mem_of_getElem? hx)
              obtain ⟨ex, hb1, hb2, hb3, hb4⟩ := okRl_inv hxo
              have hxr : (ds.map prP)[k]? = some (prP x) := by
                rw [List.getElem?_map, hx]
                rfl
              have hk10 : k < 10 := by
                have := (List.getElem?_eq_some_iff.mp hx).1
                omega
              generalize prP x = q at ex hb1 hb2 hb3 hb4 hxr
              obtain ⟨u, v⟩ := q
              subst ex
              refine ⟨_, _, tg_tup (js := [2, 5, 6]) (tgs_cons (js := [2]) tg_name (tgs_cons (js := [5, 6]) (tg_two (i := 5) (j := 6)) tgs_nil)), ?_⟩
              refine xs_asg (s := .dat (dB (bestO ps u))) (ev_callE (b', ps, u) (ea_cons (ev_var rfl) (ea_cons (ev_var rfl) ea_nil)) hg.1) ?_
              rw [show rowsP ps 0 ((ds.map prP).take (k + 1)) = _ from rowsP_take ps _ 0 k (u, v) hxr]
              cases hbo : bestO ps u with
              | none =>
                refine xc_if (b := false) (et_test (ev_notN (d := .none) (ev_var rfl))) (fun z => by cases z) fun _ => xc_next ⟨.dat (.int ((0 + k : Nat) : Int)), .dat (.int u), .dat (.int v), .dat (dB none), ?_⟩
                rw [List.append_nil]
                rfl
              | some qq =>
                refine xc_if (b := true) (et_test (ev_notN (d := dB (some qq)) (ev_var rfl))) (fun _ => ?_) fun z => by cases z
                refine xc_append (p := Eq (dP (v * qq.1, ((0 + k : Nat) : Int)))) rfl ((ev_tup2 (x := .int (v * qq.1)) (y := .int ((0 + k : Nat) : Int)) (ev_IC (i := v) (j := qq.1) (ev_var rfl) (ev_ixU (ds := [.int qq.1, dF qq.2]) (ev_var rfl) ev_int rfl) (.inl (by simp at hb3 hb4; exact ⟨by omega, by omega⟩))) (ev_var rfl)).imp fun s e => ⟨_, e.symm, rfl⟩) ?_ fun d ed => ?_
                · rw [List.length_map]
                  have := rowsP_len ps ((ds.map prP).take k) 0
                  rw [List.length_take] at this
                  omega
                · subst ed
                  refine ⟨.dat (.int ((0 + k : Nat) : Int)), .dat (.int u), .dat (.int v), .dat (dB (some qq)), ?_⟩
                  rw [List.map_append]
                  rfl
            · obtain ⟨s2, s5, s6, s7, rfl⟩ := hI
              rw [enumD_length, List.take_of_length_le (by rw [List.length_map]; exact Nat.le_refl _)]
              exact xc_ret (ev_minDf (ds := (rowsP ps 0 (ds.map prP)).map dP) (el_own rfl) ev_non (min_ok _)) rfl
          · have hx' : chkR C1 10 okPc p = .ex C d := hx
            show _ = _
            rw [hx']
end
end K17

set_option Elab.async false
set_option linter.all false
set_option maxRecDepth 100000
set_option maxHeartbeats 4000000
namespace K17
open PySem PySem.Spec PyProof.Rows L2 Dl LamX StX
/-! ### all ways -/
theorem subs_wg {n : Nat} : ∀ (m : Nat) {f x : F}, x ∈ subs m f → Wg n f → cntF f + m ≤ n → Wg n x
  | 0, f, x, h, hw, _ => by
    rw [List.mem_singleton.mp h]
    exact hw
  | m + 1, f, x, h, hw, hn => by
    obtain ⟨c, hc, hx⟩ := List.mem_flatMap.mp h
    obtain ⟨s, hs⟩ := ch_of hc
    exact subs_wg m hx (wg_ch (c := (s, c)) hw (by omega) hs) (by rw [cnt_ch hc]; omega)
def bnd : Nat → Nat
  | 0 => 1
  | k + 1 => bnd k * (k + 1)
theorem bnd_pos : ∀ k, 1 ≤ bnd k
  | 0 => Nat.le_refl _
  | k + 1 => Nat.mul_le_mul (bnd_pos k) (show 1 ≤ k + 1 by omega)
theorem bnd_mono {j k : Nat} (h : j ≤ k) : bnd j ≤ bnd k := by
  induction h with
  | refl => exact Nat.le_refl _
  | step _ ih => exact Nat.le_trans ih (Nat.le_mul_of_pos_right _ (by omega))
theorem flat_len {α β : Type} {g : α → List β} {c : Nat} : ∀ {l : List α}, (∀ x ∈ l, (g x).length ≤ c) → (l.flatMap g).length ≤ l.length * c
  | [], _ => by simp
  | x :: l, h => by
    rw [List.flatMap_cons, List.length_append, List.length_cons, Nat.add_mul, Nat.one_mul]
    have := flat_len (l := l) fun y hy => h y (List.mem_cons_of_mem _ hy)
    have := h x List.mem_cons_self
    omega
theorem wg_nil (n : Nat) : Wg n [] := fun sh h => by cases h
theorem ch_len {k : Nat} {f : F} (h : f ∈ subs k []) : (ch f).length ≤ k + 1 := by
  have hw := subs_wg (n := k) k h (wg_nil _) (by show 0 + k ≤ k; omega)
  have hc := subs_cnt k h
  have := (wg_len (f := f) fun sh hs => (hw sh hs).1).1
  unfold ch
  rw [List.length_map, chP_length]
  have e : cntF ([] : F) = 0 := rfl
  omega
theorem subs_len_le : ∀ k, (subs k []).length ≤ bnd k
  | 0 => Nat.le_refl _
  | k + 1 => by
    rw [subs_level]
    exact Nat.le_trans (flat_len fun x hx => ch_len hx) (Nat.mul_le_mul_right _ (subs_len_le k))
theorem ch_eq (f : F) : ch f = (List.range f.length).map (fun p => f.take p ++ [f.getD p [] ++ [cntF f]] ++ f.drop (p + 1)) ++ [f ++ [[cntF f]]] := by
  unfold ch chP
  rw [List.map_append, List.map_map]
  rfl
theorem shaped_F (f : F) : SeqAt.shaped (dF f) = true := by
  have h1 : (dF f).canLay0 = true := by
    unfold dF
    simp only [PyData.canLay0]
    induction f with
    | nil => rfl
    | cons sh f ih =>
      rw [List.map_cons]
      simp only [PyData.canLayAll0, ih, Bool.and_true]
      unfold dS
      simp only [PyData.canLay0]
      induction sh with
      | nil => rfl
      | cons i sh ih2 =>
        rw [List.map_cons]
        simp only [PyData.canLayAll0, ih2, Bool.and_true]
        rfl
  have h2 : (dF f).depth ≤ 64 := by
    have e : dF f = PySem.W.Datum.toD (f.map fun sh => (⟨sh.map Int.ofNat⟩ : PySem.W.Tup Int)) := by
      show dF f = .list ((f.map fun sh => (⟨sh.map Int.ofNat⟩ : PySem.W.Tup Int)).map PySem.W.Datum.toD)
      unfold dF
      rw [List.map_map]
      congr 1
      apply List.map_congr_left
      intro sh _
      show dS sh = .tuple ((sh.map Int.ofNat).map PySem.W.Datum.toD)
      rw [List.map_map]
      rfl
    rw [e]
    exact Nat.le_trans (PySem.W.Datum.depth_le _) (by decide)
  unfold SeqAt.shaped
  rw [h1, decide_eq_true h2]
  rfl
theorem eqv_nil (f : F) : PyData.eqv (dF f) (.list []) = decide (f = []) := by
  unfold dF
  simp only [PyData.eqv]
  cases f <;> simp [PyData.eqvAll]
section
variable {P : Program} {w : World} {K : PySem.W.Frag} {mg : Str → Option Value} {base : Heap} {C1 C2 C3 fI CS : Addr} (T : Tx P w K mg base C1 C2 C3 fI CS)
include T
theorem c__law_parts : Cal P w K mg base 1 "_law_parts" ["many"] (spI K fx0 (fun n : Nat => [.dat (.int (n : Nat))]) (fun n => n ≤ 8) (fun n => Eq (.ok (.dat (.list ((subs n []).map dF)))))) := by
  refine mk_cal T.d__law_parts sc__law_parts (fun _ => rfl) (fun _ _ _ _ _ _ us hl => match us, hl with | [_], _ => rfl) (fun f cdv A outer s H E hr n hn => ⟨_, (pss_cons (ps_set (i := 1) sc__law_parts.nd rfl (Or.inl rfl) (pe_lst (pa_cons (pe_lst pa_nil) pa_nil)))
      (pss_cons (ps_for (passes_of rfl) rfl (pi_range1 (by rfl) T.b_range (pa_cons (pv 0) pa_nil)) (pg_name (i := 2) sc__law_parts.nd rfl (Or.inr rfl)) (pss_cons (ps_set (i := 3) sc__law_parts.nd rfl (Or.inl rfl) (pe_lst pa_nil))
      (pss_cons (ps_for (passes_of rfl) rfl (pi_list (pv 1)) (pg_name (i := 4) sc__law_parts.nd rfl (Or.inr rfl)) (pss_one (ps_set (i := 3) sc__law_parts.nd rfl (Or.inl rfl) (pe_op (r := rCatL K) op_catL (pe_op (r := rCatL K) op_catL (pv 3) (pe_lc (own := [("at", 5)]) (by rfl) sc__law_parts.nd (pi_range1 (by rfl) T.b_range (pa_cons (pe_callB (r := fun xs H Q => ∃ p ys, xs = [.ref p] ∧ (SqL K H p ys ∨ SqT K H p ys) ∧ Q (.int ys.length) H) call_len_seq (by rfl) T.b_len (by decide +kernel) (pa_cons (pv 4) pa_nil)) pa_nil)) (blkOk_by (N := ["many", "found", "k", "longer", "one", "at"]) (sc := defScope s__law_parts) (own := [("at", 5)]) (by decide +kernel)) (fun _ _ _ _ _ => (pg_name (i := 5) sc__law_parts.nd rfl (Or.inl rfl))) (fun _ _ _ _ _ => pts_nil) (fun _ _ _ _ _ => (pe_op (r := rCatL K) op_catL (pe_op (r := rCatL K) op_catL (pe_slice (r := rSlL K) sl_list (pv 4) po_none (po_some (pv 5))) (pe_lst (pa_cons (pe_op (r := rCatA K) op_catA (pe_ix (r := rIxL K) ix_list (pv 4) (pv 5) (fun _ _ => rfl)) (pe_tup (pa_cons (pv 2) pa_nil))) pa_nil))) (pe_slice (r := rSlL K) sl_list (pv 4) (po_some (pe_op op_add (pv 5) pe_int)) po_none))))) (pe_lst (pa_cons (pe_op (r := rCatL K) op_catL (pv 4) (pe_lst (pa_cons (pe_tup (pa_cons (pv 2) pa_nil)) pa_nil))) pa_nil))))))
      (pss_one (ps_set (i := 1) sc__law_parts.nd rfl (Or.inl rfl) (pv 3))))))
      (pss_one (ps_ret (pv 1))))), fun G => ?_⟩)
  have hn : n ≤ 8 := hn
  have b8 : bnd 8 = 40320 := by decide
  refine xs_asg (S := ⟨K, fx0, G, H, E⟩) (s := .dat (.list ((subs 0 []).map dF))) (ev_lst (ds := [dF []]) (ea_cons ev_lst0 ea_nil) (by simp)) ?_
  refine xs_for (im_rng1E (n := n) (ev_var rfl) (by omega)) (fun k ρ => ∃ s2 s3 s4 : Sl, ρ = [.dat (.int (n : Nat)), .dat (.list ((subs k []).map dF)), s2, s3, s4, .no]) ⟨_, _, _, rfl⟩ (fun k d ρ1 hd hI => ?_) fun ρ1 hI => ?_
  · obtain ⟨s2, s3, s4, rfl⟩ := hI
    obtain ⟨hk, ed⟩ := rngD_get hd
    subst ed
    rw [Int.zero_add]
    refine ⟨_, _, tg_name, ?_⟩
    refine xs_asg (s := .dat (.list ((((subs k []).take 0).flatMap ch).map dF))) ev_lst0 ?_
    refine xs_for (im_listE (ds := (subs k []).map dF) (ev_var rfl)) (fun i ρ => ∃ s4 : Sl, ρ = [.dat (.int (n : Nat)), .dat (.list ((subs k []).map dF)), .dat (.int ((k : Nat) : Int)), .dat (.list ((((subs k []).take i).flatMap ch).map dF)), s4, .no]) ⟨_, rfl⟩ (fun i d ρ1 hd2 hI => ?_) fun ρ1 hI => ?_
    · obtain ⟨s4, rfl⟩ := hI
      rw [List.getElem?_map] at hd2
      obtain ⟨f, hf, rfl⟩ := Option.map_eq_some_iff.mp hd2
      have hm := List.mem_of_getElem? hf
      have hw := subs_wg (n := k) k hm (wg_nil _) (by show 0 + k ≤ k; omega)
      have hc : cntF f = k := by
        have := subs_cnt k hm
        have e : cntF ([] : F) = 0 := rfl
        omega
      obtain ⟨hl1, hl2⟩ := wg_len (f := f) fun sh hs => (hw sh hs).1
      have hsz : (((subs k []).take i).flatMap ch).length ≤ 40320 := by
        refine Nat.le_trans (flat_len fun x hx => ch_len (List.mem_of_mem_take hx)) ?_
        have h0 : ((subs k []).take i).length ≤ bnd k := by
          have := subs_len_le k
          rw [List.length_take]
          omega
        refine Nat.le_trans (Nat.mul_le_mul_right _ h0) ?_
        have : bnd (k + 1) ≤ bnd 8 := bnd_mono (by omega)
        rw [b8] at this
        exact this
      refine ⟨_, _, tg_name, ?_⟩
      have eK : [.dat (.int ((k : Nat) : Int))] = ([k].map dN).map Sl.dat := rfl
      have hl8 : f.length ≤ 8 := by omega
      refine xc_asg (s := .dat (.list ((((subs k []).take (i + 1)).flatMap ch).map dF))) ((ef_catL (ds := (((subs k []).take i).flatMap ch).map dF ++ (List.range f.length).map fun p => dF (f.take p ++ [f.getD p [] ++ [k]] ++ f.drop (p + 1))) (es := [dF (f ++ [[k]])]) (el_of (ef_catL (ds := (((subs k []).take i).flatMap ch).map dF) (es := (List.range f.length).map fun p => dF (f.take p ++ [f.getD p [] ++ [k]] ++ f.drop (p + 1))) (el_of (ev_var rfl))
        (el_of (ef_mapL (l := List.range f.length) (dα := fun p => .int (0 + ((p : Nat) : Int))) (f := fun p => dF (f.take p ++ [f.getD p [] ++ [k]] ++ f.drop (p + 1))) (im_rng1E (n := f.length) ((ev_lenL (ds := f.map dS) (el_of (ev_var rfl))).cast (by rw [List.length_map])) (by omega)) (by rw [List.length_range]; omega) fun p hp => ⟨[5], _, by simp, tg_name, ?_⟩).evE) (by simp only [List.length_append, List.length_map, List.length_range, List.length_cons, List.length_nil]; omega)).evE)
        (el_of (ev_lst (ds := [dF (f ++ [[k]])]) (ea_cons ((ef_catL (ds := f.map dS) (es := [dS [k]]) (el_of (ev_var rfl)) (el_of (ev_lst (ds := [dS [k]]) (ea_cons (ev_tup1 (ev_var rfl)) ea_nil) (by simp))) (by simp; omega)).evE.cast (by unfold dF; rw [List.map_append]; rfl)) ea_nil) (by simp))) (by simp only [List.length_append, List.length_map, List.length_range, List.length_cons, List.length_nil]; omega)).evE.cast ?_) ⟨.dat (dF f), rfl⟩
      · have hp : p < f.length := List.mem_range.mp hp
        rw [Int.zero_add]
        have eg : f.getD p [] = f[p] := by simp [hp]
        rw [eg]
        have hsl := hl2 f[p] (List.getElem_mem hp)
        have e1 : ((f.take p).map dS ++ [dS (f[p] ++ [k])]) ++ (f.drop (p + 1)).map dS = (f.take p ++ [f[p] ++ [k]] ++ f.drop (p + 1)).map dS := by simp
        refine (ef_catL (ds := (f.take p).map dS ++ [dS (f[p] ++ [k])]) (es := (f.drop (p + 1)).map dS) (el_of (ef_catL (ds := (f.take p).map dS) (es := [dS (f[p] ++ [k])]) (el_of ((ef_cut (ds := f.map dS) (el_of (ev_var rfl)) eo_none (eo_some (i := ((p : Nat) : Int)) (ev_var rfl))).evE.cast (by rw [cut_take _ _ (by rw [List.length_map]; omega), List.map_take])))
          (el_of (ev_lst (ds := [dS (f[p] ++ [k])]) (ea_cons ((ev_catA (ds := f[p].map dN) (es := [dN k]) (ev_ixL (ds := f.map dS) (d := .tuple (f[p].map dN)) (el_of (ev_var rfl)) (ev_var rfl) (at_nat (by rw [List.getElem?_map, List.getElem?_eq_getElem hp]; rfl))) (ev_tup1 (ev_var rfl)) (by simp; omega)).cast (by unfold dS; rw [List.map_append]; rfl)) ea_nil) (by simp))) (by simp; omega)).evE)
          (el_of ((ef_cut (ds := f.map dS) (el_of (ev_var rfl)) (eo_some (i := ((p + 1 : Nat) : Int)) ((ev_I0 (i := ((p : Nat) : Int)) (j := 1) (ev_var rfl) ev_int).cast rfl)) eo_none).evE.cast (by rw [cut_drop _ _ (by rw [List.length_map]; omega), List.map_drop]))) (by simp; omega)).evE.cast ?_
        rw [e1]
        rfl
      · rw [take_snoc hf, List.flatMap_append, List.map_append]
        simp only [List.flatMap_cons, List.flatMap_nil, List.append_nil]
        rw [ch_eq, hc, List.map_append, List.map_map, List.append_assoc]
        rfl
    · obtain ⟨s4, rfl⟩ := hI
      rw [List.length_map, List.take_length, ← subs_level]
      exact xc_asg (ev_var rfl) ⟨_, _, _, rfl⟩
  · obtain ⟨s2, s3, s4, rfl⟩ := hI
    rw [rngD_length]
    exact xc_ret (ev_var rfl) rfl
end
end K17

set_option Elab.async false
set_option linter.all false
set_option maxRecDepth 100000
set_option maxHeartbeats 4000000
namespace K17
open PySem PySem.Spec PyProof.Rows L2 Dl LamX StX
theorem wf_of {n : Nat} {f : F} (h : f ∈ subs n []) (hn : n ≤ 100) : Wf n f := by
  have hw := subs_wg (n := n) n h (wg_nil _) (by show 0 + n ≤ n; omega)
  have hc : cntF f = n := by
    have := subs_cnt n h
    have e : cntF ([] : F) = 0 := rfl
    omega
  exact wg_wf hw (by omega) hn
/-- good widths -/
theorem pos_of {ps : List (Int × Int)} (h : ∀ p ∈ ps, 1 ≤ p.1 ∧ p.1 ≤ 100 ∧ 1 ≤ p.2 ∧ p.2 ≤ 100) : Pos ps := fun i => by
  unfold wd lg
  by_cases hi : i < ps.length
  · have := h ps[i] (List.getElem_mem hi)
    simp [hi]
    omega
  · simp [hi]
theorem best_eq {ps : List (Int × Int)} {W : Int} (h : ∀ p ∈ ps, 1 ≤ p.1 ∧ p.1 ≤ 100 ∧ 1 ≤ p.2 ∧ p.2 ≤ 100) : bestO ps W = ((subs ps.length []).filter (okF ps W)).foldl (updB ps ltB) none := goP_ok (pos_of h) ltB_ok ps.length none [] rfl
theorem filt_ok (ps : List (Int × Int)) (W : Int) (f : F) : decide ((f.filter fun sh => decide (wsum ps sh > W)) = []) = okF ps W f := by
  rw [Bool.eq_iff_iff]
  unfold okF
  simp only [decide_eq_true_eq, List.filter_eq_nil_iff, List.all_eq_true]
  constructor
  · intro h sh hs
    have := h sh hs
    omega
  · intro h sh hs
    have := h sh hs
    omega
section
variable {P : Program} {w : World} {K : PySem.W.Frag} {mg : Str → Option Value} {base : Heap} {C1 C2 C3 fI CS : Addr} (T : Tx P w K mg base C1 C2 C3 fI CS)
include T
theorem c__law_shelved : Cal P w K mg base 2 "_law_shelved" ["width", "pieces"] (spI K fx0 (fun i : List (Int × Int) × Int => [.dat (.int i.2), .dat (dPs true i.1)]) (fun i => i.1.length ≤ 8 ∧ ∀ p ∈ i.1, 1 ≤ p.1 ∧ p.1 ≤ 100 ∧ 1 ≤ p.2 ∧ p.2 ≤ 100) (fun i => Eq (.ok (.dat (dB (bestO i.1 i.2)))))) := by
  have c__law_parts := c__law_parts T
  refine mk_cal T.d__law_shelved sc__law_shelved (fun _ => rfl) (fun _ _ _ _ _ _ us hl => match us, hl with | [_, _], _ => rfl) (fun f cdv A outer s H E hr i hp => ⟨_, (pss_cons (ps_set (i := 2) sc__law_shelved.nd rfl (Or.inl rfl) pe_non)
      (pss_cons (ps_for (passes_of rfl) rfl (pi_list (pe_cal c__law_parts (hr.mono (by first | decide | omega)) rfl (pa_cons (pe_callB (r := fun xs H Q => ∃ p ys, xs = [.ref p] ∧ (SqL K H p ys ∨ SqT K H p ys) ∧ Q (.int ys.length) H) call_len_seq (by rfl) T.b_len (by decide +kernel) (pa_cons (pv 1) pa_nil)) pa_nil))) (pg_name (i := 3) sc__law_shelved.nd rfl (Or.inl rfl)) (pss_one (ps_if (pt_cmpR (r := rEqD K) (op_eqD (u64 hr)) (pe_lc (own := [("shelf", 5)]) (by rfl) sc__law_shelved.nd (pi_list (pv 3)) (blkOk_by (N := ["width", "pieces", "best", "one", "told", "shelf", "at"]) (sc := defScope s__law_shelved) (own := [("shelf", 5)]) (by decide +kernel)) (fun _ _ _ _ _ => (pg_name (i := 5) sc__law_shelved.nd rfl (Or.inl rfl))) (fun _ _ _ _ _ => (pts_one (pt_cmpR op_gt (pe_callB (r := rSum K) (cr_sum rfl) (by rfl) T.b_sum (by decide +kernel) (pa_cons (pe_lc (own := [("at", 6)]) (by rfl) sc__law_shelved.nd (pi_tup' (K := K) rfl (pv 5)) (blkOk_by (own := [("at", 6)]) (by rfl)) (fun _ _ _ _ _ => (pg_name (i := 6) sc__law_shelved.nd rfl (Or.inl rfl))) (fun _ _ _ _ _ => pts_nil) (fun _ _ _ _ _ => (pe_ix (r := rIxT K) ix_tup (pe_ix (r := rIxL K) ix_list (pv 1) (pv 6) (fun _ _ => rfl)) pe_int (fun _ _ => rfl)))) pa_nil)) (pv 0) (nomark _)))) (fun _ _ _ _ _ => (pv 5))) (pe_lst pa_nil) (nomark _)) (pss_cons (ps_set (i := 4) sc__law_shelved.nd rfl (Or.inl rfl) (pe_tup (pa_cons (pe_callB (r := rSum K) (cr_sum rfl) (by rfl) T.b_sum (by decide +kernel) (pa_cons (pe_lc (own := [("shelf", 5)]) (by rfl) sc__law_shelved.nd (pi_list (pv 3)) (blkOk_by (N := ["width", "pieces", "best", "one", "told", "shelf", "at"]) (sc := defScope s__law_shelved) (own := [("shelf", 5)]) (by decide +kernel)) (fun _ _ _ _ _ => (pg_name (i := 5) sc__law_shelved.nd rfl (Or.inl rfl))) (fun _ _ _ _ _ => pts_nil) (fun _ _ _ _ _ => (pe_callB (r := rMax K) (cr_max rfl) (by rfl) T.b_max (by decide +kernel) (pa_cons (pe_lc (own := [("at", 6)]) (by rfl) sc__law_shelved.nd (pi_tup' (K := K) rfl (pv 5)) (blkOk_by (own := [("at", 6)]) (by rfl)) (fun _ _ _ _ _ => (pg_name (i := 6) sc__law_shelved.nd rfl (Or.inl rfl))) (fun _ _ _ _ _ => pts_nil) (fun _ _ _ _ _ => (pe_ix (r := rIxT K) ix_tup (pe_ix (r := rIxL K) ix_list (pv 1) (pv 6) (fun _ _ => rfl)) pe_int (fun _ _ => rfl)))) pa_nil)))) pa_nil)) (pa_cons (pv 3) pa_nil))))
      (pss_one (ps_set (i := 2) sc__law_shelved.nd rfl (Or.inl rfl) (pe_ifExp (PW.pt (pw_or (pt_cmpR op_isN (pv 2) pe_non (nomark _)) (pw_or1 (pt_cmpR (r := rLtD K) (op_ltD (u64 hr)) (pv 4) (pv 2) (nomark _))))) (pv 4) (pv 2))))) pss_nil)))
      (pss_one (ps_ret (pv 2))))), fun G => ?_⟩)
  obtain ⟨ps, W⟩ := i
  obtain ⟨hn, hg⟩ := hp
  simp only at hn hg
  rw [show bestO (ps, W).1 (ps, W).2 = _ from best_eq hg]
  refine xs_asg (S := ⟨K, fx0, G, H, E⟩) (s := .dat (dB ((((subs ps.length []).take 0).filter (okF ps W)).foldl (updB ps ltB) none))) ev_non ?_
  refine xs_for (im_listE (ds := (subs ps.length []).map dF) (ev_callE ps.length (ea_cons ((ev_lenL (ds := ps.map dP) (el_of (ev_var rfl))).cast (by rw [List.length_map])) ea_nil) hn)) (fun i ρ => ∃ s3 s4 : Sl, ρ = [.dat (.int W), .dat (dPs true ps), .dat (dB ((((subs ps.length []).take i).filter (okF ps W)).foldl (updB ps ltB) none)), s3, s4, .no, .no]) ⟨_, _, rfl⟩ (fun i d ρ1 hd hI => ?_) fun ρ1 hI => ?_
  · obtain ⟨s3, s4, rfl⟩ := hI
    rw [List.getElem?_map] at hd
    obtain ⟨x, hx, rfl⟩ := Option.map_eq_some_iff.mp hd
    have hw := wf_of (List.mem_of_getElem? hx) (by omega)
    have hnext : (((subs ps.length []).take (i + 1)).filter (okF ps W)).foldl (updB ps ltB) none = if okF ps W x = true then updB ps ltB ((((subs ps.length []).take i).filter (okF ps W)).foldl (updB ps ltB) none) x else (((subs ps.length []).take i).filter (okF ps W)).foldl (updB ps ltB) none := by
      rw [take_snoc hx, List.filter_append, List.foldl_append, List.filter_cons]
      cases okF ps W x <;> rfl
    simp only [hnext]
    generalize (((subs ps.length []).take i).filter (okF ps W)).foldl (updB ps ltB) none = best
    refine ⟨_, _, tg_name, ?_⟩
    have hfl : (x.map dS).length ≤ 1000000 := by
      rw [List.length_map]
      have := hw.1
      omega
    have hxl : x.length ≤ 1000000 := by
      have := hw.1
      omega
    refine xc_if (b := okF ps W x) (et_is (et_test (ev_eqD (d := dF (x.filter fun sh => decide (wsum ps sh > W))) (d' := .list []) (ef_filterL (l := x) (dα := dS) (c := fun sh => decide (wsum ps sh > W)) (f := dS) (im_listE (ds := x.map dS) (ev_var rfl)) hxl fun sh hsh => ⟨[5], _, by simp, tg_name, ?_, fun _ => ev_var rfl⟩).evE ev_lst0 (shaped_F _) rfl)) (by rw [eqv_nil, filt_ok])) (fun z => ?_) fun z => ?_
    · obtain ⟨h1, h2, h3⟩ := hw.2 sh hsh
      exact et_test (ev_C0 (i := wsum ps sh) (j := W) (ev_sumL (l := sh) (dα := dN) (f := wd ps) (im_tupE (ds := sh.map dN) (ev_var rfl)) (by omega) fun i hi => ⟨[6], _, by simp, tg_name, ev_ixU (ev_ixL (ds := ps.map dP) (el_of (ev_var rfl)) (ev_var rfl) (at_nat (at_ps (h3 i hi)))) ev_int rfl⟩) (ev_var rfl))
    · rw [z, if_pos rfl]
      refine xs_asg (s := .dat (dK (len ps x, x))) (ev_tup2 (x := .int (len ps x)) (y := dF x) (ev_sumL (l := x) (dα := dS) (f := lmx ps) (im_listE (ds := x.map dS) (ev_var rfl)) hxl fun sh hsh => ⟨[5], _, by simp, tg_name, ?_⟩) (ev_var rfl)) ?_
      · obtain ⟨h1, h2, h3⟩ := hw.2 sh hsh
        exact ev_maxL (l := sh) (dα := dN) (f := lg ps) h1 (im_tupE (ds := sh.map dN) (ev_var rfl)) (by omega) fun i hi => ⟨[6], _, by simp, tg_name, ev_ixU (ev_ixL (ds := ps.map dP) (el_of (ev_var rfl)) (ev_var rfl) (at_nat (at_ps (h3 i hi)))) ev_int rfl⟩
      · refine xc_asg (s := .dat (dB (updB ps ltB best x))) (ev_if (b := lessB ps best x) (et_is (et_or (b := lessB ps best x) (et_test (ev_isN (d := dB best) (ev_var rfl))) fun hz => ?_) ?_) (fun hz => ?_) fun hz => ?_) ⟨.dat (dF x), .dat (dK (len ps x, x)), rfl⟩
        · cases best with
          | none => cases hz
          | some q => exact et_test (ev_ltD (d := dK (len ps x, x)) (d' := dK q) (ev_var rfl) (ev_var rfl) (cmp_ok (len ps x, x) q))
        · cases best <;> simp [dB, isNone, lessB]
        · refine (ev_var (d := dK (len ps x, x)) rfl).cast ?_
          cases best with
          | none => rfl
          | some q =>
            show _ = Sl.dat (dB (if ltB (len ps x, x) q = true then some (len ps x, x) else some q))
            rw [if_pos (show ltB (len ps x, x) q = true from hz)]
            rfl
        · refine (ev_var (d := dB best) rfl).cast ?_
          cases best with
          | none => cases hz
          | some q =>
            show _ = Sl.dat (dB (if ltB (len ps x, x) q = true then some (len ps x, x) else some q))
            rw [if_neg (by rw [show ltB (len ps x, x) q = false from hz]; decide)]
    · rw [z, if_neg (by decide)]
      exact xc_next ⟨.dat (dF x), s4, rfl⟩
  · obtain ⟨s3, s4, rfl⟩ := hI
    rw [List.length_map, List.take_length]
    exact xc_ret (ev_var rfl) rfl
end
end K17

set_option Elab.async false
set_option linter.all false
set_option maxRecDepth 100000
set_option maxHeartbeats 4000000
namespace K17
open PySem PySem.Spec PyProof.Rows L2 Dl LamX StX
/-- [(e1, e2) for k in ..], not told -/
theorem ef_many {S : Cf} {ρ : Rho} {wi : TI} {te : TE} {g : TG} {vs : List Nat} {good : Int × Int → Prop} {N : Nat → Prop} (hN : ∀ n, N n → n ≤ 1000) (hi : Itm S wi ρ (fun ds => N ds.length)) (hs : ∀ d, ∃ js ρ2, (∀ j ∈ js, j ∈ vs) ∧ Tgt S g js d (wipeR ρ vs) ρ2 ∧ Ev S te ρ2 (fun s => ∃ p, s = .dat (dP p) ∧ good p)) :
    EvF S (tLc wi g tYes te vs) ρ (fun ds => ∃ ps : List (Int × Int), ds = ps.map dP ∧ N ps.length ∧ ∀ p ∈ ps, good p) := by
  refine ef_lc hi (fun ds i acc => ∃ ps : List (Int × Int), acc = ps.map dP ∧ ps.length = i ∧ ∀ p ∈ ps, good p) (fun ds h => ⟨by have := hN _ h; omega, [], rfl, rfl, fun p hp => by cases hp⟩) (fun ds i d acc h hd al hI => ?_) fun ds acc h al ⟨ps, e, hl, hg⟩ => ⟨ps, e, by rw [hl]; exact h, hg⟩
  obtain ⟨ps, rfl, hl, hg⟩ := hI
  obtain ⟨js, ρ2, h1, h2, h3⟩ := hs d
  refine ⟨js, ρ2, h1, h2, fun σ G H k e Q q => q true G H (Grow.refl k) k ?_⟩
  show if true = true then _ else _
  rw [if_pos rfl]
  refine h3.imp fun s ⟨p, es, hp⟩ => ⟨dP p, es, ps ++ [p], by rw [List.map_append]; rfl, by simp [hl], fun r hr => ?_⟩
  rcases List.mem_append.mp hr with h | h
  · exact hg r h
  · rw [List.mem_singleton.mp h]
    exact hp
theorem ev_pair {S : Cf} {ρ : Rho} {ta tb : TE} {p q : Int → Prop} (ha : EvI S ta ρ p) (hb : EvI S tb ρ q) : Ev S (tTup (tCons ta (tCons tb tNil))) ρ (fun s => ∃ r : Int × Int, s = .dat (dP r) ∧ (p r.1 ∧ q r.2)) :=
  (ev_tupP (p := fun ds => ∃ r : Int × Int, PyData.tuple ds = dP r ∧ (p r.1 ∧ q r.2)) (ea_consP ha (ea_consP (P := fun ss => ∃ i, ss = [.dat (.int i)] ∧ q i) hb ea_nil fun y ys ⟨i, e, h⟩ e2 => ⟨i, by rw [e, ← e2], h⟩) fun x xs ⟨i, e, h⟩ ⟨j, e2, h2⟩ => ⟨[.int i, .int j], by rw [e, e2]; rfl, by simp, (i, j), rfl, h, h2⟩)).imp fun s ⟨ds, e, r, e2, h⟩ => ⟨r, by rw [e, e2], h⟩
theorem flp_F {n : Nat} {f : F} (h : Wf n f) : FlP 4 (dF f) := ⟨by rw [List.length_map]; have := h.1; omega, fun x hx => by
  obtain ⟨sh, hs, rfl⟩ := List.mem_map.mp hx
  refine ⟨by rw [List.length_map]; have := (h.2 sh hs).2.1; omega, fun y hy => ?_⟩
  obtain ⟨i, _, rfl⟩ := List.mem_map.mp hy
  trivial⟩
theorem fold_mem {ps : List (Int × Int)} {lt : Int × F → Int × F → Bool} : ∀ {xs : List F} {best : Option (Int × F)} {q : Int × F}, xs.foldl (updB ps lt) best = some q → best = some q ∨ (q.2 ∈ xs ∧ q.1 = len ps q.2)
  | [], best, q, h => .inl h
  | x :: xs, best, q, h => by
    rw [List.foldl_cons] at h
    rcases fold_mem h with e | ⟨e1, e2⟩
    · cases best with
      | none =>
        have e' : some (len ps x, x) = some q := e
        cases e'
        exact .inr ⟨List.mem_cons_self, rfl⟩
      | some b =>
        have e' : (if lt (len ps x, x) b = true then some (len ps x, x) else some b) = some q := e
        split at e'
        · cases e'
          exact .inr ⟨List.mem_cons_self, rfl⟩
        · exact .inl e'
    · exact .inr ⟨List.mem_cons_of_mem _ e1, e2⟩
theorem best_mem {ps : List (Int × Int)} {W : Int} (hg : ∀ p ∈ ps, 1 ≤ p.1 ∧ p.1 ≤ 100 ∧ 1 ≤ p.2 ∧ p.2 ≤ 100) {q : Int × F} (h : bestO ps W = some q) : q.2 ∈ subs ps.length [] ∧ okF ps W q.2 = true ∧ q.1 = len ps q.2 := by
  rw [best_eq hg] at h
  rcases fold_mem h with e | ⟨e1, e2⟩
  · cases e
  · obtain ⟨m1, m2⟩ := List.mem_filter.mp e1
    exact ⟨m1, m2, e2⟩
theorem flp_lc (ps : List (Int × Int)) (W : Int) : FlP 4 (lcV ps W) := by
  unfold lcV
  cases bestO ps W <;> trivial
theorem flp_sh {ps : List (Int × Int)} {W : Int} (hg : ∀ p ∈ ps, 1 ≤ p.1 ∧ p.1 ≤ 100 ∧ 1 ≤ p.2 ∧ p.2 ≤ 100) (hl : ps.length ≤ 8) : FlP 4 (shV ps W) := by
  unfold shV
  cases h : bestO ps W with
  | none => trivial
  | some q => exact flp_F (wf_of (best_mem hg h).1 (by omega))
theorem cb_max2 {S : Cf} {i j : Int} : CbD S (fun xs H Q => ∃ i j, xs = [.int i, .int j] ∧ Q (.int (if j > i then j else i)) H) [.dat (.int i), .dat (.int j)] (Eq (.dat (.int (max i j)))) := fun G H vs k r Q q => by
  cases r with
  | cons r1 r =>
    cases r with
    | cons r2 r =>
      cases r
      cases r1
      cases r2
      refine ⟨i, j, rfl, ?_⟩
      have e : (if j > i then j else i) = max i j := by
        rw [Int.max_def]
        split <;> split <;> omega
      rw [e]
      exact q _ _ G H (Grow.refl k) k rfl (.int _)
theorem ev_lst1P {S : Cf} {ρ : Rho} {te : TE} {p : D → Prop} (h : Ev S te ρ (fun s => ∃ d, s = .dat d ∧ p d)) : Ev S (tLst (tCons te tNil)) ρ (fun s => ∃ x, s = .dat (.list [x]) ∧ p x) := fun σ G H k e Q q =>
  h σ G H k e _ fun v s G1 H1 g1 k1 ⟨d, es, pd⟩ r1 => by
    subst es
    refine ⟨sz_ok (by show 1 ≤ 1000000; omega), fun l hl => ?_⟩
    have g2 := Grow.new k1 (.lst [v]) hl
    have k2 := Kn.new k1 (.lst [v]) hl
    exact q _ _ _ _ (g1.trans k1 k2 g2) k2 ⟨d, rfl, pd⟩ (.lst (SqL.of upd_same) (.cons (R.mono g2.gg r1) .nil))
theorem ev_cat1P {S : Cf} {ρ : Rho} {ta tb : TE} {ds : List D} {p : D → Prop} (ha : EvL S ta ρ ds) (hb : Ev S tb ρ (fun s => ∃ x, s = .dat (.list [x]) ∧ p x)) (hl : ds.length + 1 ≤ 1000000) : Ev S (tOp (rCatL S.K) ta tb) ρ (fun s => ∃ x, s = .dat (.list (ds ++ [x])) ∧ p x) := fun σ G H k e Q q =>
  ha σ G H k e _ fun a vs G1 H1 g1 k1 st1 ra1 => hb σ G1 H1 k1 (e.grow g1) _ fun w s G2 H2 g2 k2 ⟨x, es, px⟩ r2 => by
    subst es
    cases r2 with
    | @lst b ws _ hs2 ra2 =>
      refine ⟨a, b, vs, ws, rfl, rfl, st1 G2 H2 g2, k2.gh.seq hs2, sz_ok (by rw [ra1.length, ra2.length]; exact hl), fun l hp => ?_⟩
      have g3 := Grow.new k2 (.lst (vs ++ ws)) hp
      have k3 := Kn.new k2 (.lst (vs ++ ws)) hp
      exact q _ _ _ _ ((g1.trans k1 k2 g2).trans k2 k3 g3) k3 ⟨x, rfl, px⟩ (.lst (SqL.of upd_same) ((ra1.mono (g2.gg.trans g3.gg)).append (ra2.mono g3.gg)))
theorem evx_callLP {S : Cf} {ρ : Rho} {Pok : Sl → Prop} {Pex : Addr → D → Prop} {ι : Type} {args : ι → List Sl} {pre : ι → Prop} {post : ι → Re → Prop} {ta : TA} {j : Nat} {f : Addr} {Pa : List Sl → Prop} (hj : ρ[j]? = some (.raw (.ref f))) (ha : EvA S ta ρ Pa) (h : ∀ ss, Pa ss → ∃ i, ss = args i ∧ pre i ∧ (∀ s, post i (.ok s) → Pok s) ∧ (∀ C d, post i (.ex C d) → Pex C d)) :
    EvX S (fun E => tCallL j f (spI S.K fx0 args pre post) [] E ta) ρ Pok Pex := fun σ G H k e E Q q1 q2 => by
  obtain ⟨v, h1, e'⟩ := e.get hj
  have e2 : v = .ref f := Option.some.inj e'
  subst e2
  exact ⟨h1, evx_callP ha h σ G H k e E Q q1 q2⟩
theorem shaped_pn (n : Int) : SeqAt.shaped (.tuple [.str "pieces", .int n]) = true := by kernel_rfl
theorem shaped_rn (n : Int) : SeqAt.shaped (.tuple [.str "rolls", .int n]) = true := by kernel_rfl
theorem eqv_wn (w : Str) (n : Int) : PyData.eqv (.tuple [.str w, .int n]) (.tuple [.str w, .int n]) = true := by
  simp [PyData.eqv, PyData.eqvAll]
theorem xs_asgTP {S : Cf} {ρ : Rho} {te : TE} {g : TG} {w : TS} {P : Oc → Prop} {p : D → Prop} (h : Ev S te ρ (fun s => ∃ d, s = .dat d ∧ p d)) (k : ∀ d, p d → ∃ js ρ1, Tgt S g js d ρ ρ1 ∧ Xc S w ρ1 P) : Xc S (tSeq (tAsg te g) w) ρ P := xc_seq fun σ G H De o e f =>
  h σ G H o.kn e _ fun v s G' H' g' k' ⟨d, es, pd⟩ r => by
    subst es
    obtain ⟨js, ρ1, ht, kx⟩ := k d pd
    exact ht σ G' H' v k' (e.grow g') r _ fun σ' _ e' => f.nx σ' G' H' ρ1 (o.grow g' k') g'.gg e' kx
theorem prP_map (rs : List (Int × Int)) : (rs.map dP).map prP = rs := by
  rw [List.map_map]
  exact List.map_id rs
theorem psOf_dPs (b : Bool) (rs : List (Int × Int)) : psOf (dPs b rs) = rs := by
  unfold psOf
  rw [rows_dPs]
  exact prP_map rs
theorem br_ok {C1 C2 : Addr} {b b' : Bool} {rs ps : List (Int × Int)} (h1 : 1 ≤ rs.length) (h2 : rs.length ≤ 10) (hr : ∀ r ∈ rs, 1 ≤ r.1 ∧ r.1 ≤ 300 ∧ 0 ≤ r.2 ∧ r.2 ≤ 1000) (hp : GoodP ps) : brR C1 C2 (dPs b rs) (dPs b' ps) = .ok (.dat (brV rs ps)) := by
  unfold brR
  rw [rows_dPs, psOf_dPs, psOf_dPs]
  simp only
  rw [if_pos (by rw [List.length_map]; exact ⟨h1, h2⟩), fbG_none, chk_ok hp]
  intro x hx
  obtain ⟨r, hm, rfl⟩ := List.mem_map.mp hx
  exact okRl_dP (hr r hm)
theorem min_pair (y : Int × Int) (ys : List (Int × Int)) : ∃ r : Int × Int, PySem.W.minD (dP y) (ys.map dP) = dP r := ⟨PySem.W.minOf y ys, PySem.W.minD_map y ys⟩
theorem flp_br (rs ps : List (Int × Int)) : FlP 4 (brV rs ps) := by
  unfold brV
  cases rowsP ps 0 rs with
  | nil => trivial
  | cons y ys =>
    obtain ⟨r, e⟩ := min_pair y ys
    show FlP 4 (PySem.W.minD (dP y) (ys.map dP))
    rw [e]
    refine ⟨by simp, fun x hx => ?_⟩
    simp at hx
    rcases hx with rfl | rfl <;> trivial
theorem shaped_L (l : List (Int × Int)) : SeqAt.shaped (.list (l.map dP)) = true := by
  have h1 : (PyData.list (l.map dP)).canLay0 = true := by
    simp only [PyData.canLay0]
    induction l with
    | nil => rfl
    | cons x l ih =>
      rw [List.map_cons]
      simp only [PyData.canLayAll0, ih, Bool.and_true]
      rfl
  have h2 : (PyData.list (l.map dP)).depth ≤ 64 := by
    have e : PyData.list (l.map dP) = PySem.W.Datum.toD l := rfl
    rw [e]
    exact Nat.le_trans (PySem.W.Datum.depth_le _) (by decide)
  unfold SeqAt.shaped
  rw [h1, decide_eq_true h2]
  rfl
theorem eqv_nilL (ds : List D) : PyData.eqv (.list ds) (.list []) = decide (ds = []) := by
  simp only [PyData.eqv]
  cases ds <;> simp [PyData.eqvAll]
/-! ### what is refused -/
def badL : List D := [.none, dP (0, 1), dP (1, 0), dP (101, 1), dP (1, 101), .list [.int 1, .int 1], .tuple [.int 1], .tuple [.bool true, .int 1]]
def oddL : List D := [.int 0, .int 301, .none, .bool true]
def lastL : List D := [.none, .list (List.replicate 11 [dP (1, 1)]).flatten, .int 5]
def wrongL : List D := [.none, dP (0, 1), dP (301, 1), dP (1, -1), dP (1, 1001), .list [.int 1, .int 1], .tuple [.int 1]]
def lastR : List D := [.none, .list [], .list (List.replicate 11 [dP (1, 1)]).flatten, .int 5]
def ShowOk (d : D) : Prop := isDisp d = true ∧ d.hasDict = false ∧ d.showable = true ∧ d.shown.length ≤ sizeLine ∧ d.depth ≤ 20
theorem ev_show {S : Cf} {ρ : Rho} {te : TE} {d : D} (h : Ev S te ρ (Eq (.dat d))) (o : ShowOk d) : Ev S (tCB (rRepr S.K) (tCons te tNil)) ρ (Eq (.dat (.str d.shown))) := ev_repr h o.1 o.2.1 o.2.2.1 o.2.2.2.1 o.2.2.2.2
theorem bad_ok : ∀ d ∈ badL, okPc d = false := by
  intro d hd
  simp only [badL, List.mem_cons, List.not_mem_nil, or_false] at hd
  rcases hd with rfl | rfl | rfl | rfl | rfl | rfl | rfl | rfl
  all_goals decide +kernel
theorem odd_ok : ∀ d ∈ oddL, isWithin 1 300 d = false ∧ ShowOk (.tuple [.str "width", d]) := by
  intro d hd
  simp only [oddL, List.mem_cons, List.not_mem_nil, or_false] at hd
  rcases hd with rfl | rfl | rfl | rfl
  all_goals exact ⟨by decide +kernel, by decide +kernel, by decide +kernel, by decide +kernel, by decide +kernel, by decide +kernel⟩
theorem wrong_ok : ∀ d ∈ wrongL, okRl d = false := by
  intro d hd
  simp only [wrongL, List.mem_cons, List.not_mem_nil, or_false] at hd
  rcases hd with rfl | rfl | rfl | rfl | rfl | rfl | rfl
  all_goals decide +kernel
theorem last_ok {C1 : Addr} : ∀ d ∈ lastL, chkR C1 10 okPc d = .ex C1 (.int (-1)) := by
  intro d hd
  simp only [lastL, List.mem_cons, List.not_mem_nil, or_false] at hd
  rcases hd with rfl | rfl | rfl <;> rfl
theorem lastR_ok {C1 C2 : Addr} : ∀ d ∈ lastR, brR C1 C2 d .none = .ex C2 (.int (-1)) := by
  intro d hd
  simp only [lastR, List.mem_cons, List.not_mem_nil, or_false] at hd
  rcases hd with rfl | rfl | rfl | rfl <;> rfl
theorem chk_bad {C1 : Addr} {ps : List (Int × Int)} {x : D} (h : GoodP ps) (hl : ps.length ≤ 9) (hx : okPc x = false) : chkR C1 10 okPc (.list (ps.map dP ++ [x])) = .ex C1 (.int ((ps.length : Nat) : Int)) := by
  unfold chkR
  show (if 10 < (ps.map dP ++ [x]).length then _ else _) = _
  rw [if_neg (by simp; omega), fbG_at (ps.map dP ++ [x]) 0 ps.length x (fun y hy => ?_) (by simp) hx, Nat.zero_add]
  rw [List.take_append_of_le_length (by simp), List.take_of_length_le (by simp)] at hy
  obtain ⟨p, hp, rfl⟩ := List.mem_map.mp hy
  exact okPc_dP (h.2 p hp)
theorem br_wrong {C1 C2 : Addr} {rs : List (Int × Int)} {x q : D} (h2 : rs.length ≤ 9) (hr : ∀ r ∈ rs, 1 ≤ r.1 ∧ r.1 ≤ 300 ∧ 0 ≤ r.2 ∧ r.2 ≤ 1000) (hx : okRl x = false) : brR C1 C2 (.list (rs.map dP ++ [x])) q = .ex C2 (.int ((rs.length : Nat) : Int)) := by
  unfold brR
  show (if 1 ≤ (rs.map dP ++ [x]).length ∧ (rs.map dP ++ [x]).length ≤ 10 then _ else _) = _
  rw [if_pos (by simp; omega), fbG_at (rs.map dP ++ [x]) 0 rs.length x (fun y hy => ?_) (by simp) hx, Nat.zero_add]
  rw [List.take_append_of_le_length (by simp), List.take_of_length_le (by simp)] at hy
  obtain ⟨p, hp, rfl⟩ := List.mem_map.mp hy
  exact okRl_dP (hr p hp)
def rowsW (ps rs : List (Int × Int)) (i : Nat) : List (Int × Int) := if ps.length < 7 then rowsP ps 0 (rs.take i) else []
section
variable {P : Program} {w : World} {K : PySem.W.Frag} {mg : Str → Option Value} {base : Heap} {C1 C2 C3 fI CS : Addr} (T : Tx P w K mg base C1 C2 C3 fI CS)
include T
theorem c_ask {N : List Str} {sc : Scope} {fa c Tb : Addr} {A : Around} {s : Shared} {H : Hp} {E : XK} (tb : TabB base mg c Tb) :
    ∃ g, AskOk (cxOf (L2.CX P w) P w K mg base N "law" sc fa (.ref c) A [] s H E) "_law_refused" "ask" ["ask", "e"] g c Tb (TRef K [(C1, "pieces"), (C2, "rolls"), (C3, "width")]) := by
  refine ask_ok T.d__law_refused sc__law_refused (.inl rfl) tb (by decide) (fun _ _ _ _ _ _ us hl => match us, hl with | [_], _ => rfl) fun g cdg => ?_
  refine ref_gives (by decide) rfl fun s H => ?_
  refine HdsN.cons ⟨rfl, by decide, .inl T.e_BadPieces.gC⟩ (fun a oe cls d pn hz hf => pss_one (ps_ret (pe_tup (pa_cons pe_str (pa_cons (pe_xf T.e_BadPieces.xf T.e_BadPieces.nv hz hf (pv 1)) pa_nil))))) ?_
  refine HdsN.cons ⟨rfl, by decide, .inl T.e_BadRolls.gC⟩ (fun a oe cls d pn hz hf => pss_one (ps_ret (pe_tup (pa_cons pe_str (pa_cons (pe_xf T.e_BadRolls.xf T.e_BadRolls.nv hz hf (pv 1)) pa_nil))))) ?_
  exact HdsN.cons ⟨rfl, by decide, .inl T.e_BadWidth.gC⟩ (fun a oe cls d pn hz hf => pss_one (ps_ret (pe_tup (pa_cons pe_str (pa_cons (pe_xf T.e_BadWidth.xf T.e_BadWidth.nv hz hf (pv 1)) pa_nil))))) .nil
theorem law_body {fa c Tb a : Addr} {s : Shared} {H : Hp} {ns : List Int} (tb : TabB base mg c Tb) (hr : Room 17 (callerA.deeper (envOfC "law" (defScope s_law) s.heap.objs.size fa (.ref c)))) (hT : H Tb = some (.tbl #[])) (naT : a ≠ Tb) (hS : SqL K H a (ns.map V.int)) :
    ∃ t, PSs (cxOf (L2.CX P w) P w K mg base ["script", "most", "pieces", "due", "area", "long", "bar", "rows", "at", "told", "ask", "bad", "odd", "rolls", "row", "width", "wrong", "k", "piece"] "law" (defScope s_law) fa (.ref c) callerA [] s H (fun _ _ _ => False)) (defBody s_law) t ∧ t { nx := fun _ H' => V.non = .bl true, rt := fun v _ => v = .bl true } (L2.start ["script", "most", "pieces", "due", "area", "long", "bar", "rows", "at", "told", "ask", "bad", "odd", "rolls", "row", "width", "wrong", "k", "piece"] [.ref a]) H := by
  have c__law_taken := c__law_taken T
  have c__law_pick := c__law_pick T
  have c__law_alike := c__law_alike T 4
  have c__law_shelved := c__law_shelved T
  have c_least_cloth := c_least_cloth T
  have c_shelves := c_shelves T
  have c_cloth_bar := c_cloth_bar T
  have c_best_roll := c_best_roll T
  obtain ⟨f1, _, _, g_least_cloth⟩ := T.d_least_cloth
  obtain ⟨f2, _, _, g_shelves⟩ := T.d_shelves
  obtain ⟨f3, _, _, g_cloth_bar⟩ := T.d_cloth_bar
  obtain ⟨ga, O⟩ := c_ask T (N := ["script", "most", "pieces", "due", "area", "long", "bar", "rows", "at", "told", "ask", "bad", "odd", "rolls", "row", "width", "wrong", "k", "piece"]) (sc := defScope s_law) (fa := fa) (A := callerA) (s := s) (H := H) (E := fun _ _ _ => False) tb
  have hgu : (callerA.deeper (envOfC "law" (defScope s_law) s.heap.objs.size fa (.ref c))).guards = some [] := rfl
  refine ⟨_, (pss_cons (ps_set (i := 14) sc_law.nd rfl (Or.inr rfl) (pe_lst (pa_cons (pv 0) (pa_cons pe_int (pa_cons pe_int (pa_cons pe_int pa_nil))))))
      (pss_cons (ps_set (i := 1) sc_law.nd rfl (Or.inr rfl) (pe_cal c__law_pick (hr.mono (by first | decide | omega)) rfl (pa_cons (pv 14) (pa_cons (pe_lst (pa_cons pe_int (pa_cons pe_int (pa_cons pe_int pa_nil)))) pa_nil))))
      (pss_cons (ps_setLc (i := 2) (own := [("k", 17)]) (by rfl) sc_law.nd rfl rfl (sw_true rfl rfl rfl (by decide +kernel)) (pi_range1 (by rfl) T.b_range (pa_cons (pe_ifExp (pt_cmpR (r := rEqD K) (op_eqD (u64 hr)) (pe_cal c__law_taken (hr.mono (by first | decide | omega)) rfl (pa_cons (pv 14) (pa_cons pe_int pa_nil))) pe_int (nomark _)) pe_int (pe_cal c__law_taken (hr.mono (by first | decide | omega)) rfl (pa_cons (pv 14) (pa_cons pe_int pa_nil)))) pa_nil)) (blkOk_by (N := ["script", "most", "pieces", "due", "area", "long", "bar", "rows", "at", "told", "ask", "bad", "odd", "rolls", "row", "width", "wrong", "k", "piece"]) (sc := defScope s_law) (own := [("k", 17)]) (by decide +kernel)) (fun _ _ _ _ _ => (pg_name (i := 17) sc_law.nd rfl (Or.inl rfl))) (fun _ _ _ _ _ => pts_nil) (fun _ _ _ _ _ => (pe_tup (pa_cons (pe_op op_add pe_int (pe_cal c__law_taken (hr.mono (by first | decide | omega)) rfl (pa_cons (pv 14) (pa_cons (pv 1) pa_nil)))) (pa_cons (pe_op op_add pe_int (pe_cal c__law_taken (hr.mono (by first | decide | omega)) rfl (pa_cons (pv 14) (pa_cons (pv 1) pa_nil)))) pa_nil)))))
      (pss_cons (ps_set (i := 15) sc_law.nd rfl (Or.inr rfl) (pe_op op_add pe_int (pe_cal c__law_taken (hr.mono (by first | decide | omega)) rfl (pa_cons (pv 14) (pa_cons (pe_cal c__law_pick (hr.mono (by first | decide | omega)) rfl (pa_cons (pv 14) (pa_cons (pe_lst (pa_cons (pv 1) (pa_cons (pe_op op_mul pe_int (pv 1)) pa_nil))) pa_nil))) pa_nil)))))
      (pss_cons (ps_set (i := 3) sc_law.nd rfl (Or.inl rfl) (pe_cal c__law_shelved (hr.mono (by first | decide | omega)) rfl (pa_cons (pv 15) (pa_cons (pv 2) pa_nil))))
      (pss_cons (ps_if (pt_not (pt_val (pe_cal c__law_alike (hr.mono (by first | decide | omega)) rfl (pa_cons (pe_cal c_least_cloth (hr.mono (by first | decide | omega)) rfl (pa_cons (pv 15) (pa_cons (pe_callTy call_tuple_of (by rfl) T.b_tuple (by decide +kernel) (pa_cons (pv 2) pa_nil)) pa_nil))) (pa_cons (pe_ifExp (pt_cmpR op_notN (pv 3) pe_non (nomark _)) (pe_ix (r := rIxT K) ix_tup (pv 3) pe_int (fun _ _ => rfl)) pe_non) pa_nil))))) (pss_one (ps_ret pe_bl)) pss_nil)
      (pss_cons (ps_if (pt_not (pt_val (pe_cal c__law_alike (hr.mono (by first | decide | omega)) rfl (pa_cons (pe_cal c_shelves (hr.mono (by first | decide | omega)) rfl (pa_cons (pv 15) (pa_cons (pv 2) pa_nil))) (pa_cons (pe_ifExp (pt_cmpR op_notN (pv 3) pe_non (nomark _)) (pe_ix (r := rIxT K) ix_tup (pv 3) pe_int (fun _ _ => rfl)) pe_non) pa_nil))))) (pss_one (ps_ret pe_bl)) pss_nil)
      (pss_cons (ps_par3 (i := 4) (j := 5) (l := 6) (by rfl) sc_law.nd rfl rfl rfl (by decide) (by decide) (by decide) rfl rfl rfl (pa_cons (pe_callB (r := rSum K) (cr_sum rfl) (by rfl) T.b_sum (by decide +kernel) (pa_cons (pe_lc (own := [("piece", 18)]) (by rfl) sc_law.nd (pi_list (pv 2)) (blkOk_by (N := ["script", "most", "pieces", "due", "area", "long", "bar", "rows", "at", "told", "ask", "bad", "odd", "rolls", "row", "width", "wrong", "k", "piece"]) (sc := defScope s_law) (own := [("piece", 18)]) (by decide +kernel)) (fun _ _ _ _ _ => (pg_name (i := 18) sc_law.nd rfl (Or.inl rfl))) (fun _ _ _ _ _ => pts_nil) (fun _ _ _ _ _ => (pe_op op_mul (pe_ix (r := rIxT K) ix_tup (pv 18) pe_int (fun _ _ => rfl)) (pe_ix (r := rIxT K) ix_tup (pv 18) pe_int (fun _ _ => rfl))))) pa_nil)) (pa_cons (pe_callB (r := rMax K) (cr_max rfl) (by rfl) T.b_max (by decide +kernel) (pa_cons (pe_op (r := rCatL K) op_catL (pe_lc (own := [("piece", 18)]) (by rfl) sc_law.nd (pi_list (pv 2)) (blkOk_by (N := ["script", "most", "pieces", "due", "area", "long", "bar", "rows", "at", "told", "ask", "bad", "odd", "rolls", "row", "width", "wrong", "k", "piece"]) (sc := defScope s_law) (own := [("piece", 18)]) (by decide +kernel)) (fun _ _ _ _ _ => (pg_name (i := 18) sc_law.nd rfl (Or.inl rfl))) (fun _ _ _ _ _ => pts_nil) (fun _ _ _ _ _ => (pe_ix (r := rIxT K) ix_tup (pv 18) pe_int (fun _ _ => rfl)))) (pe_lst (pa_cons pe_int pa_nil))) pa_nil)) (pa_cons (pe_cal c_cloth_bar (hr.mono (by first | decide | omega)) rfl (pa_cons (pv 15) (pa_cons (pv 2) pa_nil))) pa_nil))) (by rfl))
      (pss_cons (ps_if (PW.pt (pw_or (pt_not (pt_val (pe_callB (r := rIsi K) call_isi (by rfl) T.b_isinstance (by decide +kernel) (pa_cons (pv 6) (pa_cons (pe_bltn (v := .ty "int") (u := .type "int") (by rfl) T.b_int (by decide +kernel) rfl) pa_nil))))) (pw_or (pt_cmpR op_lt (pe_op op_mul (pv 6) (pv 15)) (pv 4) (nomark _)) (pw_or (pt_cmpR op_lt (pv 6) (pv 5) (nomark _)) (pw_or (PW.pt (pw_and (pt_cmpR op_gt (pv 6) (pe_callB (call_max2 rfl) (by rfl) T.b_max (by decide +kernel) (pa_cons (pv 5) (pa_cons pe_int pa_nil))) (nomark _)) (pw_and1 (pt_cmpR op_ge (pe_op op_mul (pe_op op_sub (pv 6) pe_int) (pv 15)) (pv 4) (nomark _))))) (pw_or1 (PW.pt (pw_and (pt_cmpR op_notN (pv 3) pe_non (nomark _)) (pw_and1 (pt_cmpR op_gt (pv 6) (pe_ix (r := rIxT K) ix_tup (pv 3) pe_int (fun _ _ => rfl)) (nomark _))))))))))) (pss_one (ps_ret pe_bl)) pss_nil)
      (pss_cons (ps_asg (pe_tup (pa_cons (pe_lc (own := [("k", 17)]) (by rfl) sc_law.nd (pi_range1 (by rfl) T.b_range (pa_cons (pe_op op_add pe_int (pe_cal c__law_taken (hr.mono (by first | decide | omega)) rfl (pa_cons (pv 14) (pa_cons pe_int pa_nil)))) pa_nil)) (blkOk_by (N := ["script", "most", "pieces", "due", "area", "long", "bar", "rows", "at", "told", "ask", "bad", "odd", "rolls", "row", "width", "wrong", "k", "piece"]) (sc := defScope s_law) (own := [("k", 17)]) (by decide +kernel)) (fun _ _ _ _ _ => (pg_name (i := 17) sc_law.nd rfl (Or.inl rfl))) (fun _ _ _ _ _ => pts_nil) (fun _ _ _ _ _ => (pe_tup (pa_cons (pe_op op_add pe_int (pe_cal c__law_taken (hr.mono (by first | decide | omega)) rfl (pa_cons (pv 14) (pa_cons (pe_op op_mul pe_int (pv 1)) pa_nil)))) (pa_cons (pe_cal c__law_taken (hr.mono (by first | decide | omega)) rfl (pa_cons (pv 14) (pa_cons pe_int pa_nil))) pa_nil))))) (pa_cons (pe_lst pa_nil) pa_nil))) (pg_tup (by rfl) (pgs_cons (pg_name (i := 13) sc_law.nd rfl (Or.inr rfl)) (pgs_cons (pg_name (i := 7) sc_law.nd rfl (Or.inl rfl)) pgs_nil))))
      (pss_cons (ps_for (passes_of rfl) rfl (pi_range1 (by rfl) T.b_range (pa_cons (pe_callB (r := fun xs H Q => ∃ p ys, xs = [.ref p] ∧ (SqL K H p ys ∨ SqT K H p ys) ∧ Q (.int ys.length) H) call_len_seq (by rfl) T.b_len (by decide +kernel) (pa_cons (pv 13) pa_nil)) pa_nil)) (pg_name (i := 8) sc_law.nd rfl (Or.inl rfl)) (pss_cons (ps_set (i := 9) sc_law.nd rfl (Or.inl rfl) (pe_ifExp (pt_cmpR op_lt (pe_callB (r := fun xs H Q => ∃ p ys, xs = [.ref p] ∧ (SqL K H p ys ∨ SqT K H p ys) ∧ Q (.int ys.length) H) call_len_seq (by rfl) T.b_len (by decide +kernel) (pa_cons (pv 2) pa_nil)) pe_int (nomark _)) (pe_cal c__law_shelved (hr.mono (by first | decide | omega)) rfl (pa_cons (pe_ix (r := rIxT K) ix_tup (pe_ix (r := rIxL K) ix_list (pv 13) (pv 8) (fun _ _ => rfl)) pe_int (fun _ _ => rfl)) (pa_cons (pv 2) pa_nil))) pe_non))
      (pss_one (ps_set (i := 7) sc_law.nd rfl (Or.inl rfl) (pe_op (r := rCatL K) op_catL (pv 7) (pe_ifExp (pt_cmpR op_notN (pv 9) pe_non (nomark _)) (pe_lst (pa_cons (pe_tup (pa_cons (pe_op op_mul (pe_ix (r := rIxT K) ix_tup (pe_ix (r := rIxL K) ix_list (pv 13) (pv 8) (fun _ _ => rfl)) pe_int (fun _ _ => rfl)) (pe_ix (r := rIxT K) ix_tup (pv 9) pe_int (fun _ _ => rfl))) (pa_cons (pv 8) pa_nil))) pa_nil)) (pe_lst pa_nil)))))))
      (pss_cons (ps_if (PW.pt (pw_and (pt_cmpR op_lt (pe_callB (r := fun xs H Q => ∃ p ys, xs = [.ref p] ∧ (SqL K H p ys ∨ SqT K H p ys) ∧ Q (.int ys.length) H) call_len_seq (by rfl) T.b_len (by decide +kernel) (pa_cons (pv 2) pa_nil)) pe_int (nomark _)) (pw_and1 (pt_not (pt_val (pe_cal c__law_alike (hr.mono (by first | decide | omega)) rfl (pa_cons (pe_cal c_best_roll (hr.mono (by first | decide | omega)) rfl (pa_cons (pe_callTy call_tuple_of (by rfl) T.b_tuple (by decide +kernel) (pa_cons (pv 13) pa_nil)) (pa_cons (pv 2) pa_nil))) (pa_cons (pe_ifExp (pt_cmpR (r := rNeD K) (op_neD (u64 hr)) (pv 7) (pe_lst pa_nil) (nomark _)) (pe_callB (cr_minL rfl (u64 hr)) (by rfl) T.b_min (by decide +kernel) (pa_cons (pv 7) pa_nil)) pe_non) pa_nil)))))))) (pss_one (ps_ret pe_bl)) pss_nil)
      (pss_cons (ps_set (i := 11) sc_law.nd rfl (Or.inr rfl) (pe_op (r := rCatL K) op_catL (pe_slice (r := rSlL K) sl_list (pv 2) po_none (po_some pe_int)) (pe_lst (pa_cons (pe_cal c__law_pick (hr.mono (by first | decide | omega)) rfl (pa_cons (pv 14) (pa_cons (pe_lst (pa_cons pe_non (pa_cons (pe_tup (pa_cons pe_int (pa_cons pe_int pa_nil))) (pa_cons (pe_tup (pa_cons pe_int (pa_cons pe_int pa_nil))) (pa_cons (pe_tup (pa_cons pe_int (pa_cons pe_int pa_nil))) (pa_cons (pe_tup (pa_cons pe_int (pa_cons pe_int pa_nil))) (pa_cons (pe_lst (pa_cons pe_int (pa_cons pe_int pa_nil))) (pa_cons (pe_tup (pa_cons pe_int pa_nil)) (pa_cons (pe_tup (pa_cons pe_bl (pa_cons pe_int pa_nil))) pa_nil))))))))) pa_nil))) pa_nil))))
      (pss_cons (ps_set (i := 12) sc_law.nd rfl (Or.inr rfl) (pe_cal c__law_pick (hr.mono (by first | decide | omega)) rfl (pa_cons (pv 14) (pa_cons (pe_lst (pa_cons pe_int (pa_cons pe_int (pa_cons pe_non (pa_cons pe_bl pa_nil))))) pa_nil))))
      (pss_cons (ps_for (passes_of rfl) rfl (pi_list (pe_lst (pa_cons (pe_gref rfl g_least_cloth) (pa_cons (pe_gref rfl g_shelves) (pa_cons (pe_gref rfl g_cloth_bar) pa_nil))))) (pg_name (i := 10) sc_law.nd rfl (Or.inr rfl)) (pss_cons (ps_if (pt_cmpR op_ne (pe_callB (cr_repr hgu (u64 hr)) (by rfl) T.b_repr (by decide +kernel) (pa_cons (pe_lam (k := 15) O rfl (hr.mono (by first | decide | omega)) (lamS_by (sc := defScope s_law) (by decide +kernel)) rfl (fun _ _ _ _ _ => rfl) (fun A2 outer2 s2 H2 E2 f2 c2 hr => (pe_alt (pe_calL (i := 10) c_least_cloth g_least_cloth (hr.mono (by first | decide | omega)) rfl (by first | exact Or.inl rfl | exact Or.inr (Or.inl rfl) | exact Or.inr (Or.inr rfl)) (pa_cons (pv 12) (pa_cons pe_non pa_nil)) (takes_of rfl rfl rfl rfl)) (pe_alt (pe_calL (i := 10) c_shelves g_shelves (hr.mono (by first | decide | omega)) rfl (by first | exact Or.inl rfl | exact Or.inr (Or.inl rfl) | exact Or.inr (Or.inr rfl)) (pa_cons (pv 12) (pa_cons pe_non pa_nil)) (takes_of rfl rfl rfl rfl)) (pe_calL (i := 10) c_cloth_bar g_cloth_bar (hr.mono (by first | decide | omega)) rfl (by first | exact Or.inl rfl | exact Or.inr (Or.inl rfl) | exact Or.inr (Or.inr rfl)) (pa_cons (pv 12) (pa_cons pe_non pa_nil)) (takes_of rfl rfl rfl rfl)))))) pa_nil)) (pe_callB (cr_repr hgu (u64 hr)) (by rfl) T.b_repr (by decide +kernel) (pa_cons (pe_tup (pa_cons pe_str (pa_cons (pv 12) pa_nil))) pa_nil)) (nomark _)) (pss_one (ps_ret pe_bl)) pss_nil)
      (pss_cons (ps_if (pt_cmpR (r := rNeD K) (op_neD (u64 hr)) (pe_lam (k := 15) O rfl (hr.mono (by first | decide | omega)) (lamS_by (sc := defScope s_law) (by decide +kernel)) rfl (fun _ _ _ _ _ => rfl) (fun A2 outer2 s2 H2 E2 f2 c2 hr => (pe_alt (pe_calL (i := 10) c_least_cloth g_least_cloth (hr.mono (by first | decide | omega)) rfl (by first | exact Or.inl rfl | exact Or.inr (Or.inl rfl) | exact Or.inr (Or.inr rfl)) (pa_cons (pv 15) (pa_cons (pv 11) pa_nil)) (takes_of rfl rfl rfl rfl)) (pe_alt (pe_calL (i := 10) c_shelves g_shelves (hr.mono (by first | decide | omega)) rfl (by first | exact Or.inl rfl | exact Or.inr (Or.inl rfl) | exact Or.inr (Or.inr rfl)) (pa_cons (pv 15) (pa_cons (pv 11) pa_nil)) (takes_of rfl rfl rfl rfl)) (pe_calL (i := 10) c_cloth_bar g_cloth_bar (hr.mono (by first | decide | omega)) rfl (by first | exact Or.inl rfl | exact Or.inr (Or.inl rfl) | exact Or.inr (Or.inr rfl)) (pa_cons (pv 15) (pa_cons (pv 11) pa_nil)) (takes_of rfl rfl rfl rfl)))))) (pe_tup (pa_cons pe_str (pa_cons (pe_op op_sub (pe_callB (r := fun xs H Q => ∃ p ys, xs = [.ref p] ∧ (SqL K H p ys ∨ SqT K H p ys) ∧ Q (.int ys.length) H) call_len_seq (by rfl) T.b_len (by decide +kernel) (pa_cons (pv 11) pa_nil)) pe_int) pa_nil))) (nomark _)) (pss_one (ps_ret pe_bl)) pss_nil)
      (pss_one (ps_if (pt_cmpR (r := rNeD K) (op_neD (u64 hr)) (pe_lam (k := 15) O rfl (hr.mono (by first | decide | omega)) (lamS_by (sc := defScope s_law) (by decide +kernel)) rfl (fun _ _ _ _ _ => rfl) (fun A2 outer2 s2 H2 E2 f2 c2 hr => (pe_alt (pe_calL (i := 10) c_least_cloth g_least_cloth (hr.mono (by first | decide | omega)) rfl (by first | exact Or.inl rfl | exact Or.inr (Or.inl rfl) | exact Or.inr (Or.inr rfl)) (pa_cons (pv 15) (pa_cons (pe_cal c__law_pick (hr.mono (by first | decide | omega)) rfl (pa_cons (pv 14) (pa_cons (pe_lst (pa_cons pe_non (pa_cons (pe_op op_rep (pe_lst (pa_cons (pe_tup (pa_cons pe_int (pa_cons pe_int pa_nil))) pa_nil)) pe_int) (pa_cons pe_int pa_nil)))) pa_nil))) pa_nil)) (takes_of rfl rfl rfl rfl)) (pe_alt (pe_calL (i := 10) c_shelves g_shelves (hr.mono (by first | decide | omega)) rfl (by first | exact Or.inl rfl | exact Or.inr (Or.inl rfl) | exact Or.inr (Or.inr rfl)) (pa_cons (pv 15) (pa_cons (pe_cal c__law_pick (hr.mono (by first | decide | omega)) rfl (pa_cons (pv 14) (pa_cons (pe_lst (pa_cons pe_non (pa_cons (pe_op op_rep (pe_lst (pa_cons (pe_tup (pa_cons pe_int (pa_cons pe_int pa_nil))) pa_nil)) pe_int) (pa_cons pe_int pa_nil)))) pa_nil))) pa_nil)) (takes_of rfl rfl rfl rfl)) (pe_calL (i := 10) c_cloth_bar g_cloth_bar (hr.mono (by first | decide | omega)) rfl (by first | exact Or.inl rfl | exact Or.inr (Or.inl rfl) | exact Or.inr (Or.inr rfl)) (pa_cons (pv 15) (pa_cons (pe_cal c__law_pick (hr.mono (by first | decide | omega)) rfl (pa_cons (pv 14) (pa_cons (pe_lst (pa_cons pe_non (pa_cons (pe_op op_rep (pe_lst (pa_cons (pe_tup (pa_cons pe_int (pa_cons pe_int pa_nil))) pa_nil)) pe_int) (pa_cons pe_int pa_nil)))) pa_nil))) pa_nil)) (takes_of rfl rfl rfl rfl)))))) (pe_tup (pa_cons pe_str (pa_cons (pe_un un_neg pe_int) pa_nil))) (nomark _)) (pss_one (ps_ret pe_bl)) pss_nil)))))
      (pss_cons (ps_set (i := 16) sc_law.nd rfl (Or.inr rfl) (pe_op (r := rCatL K) op_catL (pv 13) (pe_lst (pa_cons (pe_cal c__law_pick (hr.mono (by first | decide | omega)) rfl (pa_cons (pv 14) (pa_cons (pe_lst (pa_cons pe_non (pa_cons (pe_tup (pa_cons pe_int (pa_cons pe_int pa_nil))) (pa_cons (pe_tup (pa_cons pe_int (pa_cons pe_int pa_nil))) (pa_cons (pe_tup (pa_cons pe_int (pa_cons (pe_un un_neg pe_int) pa_nil))) (pa_cons (pe_tup (pa_cons pe_int (pa_cons pe_int pa_nil))) (pa_cons (pe_lst (pa_cons pe_int (pa_cons pe_int pa_nil))) (pa_cons (pe_tup (pa_cons pe_int pa_nil)) pa_nil)))))))) pa_nil))) pa_nil))))
      (pss_cons (ps_if (pt_cmpR (r := rNeD K) (op_neD (u64 hr)) (pe_lam (k := 15) O rfl (hr.mono (by first | decide | omega)) (lamS_by (sc := defScope s_law) (by decide +kernel)) rfl (fun _ _ _ _ _ => rfl) (fun A2 outer2 s2 H2 E2 f2 c2 hr => (pe_calX c_best_roll (hr.mono (by first | decide | omega)) rfl (pa_cons (pv 16) (pa_cons pe_non pa_nil)) (takes_of rfl rfl rfl rfl)))) (pe_tup (pa_cons pe_str (pa_cons (pe_callB (r := fun xs H Q => ∃ p ys, xs = [.ref p] ∧ (SqL K H p ys ∨ SqT K H p ys) ∧ Q (.int ys.length) H) call_len_seq (by rfl) T.b_len (by decide +kernel) (pa_cons (pv 13) pa_nil)) pa_nil))) (nomark _)) (pss_one (ps_ret pe_bl)) pss_nil)
      (pss_cons (ps_if (pt_cmpR (r := rNeD K) (op_neD (u64 hr)) (pe_lam (k := 15) O rfl (hr.mono (by first | decide | omega)) (lamS_by (sc := defScope s_law) (by decide +kernel)) rfl (fun _ _ _ _ _ => rfl) (fun A2 outer2 s2 H2 E2 f2 c2 hr => (pe_calX c_best_roll (hr.mono (by first | decide | omega)) rfl (pa_cons (pe_cal c__law_pick (hr.mono (by first | decide | omega)) rfl (pa_cons (pv 14) (pa_cons (pe_lst (pa_cons pe_non (pa_cons (pe_lst pa_nil) (pa_cons (pe_op op_rep (pe_lst (pa_cons (pe_tup (pa_cons pe_int (pa_cons pe_int pa_nil))) pa_nil)) pe_int) (pa_cons pe_int pa_nil))))) pa_nil))) (pa_cons pe_non pa_nil)) (takes_of rfl rfl rfl rfl)))) (pe_tup (pa_cons pe_str (pa_cons (pe_un un_neg pe_int) pa_nil))) (nomark _)) (pss_one (ps_ret pe_bl)) pss_nil)
      (pss_one (ps_ret (pe_cmpR (r := rEqD K) (op_eqD (u64 hr)) (pe_lam (k := 15) O rfl (hr.mono (by first | decide | omega)) (lamS_by (sc := defScope s_law) (by decide +kernel)) rfl (fun _ _ _ _ _ => rfl) (fun A2 outer2 s2 H2 E2 f2 c2 hr => (pe_calX c_best_roll (hr.mono (by first | decide | omega)) rfl (pa_cons (pv 13) (pa_cons (pv 11) pa_nil)) (takes_of rfl rfl rfl rfl)))) (pe_tup (pa_cons pe_str (pa_cons (pe_op op_sub (pe_callB (r := fun xs H Q => ∃ p ys, xs = [.ref p] ∧ (SqL K H p ys ∨ SqT K H p ys) ∧ Q (.int ys.length) H) call_len_seq (by rfl) T.b_len (by decide +kernel) (pa_cons (pv 11) pa_nil)) pe_int) pa_nil))) (nomark _)))))))))))))))))))))), ?_⟩
  refine xs_row rfl fun p hp => ?_
  obtain ⟨t, k0⟩ := law_start (q := (cxOf (L2.CX P w) P w K mg base ["script", "most", "pieces", "due", "area", "long", "bar", "rows", "at", "told", "ask", "bad", "odd", "rolls", "row", "width", "wrong", "k", "piece"] "law" (defScope s_law) fa (.ref c) callerA [] s H (fun _ _ _ => False)).env.qual ++ "<lambda>") hT hS hp 0 117 (by omega) (by omega) (by omega) 0
  have env0 : Env ⟨K, rowFx K ⟨p, a, Tb, (cxOf (L2.CX P w) P w K mg base ["script", "most", "pieces", "due", "area", "long", "bar", "rows", "at", "told", "ask", "bad", "odd", "rolls", "row", "width", "wrong", "k", "piece"] "law" (defScope s_law) fa (.ref c) callerA [] s H (fun _ _ _ => False)).env.qual ++ "<lambda>", ns, t⟩, fun _ => none, upd H p (rowHO a 0 117 0), fun _ _ _ => False⟩ (fun _ => none) (upd H p (rowHO a 0 117 0)) ((L2.start ["script", "most", "pieces", "due", "area", "long", "bar", "rows", "at", "told", "ask", "bad", "odd", "rolls", "row", "width", "wrong", "k", "piece"] [.ref a]).set 14 (some (.ref p))) [.raw (.ref a), .no, .no, .no, .no, .no, .no, .no, .no, .no, .no, .no, .no, .no, .raw (.ref p), .no, .no, .no, .no] :=
    (env_start (vs := [.ref a]) (ss := [.raw (.ref a)]) 18 (.cons rfl .nil)).set 14 (s := .raw (.ref p)) rfl
  refine xc_start k0 env0 ?_
  clear env0 k0
  generalize (cxOf (L2.CX P w) P w K mg base ["script", "most", "pieces", "due", "area", "long", "bar", "rows", "at", "told", "ask", "bad", "odd", "rolls", "row", "width", "wrong", "k", "piece"] "law" (defScope s_law) fa (.ref c) callerA [] s H (fun _ _ _ => False)).env.qual ++ "<lambda>" = q
  generalize upd H p (rowHO a 0 117 0) = B
  have tkI : ∀ {ρ : Rho} {te : TE} {q' : Int → Prop}, ρ[14]? = some (.raw (.ref p)) → EvI ⟨K, rowFx K ⟨p, a, Tb, q, ns, t⟩, fun _ => none, B, fun _ _ _ => False⟩ te ρ q' → (∀ m, q' m → 0 < m ∧ m < 1073741824) → EvI ⟨K, rowFx K ⟨p, a, Tb, q, ns, t⟩, fun _ => none, B, fun _ _ _ => False⟩ (tCall (spTaken K) [] E0 (tCons (tVar 14) (tCons te tNil))) ρ (fun x => 0 ≤ x ∧ ∃ m, q' m ∧ x < m) := fun h he hq => ev_takenI (z := ⟨p, a, Tb, q, ns, t⟩) (ev_varR h) he hq
  refine xs_asgP (p := fun s => ∃ d, s = .dat d ∧ d ∈ [PyData.int 4, .int 20, .int 100]) (ev_pick (z := ⟨p, a, Tb, q, ns, t⟩) (ev_varR rfl) (ev_lst (ds := [.int 4, .int 20, .int 100]) (ea_cons ev_int (ea_cons ev_int (ea_cons ev_int ea_nil))) (by simp)) (by simp) (by simp)) ?_
  rintro _ ⟨dm, rfl, hdm⟩
  obtain ⟨most, rfl, hm1, hm2⟩ : ∃ m : Int, dm = .int m ∧ 1 ≤ m ∧ m ≤ 100 := by
    simp at hdm
    rcases hdm with rfl | rfl | rfl
    · exact ⟨4, rfl, by decide, by decide⟩
    · exact ⟨20, rfl, by decide, by decide⟩
    · exact ⟨100, rfl, by decide, by decide⟩
  refine xs_asgP (ef_many (good := fun p => 1 ≤ p.1 ∧ p.1 ≤ 100 ∧ 1 ≤ p.2 ∧ p.2 ≤ 100) (N := fun n => n ≤ 8) (fun n h => by omega) (im_rng1 (ev_ifP (p := fun _ => True) (et_testP (ev_eqIP (tkI rfl (ev_int.toI (p := fun i => i = 6) rfl) fun m h => by omega) (ev_int.toI (p := fun _ => True) trivial))) (fun _ => (ev_int (i := 8)).toI ⟨by omega, by omega, by rw [rngD_length]; decide⟩) fun _ => (tkI rfl (ev_int.toI (p := fun i => i = 7) rfl) fun m h => by omega).imp fun s ⟨x, e, h0, m, hm, hx⟩ => ⟨x, e, by omega, by omega, by rw [rngD_length]; omega⟩)) fun d => ⟨[17], _, by simp, tg_name, ?_⟩).ev ?_
  · have hE : ∀ {ρ : Rho}, ρ[14]? = some (.raw (.ref p)) → ρ[1]? = some (.dat (.int most)) → EvI ⟨K, rowFx K ⟨p, a, Tb, q, ns, t⟩, fun _ => none, B, fun _ _ _ => False⟩ (tOp (rI0 fun i j => .int (i + j)) (tC (.int 1)) (tCall (spTaken K) [] E0 (tCons (tVar 14) (tCons (tVar 1) tNil)))) ρ (fun x => 1 ≤ x ∧ x ≤ 100) := fun h1 h2 =>
      evI_0 (p := fun i => i = 1) (ev_int.toI rfl) (tkI h1 ((ev_var h2).toI (p := fun i => i = most) rfl) fun m h => by omega) fun i j hi ⟨hj, m, hm, hx⟩ => by omega
    exact (ev_pair (hE rfl rfl) (hE rfl rfl)).imp fun s ⟨r, e, h1, h2⟩ => ⟨r, e, h1.1, h1.2, h2.1, h2.2⟩
  rintro _ ⟨_, rfl, ps, rfl, hpl, hpg⟩
  refine xs_asgP (p := fun s => ∃ W : Int, s = .dat (.int W) ∧ (1 ≤ W ∧ W ≤ 300)) (evI_0 (p := fun i => i = 1) (s := fun W => 1 ≤ W ∧ W ≤ 300) (ev_int.toI rfl) (tkI rfl (q' := fun m => m = most ∨ m = 3 * most) ((ev_pick (z := ⟨p, a, Tb, q, ns, t⟩) (l := [.int most, .int (3 * most)]) (ev_varR rfl) (ev_lst (ds := [.int most, .int (3 * most)]) (ea_cons (ev_var rfl) (ea_cons (ev_IC (i := 3) (j := most) ev_int (ev_var rfl) (.inl ⟨by decide, by decide⟩)) ea_nil)) (by simp)) (by simp) (by simp)).imp fun s ⟨d, e, hd⟩ => ?_) fun m h => by omega) fun i j hi ⟨hj, m, hm, hx⟩ => by omega) ?_
  · simp at hd
    rcases hd with rfl | rfl
    · exact ⟨_, e, .inl rfl⟩
    · exact ⟨_, e, .inr rfl⟩
  rintro _ ⟨W, rfl, hW1, hW2⟩
  have hgp : GoodP ps := ⟨by omega, hpg⟩
  refine xs_asg (s := .dat (dB (bestO ps W))) (ev_callE (ps, W) (ea_cons (ev_var rfl) (ea_cons (ev_var (d := dPs true ps) rfl) ea_nil)) ⟨hpl, hpg⟩) ?_
  refine xs_when (b := false) (et_no (et_not (et_B (ev_callE (lcV ps W) (ea_cons (ev_callV (CI.ok false ps W) (ea_cons (ev_var rfl) (ea_cons (ev_tupL (ds := ps.map dP) (el_of (ev_var rfl))) ea_nil)) ⟨hgp, hW1, hW2⟩ (s := .dat (lcV ps W)) rfl) (ea_cons (ev_if (et_test (ev_notN (d := dB (bestO ps W)) (ev_var rfl))) (fun hz => ?_) fun hz => ?_) ea_nil)) (flp_lc ps W)))) rfl) (fun z => by cases z) fun _ => ?_
  · unfold lcV
    cases hb : bestO ps W with
    | none =>
      rw [hb] at hz
      cases hz
    | some qq => exact ev_ixU (ds := [.int qq.1, dF qq.2]) (ev_var rfl) ev_int rfl
  · unfold lcV
    cases hb : bestO ps W with
    | none => exact ev_non
    | some qq =>
      rw [hb] at hz
      cases hz
  refine xs_when (b := false) (et_no (et_not (et_B (ev_callE (shV ps W) (ea_cons (ev_callV (CI.ok true ps W) (ea_cons (ev_var rfl) (ea_cons (ev_var rfl) ea_nil)) ⟨hgp, hW1, hW2⟩ (s := .dat (shV ps W)) rfl) (ea_cons (ev_if (et_test (ev_notN (d := dB (bestO ps W)) (ev_var rfl))) (fun hz => ?_) fun hz => ?_) ea_nil)) (flp_sh hpg hpl)))) rfl) (fun z => by cases z) fun _ => ?_
  · unfold shV
    cases hb : bestO ps W with
    | none =>
      rw [hb] at hz
      cases hz
    | some qq => exact ev_ixU (ds := [.int qq.1, dF qq.2]) (ev_var rfl) ev_int rfl
  · unfold shV
    cases hb : bestO ps W with
    | none => exact ev_non
    | some qq =>
      rw [hb] at hz
      cases hz
  have hl0 : ps.length ≤ 1000000 := by omega
  refine xs_par3 (x := .dat (.int (area ps))) (y := .dat (.int (lmax (ps.map Prod.snd ++ [0])))) (z := .dat (.int (bar ps W))) (ea_cons (ev_sumL (l := ps) (dα := dP) (f := fun p => p.1 * p.2) (im_dPs rfl) hl0 fun r hr => ⟨[18], _, by simp, tg_name, ev_IC (i := r.1) (j := r.2) (ev_ixU (ds := [.int r.1, .int r.2]) (ev_var rfl) ev_int rfl) (ev_ixU (ds := [.int r.1, .int r.2]) (ev_var rfl) ev_int rfl) (.inl (by have := hpg r hr; exact ⟨by omega, by omega⟩))⟩)
    (ea_cons (ev_max (ns := ps.map Prod.snd ++ [0]) (by simp) ((ef_catL (ds := (ps.map Prod.snd).map PyData.int) (es := [.int 0]) (el_of ((ef_mapL (l := ps) (dα := dP) (f := fun p => .int p.2) (im_dPs rfl) hl0 fun r hr => ⟨[18], _, by simp, tg_name, ev_ixU (ds := [.int r.1, .int r.2]) (ev_var rfl) ev_int rfl⟩).evE.cast (by rw [List.map_map]; rfl))) (el_of (ev_lst (ds := [.int 0]) (ea_cons ev_int ea_nil) (by simp))) (by simp; omega)).evE.cast (by rw [List.map_append]; rfl)))
    (ea_cons (ev_callV (CI.ok true ps W) (ea_cons (ev_var rfl) (ea_cons (ev_var rfl) ea_nil)) ⟨hgp, hW1, hW2⟩ (s := .dat (.int (bar ps W))) rfl) ea_nil))) ?_
  have hbl := bar_law (A := area ps) (W := W) (b := bar ps W) (L := ps.map Prod.snd) (by omega) (fun x hx => by
    obtain ⟨r, hr, rfl⟩ := List.mem_map.mp hx
    have := hpg r hr
    omega) rfl
  have hdue : ∀ qq : Int × F, bestO ps W = some qq → bar ps W ≤ qq.1 := fun qq hq => by
    obtain ⟨m1, m2, m3⟩ := best_mem hpg hq
    obtain ⟨b1, b2, b3⟩ := bar_le (pos_of hpg) (by omega) m1 m2
    rw [m3]
    refine hbl.2.2.2 _ b1 b2 fun x hx => ?_
    obtain ⟨r, hr, rfl⟩ := List.mem_map.mp hx
    exact b3 r hr
  generalize hbar : bar ps W = br at hbl hdue ⊢
  generalize harea : area ps = ar at hbl ⊢
  generalize hlong : lmax (ps.map Prod.snd ++ [0]) = lo at hbl ⊢
  refine xs_when (b := false) (et_no (et_or (et_not (et_B (ev_isInt (d := .int br) (ev_var rfl)))) fun _ => et_or (et_test (ev_C0 (i := br * W) (j := ar) (ev_IC (i := br) (j := W) (ev_var rfl) (ev_var rfl) (.inr ⟨by omega, by omega⟩)) (ev_var rfl))) fun _ => et_or (et_test (ev_C0 (i := br) (j := lo) (ev_var rfl) (ev_var rfl))) fun _ =>
    et_or (et_and (et_test (ev_C0 (i := br) (j := max lo 0) (ev_var rfl) (ev_cb (ea_cons (ev_var rfl) (ea_cons ev_int ea_nil)) cb_max2))) fun _ => et_test (ev_C0 (i := (br - 1) * W) (j := ar) (ev_IC (i := br - 1) (j := W) (ev_I0 (i := br) (j := 1) (ev_var rfl) ev_int) (ev_var rfl) (.inr ⟨by omega, by omega⟩)) (ev_var rfl))) fun _ =>
    et_and (b := false) (et_test (ev_notN (d := dB (bestO ps W)) (ev_var rfl))) fun hz => ?_) ?_) (fun z => by cases z) fun _ => ?_
  · cases hb : bestO ps W with
    | none =>
      rw [hb] at hz
      cases hz
    | some qq =>
      exact et_is (et_test (ev_C0 (i := br) (j := qq.1) (ev_var rfl) (ev_ixU (ds := [.int qq.1, dF qq.2]) (ev_var rfl) ev_int rfl))) (decide_eq_false (by have := hdue qq hb; omega))
  · have e1 : decide (br * W < ar) = false := decide_eq_false (by have := hbl.1; omega)
    have e2 : decide (br < lo) = false := decide_eq_false (by have := hbl.2.1; omega)
    have e3 : (decide (br > max lo 0) && decide ((br - 1) * W ≥ ar)) = false := by
      rw [Bool.eq_false_iff]
      intro z
      rw [Bool.and_eq_true, decide_eq_true_eq, decide_eq_true_eq] at z
      exact hbl.2.2.1 ⟨z.1, z.2⟩
    rw [e1, e2, e3]
    simp [dInt]
  refine xs_asgTP (p := fun d => ∃ rs : List (Int × Int), d = .tuple [dPs true rs, .list []] ∧ (1 ≤ rs.length ∧ rs.length ≤ 3) ∧ ∀ r ∈ rs, 1 ≤ r.1 ∧ r.1 ≤ 300 ∧ 0 ≤ r.2 ∧ r.2 ≤ 1000) ((ev_tupP (p := fun ds => ∃ rs : List (Int × Int), ds = [dPs true rs, .list []] ∧ (1 ≤ rs.length ∧ rs.length ≤ 3) ∧ ∀ r ∈ rs, 1 ≤ r.1 ∧ r.1 ≤ 300 ∧ 0 ≤ r.2 ∧ r.2 ≤ 1000) (ea_consP (Pr := Eq [.dat (.list [])]) (ef_many (good := fun r => 1 ≤ r.1 ∧ r.1 ≤ 300 ∧ 0 ≤ r.2 ∧ r.2 ≤ 1000) (N := fun n => 1 ≤ n ∧ n ≤ 3) (fun n h => by omega)
    (im_rng1 ((evI_0 (p := fun i => i = 1) (s := fun n => 1 ≤ n ∧ n ≤ 3) (ev_int.toI rfl) (tkI rfl (ev_int.toI (p := fun i => i = 3) rfl) fun m h => by omega) fun i j hi ⟨hj, m, hm, hx⟩ => by omega).imp fun s ⟨n, e, h1, h2⟩ => ⟨n, e, by omega, by omega, by rw [rngD_length]; omega⟩)) fun d => ⟨[17], _, by simp, tg_name, ?_⟩).ev (ea_cons ev_lst0 ea_nil) ?_)).imp fun s ⟨ds, e, rs, e2, h⟩ => ⟨_, e, rs, by rw [e2], h⟩) ?_
  · have hE : ∀ {ρ : Rho}, ρ[14]? = some (.raw (.ref p)) → ρ[1]? = some (.dat (.int most)) → EvI ⟨K, rowFx K ⟨p, a, Tb, q, ns, t⟩, fun _ => none, B, fun _ _ _ => False⟩ (tOp (rI0 fun i j => .int (i + j)) (tC (.int 1)) (tCall (spTaken K) [] E0 (tCons (tVar 14) (tCons (tOp (rI CMul fun i j => .int (i * j)) (tC (.int 3)) (tVar 1)) tNil)))) ρ (fun x => 1 ≤ x ∧ x ≤ 300) := fun h1 h2 =>
      evI_0 (p := fun i => i = 1) (ev_int.toI rfl) (tkI h1 ((ev_IC (i := 3) (j := most) ev_int (ev_var h2) (.inl ⟨by decide, by decide⟩)).toI (p := fun i => i = 3 * most) rfl) fun m h => by omega) fun i j hi ⟨hj, m, hm, hx⟩ => by omega
    exact (ev_pair (hE rfl rfl) (tkI rfl (ev_int.toI (p := fun i => i = 9) rfl) fun m h => by omega)).imp fun s ⟨r, e, h1, h2, m, hm, hx⟩ => ⟨r, e, h1.1, h1.2, h2, by omega⟩
  · rintro x xs ⟨_, rfl, rs, rfl, h1, h2⟩ rfl
    exact ⟨[dPs true rs, .list []], rfl, by simp, rs, rfl, h1, h2⟩
  rintro _ ⟨rs, rfl, ⟨hr1, hr3⟩, hrg⟩
  refine ⟨_, _, tg_two, ?_⟩
  refine xs_for (im_rng1E (n := rs.length) ((ev_lenL (ds := rs.map dP) (el_of (ev_var rfl))).cast (by rw [List.length_map])) (by omega)) (fun i ρ => ∃ s8 s9 : Sl, ρ = [.raw (.ref a), .dat (.int most), .dat (dPs true ps), .dat (dB (bestO ps W)), .dat (.int ar), .dat (.int lo), .dat (.int br), .dat (.list ((rowsW ps rs i).map dP)), s8, s9, .no, .no, .no, .dat (dPs true rs), .raw (.ref p), .dat (.int W), .no, .no, .no]) ⟨.no, .no, ?_⟩ (fun i d ρ1 hd hI => ?_) fun ρ1 hI => ?_
  · unfold rowsW
    split <;> rfl
  · obtain ⟨s8, s9, rfl⟩ := hI
    obtain ⟨hi, rfl⟩ := rngD_get hd
    rw [Int.zero_add]
    have hri : rs[i]? = some rs[i] := by simp [hi]
    have hrm := hrg rs[i] (List.getElem_mem hi)
    generalize rs[i] = r at hri hrm
    obtain ⟨u, v⟩ := r
    have hat : (rs.map dP)[i]? = some (.tuple [.int u, .int v]) := by
      rw [List.getElem?_map, hri]
      rfl
    have hrl : (rowsP ps 0 (rs.take i)).length ≤ 3 := by
      have := rowsP_len ps (rs.take i) 0
      rw [List.length_take] at this
      omega
    refine ⟨_, _, tg_name, ?_⟩
    by_cases h7 : ps.length < 7
    · refine xs_asg (s := .dat (dB (bestO ps u))) (ev_if (b := true) (et_is (et_test (ev_C0 (i := ((ps.length : Nat) : Int)) (j := 7) ((ev_lenL (ds := ps.map dP) (el_of (ev_var rfl))).cast (by rw [List.length_map])) ev_int)) (decide_eq_true (by omega))) (fun _ => ev_callE (ps, u) (ea_cons (ev_ixU (ds := [.int u, .int v]) (ev_ixL (ds := rs.map dP) (el_of (ev_var rfl)) (ev_var rfl) (at_nat hat)) ev_int rfl) (ea_cons (ev_var rfl) ea_nil)) ⟨hpl, hpg⟩) fun z => by cases z) ?_
      have enext : rowsW ps rs (i + 1) = rowsW ps rs i ++ (match bestO ps u with
        | none => []
        | some q => [(v * q.1, ((i : Nat) : Int))]) := by
        unfold rowsW
        rw [if_pos h7, if_pos h7]
        have := rowsP_take ps rs 0 i (u, v) hri
        rw [Nat.zero_add] at this
        exact this
      have hrw : (rowsW ps rs i).length ≤ 3 := by
        unfold rowsW
        rw [if_pos h7]
        exact hrl
      rw [enext]
      cases hbo : bestO ps u with
      | none =>
        exact xc_asg (s := .dat (.list ((rowsW ps rs i ++ []).map dP))) ((ef_catL (ds := (rowsW ps rs i).map dP) (es := []) (el_of (ev_var rfl)) (el_of (ev_if (b := false) (et_test (ev_notN (d := .none) (ev_var rfl))) (fun z => by cases z) fun _ => ev_lst0)) (by simp; omega)).evE.cast (by rw [List.append_nil, List.append_nil])) ⟨_, _, rfl⟩
      | some qq =>
        refine xc_asg (s := .dat (.list ((rowsW ps rs i ++ [(v * qq.1, ((i : Nat) : Int))]).map dP))) ((ef_catL (ds := (rowsW ps rs i).map dP) (es := [dP (v * qq.1, ((i : Nat) : Int))]) (el_of (ev_var rfl)) (el_of (ev_if (b := true) (et_test (ev_notN (d := dB (some qq)) (ev_var rfl))) (fun _ => ?_) fun z => by cases z)) (by simp; omega)).evE.cast (by rw [List.map_append]; rfl)) ⟨_, _, rfl⟩
        exact ev_lst (ds := [dP (v * qq.1, ((i : Nat) : Int))]) (ea_cons (ev_tup2 (ev_IC (i := v) (j := qq.1) (ev_ixU (ds := [.int u, .int v]) (ev_ixL (ds := rs.map dP) (el_of (ev_var rfl)) (ev_var rfl) (at_nat hat)) ev_int rfl) (ev_ixU (ds := [.int qq.1, dF qq.2]) (ev_var rfl) ev_int rfl) (.inl (by simp at hrm; exact ⟨by omega, by omega⟩))) (ev_var rfl)) ea_nil) (by simp)
    · refine xs_asg (s := .dat .none) (ev_if (b := false) (et_is (et_test (ev_C0 (i := ((ps.length : Nat) : Int)) (j := 7) ((ev_lenL (ds := ps.map dP) (el_of (ev_var rfl))).cast (by rw [List.length_map])) ev_int)) (decide_eq_false (by omega))) (fun z => by cases z) fun _ => ev_non) ?_
      have e0 : ∀ j, rowsW ps rs j = [] := fun j => if_neg h7
      rw [e0, e0]
      exact xc_asg (s := .dat (.list [])) ((ef_catL (ds := []) (es := []) (el_of (ev_var rfl)) (el_of (ev_if (b := false) (et_test (ev_notN (d := .none) (ev_var rfl))) (fun z => by cases z) fun _ => ev_lst0)) (by simp)).evE) ⟨_, _, rfl⟩
  · obtain ⟨s8, s9, rfl⟩ := hI
    rw [rngD_length]
    refine xs_when (b := false) (et_no (et_and (b := false) (et_test (ev_C0 (i := ((ps.length : Nat) : Int)) (j := 7) ((ev_lenL (ds := ps.map dP) (el_of (ev_var rfl))).cast (by rw [List.length_map])) ev_int)) fun h7 => et_is (et_not (et_B (ev_callE (brV rs ps) (ea_cons (ev_callV (dPs false rs, dPs true ps) (ea_cons (ev_tupL (ds := rs.map dP) (el_of (ev_var rfl))) (ea_cons (ev_var rfl) ea_nil)) trivial (s := .dat (brV rs ps)) (show brR C1 C2 (dPs false rs) (dPs true ps) = _ from br_ok hr1 (by omega) hrg hgp)) (ea_cons (ev_if (b := !decide ((rowsW ps rs rs.length).map dP = [])) (et_is (et_test (ev_neD (d := .list ((rowsW ps rs rs.length).map dP)) (d' := .list []) (ev_var rfl) ev_lst0 (shaped_L _) rfl)) (by rw [eqv_nilL])) (fun hz => ?_) fun hz => ?_) ea_nil)) (flp_br rs ps)))) rfl) (by simp)) (fun z => by cases z) fun _ => ?_
    · have h7' : ps.length < 7 := by
        have : ((ps.length : Nat) : Int) < 7 := of_decide_eq_true h7
        omega
      have e : rowsW ps rs rs.length = rowsP ps 0 rs := by
        unfold rowsW
        rw [if_pos h7', List.take_length]
      rw [e] at hz ⊢
      unfold brV
      cases hrp : rowsP ps 0 rs with
      | nil =>
        rw [hrp] at hz
        cases hz
      | cons y ys => exact ev_minL (y := dP y) (ys := ys.map dP) (el_of (ev_var rfl)) (min_ok (y :: ys))
    · have h7' : ps.length < 7 := by
        have : ((ps.length : Nat) : Int) < 7 := of_decide_eq_true h7
        omega
      have e : rowsW ps rs rs.length = rowsP ps 0 rs := by
        unfold rowsW
        rw [if_pos h7', List.take_length]
      rw [e] at hz
      unfold brV
      cases hrp : rowsP ps 0 rs with
      | nil => exact ev_non
      | cons y ys =>
        rw [hrp] at hz
        cases hz
    generalize (rowsW ps rs rs.length).map dP = rowsD
    have h9 : Dl.cutD (ps.map dP) none (some 9) = ps.map dP := by
      unfold Dl.cutD
      rw [HT.sIx_none, show (some (9 : Int)) = some ((9 : Nat) : Int) from rfl, HT.sIx_nat, List.drop_zero, List.take_of_length_le]
      rw [List.length_map]
      omega
    refine xs_asgP (ev_cat1P (p := fun x => x ∈ badL) (el_of ((ef_cut (ds := ps.map dP) (el_of (ev_var rfl)) eo_none (eo_some ev_int)).evE.cast (by rw [h9]))) (ev_lst1P (ev_pick (z := ⟨p, a, Tb, q, ns, t⟩) (l := badL) (ev_varR rfl) (ev_lst (ds := badL) (ea_cons ev_non (ea_cons (ev_tup2 ev_int ev_int) (ea_cons (ev_tup2 ev_int ev_int) (ea_cons (ev_tup2 ev_int ev_int) (ea_cons (ev_tup2 ev_int ev_int) (ea_cons (ev_lst (ds := [.int 1, .int 1]) (ea_cons ev_int (ea_cons ev_int ea_nil)) (by simp)) (ea_cons (ev_tup1 ev_int) (ea_cons (ev_tup2 ev_bl ev_int) ea_nil)))))))) (by simp [badL])) (by simp [badL]) (by simp [badL]))) (by simp; omega)) ?_
    rintro _ ⟨bx, rfl, hbx⟩
    have hbad := chk_bad (C1 := C1) hgp (by omega) (bad_ok bx hbx)
    refine xs_asgP (ev_pick (z := ⟨p, a, Tb, q, ns, t⟩) (l := oddL) (ev_varR rfl) (ev_lst (ds := oddL) (ea_cons ev_int (ea_cons ev_int (ea_cons ev_non (ea_cons ev_bl ea_nil)))) (by simp [oddL])) (by simp [oddL]) (by simp [oddL])) ?_
    rintro _ ⟨odd, rfl, hodd⟩
    obtain ⟨o1, o2⟩ := odd_ok odd hodd
    refine xs_forR (ws := [.ref f1, .ref f2, .ref f3]) (ea_cons ev_raw (ea_cons ev_raw (ea_cons ev_raw ea_nil))) (by simp) (fun _ ρ => ∃ s10 : Sl, ρ = [.raw (.ref a), .dat (.int most), .dat (dPs true ps), .dat (dB (bestO ps W)), .dat (.int ar), .dat (.int lo), .dat (.int br), .dat (.list rowsD), s8, s9, s10, .dat (.list (ps.map dP ++ [bx])), .dat odd, .dat (dPs true rs), .raw (.ref p), .dat (.int W), .no, .no, .no]) ⟨_, rfl⟩ (fun i v ρ1 hv hI => ?_) fun ρ1 hI => ?_
    · obtain ⟨s10, rfl⟩ := hI
      have hv' : v = .ref f1 ∨ v = .ref f2 ∨ v = .ref f3 := by
        have := List.mem_of_getElem? hv
        simpa using this
      rcases hv' with rfl | rfl | rfl
      · refine xs_when (b := false) (et_no (et_test (ev_neS (ev_show (ev_ref T.told3 (evx_alt1 (evx_callLV (j := 10) (f := f1) (CI.no odd .none C3 odd) rfl (ea_cons (ev_var rfl) (ea_cons ev_non ea_nil)) (show ccR C1 C3 odd .none = _ from by unfold ccR; rw [o1]; rfl) (C := C3) (d := odd) rfl))) o2) (ev_show (ev_tup2 ev_str (ev_var rfl)) o2))) (by simp)) (fun z => by cases z) fun _ => ?_
        refine xs_when (b := false) (et_no (et_test (ev_neD (d := .tuple [.str "pieces", .int ((ps.length : Nat) : Int)]) (d' := .tuple [.str "pieces", .int ((ps.length : Nat) : Int)]) (ev_ref T.told1 (evx_alt1 (evx_callLV (j := 10) (f := f1) (CI.no (.int W) (.list (ps.map dP ++ [bx])) C1 (.int ((ps.length : Nat) : Int))) rfl (ea_cons (ev_var rfl) (ea_cons (ev_var rfl) ea_nil)) (show ccR C1 C3 (.int W) (.list (ps.map dP ++ [bx])) = _ from by unfold ccR; rw [if_pos (by simp [isWithin, hW1, hW2])]; exact hbad) (C := C1) (d := .int ((ps.length : Nat) : Int)) rfl))) (ev_tup2 ev_str ((ev_I0 (i := (((ps.map dP ++ [bx]).length : Nat) : Int)) (j := 1) (ev_lenL (ds := ps.map dP ++ [bx]) (el_of (ev_var rfl))) ev_int).cast (by simp))) (shaped_pn _) (shaped_pn _))) (by rw [eqv_wn]; rfl)) (fun z => by cases z) fun _ => ?_
        exact xc_if (b := false) (et_no (et_test (ev_neD (d := .tuple [.str "pieces", .int (-1)]) (d' := .tuple [.str "pieces", .int (-1)]) (ev_ref T.told1 (evx_alt1 (evx_callLP (j := 10) (f := f1) (Pa := fun ss => ∃ d, ss = [.dat (.int W), .dat d] ∧ d ∈ lastL) rfl (ea_consP (Pa := Eq (.dat (.int W))) (ev_var rfl) (ea_consP (Pa := fun s => ∃ d, s = .dat d ∧ d ∈ lastL) (P := fun ss => ∃ d, ss = [.dat d] ∧ d ∈ lastL) (ev_pick (z := ⟨p, a, Tb, q, ns, t⟩) (l := lastL) (ev_varR rfl) (ev_lst (ds := lastL) (ea_cons ev_non (ea_cons (ef_rep (ds := [dP (1, 1)]) (n := 11) (ef_lst (ds := [dP (1, 1)]) (ea_cons (ev_tup2 ev_int ev_int) ea_nil) (by simp)) ev_int (by omega) (by simp)).evE (ea_cons ev_int ea_nil))) (by simp [lastL])) (by simp [lastL]) (by simp [lastL])) ea_nil fun x xs ⟨d, e, hd⟩ e2 => ⟨d, by rw [e, ← e2], hd⟩) fun x xs e ⟨d, e2, hd⟩ => ⟨d, by rw [← e, e2], hd⟩)
          fun ss ⟨d, e, hd⟩ => ⟨CI.no (.int W) d C1 (.int (-1)), e, (show ccR C1 C3 (.int W) d = _ from by unfold ccR; rw [if_pos (by simp [isWithin, hW1, hW2])]; exact last_ok d hd), fun s h => (by cases h), fun C' d' h => (by cases h; exact ⟨rfl, rfl⟩)⟩))) (ev_tup2 ev_str (ev_neg ev_int)) (shaped_pn _) (shaped_pn _))) (by rw [eqv_wn]; rfl)) (fun z => by cases z) fun _ => xc_next ⟨_, rfl⟩
      · refine xs_when (b := false) (et_no (et_test (ev_neS (ev_show (ev_ref T.told3 (evx_alt2 (evx_alt1 (evx_callLV (j := 10) (f := f2) (CI.no odd .none C3 odd) rfl (ea_cons (ev_var rfl) (ea_cons ev_non ea_nil)) (show ccR C1 C3 odd .none = _ from by unfold ccR; rw [o1]; rfl) (C := C3) (d := odd) rfl)))) o2) (ev_show (ev_tup2 ev_str (ev_var rfl)) o2))) (by simp)) (fun z => by cases z) fun _ => ?_
        refine xs_when (b := false) (et_no (et_test (ev_neD (d := .tuple [.str "pieces", .int ((ps.length : Nat) : Int)]) (d' := .tuple [.str "pieces", .int ((ps.length : Nat) : Int)]) (ev_ref T.told1 (evx_alt2 (evx_alt1 (evx_callLV (j := 10) (f := f2) (CI.no (.int W) (.list (ps.map dP ++ [bx])) C1 (.int ((ps.length : Nat) : Int))) rfl (ea_cons (ev_var rfl) (ea_cons (ev_var rfl) ea_nil)) (show ccR C1 C3 (.int W) (.list (ps.map dP ++ [bx])) = _ from by unfold ccR; rw [if_pos (by simp [isWithin, hW1, hW2])]; exact hbad) (C := C1) (d := .int ((ps.length : Nat) : Int)) rfl)))) (ev_tup2 ev_str ((ev_I0 (i := (((ps.map dP ++ [bx]).length : Nat) : Int)) (j := 1) (ev_lenL (ds := ps.map dP ++ [bx]) (el_of (ev_var rfl))) ev_int).cast (by simp))) (shaped_pn _) (shaped_pn _))) (by rw [eqv_wn]; rfl)) (fun z => by cases z) fun _ => ?_
        exact xc_if (b := false) (et_no (et_test (ev_neD (d := .tuple [.str "pieces", .int (-1)]) (d' := .tuple [.str "pieces", .int (-1)]) (ev_ref T.told1 (evx_alt2 (evx_alt1 (evx_callLP (j := 10) (f := f2) (Pa := fun ss => ∃ d, ss = [.dat (.int W), .dat d] ∧ d ∈ lastL) rfl (ea_consP (Pa := Eq (.dat (.int W))) (ev_var rfl) (ea_consP (Pa := fun s => ∃ d, s = .dat d ∧ d ∈ lastL) (P := fun ss => ∃ d, ss = [.dat d] ∧ d ∈ lastL) (ev_pick (z := ⟨p, a, Tb, q, ns, t⟩) (l := lastL) (ev_varR rfl) (ev_lst (ds := lastL) (ea_cons ev_non (ea_cons (ef_rep (ds := [dP (1, 1)]) (n := 11) (ef_lst (ds := [dP (1, 1)]) (ea_cons (ev_tup2 ev_int ev_int) ea_nil) (by simp)) ev_int (by omega) (by simp)).evE (ea_cons ev_int ea_nil))) (by simp [lastL])) (by simp [lastL]) (by simp [lastL])) ea_nil fun x xs ⟨d, e, hd⟩ e2 => ⟨d, by rw [e, ← e2], hd⟩) fun x xs e ⟨d, e2, hd⟩ => ⟨d, by rw [← e, e2], hd⟩)
          fun ss ⟨d, e, hd⟩ => ⟨CI.no (.int W) d C1 (.int (-1)), e, (show ccR C1 C3 (.int W) d = _ from by unfold ccR; rw [if_pos (by simp [isWithin, hW1, hW2])]; exact last_ok d hd), fun s h => (by cases h), fun C' d' h => (by cases h; exact ⟨rfl, rfl⟩)⟩)))) (ev_tup2 ev_str (ev_neg ev_int)) (shaped_pn _) (shaped_pn _))) (by rw [eqv_wn]; rfl)) (fun z => by cases z) fun _ => xc_next ⟨_, rfl⟩
      · refine xs_when (b := false) (et_no (et_test (ev_neS (ev_show (ev_ref T.told3 (evx_alt2 (evx_alt2 (evx_callLV (j := 10) (f := f3) (CI.no odd .none C3 odd) rfl (ea_cons (ev_var rfl) (ea_cons ev_non ea_nil)) (show ccR C1 C3 odd .none = _ from by unfold ccR; rw [o1]; rfl) (C := C3) (d := odd) rfl)))) o2) (ev_show (ev_tup2 ev_str (ev_var rfl)) o2))) (by simp)) (fun z => by cases z) fun _ => ?_
        refine xs_when (b := false) (et_no (et_test (ev_neD (d := .tuple [.str "pieces", .int ((ps.length : Nat) : Int)]) (d' := .tuple [.str "pieces", .int ((ps.length : Nat) : Int)]) (ev_ref T.told1 (evx_alt2 (evx_alt2 (evx_callLV (j := 10) (f := f3) (CI.no (.int W) (.list (ps.map dP ++ [bx])) C1 (.int ((ps.length : Nat) : Int))) rfl (ea_cons (ev_var rfl) (ea_cons (ev_var rfl) ea_nil)) (show ccR C1 C3 (.int W) (.list (ps.map dP ++ [bx])) = _ from by unfold ccR; rw [if_pos (by simp [isWithin, hW1, hW2])]; exact hbad) (C := C1) (d := .int ((ps.length : Nat) : Int)) rfl)))) (ev_tup2 ev_str ((ev_I0 (i := (((ps.map dP ++ [bx]).length : Nat) : Int)) (j := 1) (ev_lenL (ds := ps.map dP ++ [bx]) (el_of (ev_var rfl))) ev_int).cast (by simp))) (shaped_pn _) (shaped_pn _))) (by rw [eqv_wn]; rfl)) (fun z => by cases z) fun _ => ?_
        exact xc_if (b := false) (et_no (et_test (ev_neD (d := .tuple [.str "pieces", .int (-1)]) (d' := .tuple [.str "pieces", .int (-1)]) (ev_ref T.told1 (evx_alt2 (evx_alt2 (evx_callLP (j := 10) (f := f3) (Pa := fun ss => ∃ d, ss = [.dat (.int W), .dat d] ∧ d ∈ lastL) rfl (ea_consP (Pa := Eq (.dat (.int W))) (ev_var rfl) (ea_consP (Pa := fun s => ∃ d, s = .dat d ∧ d ∈ lastL) (P := fun ss => ∃ d, ss = [.dat d] ∧ d ∈ lastL) (ev_pick (z := ⟨p, a, Tb, q, ns, t⟩) (l := lastL) (ev_varR rfl) (ev_lst (ds := lastL) (ea_cons ev_non (ea_cons (ef_rep (ds := [dP (1, 1)]) (n := 11) (ef_lst (ds := [dP (1, 1)]) (ea_cons (ev_tup2 ev_int ev_int) ea_nil) (by simp)) ev_int (by omega) (by simp)).evE (ea_cons ev_int ea_nil))) (by simp [lastL])) (by simp [lastL]) (by simp [lastL])) ea_nil fun x xs ⟨d, e, hd⟩ e2 => ⟨d, by rw [e, ← e2], hd⟩) fun x xs e ⟨d, e2, hd⟩ => ⟨d, by rw [← e, e2], hd⟩)
          fun ss ⟨d, e, hd⟩ => ⟨CI.no (.int W) d C1 (.int (-1)), e, (show ccR C1 C3 (.int W) d = _ from by unfold ccR; rw [if_pos (by simp [isWithin, hW1, hW2])]; exact last_ok d hd), fun s h => (by cases h), fun C' d' h => (by cases h; exact ⟨rfl, rfl⟩)⟩)))) (ev_tup2 ev_str (ev_neg ev_int)) (shaped_pn _) (shaped_pn _))) (by rw [eqv_wn]; rfl)) (fun z => by cases z) fun _ => xc_next ⟨_, rfl⟩
    · obtain ⟨s10, rfl⟩ := hI
      refine xs_asgP (ev_cat1P (ds := rs.map dP) (p := fun x => x ∈ wrongL) (el_of (ev_var rfl)) (ev_lst1P (ev_pick (z := ⟨p, a, Tb, q, ns, t⟩) (l := wrongL) (ev_varR rfl) (ev_lst (ds := wrongL) (ea_cons ev_non (ea_cons (ev_tup2 ev_int ev_int) (ea_cons (ev_tup2 ev_int ev_int) (ea_cons (ev_tup2 ev_int (ev_neg ev_int)) (ea_cons (ev_tup2 ev_int ev_int) (ea_cons (ev_lst (ds := [.int 1, .int 1]) (ea_cons ev_int (ea_cons ev_int ea_nil)) (by simp)) (ea_cons (ev_tup1 ev_int) ea_nil))))))) (by simp [wrongL])) (by simp [wrongL]) (by simp [wrongL]))) (by simp; omega)) ?_
      rintro _ ⟨wx, rfl, hwx⟩
      have hwr := br_wrong (C1 := C1) (C2 := C2) (q := .none) (rs := rs) (by omega) hrg (wrong_ok wx hwx)
      refine xs_when (b := false) (et_no (et_test (ev_neD (d := .tuple [.str "rolls", .int ((rs.length : Nat) : Int)]) (d' := .tuple [.str "rolls", .int ((rs.length : Nat) : Int)]) (ev_ref T.told2 (evx_callV (PyData.list (rs.map dP ++ [wx]), PyData.none) (ea_cons (ev_var rfl) (ea_cons ev_non ea_nil)) trivial (C := C2) (d := .int ((rs.length : Nat) : Int)) hwr)) (ev_tup2 ev_str ((ev_lenL (ds := rs.map dP) (el_of (ev_var rfl))).cast (by rw [List.length_map]))) (shaped_rn _) (shaped_rn _))) (by rw [eqv_wn]; rfl)) (fun z => by cases z) fun _ => ?_
      refine xs_when (b := false) (et_no (et_test (ev_neD (d := .tuple [.str "rolls", .int (-1)]) (d' := .tuple [.str "rolls", .int (-1)]) (ev_ref T.told2 (evx_callP (Pa := fun ss => ∃ d, ss = [.dat d, .dat .none] ∧ d ∈ lastR) (ea_consP (Pa := fun s => ∃ d, s = .dat d ∧ d ∈ lastR) (Pr := Eq [.dat .none]) (ev_pick (z := ⟨p, a, Tb, q, ns, t⟩) (l := lastR) (ev_varR rfl) (ev_lst (ds := lastR) (ea_cons ev_non (ea_cons ev_lst0 (ea_cons (ef_rep (ds := [dP (1, 1)]) (n := 11) (ef_lst (ds := [dP (1, 1)]) (ea_cons (ev_tup2 ev_int ev_int) ea_nil) (by simp)) ev_int (by omega) (by simp)).evE (ea_cons ev_int ea_nil)))) (by simp [lastR])) (by simp [lastR]) (by simp [lastR])) (ea_cons ev_non ea_nil) fun x xs ⟨d, e, hd⟩ e2 => ⟨d, by rw [e, ← e2], hd⟩)
        fun ss ⟨d, e, hd⟩ => ⟨(d, PyData.none), e, trivial, fun s h => (by rw [lastR_ok d hd] at h; cases h), fun C' d' h => (by rw [lastR_ok d hd] at h; cases h; exact ⟨rfl, rfl⟩)⟩)) (ev_tup2 ev_str (ev_neg ev_int)) (shaped_rn _) (shaped_rn _))) (by rw [eqv_wn]; rfl)) (fun z => by cases z) fun _ => ?_
      have hbr : brR C1 C2 (dPs true rs) (.list (ps.map dP ++ [bx])) = .ex C1 (.int ((ps.length : Nat) : Int)) := by
        unfold brR
        rw [rows_dPs]
        simp only
        rw [if_pos (by rw [List.length_map]; exact ⟨hr1, by omega⟩), fbG_none, hbad]
        intro x hx
        obtain ⟨r, hm, rfl⟩ := List.mem_map.mp hx
        exact okRl_dP (hrg r hm)
      exact xc_retB (ev_eqD (d := .tuple [.str "pieces", .int ((ps.length : Nat) : Int)]) (d' := .tuple [.str "pieces", .int ((ps.length : Nat) : Int)]) (ev_ref T.told1 (evx_callV (dPs true rs, PyData.list (ps.map dP ++ [bx])) (ea_cons (ev_var rfl) (ea_cons (ev_var rfl) ea_nil)) trivial (C := C1) (d := .int ((ps.length : Nat) : Int)) hbr)) (ev_tup2 ev_str ((ev_I0 (i := (((ps.map dP ++ [bx]).length : Nat) : Int)) (j := 1) (ev_lenL (ds := ps.map dP ++ [bx]) (el_of (ev_var rfl))) ev_int).cast (by simp))) (shaped_pn _) (shaped_pn _)) (by rw [eqv_wn])
end
end K17

set_option Elab.async false
set_option linter.all false
set_option maxRecDepth 100000
set_option maxHeartbeats 4000000
namespace K17
open PySem PySem.Spec PyProof.Rows L2 Dl LamX StX
theorem all_mk {P : Program} {w : World} {K : PySem.W.Frag} {h : Heap} {mg : Str → Option Value} {fa : Addr} (X : K.In h) (G : h.Ns mainGlobals mg) (hfa : mg "law" = some (.ref fa))
    {f_is_integer : Addr} {oc_is_integer kV_is_integer dc_is_integer pm_is_integer ct_is_integer cd_is_integer : Value} {od_is_integer an_is_integer : Option Addr} {sl_is_integer : Array (Option Value)}
    {f_is_within : Addr} {oc_is_within kV_is_within dc_is_within pm_is_within ct_is_within cd_is_within : Value} {od_is_within an_is_within : Option Addr} {sl_is_within : Array (Option Value)}
    {f_is_row : Addr} {oc_is_row kV_is_row dc_is_row pm_is_row ct_is_row cd_is_row : Value} {od_is_row an_is_row : Option Addr} {sl_is_row : Array (Option Value)}
    {f_is_tuple_of : Addr} {oc_is_tuple_of kV_is_tuple_of dc_is_tuple_of pm_is_tuple_of ct_is_tuple_of cd_is_tuple_of : Value} {od_is_tuple_of an_is_tuple_of : Option Addr} {sl_is_tuple_of : Array (Option Value)}
    {f_check_pieces : Addr} {oc_check_pieces kV_check_pieces dc_check_pieces pm_check_pieces ct_check_pieces cd_check_pieces : Value} {od_check_pieces an_check_pieces : Option Addr} {sl_check_pieces : Array (Option Value)}
    {f_check_cloth : Addr} {oc_check_cloth kV_check_cloth dc_check_cloth pm_check_cloth ct_check_cloth cd_check_cloth : Value} {od_check_cloth an_check_cloth : Option Addr} {sl_check_cloth : Array (Option Value)}
    {f_told_shelves : Addr} {oc_told_shelves kV_told_shelves dc_told_shelves pm_told_shelves ct_told_shelves cd_told_shelves : Value} {od_told_shelves an_told_shelves : Option Addr} {sl_told_shelves : Array (Option Value)}
    {f_least_cloth : Addr} {oc_least_cloth kV_least_cloth dc_least_cloth pm_least_cloth ct_least_cloth cd_least_cloth : Value} {od_least_cloth an_least_cloth : Option Addr} {sl_least_cloth : Array (Option Value)}
    {f_shelves : Addr} {oc_shelves kV_shelves dc_shelves pm_shelves ct_shelves cd_shelves : Value} {od_shelves an_shelves : Option Addr} {sl_shelves : Array (Option Value)}
    {f_cloth_bar : Addr} {oc_cloth_bar kV_cloth_bar dc_cloth_bar pm_cloth_bar ct_cloth_bar cd_cloth_bar : Value} {od_cloth_bar an_cloth_bar : Option Addr} {sl_cloth_bar : Array (Option Value)}
    {f_best_roll : Addr} {oc_best_roll kV_best_roll dc_best_roll pm_best_roll ct_best_roll cd_best_roll : Value} {od_best_roll an_best_roll : Option Addr} {sl_best_roll : Array (Option Value)}
    {f__law_taken : Addr} {oc__law_taken kV__law_taken dc__law_taken pm__law_taken ct__law_taken cd__law_taken : Value} {od__law_taken an__law_taken : Option Addr} {sl__law_taken : Array (Option Value)}
    {f__law_pick : Addr} {oc__law_pick kV__law_pick dc__law_pick pm__law_pick ct__law_pick cd__law_pick : Value} {od__law_pick an__law_pick : Option Addr} {sl__law_pick : Array (Option Value)}
    {f__law_alike : Addr} {oc__law_alike kV__law_alike dc__law_alike pm__law_alike ct__law_alike cd__law_alike : Value} {od__law_alike an__law_alike : Option Addr} {sl__law_alike : Array (Option Value)}
    {f__law_parts : Addr} {oc__law_parts kV__law_parts dc__law_parts pm__law_parts ct__law_parts cd__law_parts : Value} {od__law_parts an__law_parts : Option Addr} {sl__law_parts : Array (Option Value)}
    {f__law_shelved : Addr} {oc__law_shelved kV__law_shelved dc__law_shelved pm__law_shelved ct__law_shelved cd__law_shelved : Value} {od__law_shelved an__law_shelved : Option Addr} {sl__law_shelved : Array (Option Value)}
    {f__law_refused : Addr} {oc__law_refused kV__law_refused dc__law_refused pm__law_refused ct__law_refused cd__law_refused : Value} {od__law_refused an__law_refused : Option Addr} {sl__law_refused : Array (Option Value)}
    {f_law : Addr} {oc_law kV_law dc_law pm_law ct_law : Value} {od_law an_law : Option Addr} {sl_law : Array (Option Value)} {cL TL : Addr}
    {oe18 : Option Addr} {vs18 : Array Value} {sl18 : Array (Option Value)} {x18 : Str} {t18 t7 t10 : Tok} {i7 i10 : Int} {b9 : Bool}
    {t_MOST_WIDTH : Tok}
    {t_MOST_PIECES : Tok}
    {t_MOST_SIDE : Tok}
    {t_MOST_ROLLS : Tok}
    {t_MOST_PRICE : Tok}
    {fI TI : Addr} {ocI kVI dcI pmI cdI ctI : Value} {odI anI odT : Option Addr} {slI slT : Array (Option Value)} {ocT : Value} {nT : Nat}
    {C1 N_C1 : Addr} {nm_C1 q_C1 : Str} {bs_C1 bm_C1 sub_C1 : List Value} {sn_C1 : List Str} {ab_C1 : Bool} {col_C1 : Option Bool} {dd_C1 : Option Addr} {m0_C1 m1_C1 m2_C1 m3_C1 m5_C1 : Option Value}
    {C2 N_C2 : Addr} {nm_C2 q_C2 : Str} {bs_C2 bm_C2 sub_C2 : List Value} {sn_C2 : List Str} {ab_C2 : Bool} {col_C2 : Option Bool} {dd_C2 : Option Addr} {m0_C2 m1_C2 m2_C2 m3_C2 m5_C2 : Option Value}
    {C3 N_C3 : Addr} {nm_C3 q_C3 : Str} {bs_C3 bm_C3 sub_C3 : List Value} {sn_C3 : List Str} {ab_C3 : Bool} {col_C3 : Option Bool} {dd_C3 : Option Addr} {m0_C3 m1_C3 m2_C3 m3_C3 m5_C3 : Option Value}
    {CS : Addr}
    {f_Shelving___init__ : Addr} {oc_Shelving___init__ kV_Shelving___init__ dc_Shelving___init__ pm_Shelving___init__ ct_Shelving___init__ cd_Shelving___init__ : Value} {od_Shelving___init__ an_Shelving___init__ : Option Addr} {sl_Shelving___init__ : Array (Option Value)}
    {f_Shelving_length_of : Addr} {oc_Shelving_length_of kV_Shelving_length_of dc_Shelving_length_of pm_Shelving_length_of ct_Shelving_length_of cd_Shelving_length_of : Value} {od_Shelving_length_of an_Shelving_length_of : Option Addr} {sl_Shelving_length_of : Array (Option Value)}
    {f_Shelving_go : Addr} {oc_Shelving_go kV_Shelving_go dc_Shelving_go pm_Shelving_go ct_Shelving_go cd_Shelving_go : Value} {od_Shelving_go an_Shelving_go : Option Addr} {sl_Shelving_go : Array (Option Value)}
    (a_is_integer : PySem.W.nsIn K mainGlobals "is_integer" = some (some (.ref f_is_integer)))
    (l_is_integer : K.lookup f_is_integer = some ⟨oc_is_integer, od_is_integer, .func (PySem.W.fnOf "is_integer" "is_integer" (defArgs s_is_integer) (defBody s_is_integer) (defScope s_is_integer) .none kV_is_integer dc_is_integer pm_is_integer an_is_integer cd_is_integer ct_is_integer), sl_is_integer⟩)
    (c_is_integer : PySem.W.codeIn K cd_is_integer "is_integer" = true)
    (k_is_integer : PySem.W.keepIn K (.ref f_is_integer) = true)
    (a_is_within : PySem.W.nsIn K mainGlobals "is_within" = some (some (.ref f_is_within)))
    (l_is_within : K.lookup f_is_within = some ⟨oc_is_within, od_is_within, .func (PySem.W.fnOf "is_within" "is_within" (defArgs s_is_within) (defBody s_is_within) (defScope s_is_within) .none kV_is_within dc_is_within pm_is_within an_is_within cd_is_within ct_is_within), sl_is_within⟩)
    (c_is_within : PySem.W.codeIn K cd_is_within "is_within" = true)
    (k_is_within : PySem.W.keepIn K (.ref f_is_within) = true)
    (a_is_row : PySem.W.nsIn K mainGlobals "is_row" = some (some (.ref f_is_row)))
    (l_is_row : K.lookup f_is_row = some ⟨oc_is_row, od_is_row, .func (PySem.W.fnOf "is_row" "is_row" (defArgs s_is_row) (defBody s_is_row) (defScope s_is_row) .none kV_is_row dc_is_row pm_is_row an_is_row cd_is_row ct_is_row), sl_is_row⟩)
    (c_is_row : PySem.W.codeIn K cd_is_row "is_row" = true)
    (k_is_row : PySem.W.keepIn K (.ref f_is_row) = true)
    (a_is_tuple_of : PySem.W.nsIn K mainGlobals "is_tuple_of" = some (some (.ref f_is_tuple_of)))
    (l_is_tuple_of : K.lookup f_is_tuple_of = some ⟨oc_is_tuple_of, od_is_tuple_of, .func (PySem.W.fnOf "is_tuple_of" "is_tuple_of" (defArgs s_is_tuple_of) (defBody s_is_tuple_of) (defScope s_is_tuple_of) .none kV_is_tuple_of dc_is_tuple_of pm_is_tuple_of an_is_tuple_of cd_is_tuple_of ct_is_tuple_of), sl_is_tuple_of⟩)
    (c_is_tuple_of : PySem.W.codeIn K cd_is_tuple_of "is_tuple_of" = true)
    (k_is_tuple_of : PySem.W.keepIn K (.ref f_is_tuple_of) = true)
    (a_check_pieces : PySem.W.nsIn K mainGlobals "check_pieces" = some (some (.ref f_check_pieces)))
    (l_check_pieces : K.lookup f_check_pieces = some ⟨oc_check_pieces, od_check_pieces, .func (PySem.W.fnOf "check_pieces" "check_pieces" (defArgs s_check_pieces) (defBody s_check_pieces) (defScope s_check_pieces) .none kV_check_pieces dc_check_pieces pm_check_pieces an_check_pieces cd_check_pieces ct_check_pieces), sl_check_pieces⟩)
    (c_check_pieces : PySem.W.codeIn K cd_check_pieces "check_pieces" = true)
    (k_check_pieces : PySem.W.keepIn K (.ref f_check_pieces) = true)
    (a_check_cloth : PySem.W.nsIn K mainGlobals "check_cloth" = some (some (.ref f_check_cloth)))
    (l_check_cloth : K.lookup f_check_cloth = some ⟨oc_check_cloth, od_check_cloth, .func (PySem.W.fnOf "check_cloth" "check_cloth" (defArgs s_check_cloth) (defBody s_check_cloth) (defScope s_check_cloth) .none kV_check_cloth dc_check_cloth pm_check_cloth an_check_cloth cd_check_cloth ct_check_cloth), sl_check_cloth⟩)
    (c_check_cloth : PySem.W.codeIn K cd_check_cloth "check_cloth" = true)
    (k_check_cloth : PySem.W.keepIn K (.ref f_check_cloth) = true)
    (a_told_shelves : PySem.W.nsIn K mainGlobals "told_shelves" = some (some (.ref f_told_shelves)))
    (l_told_shelves : K.lookup f_told_shelves = some ⟨oc_told_shelves, od_told_shelves, .func (PySem.W.fnOf "told_shelves" "told_shelves" (defArgs s_told_shelves) (defBody s_told_shelves) (defScope s_told_shelves) .none kV_told_shelves dc_told_shelves pm_told_shelves an_told_shelves cd_told_shelves ct_told_shelves), sl_told_shelves⟩)
    (c_told_shelves : PySem.W.codeIn K cd_told_shelves "told_shelves" = true)
    (k_told_shelves : PySem.W.keepIn K (.ref f_told_shelves) = true)
    (a_least_cloth : PySem.W.nsIn K mainGlobals "least_cloth" = some (some (.ref f_least_cloth)))
    (l_least_cloth : K.lookup f_least_cloth = some ⟨oc_least_cloth, od_least_cloth, .func (PySem.W.fnOf "least_cloth" "least_cloth" (defArgs s_least_cloth) (defBody s_least_cloth) (defScope s_least_cloth) .none kV_least_cloth dc_least_cloth pm_least_cloth an_least_cloth cd_least_cloth ct_least_cloth), sl_least_cloth⟩)
    (c_least_cloth : PySem.W.codeIn K cd_least_cloth "least_cloth" = true)
    (k_least_cloth : PySem.W.keepIn K (.ref f_least_cloth) = true)
    (a_shelves : PySem.W.nsIn K mainGlobals "shelves" = some (some (.ref f_shelves)))
    (l_shelves : K.lookup f_shelves = some ⟨oc_shelves, od_shelves, .func (PySem.W.fnOf "shelves" "shelves" (defArgs s_shelves) (defBody s_shelves) (defScope s_shelves) .none kV_shelves dc_shelves pm_shelves an_shelves cd_shelves ct_shelves), sl_shelves⟩)
    (c_shelves : PySem.W.codeIn K cd_shelves "shelves" = true)
    (k_shelves : PySem.W.keepIn K (.ref f_shelves) = true)
    (a_cloth_bar : PySem.W.nsIn K mainGlobals "cloth_bar" = some (some (.ref f_cloth_bar)))
    (l_cloth_bar : K.lookup f_cloth_bar = some ⟨oc_cloth_bar, od_cloth_bar, .func (PySem.W.fnOf "cloth_bar" "cloth_bar" (defArgs s_cloth_bar) (defBody s_cloth_bar) (defScope s_cloth_bar) .none kV_cloth_bar dc_cloth_bar pm_cloth_bar an_cloth_bar cd_cloth_bar ct_cloth_bar), sl_cloth_bar⟩)
    (c_cloth_bar : PySem.W.codeIn K cd_cloth_bar "cloth_bar" = true)
    (k_cloth_bar : PySem.W.keepIn K (.ref f_cloth_bar) = true)
    (a_best_roll : PySem.W.nsIn K mainGlobals "best_roll" = some (some (.ref f_best_roll)))
    (l_best_roll : K.lookup f_best_roll = some ⟨oc_best_roll, od_best_roll, .func (PySem.W.fnOf "best_roll" "best_roll" (defArgs s_best_roll) (defBody s_best_roll) (defScope s_best_roll) .none kV_best_roll dc_best_roll pm_best_roll an_best_roll cd_best_roll ct_best_roll), sl_best_roll⟩)
    (c_best_roll : PySem.W.codeIn K cd_best_roll "best_roll" = true)
    (k_best_roll : PySem.W.keepIn K (.ref f_best_roll) = true)
    (a__law_taken : PySem.W.nsIn K mainGlobals "_law_taken" = some (some (.ref f__law_taken)))
    (l__law_taken : K.lookup f__law_taken = some ⟨oc__law_taken, od__law_taken, .func (PySem.W.fnOf "_law_taken" "_law_taken" (defArgs s__law_taken) (defBody s__law_taken) (defScope s__law_taken) .none kV__law_taken dc__law_taken pm__law_taken an__law_taken cd__law_taken ct__law_taken), sl__law_taken⟩)
    (c__law_taken : PySem.W.codeIn K cd__law_taken "_law_taken" = true)
    (k__law_taken : PySem.W.keepIn K (.ref f__law_taken) = true)
    (a__law_pick : PySem.W.nsIn K mainGlobals "_law_pick" = some (some (.ref f__law_pick)))
    (l__law_pick : K.lookup f__law_pick = some ⟨oc__law_pick, od__law_pick, .func (PySem.W.fnOf "_law_pick" "_law_pick" (defArgs s__law_pick) (defBody s__law_pick) (defScope s__law_pick) .none kV__law_pick dc__law_pick pm__law_pick an__law_pick cd__law_pick ct__law_pick), sl__law_pick⟩)
    (c__law_pick : PySem.W.codeIn K cd__law_pick "_law_pick" = true)
    (k__law_pick : PySem.W.keepIn K (.ref f__law_pick) = true)
    (a__law_alike : PySem.W.nsIn K mainGlobals "_law_alike" = some (some (.ref f__law_alike)))
    (l__law_alike : K.lookup f__law_alike = some ⟨oc__law_alike, od__law_alike, .func (PySem.W.fnOf "_law_alike" "_law_alike" (defArgs s__law_alike) (defBody s__law_alike) (defScope s__law_alike) .none kV__law_alike dc__law_alike pm__law_alike an__law_alike cd__law_alike ct__law_alike), sl__law_alike⟩)
    (c__law_alike : PySem.W.codeIn K cd__law_alike "_law_alike" = true)
    (k__law_alike : PySem.W.keepIn K (.ref f__law_alike) = true)
    (a__law_parts : PySem.W.nsIn K mainGlobals "_law_parts" = some (some (.ref f__law_parts)))
    (l__law_parts : K.lookup f__law_parts = some ⟨oc__law_parts, od__law_parts, .func (PySem.W.fnOf "_law_parts" "_law_parts" (defArgs s__law_parts) (defBody s__law_parts) (defScope s__law_parts) .none kV__law_parts dc__law_parts pm__law_parts an__law_parts cd__law_parts ct__law_parts), sl__law_parts⟩)
    (c__law_parts : PySem.W.codeIn K cd__law_parts "_law_parts" = true)
    (k__law_parts : PySem.W.keepIn K (.ref f__law_parts) = true)
    (a__law_shelved : PySem.W.nsIn K mainGlobals "_law_shelved" = some (some (.ref f__law_shelved)))
    (l__law_shelved : K.lookup f__law_shelved = some ⟨oc__law_shelved, od__law_shelved, .func (PySem.W.fnOf "_law_shelved" "_law_shelved" (defArgs s__law_shelved) (defBody s__law_shelved) (defScope s__law_shelved) .none kV__law_shelved dc__law_shelved pm__law_shelved an__law_shelved cd__law_shelved ct__law_shelved), sl__law_shelved⟩)
    (c__law_shelved : PySem.W.codeIn K cd__law_shelved "_law_shelved" = true)
    (k__law_shelved : PySem.W.keepIn K (.ref f__law_shelved) = true)
    (a__law_refused : PySem.W.nsIn K mainGlobals "_law_refused" = some (some (.ref f__law_refused)))
    (l__law_refused : K.lookup f__law_refused = some ⟨oc__law_refused, od__law_refused, .func (PySem.W.fnOf "_law_refused" "_law_refused" (defArgs s__law_refused) (defBody s__law_refused) (defScope s__law_refused) .none kV__law_refused dc__law_refused pm__law_refused an__law_refused cd__law_refused ct__law_refused), sl__law_refused⟩)
    (c__law_refused : PySem.W.codeIn K cd__law_refused "_law_refused" = true)
    (k__law_refused : PySem.W.keepIn K (.ref f__law_refused) = true)
    (a_law : PySem.W.nsIn K mainGlobals "law" = some (some (.ref f_law)))
    (l_law : K.lookup f_law = some ⟨oc_law, od_law, .func (PySem.W.fnOf "law" "law" (defArgs s_law) (defBody s_law) (defScope s_law) .none kV_law dc_law pm_law an_law (.ref cL) ct_law), sl_law⟩)
    (c_law : PySem.W.codeIn K (.ref cL) "law" = true)
    (k_law : PySem.W.keepIn K (.ref f_law) = true)
    (lc : K.lookup cL = some ⟨.type "code", oe18, .fields vs18, sl18⟩)
    (v11 : vs18[11]? = some (.ref TL))
    (v18 : vs18.getD 18 .none = .str x18 t18)
    (v7 : vs18.getD 7 .none = .int i7 t7)
    (v9 : vs18.getD 9 .none = .bool b9)
    (v10 : vs18.getD 10 .none = .int i10 t10)
    (nCT : (cL != TL) = true)
    (noT : K.lookup TL = none)
    (n_isinstance : PySem.W.nsIn K mainGlobals "isinstance" = some none)
    (n_len : PySem.W.nsIn K mainGlobals "len" = some none)
    (n_all : PySem.W.nsIn K mainGlobals "all" = some none)
    (n_enumerate : PySem.W.nsIn K mainGlobals "enumerate" = some none)
    (n_range : PySem.W.nsIn K mainGlobals "range" = some none)
    (n_int : PySem.W.nsIn K mainGlobals "int" = some none)
    (n_bool : PySem.W.nsIn K mainGlobals "bool" = some none)
    (n_str : PySem.W.nsIn K mainGlobals "str" = some none)
    (n_list : PySem.W.nsIn K mainGlobals "list" = some none)
    (n_tuple : PySem.W.nsIn K mainGlobals "tuple" = some none)
    (n_dict : PySem.W.nsIn K mainGlobals "dict" = some none)
    (n_repr : PySem.W.nsIn K mainGlobals "repr" = some none)
    (n_sum : PySem.W.nsIn K mainGlobals "sum" = some none)
    (n_max : PySem.W.nsIn K mainGlobals "max" = some none)
    (n_min : PySem.W.nsIn K mainGlobals "min" = some none)
    (i_MOST_WIDTH : PySem.W.nsIn K mainGlobals "MOST_WIDTH" = some (some (.int 300 t_MOST_WIDTH)))
    (i_MOST_PIECES : PySem.W.nsIn K mainGlobals "MOST_PIECES" = some (some (.int 10 t_MOST_PIECES)))
    (i_MOST_SIDE : PySem.W.nsIn K mainGlobals "MOST_SIDE" = some (some (.int 100 t_MOST_SIDE)))
    (i_MOST_ROLLS : PySem.W.nsIn K mainGlobals "MOST_ROLLS" = some (some (.int 10 t_MOST_ROLLS)))
    (i_MOST_PRICE : PySem.W.nsIn K mainGlobals "MOST_PRICE" = some (some (.int 1000 t_MOST_PRICE)))
    (x_C1 : PySem.W.nsIn K mainGlobals "BadPieces" = some (some (.ref C1)))
    (xl_C1 : K.lookup C1 = some (excClassObj nm_C1 q_C1 C1 N_C1 bs_C1 bm_C1 true sn_C1 sub_C1 ab_C1 col_C1 dd_C1 m0_C1 m1_C1 m2_C1 m3_C1 m5_C1 "ValueError.__new__"))
    (xr_C1 : PySem.HandSPX.refsVE bm_C1 = true)
    (xs_C1 : PySem.W.findIn K (.ref C1) "__setattr__" = some (some (.builtin "object.__setattr__")))
    (xe_C1 : PySem.W.subIn K (.ref C1) (.type "BaseException") = some true)
    (xt_C1 : PySem.W.typeIn K (.ref C1) = some (.type "type"))
    (xk_C1 : PySem.W.keepIn K (.ref C1) = true)
    (xv_C1 : PySem.W.findIn K (.ref C1) "value" = some none)
    (xi_C1 : PySem.W.findIn K (.ref C1) "__init__" = some (some (.ref fI)))
    (tI : PySem.W.typeIn K (.ref fI) = some (.type "function"))
    (xa_C1 : PySem.W.findIn K (.ref C1) "__getattribute__" = some (some (.builtin "BaseException.__getattribute__")))
    (xg_C1 : PySem.W.findIn K (.ref C1) "__getattr__" = some none)
    (xh_C1 : PySem.W.hasDictIn K C1 = true)
    (xc_C1 : PySem.W.isClsIn K C1 = true)
    (xx_C1_C1 : PySem.W.subIn K (.ref C1) (.ref C1) = some true)
    (x_C2 : PySem.W.nsIn K mainGlobals "BadRolls" = some (some (.ref C2)))
    (xl_C2 : K.lookup C2 = some (excClassObj nm_C2 q_C2 C2 N_C2 bs_C2 bm_C2 true sn_C2 sub_C2 ab_C2 col_C2 dd_C2 m0_C2 m1_C2 m2_C2 m3_C2 m5_C2 "ValueError.__new__"))
    (xr_C2 : PySem.HandSPX.refsVE bm_C2 = true)
    (xs_C2 : PySem.W.findIn K (.ref C2) "__setattr__" = some (some (.builtin "object.__setattr__")))
    (xe_C2 : PySem.W.subIn K (.ref C2) (.type "BaseException") = some true)
    (xt_C2 : PySem.W.typeIn K (.ref C2) = some (.type "type"))
    (xk_C2 : PySem.W.keepIn K (.ref C2) = true)
    (xv_C2 : PySem.W.findIn K (.ref C2) "value" = some none)
    (xi_C2 : PySem.W.findIn K (.ref C2) "__init__" = some (some (.ref fI)))
    (xa_C2 : PySem.W.findIn K (.ref C2) "__getattribute__" = some (some (.builtin "BaseException.__getattribute__")))
    (xg_C2 : PySem.W.findIn K (.ref C2) "__getattr__" = some none)
    (xh_C2 : PySem.W.hasDictIn K C2 = true)
    (xc_C2 : PySem.W.isClsIn K C2 = true)
    (xx_C2_C1 : PySem.W.subIn K (.ref C2) (.ref C1) = some false)
    (xx_C2_C2 : PySem.W.subIn K (.ref C2) (.ref C2) = some true)
    (x_C3 : PySem.W.nsIn K mainGlobals "BadWidth" = some (some (.ref C3)))
    (xl_C3 : K.lookup C3 = some (excClassObj nm_C3 q_C3 C3 N_C3 bs_C3 bm_C3 true sn_C3 sub_C3 ab_C3 col_C3 dd_C3 m0_C3 m1_C3 m2_C3 m3_C3 m5_C3 "ValueError.__new__"))
    (xr_C3 : PySem.HandSPX.refsVE bm_C3 = true)
    (xs_C3 : PySem.W.findIn K (.ref C3) "__setattr__" = some (some (.builtin "object.__setattr__")))
    (xe_C3 : PySem.W.subIn K (.ref C3) (.type "BaseException") = some true)
    (xt_C3 : PySem.W.typeIn K (.ref C3) = some (.type "type"))
    (xk_C3 : PySem.W.keepIn K (.ref C3) = true)
    (xv_C3 : PySem.W.findIn K (.ref C3) "value" = some none)
    (xi_C3 : PySem.W.findIn K (.ref C3) "__init__" = some (some (.ref fI)))
    (xa_C3 : PySem.W.findIn K (.ref C3) "__getattribute__" = some (some (.builtin "BaseException.__getattribute__")))
    (xg_C3 : PySem.W.findIn K (.ref C3) "__getattr__" = some none)
    (xh_C3 : PySem.W.hasDictIn K C3 = true)
    (xc_C3 : PySem.W.isClsIn K C3 = true)
    (xx_C3_C1 : PySem.W.subIn K (.ref C3) (.ref C1) = some false)
    (xx_C3_C2 : PySem.W.subIn K (.ref C3) (.ref C2) = some false)
    (xx_C3_C3 : PySem.W.subIn K (.ref C3) (.ref C3) = some true)
    (lI : K.lookup fI = some ⟨ocI, odI, .func (PySem.W.fnOf "__init__" "SailError.__init__" (defArgs s_SailError___init__) (defBody s_SailError___init__) (defScope s_SailError___init__) (.ref TI) kVI dcI pmI anI cdI ctI), slI⟩)
    (cI : PySem.W.codeIn K cdI "SailError.__init__" = true)
    (kI : PySem.W.keepIn K (.ref fI) = true)
    (lT : K.lookup TI = some ⟨ocT, odT, .seq #[.none] nT, slT⟩)
    (g_CS : PySem.W.nsIn K mainGlobals "Shelving" = some (some (.ref CS)))
    (pg_CS : PySem.W.plainGet K CS Str.empty = true)
    (hd_CS : PySem.W.hasDictIn K CS = true)
    (po_CS : PySem.W.plainOver K CS = true)
    (sa_CS : PySem.W.findIn K (.ref CS) "__setattr__" = some (some (.builtin "object.__setattr__")))
    (mk_CS : PySem.W.makesIn K CS = true)
    (kp_CS : PySem.W.keepIn K (.ref CS) = true)
    (na_CS_width : PySem.W.findIn K (.ref CS) "width" = some none)
    (na_CS_pieces : PySem.W.findIn K (.ref CS) "pieces" = some none)
    (na_CS_best : PySem.W.findIn K (.ref CS) "best" = some none)
    (at_Shelving___init__ : PySem.W.findIn K (.ref CS) "__init__" = some (some (.ref f_Shelving___init__)))
    (fn_Shelving___init__ : PySem.W.isFn K (.ref f_Shelving___init__) = true)
    (l_Shelving___init__ : K.lookup f_Shelving___init__ = some ⟨oc_Shelving___init__, od_Shelving___init__, .func (PySem.W.fnOf "__init__" "Shelving.__init__" (defArgs s_Shelving___init__) (defBody s_Shelving___init__) (defScope s_Shelving___init__) .none kV_Shelving___init__ dc_Shelving___init__ pm_Shelving___init__ an_Shelving___init__ cd_Shelving___init__ ct_Shelving___init__), sl_Shelving___init__⟩)
    (c_Shelving___init__ : PySem.W.codeIn K cd_Shelving___init__ "Shelving.__init__" = true)
    (k_Shelving___init__ : PySem.W.keepIn K (.ref f_Shelving___init__) = true)
    (at_Shelving_length_of : PySem.W.findIn K (.ref CS) "length_of" = some (some (.ref f_Shelving_length_of)))
    (fn_Shelving_length_of : PySem.W.isFn K (.ref f_Shelving_length_of) = true)
    (l_Shelving_length_of : K.lookup f_Shelving_length_of = some ⟨oc_Shelving_length_of, od_Shelving_length_of, .func (PySem.W.fnOf "length_of" "Shelving.length_of" (defArgs s_Shelving_length_of) (defBody s_Shelving_length_of) (defScope s_Shelving_length_of) .none kV_Shelving_length_of dc_Shelving_length_of pm_Shelving_length_of an_Shelving_length_of cd_Shelving_length_of ct_Shelving_length_of), sl_Shelving_length_of⟩)
    (c_Shelving_length_of : PySem.W.codeIn K cd_Shelving_length_of "Shelving.length_of" = true)
    (k_Shelving_length_of : PySem.W.keepIn K (.ref f_Shelving_length_of) = true)
    (at_Shelving_go : PySem.W.findIn K (.ref CS) "go" = some (some (.ref f_Shelving_go)))
    (fn_Shelving_go : PySem.W.isFn K (.ref f_Shelving_go) = true)
    (l_Shelving_go : K.lookup f_Shelving_go = some ⟨oc_Shelving_go, od_Shelving_go, .func (PySem.W.fnOf "go" "Shelving.go" (defArgs s_Shelving_go) (defBody s_Shelving_go) (defScope s_Shelving_go) .none kV_Shelving_go dc_Shelving_go pm_Shelving_go an_Shelving_go cd_Shelving_go ct_Shelving_go), sl_Shelving_go⟩)
    (c_Shelving_go : PySem.W.codeIn K cd_Shelving_go "Shelving.go" = true)
    (k_Shelving_go : PySem.W.keepIn K (.ref f_Shelving_go) = true) : ∃ c T, LawFn K fa c T ∧ LawRun P w K mg fa c T := by
  have e := hfa.symm.trans (PySem.W.mg_of X G a_law)
  cases e
  have T : ∀ base, Tx P w K mg base C1 C2 C3 fI CS := fun base =>
    { d_is_integer := ⟨f_is_integer, _, fun_mk l_is_integer c_is_integer k_is_integer, PySem.W.mg_of X G a_is_integer⟩,
      d_is_within := ⟨f_is_within, _, fun_mk l_is_within c_is_within k_is_within, PySem.W.mg_of X G a_is_within⟩,
      d_is_row := ⟨f_is_row, _, fun_mk l_is_row c_is_row k_is_row, PySem.W.mg_of X G a_is_row⟩,
      d_is_tuple_of := ⟨f_is_tuple_of, _, fun_mk l_is_tuple_of c_is_tuple_of k_is_tuple_of, PySem.W.mg_of X G a_is_tuple_of⟩,
      d_check_pieces := ⟨f_check_pieces, _, fun_mk l_check_pieces c_check_pieces k_check_pieces, PySem.W.mg_of X G a_check_pieces⟩,
      d_check_cloth := ⟨f_check_cloth, _, fun_mk l_check_cloth c_check_cloth k_check_cloth, PySem.W.mg_of X G a_check_cloth⟩,
      d_told_shelves := ⟨f_told_shelves, _, fun_mk l_told_shelves c_told_shelves k_told_shelves, PySem.W.mg_of X G a_told_shelves⟩,
      d_least_cloth := ⟨f_least_cloth, _, fun_mk l_least_cloth c_least_cloth k_least_cloth, PySem.W.mg_of X G a_least_cloth⟩,
      d_shelves := ⟨f_shelves, _, fun_mk l_shelves c_shelves k_shelves, PySem.W.mg_of X G a_shelves⟩,
      d_cloth_bar := ⟨f_cloth_bar, _, fun_mk l_cloth_bar c_cloth_bar k_cloth_bar, PySem.W.mg_of X G a_cloth_bar⟩,
      d_best_roll := ⟨f_best_roll, _, fun_mk l_best_roll c_best_roll k_best_roll, PySem.W.mg_of X G a_best_roll⟩,
      d__law_taken := ⟨f__law_taken, _, fun_mk l__law_taken c__law_taken k__law_taken, PySem.W.mg_of X G a__law_taken⟩,
      d__law_pick := ⟨f__law_pick, _, fun_mk l__law_pick c__law_pick k__law_pick, PySem.W.mg_of X G a__law_pick⟩,
      d__law_alike := ⟨f__law_alike, _, fun_mk l__law_alike c__law_alike k__law_alike, PySem.W.mg_of X G a__law_alike⟩,
      d__law_parts := ⟨f__law_parts, _, fun_mk l__law_parts c__law_parts k__law_parts, PySem.W.mg_of X G a__law_parts⟩,
      d__law_shelved := ⟨f__law_shelved, _, fun_mk l__law_shelved c__law_shelved k__law_shelved, PySem.W.mg_of X G a__law_shelved⟩,
      d__law_refused := ⟨f__law_refused, _, fun_mk l__law_refused c__law_refused k__law_refused, PySem.W.mg_of X G a__law_refused⟩,
      b_isinstance := PySem.W.mg_none_of X G n_isinstance,
      b_len := PySem.W.mg_none_of X G n_len,
      b_all := PySem.W.mg_none_of X G n_all,
      b_enumerate := PySem.W.mg_none_of X G n_enumerate,
      b_range := PySem.W.mg_none_of X G n_range,
      b_int := PySem.W.mg_none_of X G n_int,
      b_bool := PySem.W.mg_none_of X G n_bool,
      b_str := PySem.W.mg_none_of X G n_str,
      b_list := PySem.W.mg_none_of X G n_list,
      b_tuple := PySem.W.mg_none_of X G n_tuple,
      b_dict := PySem.W.mg_none_of X G n_dict,
      b_repr := PySem.W.mg_none_of X G n_repr,
      b_sum := PySem.W.mg_none_of X G n_sum,
      b_max := PySem.W.mg_none_of X G n_max,
      b_min := PySem.W.mg_none_of X G n_min,
      k_MOST_WIDTH := ⟨_, PySem.W.mg_of X G i_MOST_WIDTH⟩,
      k_MOST_PIECES := ⟨_, PySem.W.mg_of X G i_MOST_PIECES⟩,
      k_MOST_SIDE := ⟨_, PySem.W.mg_of X G i_MOST_SIDE⟩,
      k_MOST_ROLLS := ⟨_, PySem.W.mg_of X G i_MOST_ROLLS⟩,
      k_MOST_PRICE := ⟨_, PySem.W.mg_of X G i_MOST_PRICE⟩,
      e_BadPieces := ⟨PySem.W.mg_of X G x_C1, ⟨⟨_, _, _, _, _, _, _, _, _, _, _, _, _, _, _, xl_C1, xr_C1⟩, xs_C1, xe_C1, xt_C1, xk_C1⟩, xv_C1, xi_C1, tI, ⟨xa_C1, xg_C1, xe_C1, xh_C1⟩⟩,
      told1 := ⟨true, exm_of xe_C1 xc_C1 xt_C1 xx_C1_C1, fun _ => ⟨rfl, rfl⟩, fun z => by cases z⟩,
      e_BadRolls := ⟨PySem.W.mg_of X G x_C2, ⟨⟨_, _, _, _, _, _, _, _, _, _, _, _, _, _, _, xl_C2, xr_C2⟩, xs_C2, xe_C2, xt_C2, xk_C2⟩, xv_C2, xi_C2, tI, ⟨xa_C2, xg_C2, xe_C2, xh_C2⟩⟩,
      told2 := ⟨false, exm_of xe_C1 xc_C1 xt_C1 xx_C2_C1, (fun z => by cases z), fun _ => ⟨true, exm_of xe_C2 xc_C2 xt_C2 xx_C2_C2, fun _ => ⟨rfl, rfl⟩, fun z => by cases z⟩⟩,
      e_BadWidth := ⟨PySem.W.mg_of X G x_C3, ⟨⟨_, _, _, _, _, _, _, _, _, _, _, _, _, _, _, xl_C3, xr_C3⟩, xs_C3, xe_C3, xt_C3, xk_C3⟩, xv_C3, xi_C3, tI, ⟨xa_C3, xg_C3, xe_C3, xh_C3⟩⟩,
      told3 := ⟨false, exm_of xe_C1 xc_C1 xt_C1 xx_C3_C1, (fun z => by cases z), fun _ => ⟨false, exm_of xe_C2 xc_C2 xt_C2 xx_C3_C2, (fun z => by cases z), fun _ => ⟨true, exm_of xe_C3 xc_C3 xt_C3 xx_C3_C3, fun _ => ⟨rfl, rfl⟩, fun z => by cases z⟩⟩⟩,
      ini := iniF_mk (st := s_SailError___init__) ⟨⟨_, _, _, _, _, _, _, _, _, _, rfl, lI, cI, .inr ⟨by simp, _, _, [.none], _, rfl, lT, rfl, .cons rfl .nil⟩, .inl rfl⟩, kI⟩ sc_SailError___init__ rfl rfl (fun _ _ _ _ _ _ _ us its h1 h2 => match us, its, h1, h2 with | [_, _], [_], _, _ => ⟨_, rfl, rfl⟩),
      a_width := na_CS_width,
      a_pieces := na_CS_pieces,
      a_best := na_CS_best,
      k_Shelving := ⟨⟨f_Shelving___init__, _, fun_mk l_Shelving___init__ c_Shelving___init__ k_Shelving___init__, ⟨mk_CS, at_Shelving___init__, fn_Shelving___init__, kp_CS⟩⟩, PySem.W.mg_of X G g_CS⟩,
      m_length_of := ⟨⟨f_Shelving_length_of, _, fun_mk l_Shelving_length_of c_Shelving_length_of k_Shelving_length_of, ⟨at_Shelving_length_of, fn_Shelving_length_of, k_Shelving_length_of⟩⟩, ⟨pg_CS, hd_CS, po_CS, sa_CS⟩⟩,
      m_go := ⟨⟨f_Shelving_go, _, fun_mk l_Shelving_go c_Shelving_go k_Shelving_go, ⟨at_Shelving_go, fn_Shelving_go, k_Shelving_go⟩⟩, ⟨pg_CS, hd_CS, po_CS, sa_CS⟩⟩ }
  have F := fun_mk (st := s_law) l_law c_law k_law
  refine ⟨cL, TL, lawFn_mk l_law rfl lc v11 v18 v7 v9 v10 nCT noT, law_run (k := 17) F rfl sc_law (F.binds (ps := ["script"]) fun _ _ _ _ _ _ us hl => match us, hl with | [_], _ => rfl) ⟨rfl, by decide, by decide⟩ fun base s H a ns KB hG tb hr hT naT hS hl hz => ?_⟩
  exact law_body (T base) tb hr hT naT hS
end K17

set_option Elab.async false
set_option linter.all false
open PySem PySem.W PyProof.Rows
set_option maxRecDepth 100000 in
set_option maxHeartbeats 0 in
theorem PySem.Challenge.cw_sailcut_k17_whole_cloth_holds : PySem.Challenge.rw_sailcut_k17_whole_cloth.Holds := by
  w_on; o_law; k_head; (case hw => w_witness2)
  k_fill
  refine Dl.walk_end rfl rfl (by decide +kernel) (fun w h Y => PySem.W.km_in_of Y) ?F
  case F =>
    intro w mg fa h KX G hmg
    refine' K17.all_mk KX G hmg ?a_is_integer ?l_is_integer ?c_is_integer ?k_is_integer ?a_is_within ?l_is_within ?c_is_within ?k_is_within ?a_is_row ?l_is_row ?c_is_row ?k_is_row ?a_is_tuple_of ?l_is_tuple_of ?c_is_tuple_of ?k_is_tuple_of ?a_check_pieces ?l_check_pieces ?c_check_pieces ?k_check_pieces ?a_check_cloth ?l_check_cloth ?c_check_cloth ?k_check_cloth ?a_told_shelves ?l_told_shelves ?c_told_shelves ?k_told_shelves ?a_least_cloth ?l_least_cloth ?c_least_cloth ?k_least_cloth ?a_shelves ?l_shelves ?c_shelves ?k_shelves ?a_cloth_bar ?l_cloth_bar ?c_cloth_bar ?k_cloth_bar ?a_best_roll ?l_best_roll ?c_best_roll ?k_best_roll ?a__law_taken ?l__law_taken ?c__law_taken ?k__law_taken ?a__law_pick ?l__law_pick ?c__law_pick ?k__law_pick ?a__law_alike ?l__law_alike ?c__law_alike ?k__law_alike ?a__law_parts ?l__law_parts ?c__law_parts ?k__law_parts ?a__law_shelved ?l__law_shelved ?c__law_shelved ?k__law_shelved ?a__law_refused ?l__law_refused ?c__law_refused ?k__law_refused ?a_law ?l_law ?c_law ?k_law ?lc ?v11 ?v18 ?v7 ?v9 ?v10 ?nCT ?noT ?n_isinstance ?n_len ?n_all ?n_enumerate ?n_range ?n_int ?n_bool ?n_str ?n_list ?n_tuple ?n_dict ?n_repr ?n_sum ?n_max ?n_min ?i_MOST_WIDTH ?i_MOST_PIECES ?i_MOST_SIDE ?i_MOST_ROLLS ?i_MOST_PRICE ?x_C1 ?xl_C1 ?xr_C1 ?xs_C1 ?xe_C1 ?xt_C1 ?xk_C1 ?xv_C1 ?xi_C1 ?tI ?xa_C1 ?xg_C1 ?xh_C1 ?xc_C1 ?xx_C1_C1 ?x_C2 ?xl_C2 ?xr_C2 ?xs_C2 ?xe_C2 ?xt_C2 ?xk_C2 ?xv_C2 ?xi_C2 ?xa_C2 ?xg_C2 ?xh_C2 ?xc_C2 ?xx_C2_C1 ?xx_C2_C2 ?x_C3 ?xl_C3 ?xr_C3 ?xs_C3 ?xe_C3 ?xt_C3 ?xk_C3 ?xv_C3 ?xi_C3 ?xa_C3 ?xg_C3 ?xh_C3 ?xc_C3 ?xx_C3_C1 ?xx_C3_C2 ?xx_C3_C3 ?lI ?cI ?kI ?lT ?g_CS ?pg_CS ?hd_CS ?po_CS ?sa_CS ?mk_CS ?kp_CS ?na_CS_width ?na_CS_pieces ?na_CS_best ?at_Shelving___init__ ?fn_Shelving___init__ ?l_Shelving___init__ ?c_Shelving___init__ ?k_Shelving___init__ ?at_Shelving_length_of ?fn_Shelving_length_of ?l_Shelving_length_of ?c_Shelving_length_of ?k_Shelving_length_of ?at_Shelving_go ?fn_Shelving_go ?l_Shelving_go ?c_Shelving_go ?k_Shelving_go
    (case a_is_integer => k_is)
    (case l_is_integer => k_is)
    (case c_is_integer => k_is)
    (case k_is_integer => k_is)
    (case a_is_within => k_is)
    (case l_is_within => k_is)
    (case c_is_within => k_is)
    (case k_is_within => k_is)
    (case a_is_row => k_is)
    (case l_is_row => k_is)
    (case c_is_row => k_is)
    (case k_is_row => k_is)
    (case a_is_tuple_of => k_is)
    (case l_is_tuple_of => k_is)
    (case c_is_tuple_of => k_is)
    (case k_is_tuple_of => k_is)
    (case a_check_pieces => k_is)
    (case l_check_pieces => k_is)
    (case c_check_pieces => k_is)
    (case k_check_pieces => k_is)
    (case a_check_cloth => k_is)
    (case l_check_cloth => k_is)
    (case c_check_cloth => k_is)
    (case k_check_cloth => k_is)
    (case a_told_shelves => k_is)
    (case l_told_shelves => k_is)
    (case c_told_shelves => k_is)
    (case k_told_shelves => k_is)
    (case a_least_cloth => k_is)
    (case l_least_cloth => k_is)
    (case c_least_cloth => k_is)
    (case k_least_cloth => k_is)
    (case a_shelves => k_is)
    (case l_shelves => k_is)
    (case c_shelves => k_is)
    (case k_shelves => k_is)
    (case a_cloth_bar => k_is)
    (case l_cloth_bar => k_is)
    (case c_cloth_bar => k_is)
    (case k_cloth_bar => k_is)
    (case a_best_roll => k_is)
    (case l_best_roll => k_is)
    (case c_best_roll => k_is)
    (case k_best_roll => k_is)
    (case a__law_taken => k_is)
    (case l__law_taken => k_is)
    (case c__law_taken => k_is)
    (case k__law_taken => k_is)
    (case a__law_pick => k_is)
    (case l__law_pick => k_is)
    (case c__law_pick => k_is)
    (case k__law_pick => k_is)
    (case a__law_alike => k_is)
    (case l__law_alike => k_is)
    (case c__law_alike => k_is)
    (case k__law_alike => k_is)
    (case a__law_parts => k_is)
    (case l__law_parts => k_is)
    (case c__law_parts => k_is)
    (case k__law_parts => k_is)
    (case a__law_shelved => k_is)
    (case l__law_shelved => k_is)
    (case c__law_shelved => k_is)
    (case k__law_shelved => k_is)
    (case a__law_refused => k_is)
    (case l__law_refused => k_is)
    (case c__law_refused => k_is)
    (case k__law_refused => k_is)
    (case a_law => k_is)
    (case l_law => k_is)
    (case c_law => k_is)
    (case k_law => k_is)
    (case lc => k_is)
    (case v11 => rfl)
    (case v18 => rfl)
    (case v7 => rfl)
    (case v9 => rfl)
    (case v10 => rfl)
    (case nCT => decide)
    (case noT => kernel_rfl)
    (case n_isinstance => k_is)
    (case n_len => k_is)
    (case n_all => k_is)
    (case n_enumerate => k_is)
    (case n_range => k_is)
    (case n_int => k_is)
    (case n_bool => k_is)
    (case n_str => k_is)
    (case n_list => k_is)
    (case n_tuple => k_is)
    (case n_dict => k_is)
    (case n_repr => k_is)
    (case n_sum => k_is)
    (case n_max => k_is)
    (case n_min => k_is)
    (case i_MOST_WIDTH => k_is)
    (case i_MOST_PIECES => k_is)
    (case i_MOST_SIDE => k_is)
    (case i_MOST_ROLLS => k_is)
    (case i_MOST_PRICE => k_is)
    (case x_C1 => k_is)
    (case xl_C1 => k_is)
    (case xr_C1 => decide +kernel)
    (case xs_C1 => k_is)
    (case xe_C1 => k_is)
    (case xt_C1 => k_is)
    (case xk_C1 => k_is)
    (case xv_C1 => k_is)
    (case xi_C1 => k_is)
    (case tI => k_is)
    (case xa_C1 => k_is)
    (case xg_C1 => k_is)
    (case xh_C1 => k_is)
    (case xc_C1 => k_is)
    (case xx_C1_C1 => k_is)
    (case x_C2 => k_is)
    (case xl_C2 => k_is)
    (case xr_C2 => decide +kernel)
    (case xs_C2 => k_is)
    (case xe_C2 => k_is)
    (case xt_C2 => k_is)
    (case xk_C2 => k_is)
    (case xv_C2 => k_is)
    (case xi_C2 => k_is)
    (case xa_C2 => k_is)
    (case xg_C2 => k_is)
    (case xh_C2 => k_is)
    (case xc_C2 => k_is)
    (case xx_C2_C1 => k_is)
    (case xx_C2_C2 => k_is)
    (case x_C3 => k_is)
    (case xl_C3 => k_is)
    (case xr_C3 => decide +kernel)
    (case xs_C3 => k_is)
    (case xe_C3 => k_is)
    (case xt_C3 => k_is)
    (case xk_C3 => k_is)
    (case xv_C3 => k_is)
    (case xi_C3 => k_is)
    (case xa_C3 => k_is)
    (case xg_C3 => k_is)
    (case xh_C3 => k_is)
    (case xc_C3 => k_is)
    (case xx_C3_C1 => k_is)
    (case xx_C3_C2 => k_is)
    (case xx_C3_C3 => k_is)
    (case lI => k_is)
    (case cI => k_is)
    (case kI => k_is)
    (case lT => k_is)
    (case g_CS => k_is)
    (case pg_CS => k_is)
    (case hd_CS => k_is)
    (case po_CS => k_is)
    (case sa_CS => k_is)
    (case mk_CS => k_is)
    (case kp_CS => k_is)
    (case na_CS_width => k_is)
    (case na_CS_pieces => k_is)
    (case na_CS_best => k_is)
    (case at_Shelving___init__ => k_is)
    (case fn_Shelving___init__ => k_is)
    (case l_Shelving___init__ => k_is)
    (case c_Shelving___init__ => k_is)
    (case k_Shelving___init__ => k_is)
    (case at_Shelving_length_of => k_is)
    (case fn_Shelving_length_of => k_is)
    (case l_Shelving_length_of => k_is)
    (case c_Shelving_length_of => k_is)
    (case k_Shelving_length_of => k_is)
    (case at_Shelving_go => k_is)
    (case fn_Shelving_go => k_is)
    (case l_Shelving_go => k_is)
    (case c_Shelving_go => k_is)
    (case k_Shelving_go => k_is)
