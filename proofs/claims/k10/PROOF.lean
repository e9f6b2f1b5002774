import PyProof.Rows.All
import Wide.All
import OpenK.AllK
import Wide.FinOn
import HandS.ForMost
import HandS.ForExc
import HandS.Walk
import HandS.Deep
import HandS.Lambda
import HandS.EndTab
import HandS.TryMany
import HandS.ExcInit
import HandS.ExcField
import HandS.IsInst
import HandS.Gcd
import HandS.Wide
import HandS.TupAny
import HandS.CallLocal
import PyProof.ReprReads
import KE.KNestM
import HandS.EndOwn
import KE.GoesMore
import HandS.Style
import HandS.Defaults
import PySem.Challenge.RW_sailcut_k10_whole_turns
set_option Elab.async false
set_option linter.all false
set_option maxRecDepth 100000
set_option maxHeartbeats 4000000
/-! Dl: a layer of plain data over the hand layer: what a value stands for, and what a reading gives, told without the heap. -/
namespace Dl
open PySem PySem.Spec PyProof.Rows L2
abbrev D := PyData
def kD : Key → D
  | .inl i => .int i
  | .inr x => .str x
mutual
/-- the value v stands for the data d, as far as G is known -/
inductive R (K : PySem.W.Frag) (G : Hp) : V → D → Prop
  | non : R K G .non .none
  | bl (b : Bool) : R K G (.bl b) (.bool b)
  | int (i : Int) : R K G (.int i) (.int i)
  | str (x : Str) : R K G (.str x) (.str x)
  | lst {a : Addr} {xs : List V} {ds : List D} : SqL K G a xs → RA K G xs ds → R K G (.ref a) (.list ds)
  | tup {a : Addr} {xs : List V} {ds : List D} : SqT K G a xs → RA K G xs ds → R K G (.ref a) (.tuple ds)
  | dic {a : Addr} {ks : List (Key × V)} {ds : List (D × D)} : G a = some (.dK ks) → RK K G ks ds → R K G (.ref a) (.dict ds)
inductive RA (K : PySem.W.Frag) (G : Hp) : List V → List D → Prop
  | nil : RA K G [] []
  | cons {v : V} {vs : List V} {d : D} {ds : List D} : R K G v d → RA K G vs ds → RA K G (v :: vs) (d :: ds)
inductive RK (K : PySem.W.Frag) (G : Hp) : List (Key × V) → List (D × D) → Prop
  | nil : RK K G [] []
  | cons {k : Key} {v : V} {ks : List (Key × V)} {d : D} {ds : List (D × D)} : R K G v d → RK K G ks ds → RK K G ((k, v) :: ks) ((kD k, d) :: ds)
end
section
variable {K : PySem.W.Frag} {G G' H H' : Hp}
theorem sameT {a : Addr} {xs : List V} (e : Same G G') (h : SqT K G a xs) : SqT K G' a xs := by
  rcases h with (h | ⟨o, h⟩) | h
  · exact .inl (.inl (e _ _ h))
  · exact .inl (.inr ⟨o, e _ _ h⟩)
  · exact .inr h
mutual
theorem R.mono (e : Same G G') : ∀ {v : V} {d : D}, R K G v d → R K G' v d
  | _, _, .non => .non
  | _, _, .bl b => .bl b
  | _, _, .int i => .int i
  | _, _, .str x => .str x
  | _, _, .lst h r => .lst (e.seq h) (RA.mono e r)
  | _, _, .tup h r => .tup (sameT e h) (RA.mono e r)
  | _, _, .dic h r => .dic (e _ _ h) (RK.mono e r)
theorem RA.mono (e : Same G G') : ∀ {vs : List V} {ds : List D}, RA K G vs ds → RA K G' vs ds
  | _, _, .nil => .nil
  | _, _, .cons h r => .cons (R.mono e h) (RA.mono e r)
theorem RK.mono (e : Same G G') : ∀ {ks : List (Key × V)} {ds : List (D × D)}, RK K G ks ds → RK K G' ks ds
  | _, _, .nil => .nil
  | _, _, .cons h r => .cons (R.mono e h) (RK.mono e r)
end
theorem RA.length : ∀ {vs : List V} {ds : List D}, RA K G vs ds → vs.length = ds.length
  | _, _, .nil => rfl
  | _, _, .cons _ r => congrArg (· + 1) (RA.length r)
theorem RA.get : ∀ {vs : List V} {ds : List D} {i : Nat} {d : D}, RA K G vs ds → ds[i]? = some d → ∃ v, vs[i]? = some v ∧ R K G v d
  | _, _, _, _, .nil, h => by simp at h
  | _, _, 0, _, .cons q _, h => by
    simp only [List.getElem?_cons_zero, Option.some.injEq] at h
    subst h
    exact ⟨_, rfl, q⟩
  | _, _, i + 1, _, .cons _ r, h => by
    simp only [List.getElem?_cons_succ] at h
    obtain ⟨v, h1, h2⟩ := RA.get r h
    exact ⟨v, by simpa using h1, h2⟩
theorem RA.getV : ∀ {vs : List V} {ds : List D} {i : Nat} {v : V}, RA K G vs ds → vs[i]? = some v → ∃ d, ds[i]? = some d ∧ R K G v d
  | _, _, _, _, .nil, h => by simp at h
  | _, _, 0, _, .cons q _, h => by
    simp only [List.getElem?_cons_zero, Option.some.injEq] at h
    subst h
    exact ⟨_, rfl, q⟩
  | _, _, i + 1, _, .cons _ r, h => by
    simp only [List.getElem?_cons_succ] at h
    obtain ⟨v, h1, h2⟩ := RA.getV r h
    exact ⟨v, by simpa using h1, h2⟩
theorem RA.append : ∀ {vs : List V} {ds : List D} {ws : List V} {es : List D}, RA K G vs ds → RA K G ws es → RA K G (vs ++ ws) (ds ++ es)
  | _, _, _, _, .nil, q => q
  | _, _, _, _, .cons h r, q => .cons h (RA.append r q)
theorem RA.snoc {vs : List V} {ds : List D} {v : V} {d : D} (h : RA K G vs ds) (q : R K G v d) : RA K G (vs ++ [v]) (ds ++ [d]) := h.append (.cons q .nil)
theorem RA.take : ∀ {vs : List V} {ds : List D} (n : Nat), RA K G vs ds → RA K G (vs.take n) (ds.take n)
  | _, _, 0, _ => .nil
  | _, _, _ + 1, .nil => .nil
  | _, _, n + 1, .cons h r => .cons h (RA.take n r)
theorem RA.drop : ∀ {vs : List V} {ds : List D} (n : Nat), RA K G vs ds → RA K G (vs.drop n) (ds.drop n)
  | _, _, 0, r => r
  | _, _, _ + 1, .nil => .nil
  | _, _, n + 1, .cons _ r => RA.drop n r
theorem RA.reverse : ∀ {vs : List V} {ds : List D}, RA K G vs ds → RA K G vs.reverse ds.reverse
  | _, _, .nil => .nil
  | _, _, .cons h r => by
    rw [List.reverse_cons, List.reverse_cons]
    exact (RA.reverse r).snoc h
theorem RA.ints : ∀ {vs : List V} {ns : List Int}, RA K G vs (ns.map PyData.int) → vs = ns.map V.int
  | [], [], _ => rfl
  | _ :: _, n :: ns, h => by
    cases h with
    | cons h1 h2 =>
      cases h1
      rw [RA.ints h2] <;> rfl
theorem RA.of_ints : ∀ ns : List Int, RA K G (ns.map V.int) (ns.map PyData.int)
  | [] => .nil
  | n :: ns => .cons (.int n) (RA.of_ints ns)
theorem RA.bools : ∀ {vs : List V} {bs : List Bool}, RA K G vs (bs.map PyData.bool) → vs = bs.map V.bl
  | [], [], _ => rfl
  | _ :: _, n :: ns, h => by
    cases h with
    | cons h1 h2 =>
      cases h1
      rw [RA.bools h2] <;> rfl
/-- data without a dict -/
theorem noDp_list {ds : List D} (h : PyData.hasDict (.list ds) = false) : PyData.hasDictAll ds = false := by simpa only [PyData.hasDict] using h
theorem noDp_tuple {ds : List D} (h : PyData.hasDict (.tuple ds) = false) : PyData.hasDictAll ds = false := by simpa only [PyData.hasDict] using h
mutual
theorem R.dp : ∀ {v : V} {d : D}, R K G v d → d.hasDict = false → Dp K G v d
  | _, _, .non, _ => .non
  | _, _, .bl b, _ => .bl b
  | _, _, .int i, _ => .int i
  | _, _, .str x, _ => .str x
  | _, _, .lst h r, n => .lst h (RA.dp r (noDp_list n))
  | _, _, .tup h r, n => .tup h (RA.dp r (noDp_tuple n))
  | _, _, .dic _ _, n => by simp only [PyData.hasDict] at n; exact absurd n (by decide)
theorem RA.dp : ∀ {vs : List V} {ds : List D}, RA K G vs ds → PyData.hasDictAll ds = false → DpAll K G vs ds
  | _, _, .nil, _ => .nil
  | _, _, .cons h r, n => by
    simp only [PyData.hasDictAll, Bool.or_eq_false_iff] at n
    exact .cons (R.dp h n.1) (RA.dp r n.2)
end
end

/-! ### what may change beside -/
def Fixd : HO → Prop
  | .ext _ => True
  | .frz _ _ => True
  | .tup _ => True
  | .tbl _ => True
  | _ => False
/-- vol: the places that calls may write at; inv: what holds of them -/
structure Fx where
  vol : Addr → Prop
  inv : Hp → Prop
  ext : ∀ {H H' : Hp}, (∀ a o, vol a ∨ Fixd o → H a = some o → H' a = some o) → inv H → inv H'
  there : ∀ {H : Hp} {a : Addr}, inv H → vol a → H a ≠ none
def fx0 : Fx := ⟨fun _ => False, fun _ => True, fun _ _ => True.intro, fun _ h => h.elim⟩
/-- what a proof of a body stands in: the written part, what may change, what was known and what stood at the entry, the wish of what is raised -/
structure Cf where
  K : PySem.W.Frag
  fx : Fx
  G0 : Hp
  B : Hp
  E : XK
structure Kn (fx : Fx) (G H : Hp) : Prop where
  gh : Same G H
  inv : fx.inv H
  vn : ∀ a, fx.vol a → G a = none
structure Grow (fx : Fx) (G H G' H' : Hp) : Prop where
  gg : Same G G'
  gh : Same G' H'
  hh : ∀ a o, ¬ fx.vol a → H a = some o → H' a = some o
  nn : ∀ a, H a ≠ none → G a = none → G' a = none
section
variable {fx : Fx} {G H G1 H1 G2 H2 : Hp}
theorem Kn.fresh (k : Kn fx G H) {p : Addr} (h : H p = none) : ¬ fx.vol p := fun v => fx.there k.inv v h
theorem Kn.freeG (k : Kn fx G H) {p : Addr} (h : H p = none) : G p = none := k.gh.free h
theorem Grow.refl (k : Kn fx G H) : Grow fx G H G H := ⟨Same.refl G, k.gh, fun _ _ _ h => h, fun _ _ h => h⟩
theorem Kn.grow (k : Kn fx G H) (g : Grow fx G H G1 H1) (i : fx.inv H1) : Kn fx G1 H1 :=
  ⟨g.gh, i, fun a v => g.nn a (fx.there k.inv v) (k.vn a v)⟩
theorem Grow.trans (g : Grow fx G H G1 H1) (k1 : Kn fx G1 H1) (k2 : Kn fx G2 H2) (g2 : Grow fx G1 H1 G2 H2) : Grow fx G H G2 H2 :=
  ⟨g.gg.trans g2.gg, g2.gh, fun a o v h => g2.hh a o v (g.hh a o v h), fun a h n => by
    by_cases v : fx.vol a
    · exact k2.vn a v
    · cases e : H a with
      | none => exact absurd e h
      | some o => exact g2.nn a (by rw [g.hh a o v e]; simp) (g.nn a h n)⟩
theorem Kn.same (k : Kn fx G H) (e : Same H H1) : Kn fx G H1 := ⟨k.gh.trans e, fx.ext (fun a o _ h => e a o h) k.inv, k.vn⟩
/-- new objects that nothing tells of -/
theorem Grow.same (k : Kn fx G H) (e : Same H H1) : Grow fx G H G H1 := ⟨Same.refl G, k.gh.trans e, fun a o _ h => e a o h, fun _ _ h => h⟩
theorem same_new {H : Hp} {p : Addr} {o : HO} (h : H p = none) : Same H (upd H p o) := fun a u e => by
  rw [upd_ne (ne_of_none e h)]
  exact e
theorem same_upd2 {G H : Hp} {p : Addr} {o : HO} (e : Same G H) : Same (upd G p o) (upd H p o) := fun a u h => by
  by_cases ha : a = p
  · subst ha
    rw [upd_same] at h ⊢
    exact h
  · rw [upd_ne ha] at h ⊢
    exact e a u h
/-- a new object, known from now on -/
theorem Grow.new (k : Kn fx G H) {p : Addr} (o : HO) (h : H p = none) : Grow fx G H (upd G p o) (upd H p o) :=
  ⟨same_new (k.freeG h), same_upd2 k.gh, fun a u _ e => same_new h a u e, fun a ha n => by
    have e : a ≠ p := fun q => ha (by rw [q]; exact h)
    rw [upd_ne e]
    exact n⟩
theorem Kn.new (k : Kn fx G H) {p : Addr} (o : HO) (h : H p = none) : Kn fx (upd G p o) (upd H p o) :=
  k.grow (Grow.new k o h) (fx.ext (fun a u _ e => same_new h a u e) k.inv)
/-- what a callee that writes nothing leaves -/
theorem Grow.lift (g : Grow fx0 G H G1 H1) : Grow fx G H G1 H1 := ⟨g.gg, g.gh, fun a o _ h => g.hh a o (fun z => z) h, g.nn⟩
theorem Grow.hs (g : Grow fx0 G H G1 H1) : Same H H1 := fun a o h => g.hh a o (fun z => z) h
theorem Kn.low (k : Kn fx G H) : Kn fx0 G H := ⟨k.gh, True.intro, fun _ v => v.elim⟩
theorem Kn.lift (k : Kn fx G H) (g : Grow fx0 G H G1 H1) : Kn fx G1 H1 := k.grow g.lift (fx.ext (fun a o _ h => g.hs a o h) k.inv)
end

/-! ### what a name holds -/
inductive Mo where
  | lst (ds : List D)
  | dK (ds : List (D × D))
inductive Sl where
  | no
  | dat (d : D)
  | raw (v : V)
  | own (a : Addr) (m : Mo)
abbrev Rho := List Sl
def MoOk (K : PySem.W.Frag) (G : Hp) : HO → Mo → Prop
  | .lst vs, .lst ds => RA K G vs ds
  | .dK ks, .dK ds => RK K G ks ds
  | _, _ => False
def RS (K : PySem.W.Frag) (G : Hp) (v : V) : Sl → Prop
  | .dat d => R K G v d
  | .raw w => v = w
  | _ => False
inductive RSs (K : PySem.W.Frag) (G : Hp) : List V → List Sl → Prop
  | nil : RSs K G [] []
  | cons {v : V} {vs : List V} {s : Sl} {ss : List Sl} : RS K G v s → RSs K G vs ss → RSs K G (v :: vs) (s :: ss)
def SlOk (S : Cf) (G H : Hp) (o : Option V) : Sl → Prop
  | .no => True
  | .dat d => ∃ v, o = some v ∧ R S.K G v d
  | .raw v => o = some v
  | .own a m => o = some (.ref a) ∧ G a = none ∧ S.B a = none ∧ ¬ S.fx.vol a ∧ ∃ u, H a = some u ∧ MoOk S.K G u m
structure Env (S : Cf) (G H : Hp) (σ : L2.St) (ρ : Rho) : Prop where
  len : σ.length = ρ.length
  at_ : ∀ (i : Nat) (s : Sl), ρ[i]? = some s → ∃ o, σ[i]? = some o ∧ SlOk S G H o s
  dis : ∀ (i j : Nat) (a : Addr) (m m' : Mo), ρ[i]? = some (.own a m) → ρ[j]? = some (.own a m') → i = j
section
variable {K : PySem.W.Frag} {S : Cf} {G H G' H' : Hp} {σ : L2.St} {ρ : Rho}
theorem MoOk.mono {u : HO} {m : Mo} (e : Same G G') (h : MoOk K G u m) : MoOk K G' u m := by
  cases u <;> cases m <;> first | exact h.elim | exact RA.mono e h | exact RK.mono e h
theorem MoOk.noFix {u : HO} {m : Mo} (h : MoOk K G u m) : ¬ Fixd u := by
  cases u <;> cases m <;> first | exact h.elim | exact fun z => z
theorem RS.mono {v : V} {s : Sl} (e : Same G G') (h : RS K G v s) : RS K G' v s := by
  cases s with
  | dat d => exact R.mono e h
  | raw w => exact h
  | no => exact h.elim
  | own a m => exact h.elim
theorem RSs.mono (e : Same G G') : ∀ {vs : List V} {ss : List Sl}, RSs K G vs ss → RSs K G' vs ss
  | _, _, .nil => .nil
  | _, _, .cons h r => .cons (h.mono e) (RSs.mono e r)
theorem RSs.length : ∀ {vs : List V} {ss : List Sl}, RSs K G vs ss → vs.length = ss.length
  | _, _, .nil => rfl
  | _, _, .cons _ r => congrArg (· + 1) (RSs.length r)
theorem SlOk.grow {o : Option V} {s : Sl} (g : Grow S.fx G H G' H') (h : SlOk S G H o s) : SlOk S G' H' o s := by
  cases s with
  | no => exact True.intro
  | dat d =>
    obtain ⟨v, e, r⟩ := h
    exact ⟨v, e, r.mono g.gg⟩
  | raw w => exact h
  | own a m =>
    obtain ⟨e, ga, ba, va, u, ha, r⟩ := h
    exact ⟨e, g.nn a (by rw [ha]; simp) ga, ba, va, u, g.hh a u va ha, r.mono g.gg⟩
theorem Env.grow (e : Env S G H σ ρ) (g : Grow S.fx G H G' H') : Env S G' H' σ ρ :=
  ⟨e.len, fun i s h => by
    obtain ⟨o, h1, h2⟩ := e.at_ i s h
    exact ⟨o, h1, h2.grow g⟩, e.dis⟩
theorem Env.get (e : Env S G H σ ρ) {i : Nat} {s : Sl} (h : ρ[i]? = some s) (n : s ≠ .no := by intro z; cases z) : ∃ v, σ[i]? = some (some v) ∧ SlOk S G H (some v) s := by
  obtain ⟨o, h1, h2⟩ := e.at_ i s h
  cases s with
  | no => exact absurd rfl n
  | dat d =>
    obtain ⟨v, e', r⟩ := h2
    subst e'
    exact ⟨v, h1, v, rfl, r⟩
  | raw w =>
    have e' : o = some w := h2
    subst e'
    exact ⟨w, h1, rfl⟩
  | own a m =>
    have e' : o = some (.ref a) := h2.1
    subst e'
    exact ⟨.ref a, h1, h2⟩
theorem set_get {α : Type} {l : List α} {i j : Nat} {x y : α} (h : (l.set i x)[j]? = some y) : (j = i ∧ y = x) ∨ (j ≠ i ∧ l[j]? = some y) := by
  by_cases e : j = i
  · subst e
    refine .inl ⟨rfl, ?_⟩
    have hl : j < l.length := by
      have := (List.getElem?_eq_some_iff.mp h).1
      simpa using this
    rw [List.getElem?_set_self hl] at h
    exact (Option.some.inj h).symm
  · refine .inr ⟨e, ?_⟩
    rwa [List.getElem?_set_ne (Ne.symm e)] at h
/-- a slot is set to what is told of it -/
theorem Env.put (e : Env S G H σ ρ) (i : Nat) (o : Option V) (s : Sl) (h : SlOk S G H o s) (hd : ∀ a m, s = .own a m → ∀ j m', j ≠ i → ρ[j]? ≠ some (.own a m')) : Env S G H (σ.set i o) (ρ.set i s) := by
  refine ⟨by simp [e.len], fun j t ht => ?_, fun j k a m m' hj hk => ?_⟩
  · rcases set_get ht with ⟨ej, et⟩ | ⟨nj, ht⟩
    · subst ej et
      have hl : j < σ.length := by
        rw [e.len]
        have := (List.getElem?_eq_some_iff.mp ht).1
        simpa using this
      exact ⟨o, by rw [List.getElem?_set_self hl], h⟩
    · obtain ⟨o', h1, h2⟩ := e.at_ j t ht
      exact ⟨o', by rw [List.getElem?_set_ne (Ne.symm nj)]; exact h1, h2⟩
  · rcases set_get hj with ⟨ej, et⟩ | ⟨nj, hj⟩
    · rcases set_get hk with ⟨ek, _⟩ | ⟨nk, hk⟩
      · rw [ej, ek]
      · exact absurd hk (hd a m et.symm k m' nk)
    · rcases set_get hk with ⟨ek, et⟩ | ⟨nk, hk⟩
      · exact absurd hj (hd a m' et.symm j m nj)
      · exact e.dis j k a m m' hj hk
theorem Env.set (e : Env S G H σ ρ) (i : Nat) {v : V} {s : Sl} (h : RS S.K G v s) : Env S G H (σ.set i (some v)) (ρ.set i s) := by
  cases s with
  | no => exact h.elim
  | own a m => exact h.elim
  | dat d => exact e.put i _ _ ⟨v, rfl, h⟩ fun a m z => by cases z
  | raw w => exact e.put i _ _ (congrArg some h) fun a m z => by cases z
theorem Env.unset (e : Env S G H σ ρ) (i : Nat) (o : Option V) : Env S G H (σ.set i o) (ρ.set i .no) := e.put i o .no True.intro fun a m z => by cases z
/-- less is told of a slot -/
theorem Env.forget (e : Env S G H σ ρ) (i : Nat) : Env S G H σ (ρ.set i .no) := by
  refine ⟨by simp [e.len], fun j t ht => ?_, fun j k a m m' hj hk => ?_⟩
  · rcases set_get ht with ⟨ej, et⟩ | ⟨nj, ht⟩
    · subst ej et
      have hl : j < σ.length := by
        rw [e.len]
        have := (List.getElem?_eq_some_iff.mp ht).1
        simpa using this
      exact ⟨σ[j], by simp [hl], True.intro⟩
    · exact e.at_ j t ht
  · rcases set_get hj with ⟨_, et⟩ | ⟨nj, hj⟩
    · cases et
    · rcases set_get hk with ⟨_, et⟩ | ⟨nk, hk⟩
      · cases et
      · exact e.dis j k a m m' hj hk
/-- a list that was ours is data from now on -/
theorem Env.freeze (k : Kn S.fx G H) (e : Env S G H σ ρ) {i : Nat} {a : Addr} {ds : List D} (h : ρ[i]? = some (.own a (.lst ds))) :
    ∃ u, H a = some u ∧ Kn S.fx (upd G a u) H ∧ Same G (upd G a u) ∧ S.B a = none ∧ G a = none ∧ R S.K (upd G a u) (.ref a) (.list ds) ∧ Env S (upd G a u) H σ (ρ.set i (.dat (.list ds))) := by
  obtain ⟨v, h1, e1, ga, ba, va, u, ha, r⟩ := e.get h
  cases u with
  | lst vs =>
    have sg : Same G (upd G a (.lst vs)) := same_new ga
    have sh : Same (upd G a (.lst vs)) H := fun b o hb => by
      by_cases q : b = a
      · subst q
        rw [upd_same] at hb
        rw [ha]
        exact hb
      · rw [upd_ne q] at hb
        exact k.gh b o hb
    have kn : Kn S.fx (upd G a (.lst vs)) H := ⟨sh, k.inv, fun b vb => by
      have q : b ≠ a := fun q => va (q ▸ vb)
      rw [upd_ne q]
      exact k.vn b vb⟩
    have rr : R S.K (upd G a (.lst vs)) (.ref a) (.list ds) := .lst (SqL.of upd_same) (RA.mono sg r)
    refine ⟨_, ha, kn, sg, ba, ga, rr, ?_⟩
    have ev : v = .ref a := Option.some.inj e1
    subst ev
    have hi : i < σ.length := (List.getElem?_eq_some_iff.mp h1).1
    have es : σ.set i (some (.ref a)) = σ := by
      apply List.ext_getElem?
      intro j
      by_cases q : j = i
      · subst q
        rw [List.getElem?_set_self hi, h1]
      · rw [List.getElem?_set_ne (Ne.symm q)]
    have base : Env S (upd G a (.lst vs)) H (σ.set i (some (.ref a))) (ρ.set i (.dat (.list ds))) := by
      refine ⟨by simp [e.len], fun j t ht => ?_, fun j k' b m m' hj hk => ?_⟩
      · rcases set_get ht with ⟨ej, et⟩ | ⟨nj, ht⟩
        · subst ej et
          exact ⟨_, List.getElem?_set_self hi, _, rfl, rr⟩
        · obtain ⟨o', q1, q2⟩ := e.at_ j t ht
          refine ⟨o', by rw [List.getElem?_set_ne (Ne.symm nj)]; exact q1, ?_⟩
          cases t with
          | no => exact True.intro
          | dat d =>
            obtain ⟨v, e', r'⟩ := q2
            exact ⟨v, e', r'.mono sg⟩
          | raw w => exact q2
          | own b m =>
            obtain ⟨x1, x2, x3, x4, u, x5, x6⟩ := q2
            have q : b ≠ a := fun q => nj (e.dis j i a m _ (q ▸ ht) h)
            exact ⟨x1, by rw [upd_ne q]; exact x2, x3, x4, u, x5, x6.mono sg⟩
      · rcases set_get hj with ⟨_, et⟩ | ⟨nj, hj⟩
        · cases et
        · rcases set_get hk with ⟨_, et⟩ | ⟨nk, hk⟩
          · cases et
          · exact e.dis j k' b m m' hj hk
    rw [es] at base
    exact base
  | _ => exact r.elim
end
end Dl

set_option Elab.async false
set_option linter.all false
set_option maxRecDepth 100000
set_option maxHeartbeats 4000000
/-! Dle: what expressions give, as data. -/
namespace Dl
open PySem PySem.Spec PyProof.Rows L2
def Ev (S : Cf) (te : TE) (ρ : Rho) (P : Sl → Prop) : Prop := ∀ (σ : L2.St) (G H : Hp), Kn S.fx G H → Env S G H σ ρ → ∀ Q : VK,
  (∀ v s G' H', Grow S.fx G H G' H' → Kn S.fx G' H' → P s → RS S.K G' v s → Q v H') → te σ H Q
def EvT (S : Cf) (tt : TT) (ρ : Rho) (P : Bool → Prop) : Prop := ∀ (σ : L2.St) (G H : Hp), Kn S.fx G H → Env S G H σ ρ → ∀ Q : Bool → Hp → Prop,
  (∀ b G' H', Grow S.fx G H G' H' → Kn S.fx G' H' → P b → Q b H') → tt σ H Q
def EvA (S : Cf) (ta : TA) (ρ : Rho) (P : List Sl → Prop) : Prop := ∀ (σ : L2.St) (G H : Hp), Kn S.fx G H → Env S G H σ ρ → ∀ Q : List V → Hp → Prop,
  (∀ vs ss G' H', Grow S.fx G H G' H' → Kn S.fx G' H' → P ss → RSs S.K G' vs ss → Q vs H') → ta σ H Q
/-- a list that may be read: ours, or known -/
def EvL (S : Cf) (te : TE) (ρ : Rho) (ds : List D) : Prop := ∀ (σ : L2.St) (G H : Hp), Kn S.fx G H → Env S G H σ ρ → ∀ Q : VK,
  (∀ a vs G' H', Grow S.fx G H G' H' → Kn S.fx G' H' → (∀ G2 H2, Grow S.fx G' H' G2 H2 → SqL S.K H2 a vs) → RA S.K G' vs ds → Q (.ref a) H') → te σ H Q
def EvU (S : Cf) (te : TE) (ρ : Rho) (ds : List D) : Prop := ∀ (σ : L2.St) (G H : Hp), Kn S.fx G H → Env S G H σ ρ → ∀ Q : VK,
  (∀ a vs G' H', Grow S.fx G H G' H' → Kn S.fx G' H' → (∀ G2 H2, Grow S.fx G' H' G2 H2 → SqT S.K H2 a vs) → RA S.K G' vs ds → Q (.ref a) H') → te σ H Q
/-- an int of which p holds -/
abbrev EvI (S : Cf) (te : TE) (ρ : Rho) (p : Int → Prop) : Prop := Ev S te ρ (fun s => ∃ i, s = .dat (.int i) ∧ p i)
section
variable {S : Cf} {ρ : Rho} {te ta tb tc : TE} {t u : TT} {r : R2}
theorem Ev.imp {P P' : Sl → Prop} (h : Ev S te ρ P) (i : ∀ s, P s → P' s) : Ev S te ρ P' := fun σ G H k e Q q => h σ G H k e Q fun v s G' H' g k' p r => q v s G' H' g k' (i s p) r
theorem EvT.imp {P P' : Bool → Prop} (h : EvT S t ρ P) (i : ∀ s, P s → P' s) : EvT S t ρ P' := fun σ G H k e Q q => h σ G H k e Q fun v G' H' g k' p => q v G' H' g k' (i v p)
theorem EvA.imp {ta : TA} {P P' : List Sl → Prop} (h : EvA S ta ρ P) (i : ∀ s, P s → P' s) : EvA S ta ρ P' := fun σ G H k e Q q => h σ G H k e Q fun v s G' H' g k' p r => q v s G' H' g k' (i s p) r
theorem Ev.cast {s s' : Sl} (h : Ev S te ρ (Eq s)) (e : s = s') : Ev S te ρ (Eq s') := e ▸ h
theorem Ev.toI {i : Int} {p : Int → Prop} (h : Ev S te ρ (Eq (.dat (.int i)))) (hp : p i) : EvI S te ρ p := h.imp fun s e => ⟨i, e.symm, hp⟩
/-! names and constants -/
theorem ev_int {i : Int} : Ev S (tC (.int i)) ρ (Eq (.dat (.int i))) := fun σ G H k e Q q => q _ _ G H (Grow.refl k) k rfl (.int i)
theorem ev_bl {b : Bool} : Ev S (tC (.bl b)) ρ (Eq (.dat (.bool b))) := fun σ G H k e Q q => q _ _ G H (Grow.refl k) k rfl (.bl b)
theorem ev_str {x : Str} : Ev S (tC (.str x)) ρ (Eq (.dat (.str x))) := fun σ G H k e Q q => q _ _ G H (Grow.refl k) k rfl (.str x)
theorem ev_non : Ev S (tC .non) ρ (Eq (.dat .none)) := fun σ G H k e Q q => q _ _ G H (Grow.refl k) k rfl .non
theorem ev_raw {v : V} : Ev S (tC v) ρ (Eq (.raw v)) := fun σ G H k e Q q => q _ _ G H (Grow.refl k) k rfl rfl
/-- a constant of the module -/
theorem ev_cst {v : V} {d : D} (h : ∀ G : Hp, R S.K G v d) : Ev S (tC v) ρ (Eq (.dat d)) := fun σ G H k e Q q => q _ _ G H (Grow.refl k) k rfl (h G)
theorem ev_var {i : Nat} {d : D} (h : ρ[i]? = some (.dat d)) : Ev S (tVar i) ρ (Eq (.dat d)) := fun σ G H k e Q q => by
  obtain ⟨v, h1, v', e', r⟩ := e.get h
  cases e'
  exact ⟨v, h1, q v _ G H (Grow.refl k) k rfl r⟩
theorem ev_varR {i : Nat} {w : V} (h : ρ[i]? = some (.raw w)) : Ev S (tVar i) ρ (Eq (.raw w)) := fun σ G H k e Q q => by
  obtain ⟨v, h1, e'⟩ := e.get h
  exact ⟨v, h1, q v _ G H (Grow.refl k) k rfl (Option.some.inj e')⟩
theorem ev_varO {i : Nat} {a : Addr} {m : Mo} (h : ρ[i]? = some (.own a m)) : Ev S (tVar i) ρ (Eq (.raw (.ref a))) := fun σ G H k e Q q => by
  obtain ⟨v, h1, e', _⟩ := e.get h
  exact ⟨v, h1, q v _ G H (Grow.refl k) k rfl (Option.some.inj e')⟩
/-! lists and tuples that may be read -/
theorem el_of {ds : List D} (h : Ev S te ρ (Eq (.dat (.list ds)))) : EvL S te ρ ds := fun σ G H k e Q q => h σ G H k e Q fun v s G' H' g k' p r => by
  subst p
  cases r with
  | lst hs ra => exact q _ _ G' H' g k' (fun G2 H2 g2 => (g2.gg.trans g2.gh).seq hs) ra
theorem eu_of {ds : List D} (h : Ev S te ρ (Eq (.dat (.tuple ds)))) : EvU S te ρ ds := fun σ G H k e Q q => h σ G H k e Q fun v s G' H' g k' p r => by
  subst p
  cases r with
  | tup hs ra => exact q _ _ G' H' g k' (fun G2 H2 g2 => sameT (g2.gg.trans g2.gh) hs) ra
theorem el_own {i : Nat} {a : Addr} {ds : List D} (h : ρ[i]? = some (.own a (.lst ds))) : EvL S (tVar i) ρ ds := fun σ G H k e Q q => by
  obtain ⟨v, h1, e', ga, ba, va, u, ha, r⟩ := e.get h
  refine ⟨v, h1, ?_⟩
  cases Option.some.inj e'
  cases u with
  | lst vs => exact q a vs G H (Grow.refl k) k (fun G2 H2 g2 => SqL.of (g2.hh a _ va ha)) r
  | _ => exact r.elim
/-! operators by values -/
def OpD (S : Cf) (r : R2) (x y : Sl) (P : Sl → Prop) : Prop := ∀ (G H : Hp) (v w : V), Kn S.fx G H → RS S.K G v x → RS S.K G w y → ∀ Q : VK,
  (∀ z s G' H', Grow S.fx G H G' H' → Kn S.fx G' H' → P s → RS S.K G' z s → Q z H') → r v w H Q
theorem ev_op {Pa Pb P : Sl → Prop} (ha : Ev S ta ρ Pa) (hb : Ev S tb ρ Pb) (ho : ∀ x y, Pa x → Pb y → OpD S r x y P) : Ev S (tOp r ta tb) ρ P := fun σ G H k e Q q =>
  ha σ G H k e _ fun v x G1 H1 g1 k1 p1 r1 => hb σ G1 H1 k1 (e.grow g1) _ fun w y G2 H2 g2 k2 p2 r2 =>
    ho x y p1 p2 G2 H2 v w k2 (r1.mono g2.gg) r2 Q fun z s G3 H3 g3 k3 p3 r3 => q z s G3 H3 ((g1.trans k1 k2 g2).trans k2 k3 g3) k3 p3 r3
theorem ev_op' {x y : Sl} {P : Sl → Prop} (ha : Ev S ta ρ (Eq x)) (hb : Ev S tb ρ (Eq y)) (ho : OpD S r x y P) : Ev S (tOp r ta tb) ρ P := ev_op ha hb fun a b e1 e2 => e1 ▸ e2 ▸ ho
/-- the value alone, the heap as it is -/
theorem opd_here {x y s : Sl} {z : V} (h : ∀ (G H : Hp) (v w : V), Kn S.fx G H → RS S.K G v x → RS S.K G w y → RS S.K G z s ∧ ∀ Q : VK, Q z H → r v w H Q) : OpD S r x y (Eq s) := fun G H v w k rx ry Q q =>
  (h G H v w k rx ry).2 Q (q z s G H (Grow.refl k) k rfl (h G H v w k rx ry).1)
theorem opd_I0 {f : Int → Int → Int} {i j : Int} : OpD S (rI0 fun i j => .int (f i j)) (.dat (.int i)) (.dat (.int j)) (Eq (.dat (.int (f i j)))) := opd_here (z := .int (f i j)) fun G H v w k rx ry => ⟨.int _, fun Q q => by
  cases rx
  cases ry
  exact ⟨i, j, rfl, rfl, q⟩⟩
theorem opd_C0 {f : Int → Int → Bool} {i j : Int} : OpD S (rI0 fun i j => .bl (f i j)) (.dat (.int i)) (.dat (.int j)) (Eq (.dat (.bool (f i j)))) := opd_here (z := .bl (f i j)) fun G H v w k rx ry => ⟨.bl _, fun Q q => by
  cases rx
  cases ry
  exact ⟨i, j, rfl, rfl, q⟩⟩
theorem opd_IC {C : Int → Int → Prop} {f : Int → Int → Int} {i j : Int} (hc : C i j) : OpD S (rI C fun i j => .int (f i j)) (.dat (.int i)) (.dat (.int j)) (Eq (.dat (.int (f i j)))) := opd_here (z := .int (f i j)) fun G H v w k rx ry => ⟨.int _, fun Q q => by
  cases rx
  cases ry
  exact ⟨i, j, rfl, rfl, hc, q⟩⟩
theorem ev_I0 {f : Int → Int → Int} {i j : Int} (ha : Ev S ta ρ (Eq (.dat (.int i)))) (hb : Ev S tb ρ (Eq (.dat (.int j)))) : Ev S (tOp (rI0 fun i j => .int (f i j)) ta tb) ρ (Eq (.dat (.int (f i j)))) := ev_op' ha hb opd_I0
theorem ev_C0 {f : Int → Int → Bool} {i j : Int} (ha : Ev S ta ρ (Eq (.dat (.int i)))) (hb : Ev S tb ρ (Eq (.dat (.int j)))) : Ev S (tOp (rI0 fun i j => .bl (f i j)) ta tb) ρ (Eq (.dat (.bool (f i j)))) := ev_op' ha hb opd_C0
theorem ev_IC {C : Int → Int → Prop} {f : Int → Int → Int} {i j : Int} (ha : Ev S ta ρ (Eq (.dat (.int i)))) (hb : Ev S tb ρ (Eq (.dat (.int j)))) (hc : C i j) : Ev S (tOp (rI C fun i j => .int (f i j)) ta tb) ρ (Eq (.dat (.int (f i j)))) := ev_op' ha hb (opd_IC hc)
theorem evI_0 {f : Int → Int → Int} {p q s : Int → Prop} (ha : EvI S ta ρ p) (hb : EvI S tb ρ q) (h : ∀ i j, p i → q j → s (f i j)) : EvI S (tOp (rI0 fun i j => .int (f i j)) ta tb) ρ s :=
  ev_op ha hb fun x y ⟨i, ex, hi⟩ ⟨j, ey, hj⟩ => by
    subst ex ey
    intro G H v w k rx ry Q q
    exact opd_I0 G H v w k rx ry Q fun z s G' H' g k' e r => q z s G' H' g k' ⟨_, e.symm, h i j hi hj⟩ r
theorem evI_C {C : Int → Int → Prop} {f : Int → Int → Int} {p q s : Int → Prop} (ha : EvI S ta ρ p) (hb : EvI S tb ρ q) (hc : ∀ i j, p i → q j → C i j) (h : ∀ i j, p i → q j → s (f i j)) : EvI S (tOp (rI C fun i j => .int (f i j)) ta tb) ρ s :=
  ev_op ha hb fun x y ⟨i, ex, hi⟩ ⟨j, ey, hj⟩ => by
    subst ex ey
    intro G H v w k rx ry Q q
    exact opd_IC (hc i j hi hj) G H v w k rx ry Q fun z s G' H' g k' e r => q z s G' H' g k' ⟨_, e.symm, h i j hi hj⟩ r
/-- a comparison of ints of which something is known -/
theorem evT_C0 {f : Int → Int → Bool} {p q : Int → Prop} {P : Bool → Prop} (ha : EvI S ta ρ p) (hb : EvI S tb ρ q) (h : ∀ i j, p i → q j → P (f i j)) : Ev S (tOp (rI0 fun i j => .bl (f i j)) ta tb) ρ (fun s => ∃ b, s = .dat (.bool b) ∧ P b) :=
  ev_op ha hb fun x y ⟨i, ex, hi⟩ ⟨j, ey, hj⟩ => by
    subst ex ey
    intro G H v w k rx ry Q q
    exact opd_C0 G H v w k rx ry Q fun z s G' H' g k' e r => q z s G' H' g k' ⟨_, e.symm, h i j hi hj⟩ r
theorem ev_neg {i : Int} (ha : Ev S ta ρ (Eq (.dat (.int i)))) : Ev S (tUn (rU fun i => .int (-i)) ta) ρ (Eq (.dat (.int (-i)))) := fun σ G H k e Q q => ha σ G H k e _ fun v s G1 H1 g1 k1 p1 r1 => by
  subst p1
  cases r1
  exact ⟨i, rfl, q _ _ G1 H1 g1 k1 rfl (.int _)⟩
theorem ev_eqD {d d' : D} (ha : Ev S ta ρ (Eq (.dat d))) (hb : Ev S tb ρ (Eq (.dat d'))) (s1 : SeqAt.shaped d = true) (s2 : SeqAt.shaped d' = true) : Ev S (tOp (rEqD S.K) ta tb) ρ (Eq (.dat (.bool (PyData.eqv d d')))) :=
  ev_op' ha hb (opd_here (z := .bl (PyData.eqv d d')) fun G H v w k rx ry => ⟨.bl _, fun Q q =>
    ⟨d, d', (R.mono k.gh rx).dp (PyData.hasDict_of_canLay _ (SeqAt.canLay_of_shaped s1)), (R.mono k.gh ry).dp (PyData.hasDict_of_canLay _ (SeqAt.canLay_of_shaped s2)), s1, s2, q⟩⟩)
theorem ev_neD {d d' : D} (ha : Ev S ta ρ (Eq (.dat d))) (hb : Ev S tb ρ (Eq (.dat d'))) (s1 : SeqAt.shaped d = true) (s2 : SeqAt.shaped d' = true) : Ev S (tOp (rNeD S.K) ta tb) ρ (Eq (.dat (.bool (!PyData.eqv d d')))) :=
  ev_op' ha hb (opd_here (z := .bl (!PyData.eqv d d')) fun G H v w k rx ry => ⟨.bl _, fun Q q =>
    ⟨d, d', (R.mono k.gh rx).dp (PyData.hasDict_of_canLay _ (SeqAt.canLay_of_shaped s1)), (R.mono k.gh ry).dp (PyData.hasDict_of_canLay _ (SeqAt.canLay_of_shaped s2)), s1, s2, q⟩⟩)
def isNone : D → Bool
  | .none => true
  | _ => false
theorem R.isN {K : PySem.W.Frag} {G : Hp} {v : V} {d : D} (h : R K G v d) : decide (v = .non) = isNone d := by
  cases h <;> simp [isNone]
theorem ev_isN {d : D} (ha : Ev S ta ρ (Eq (.dat d))) : Ev S (tOp (fun x y H Q => y = .non ∧ Q (.bl (decide (x = .non))) H) ta (tC .non)) ρ (Eq (.dat (.bool (isNone d)))) :=
  ev_op' ha ev_non (opd_here (z := .bl (isNone d)) fun G H v w k rx ry => ⟨.bl _, fun Q q => by
    cases ry
    refine ⟨rfl, ?_⟩
    rw [R.isN rx]
    exact q⟩)
theorem ev_notN {d : D} (ha : Ev S ta ρ (Eq (.dat d))) : Ev S (tOp (fun x y H Q => y = .non ∧ Q (.bl (!decide (x = .non))) H) ta (tC .non)) ρ (Eq (.dat (.bool (!isNone d)))) :=
  ev_op' ha ev_non (opd_here (z := .bl (!isNone d)) fun G H v w k rx ry => ⟨.bl _, fun Q q => by
    cases ry
    refine ⟨rfl, ?_⟩
    rw [R.isN rx]
    exact q⟩)
/-! items -/
theorem RA.at {K : PySem.W.Frag} {G : Hp} {vs : List V} {ds : List D} {i : Int} {d : D} (h : RA K G vs ds) (ha : atI ds i = some d) : ∃ v, atI vs i = some v ∧ R K G v d := by
  unfold atI at ha ⊢
  rw [h.length]
  cases e : ixN ds.length i with
  | none =>
    rw [e] at ha
    cases ha
  | some j =>
    rw [e] at ha
    exact h.get ha
theorem ev_ixL {ds : List D} {i : Int} {d : D} (ha : EvL S ta ρ ds) (hb : Ev S tb ρ (Eq (.dat (.int i)))) (hd : atI ds i = some d) : Ev S (tOp (rIxL S.K) ta tb) ρ (Eq (.dat d)) := fun σ G H k e Q q =>
  ha σ G H k e _ fun a vs G1 H1 g1 k1 st ra => hb σ G1 H1 k1 (e.grow g1) _ fun w y G2 H2 g2 k2 p2 r2 => by
    subst p2
    cases r2
    obtain ⟨v, hv, rv⟩ := ra.at hd
    exact ⟨a, vs, i, v, rfl, rfl, st G2 H2 g2, hv, q v _ G2 H2 (g1.trans k1 k2 g2) k2 rfl (rv.mono g2.gg)⟩
theorem ev_ixT {ds : List D} {i : Int} {d : D} (ha : EvU S ta ρ ds) (hb : Ev S tb ρ (Eq (.dat (.int i)))) (hd : atI ds i = some d) : Ev S (tOp (rIxT S.K) ta tb) ρ (Eq (.dat d)) := fun σ G H k e Q q =>
  ha σ G H k e _ fun a vs G1 H1 g1 k1 st ra => hb σ G1 H1 k1 (e.grow g1) _ fun w y G2 H2 g2 k2 p2 r2 => by
    subst p2
    cases r2
    obtain ⟨v, hv, rv⟩ := ra.at hd
    exact ⟨a, vs, i, v, rfl, rfl, st G2 H2 g2, hv, q v _ G2 H2 (g1.trans k1 k2 g2) k2 rfl (rv.mono g2.gg)⟩
/-- at some place within -/
theorem ev_ixLI {ds : List D} {p : Int → Prop} {P : D → Prop} (ha : EvL S ta ρ ds) (hb : EvI S tb ρ p) (hd : ∀ i, p i → ∃ d, atI ds i = some d ∧ P d) : Ev S (tOp (rIxL S.K) ta tb) ρ (fun s => ∃ d, s = .dat d ∧ P d) := fun σ G H k e Q q =>
  ha σ G H k e _ fun a vs G1 H1 g1 k1 st ra => hb σ G1 H1 k1 (e.grow g1) _ fun w y G2 H2 g2 k2 ⟨i, p2, pi⟩ r2 => by
    subst p2
    cases r2
    obtain ⟨d, hd1, hd2⟩ := hd i pi
    obtain ⟨v, hv, rv⟩ := ra.at hd1
    exact ⟨a, vs, i, v, rfl, rfl, st G2 H2 g2, hv, q v _ G2 H2 (g1.trans k1 k2 g2) k2 ⟨d, rfl, hd2⟩ (rv.mono g2.gg)⟩
/-! arguments, displays -/
theorem ea_nil : EvA S tNil ρ (Eq []) := fun σ G H k e Q q => q _ _ G H (Grow.refl k) k rfl .nil
theorem ea_consP {tr : TA} {Pa : Sl → Prop} {Pr P : List Sl → Prop} (ha : Ev S ta ρ Pa) (hr : EvA S tr ρ Pr) (hp : ∀ x xs, Pa x → Pr xs → P (x :: xs)) : EvA S (tCons ta tr) ρ P := fun σ G H k e Q q =>
  ha σ G H k e _ fun v x G1 H1 g1 k1 p1 r1 => hr σ G1 H1 k1 (e.grow g1) _ fun vs xs G2 H2 g2 k2 p2 r2 => q _ _ G2 H2 (g1.trans k1 k2 g2) k2 (hp _ _ p1 p2) (.cons (r1.mono g2.gg) r2)
theorem ea_cons {tr : TA} {x : Sl} {xs : List Sl} (ha : Ev S ta ρ (Eq x)) (hr : EvA S tr ρ (Eq xs)) : EvA S (tCons ta tr) ρ (Eq (x :: xs)) := ea_consP ha hr fun _ _ a b => a ▸ b ▸ rfl
theorem RSs.toRA {K : PySem.W.Frag} {G : Hp} : ∀ {vs : List V} {ds : List D}, RSs K G vs (ds.map Sl.dat) → RA K G vs ds
  | _, [], h => by
    cases h
    exact .nil
  | _, d :: ds, h => by
    cases h with
    | cons h1 h2 => exact .cons h1 (RSs.toRA h2)
theorem sz_ok {n : Nat} (h : n ≤ 1000000) : n ≤ sizeLine := Nat.le_trans h (by decide)
theorem ev_tup {ta : TA} {ds : List D} (h : EvA S ta ρ (Eq (ds.map Sl.dat))) (hl : ds.length ≤ 1000000) : Ev S (tTup ta) ρ (Eq (.dat (.tuple ds))) := fun σ G H k e Q q =>
  h σ G H k e _ fun vs ss G1 H1 g1 k1 p1 r1 => by
    subst p1
    have ra := r1.toRA
    refine ⟨sz_ok (by rw [ra.length]; exact hl), fun p hp => ?_⟩
    have g2 := Grow.new k1 (.tup vs) hp
    have k2 := Kn.new k1 (.tup vs) hp
    exact q _ _ _ _ (g1.trans k1 k2 g2) k2 rfl (.tup (SqT.of upd_same) (ra.mono g2.gg))
theorem ev_lst {ta : TA} {ds : List D} (h : EvA S ta ρ (Eq (ds.map Sl.dat))) (hl : ds.length ≤ 1000000) : Ev S (tLst ta) ρ (Eq (.dat (.list ds))) := fun σ G H k e Q q =>
  h σ G H k e _ fun vs ss G1 H1 g1 k1 p1 r1 => by
    subst p1
    have ra := r1.toRA
    refine ⟨sz_ok (by rw [ra.length]; exact hl), fun p hp => ?_⟩
    have g2 := Grow.new k1 (.lst vs) hp
    have k2 := Kn.new k1 (.lst vs) hp
    exact q _ _ _ _ (g1.trans k1 k2 g2) k2 rfl (.lst (SqL.of upd_same) (ra.mono g2.gg))
theorem ev_tupP {ta : TA} {p : List D → Prop} (h : EvA S ta ρ (fun ss => ∃ ds, ss = ds.map Sl.dat ∧ ds.length ≤ 1000000 ∧ p ds)) : Ev S (tTup ta) ρ (fun s => ∃ ds, s = .dat (.tuple ds) ∧ p ds) := fun σ G H k e Q q =>
  h σ G H k e _ fun vs ss G1 H1 g1 k1 ⟨ds, p1, hl, pd⟩ r1 => by
    subst p1
    have ra := r1.toRA
    refine ⟨sz_ok (by rw [ra.length]; exact hl), fun p hp => ?_⟩
    have g2 := Grow.new k1 (.tup vs) hp
    have k2 := Kn.new k1 (.tup vs) hp
    exact q _ _ _ _ (g1.trans k1 k2 g2) k2 ⟨ds, rfl, pd⟩ (.tup (SqT.of upd_same) (ra.mono g2.gg))
/-! tests -/
theorem et_test {b : Bool} (h : Ev S te ρ (Eq (.dat (.bool b)))) : EvT S (tTest te) ρ (Eq b) := fun σ G H k e Q q => h σ G H k e _ fun v s G1 H1 g1 k1 p1 r1 => by
  subst p1
  cases r1
  exact ⟨b, rfl, q b G1 H1 g1 k1 rfl⟩
theorem et_testP {P : Bool → Prop} (h : Ev S te ρ (fun s => ∃ b, s = .dat (.bool b) ∧ P b)) : EvT S (tTest te) ρ P := fun σ G H k e Q q => h σ G H k e _ fun v s G1 H1 g1 k1 ⟨b, p1, pb⟩ r1 => by
  subst p1
  cases r1
  exact ⟨b, rfl, q b G1 H1 g1 k1 pb⟩
theorem et_B {b : Bool} (h : Ev S te ρ (Eq (.dat (.bool b)))) : EvT S (tB te) ρ (Eq b) := et_test h
theorem et_and {a b : Bool} (h1 : EvT S t ρ (Eq a)) (h2 : a = true → EvT S u ρ (Eq b)) : EvT S (tAnd t u) ρ (Eq (a && b)) := fun σ G H k e Q q => h1 σ G H k e _ fun c G1 H1 g1 k1 p1 => by
  subst p1
  cases a with
  | true => exact h2 rfl σ G1 H1 k1 (e.grow g1) Q fun c G2 H2 g2 k2 p2 => q c G2 H2 (g1.trans k1 k2 g2) k2 p2
  | false => exact q false G1 H1 g1 k1 rfl
theorem et_or {a b : Bool} (h1 : EvT S t ρ (Eq a)) (h2 : a = false → EvT S u ρ (Eq b)) : EvT S (tOr t u) ρ (Eq (a || b)) := fun σ G H k e Q q => h1 σ G H k e _ fun c G1 H1 g1 k1 p1 => by
  subst p1
  cases a with
  | true => exact q true G1 H1 g1 k1 rfl
  | false => exact h2 rfl σ G1 H1 k1 (e.grow g1) Q fun c G2 H2 g2 k2 p2 => q c G2 H2 (g1.trans k1 k2 g2) k2 p2
theorem et_not {a : Bool} (h1 : EvT S t ρ (Eq a)) : EvT S (tNot t) ρ (Eq (!a)) := fun σ G H k e Q q => h1 σ G H k e _ fun c G1 H1 g1 k1 p1 => by
  subst p1
  exact q _ G1 H1 g1 k1 rfl
theorem et_is {a b : Bool} (h : EvT S t ρ (Eq a)) (e : a = b) : EvT S t ρ (Eq b) := e ▸ h
theorem ev_andV {a b : Bool} (h1 : Ev S ta ρ (Eq (.dat (.bool a)))) (h2 : a = true → Ev S tb ρ (Eq (.dat (.bool b)))) : Ev S (tAndV ta tb) ρ (Eq (.dat (.bool (a && b)))) := fun σ G H k e Q q => h1 σ G H k e _ fun c s G1 H1 g1 k1 p1 r1 => by
  subst p1
  cases r1
  refine ⟨a, rfl, ?_⟩
  cases a with
  | true => exact h2 rfl σ G1 H1 k1 (e.grow g1) Q fun v c G2 H2 g2 k2 p2 => q v c G2 H2 (g1.trans k1 k2 g2) k2 p2
  | false => exact q _ _ G1 H1 g1 k1 rfl (.bl false)
theorem ev_orV {a b : Bool} (h1 : Ev S ta ρ (Eq (.dat (.bool a)))) (h2 : a = false → Ev S tb ρ (Eq (.dat (.bool b)))) : Ev S (tOrV ta tb) ρ (Eq (.dat (.bool (a || b)))) := fun σ G H k e Q q => h1 σ G H k e _ fun c s G1 H1 g1 k1 p1 r1 => by
  subst p1
  cases r1
  refine ⟨a, rfl, ?_⟩
  cases a with
  | true => exact q _ _ G1 H1 g1 k1 rfl (.bl true)
  | false => exact h2 rfl σ G1 H1 k1 (e.grow g1) Q fun v c G2 H2 g2 k2 p2 => q v c G2 H2 (g1.trans k1 k2 g2) k2 p2
theorem ev_notV {a : Bool} (h1 : Ev S ta ρ (Eq (.dat (.bool a)))) : Ev S (tNotV ta) ρ (Eq (.dat (.bool (!a)))) := fun σ G H k e Q q => h1 σ G H k e _ fun c s G1 H1 g1 k1 p1 r1 => by
  subst p1
  cases r1
  exact ⟨a, rfl, q _ _ G1 H1 g1 k1 rfl (.bl _)⟩
theorem ev_if {b : Bool} {P : Sl → Prop} (h : EvT S t ρ (Eq b)) (h1 : b = true → Ev S ta ρ P) (h2 : b = false → Ev S tb ρ P) : Ev S (tIf t ta tb) ρ P := fun σ G H k e Q q => h σ G H k e _ fun c G1 H1 g1 k1 p1 => by
  subst p1
  cases b with
  | true => exact h1 rfl σ G1 H1 k1 (e.grow g1) Q fun v c G2 H2 g2 k2 p2 => q v c G2 H2 (g1.trans k1 k2 g2) k2 p2
  | false => exact h2 rfl σ G1 H1 k1 (e.grow g1) Q fun v c G2 H2 g2 k2 p2 => q v c G2 H2 (g1.trans k1 k2 g2) k2 p2
theorem ev_ifP {P : Sl → Prop} {p : Bool → Prop} (h : EvT S t ρ p) (h1 : p true → Ev S ta ρ P) (h2 : p false → Ev S tb ρ P) : Ev S (tIf t ta tb) ρ P := fun σ G H k e Q q => h σ G H k e _ fun c G1 H1 g1 k1 p1 => by
  cases c with
  | true => exact h1 p1 σ G1 H1 k1 (e.grow g1) Q fun v c G2 H2 g2 k2 p2 => q v c G2 H2 (g1.trans k1 k2 g2) k2 p2
  | false => exact h2 p1 σ G1 H1 k1 (e.grow g1) Q fun v c G2 H2 g2 k2 p2 => q v c G2 H2 (g1.trans k1 k2 g2) k2 p2
/-- a < b < c of ints -/
theorem ev_chain {f f' : Int → Int → Bool} {i j l : Int} (ha : Ev S ta ρ (Eq (.dat (.int i)))) (hb : Ev S tb ρ (Eq (.dat (.int j)))) (hc : f i j = true → Ev S tc ρ (Eq (.dat (.int l)))) :
    Ev S (tChain (rI0 fun i j => .bl (f i j)) (rI0 fun i j => .bl (f' i j)) ta tb tc) ρ (Eq (.dat (.bool (f i j && f' j l)))) := fun σ G H k e Q q => ha σ G H k e _ fun v x G1 H1 g1 k1 p1 r1 => hb σ G1 H1 k1 (e.grow g1) _ fun w y G2 H2 g2 k2 p2 r2 => by
  subst p1 p2
  cases r1
  cases r2
  refine ⟨i, j, rfl, rfl, f i j, rfl, ?_⟩
  cases z : f i j with
  | true =>
    rw [z] at q
    exact hc z σ G2 H2 k2 ((e.grow g1).grow g2) _ fun v3 x3 G3 H3 g3 k3 p3 r3 => by
      subst p3
      cases r3
      exact ⟨j, l, rfl, rfl, q _ _ G3 H3 ((g1.trans k1 k2 g2).trans k2 k3 g3) k3 rfl (.bl _)⟩
  | false =>
    rw [z] at q
    exact q _ _ G2 H2 (g1.trans k1 k2 g2) k2 rfl (.bl false)
/-! built-ins by their values -/
def CbD (S : Cf) (r : List V → Hp → VK → Prop) (ss : List Sl) (P : Sl → Prop) : Prop := ∀ (G H : Hp) (vs : List V), Kn S.fx G H → RSs S.K G vs ss → ∀ Q : VK,
  (∀ z s G' H', Grow S.fx G H G' H' → Kn S.fx G' H' → P s → RS S.K G' z s → Q z H') → r vs H Q
theorem ev_cbP {r : List V → Hp → VK → Prop} {ta : TA} {Pa : List Sl → Prop} {P : Sl → Prop} (ha : EvA S ta ρ Pa) (ho : ∀ ss, Pa ss → CbD S r ss P) : Ev S (tCB r ta) ρ P := fun σ G H k e Q q =>
  ha σ G H k e _ fun vs ss G1 H1 g1 k1 p1 r1 => ho ss p1 G1 H1 vs k1 r1 Q fun z s G2 H2 g2 k2 p2 r2 => q z s G2 H2 (g1.trans k1 k2 g2) k2 p2 r2
theorem ev_cb {r : List V → Hp → VK → Prop} {ta : TA} {ss : List Sl} {P : Sl → Prop} (ha : EvA S ta ρ (Eq ss)) (ho : CbD S r ss P) : Ev S (tCB r ta) ρ P := ev_cbP ha fun _ e => e ▸ ho
theorem cb_gcd {i j : Int} : CbD S rGcd [.dat (.int i), .dat (.int j)] (Eq (.dat (.int ((Nat.gcd i.natAbs j.natAbs : Nat) : Int)))) := fun G H vs k r Q q => by
  cases r with
  | cons r1 r =>
    cases r with
    | cons r2 r =>
      cases r
      cases r1
      cases r2
      exact ⟨i, j, rfl, q _ _ G H (Grow.refl k) k rfl (.int _)⟩
theorem cb_int {i : Int} : CbD S (fun xs H Q => (∃ i, xs = [.int i] ∧ Q (.int i) H) ∨ ∃ k, xs = [.bl k] ∧ Q (.int (if k then 1 else 0)) H) [.dat (.int i)] (Eq (.dat (.int i))) := fun G H vs k r Q q => by
  cases r with
  | cons r1 r =>
    cases r
    cases r1
    exact .inl ⟨i, rfl, q _ _ G H (Grow.refl k) k rfl (.int _)⟩
theorem ev_lenL {ds : List D} (ha : EvL S ta ρ ds) : Ev S (tCB (fun xs H Q => ∃ p ys, xs = [.ref p] ∧ (SqL S.K H p ys ∨ SqT S.K H p ys) ∧ Q (.int ys.length) H) (tCons ta tNil)) ρ (Eq (.dat (.int (ds.length : Nat)))) := fun σ G H k e Q q =>
  ha σ G H k e _ fun a vs G1 H1 g1 k1 st ra => ⟨a, vs, rfl, .inl (st _ _ (Grow.refl k1)), by rw [ra.length]; exact q _ _ G1 H1 g1 k1 rfl (.int _)⟩
theorem ev_lenU {ds : List D} (ha : EvU S ta ρ ds) : Ev S (tCB (fun xs H Q => ∃ p ys, xs = [.ref p] ∧ (SqL S.K H p ys ∨ SqT S.K H p ys) ∧ Q (.int ys.length) H) (tCons ta tNil)) ρ (Eq (.dat (.int (ds.length : Nat)))) := fun σ G H k e Q q =>
  ha σ G H k e _ fun a vs G1 H1 g1 k1 st ra => ⟨a, vs, rfl, .inr (st _ _ (Grow.refl k1)), by rw [ra.length]; exact q _ _ G1 H1 g1 k1 rfl (.int _)⟩
/-- tuple(xs), list(xs) -/
theorem ev_tupL {ds : List D} (ha : EvL S ta ρ ds) : Ev S (tCB (fun xs H Q => ∃ p ys, xs = [.ref p] ∧ ((SqL S.K H p ys ∧ ∀ l, H l = none → Q (.ref l) (upd H l (.tup ys))) ∨ (SqT S.K H p ys ∧ Q (.ref p) H))) (tCons ta tNil)) ρ (Eq (.dat (.tuple ds))) := fun σ G H k e Q q =>
  ha σ G H k e _ fun a vs G1 H1 g1 k1 st ra => ⟨a, vs, rfl, .inl ⟨st _ _ (Grow.refl k1), fun l hl => by
    have g2 := Grow.new k1 (.tup vs) hl
    have k2 := Kn.new k1 (.tup vs) hl
    exact q _ _ _ _ (g1.trans k1 k2 g2) k2 rfl (.tup (SqT.of upd_same) (ra.mono g2.gg))⟩⟩
theorem ev_tupT {ds : List D} (ha : Ev S ta ρ (Eq (.dat (.tuple ds)))) : Ev S (tCB (fun xs H Q => ∃ p ys, xs = [.ref p] ∧ ((SqL S.K H p ys ∧ ∀ l, H l = none → Q (.ref l) (upd H l (.tup ys))) ∨ (SqT S.K H p ys ∧ Q (.ref p) H))) (tCons ta tNil)) ρ (Eq (.dat (.tuple ds))) := fun σ G H k e Q q =>
  ha σ G H k e _ fun v s G1 H1 g1 k1 p1 r1 => by
    subst p1
    have r0 := r1
    cases r1 with
    | tup hs ra => exact ⟨_, _, rfl, .inr ⟨sameT k1.gh hs, q _ _ G1 H1 g1 k1 rfl r0⟩⟩
theorem ev_listL {ds : List D} (ha : EvL S ta ρ ds) : Ev S (tCB (fun xs H Q => ∃ p ys, xs = [.ref p] ∧ (SqL S.K H p ys ∨ SqT S.K H p ys) ∧ ∀ l, H l = none → Q (.ref l) (upd H l (.lst ys))) (tCons ta tNil)) ρ (Eq (.dat (.list ds))) := fun σ G H k e Q q =>
  ha σ G H k e _ fun a vs G1 H1 g1 k1 st ra => ⟨a, vs, rfl, .inl (st _ _ (Grow.refl k1)), fun l hl => by
    have g2 := Grow.new k1 (.lst vs) hl
    have k2 := Kn.new k1 (.lst vs) hl
    exact q _ _ _ _ (g1.trans k1 k2 g2) k2 rfl (.lst (SqL.of upd_same) (ra.mono g2.gg))⟩
theorem ev_all {bs : List Bool} (ha : Ev S ta ρ (Eq (.dat (.list (bs.map PyData.bool))))) : Ev S (tCB (rAll S.K) (tCons ta tNil)) ρ (Eq (.dat (.bool (bs.all id)))) := fun σ G H k e Q q =>
  el_of ha σ G H k e _ fun a vs G1 H1 g1 k1 st ra => ⟨a, bs, rfl, by rw [← ra.bools]; exact st _ _ (Grow.refl k1), q _ _ G1 H1 g1 k1 rfl (.bl _)⟩
theorem ev_sum {ns : List Int} (ha : Ev S ta ρ (Eq (.dat (.list (ns.map PyData.int))))) : Ev S (tCB (rSum S.K) (tCons ta tNil)) ρ (Eq (.dat (.int ns.sum))) := fun σ G H k e Q q =>
  el_of ha σ G H k e _ fun a vs G1 H1 g1 k1 st ra => ⟨a, ns, rfl, by rw [← ra.ints]; exact st _ _ (Grow.refl k1), q _ _ G1 H1 g1 k1 rfl (.int _)⟩
/-! isinstance -/
def tyD : D → String
  | .none => "NoneType"
  | .bool _ => "bool"
  | .int _ => "int"
  | .str _ => "str"
  | .list _ => "list"
  | .tuple _ => "tuple"
  | .dict _ => "dict"
theorem R.ty {K : PySem.W.Frag} {G : Hp} {v : V} {d : D} (h : R K G v d) : TyX K G v (.type (tyD d)) := by
  cases h with
  | non => exact .base .non
  | bl b => exact .base (.bl b)
  | int i => exact .base (.int i)
  | str x => exact .base (.str x)
  | lst hs _ =>
    rcases hs with (h | ⟨o, h⟩) | ⟨o, its, n, hk, hc, _⟩
    · exact .base (.lst h)
    · exact .base (.frz h)
    · exact .kList hk hc
  | tup hs _ =>
    rcases hs with (h | ⟨o, h⟩) | ⟨o, its, n, hk, hc, _⟩
    · exact .base (.tup h)
    · exact .fTuple h
    · exact .kTuple hk hc
  | dic hg _ => exact .base (.dK hg)
/-- isinstance(x, T) -/
theorem ev_isi {d : D} {T : String} {b : Bool} (ha : Ev S ta ρ (Eq (.dat d))) (h : kitB (tyD d) T = some b) : Ev S (tCB (rIsi S.K) (tCons ta (tCons (tC (.ty T)) tNil))) ρ (Eq (.dat (.bool b))) := fun σ G H k e Q q =>
  ha σ G H k e _ fun v s G1 H1 g1 k1 p1 r1 => by
    subst p1
    exact ⟨v, .ty T, .type (tyD d), .type T, b, rfl, .ty T, (R.mono k1.gh r1).ty, kit_ty h, q _ _ G1 H1 g1 k1 rfl (.bl b)⟩
/-- isinstance(x, (T, U)) -/
theorem ev_isi2 {d : D} {T U : String} {b c : Bool} (ha : Ev S ta ρ (Eq (.dat d))) (h1 : kitB (tyD d) T = some b) (h2 : kitB (tyD d) U = some c) :
    Ev S (tCB (rIsiT S.K) (tCons ta (tCons (tTup (tCons (tC (.ty T)) (tCons (tC (.ty U)) tNil))) tNil))) ρ (Eq (.dat (.bool (b || c)))) := fun σ G H k e Q q =>
  ha σ G H k e _ fun v s G1 H1 g1 k1 p1 r1 => by
    subst p1
    refine ⟨by show 2 ≤ sizeLine; decide, fun p hp => ?_⟩
    have e2 : Same H1 (upd H1 p (.tup [.ty T, .ty U])) := same_new hp
    refine ⟨v, p, [.ty T, .ty U], .type (tyD d), [.type T, .type U], b || c, rfl, upd_same, .cons (.ty T) (.cons (.ty U) .nil), (R.mono (k1.gh.trans e2) r1).ty, ?_, ?_⟩
    · exact kitAny_cons (kit_ty h1) (fun hb => kitAny_cons (b := c) (r := b || c) (kit_ty h2) (fun hc => by rw [hb, hc] <;> exact kitAny_nil) fun hc => by rw [hb, hc] <;> rfl) fun hb => by rw [hb] <;> rfl
    · have g2 : Grow S.fx G1 H1 G1 (upd H1 p (.tup [.ty T, .ty U])) := Grow.same k1 e2
      have k2 := k1.same e2
      exact q _ _ _ _ (g1.trans k1 k2 g2) k2 rfl (.bl _)
end
/-! ### calls of defs -/
inductive Re where
  | ok (s : Sl)
  | ex (C : Addr) (d : D)
/-- the promise of a def: i names the arguments; post i tells the way out -/
def spI (K : PySem.W.Frag) (fx : Fx) {ι : Type} (args : ι → List Sl) (pre : ι → Prop) (post : ι → Re → Prop) : Sp := fun vs H Q E => ∃ (i : ι) (G : Hp), pre i ∧ Kn fx G H ∧ RSs K G vs (args i) ∧
  (∀ v s G' H', Grow fx G H G' H' → Kn fx G' H' → RS K G' v s → post i (.ok s) → Q v H') ∧
  (∀ C d dd v G' H', Grow fx G H G' H' → Kn fx G' H' → H' dd = some (.xd [("value", v)]) → R K G' v d → post i (.ex C d) → E (.ref C) (some dd) H')
section
variable {S : Cf} {ρ : Rho} {ι : Type} {args : ι → List Sl} {pre : ι → Prop} {post : ι → Re → Prop} {ta : TA} {E : XK}
/-- f(..), f writes nothing, nothing is raised -/
theorem ev_call {P : Sl → Prop} (i : ι) (ha : EvA S ta ρ (Eq (args i))) (hp : pre i) (ho : ∀ s, post i (.ok s) → P s) (hx : ∀ C d, ¬ post i (.ex C d)) : Ev S (tCall (spI S.K fx0 args pre post) [] E ta) ρ P := fun σ G H k e Q q =>
  ha σ G H k e _ fun vs ss G1 H1 g1 k1 p1 r1 => by
    subst p1
    rw [List.append_nil]
    refine ⟨i, G1, hp, k1.low, r1, fun v s G2 H2 g2 k2 r2 po => ?_, fun C d dd v G2 H2 _ _ _ _ po => absurd po (hx C d)⟩
    have k2' := k1.lift g2
    exact q v s G2 H2 (g1.trans k1 k2' g2.lift) k2' (ho s po) r2
/-- .. what it gives is told -/
theorem ev_callE {f : ι → Sl} (i : ι) (ha : EvA S ta ρ (Eq (args i))) (hp : pre i) : Ev S (tCall (spI S.K fx0 args pre (fun i => Eq (.ok (f i)))) [] E ta) ρ (Eq (f i)) :=
  ev_call i ha hp (fun s h => Re.ok.inj h) (fun C d h => by cases h)
/-- f(..), f may write where all may -/
theorem ev_callF {P : Sl → Prop} {Pa : List Sl → Prop} (ha : EvA S ta ρ Pa) (h : ∀ ss, Pa ss → ∃ i, ss = args i ∧ pre i ∧ (∀ s, post i (.ok s) → P s) ∧ (∀ C d, ¬ post i (.ex C d))) : Ev S (tCall (spI S.K S.fx args pre post) [] E ta) ρ P := fun σ G H k e Q q =>
  ha σ G H k e _ fun vs ss G1 H1 g1 k1 p1 r1 => by
    obtain ⟨i, e1, hp, ho, hx⟩ := h ss p1
    subst e1
    rw [List.append_nil]
    exact ⟨i, G1, hp, k1, r1, fun v s G2 H2 g2 k2 r2 po => q v s G2 H2 (g1.trans k1 k2 g2) k2 (ho s po) r2, fun C d dd v G2 H2 _ _ _ _ po => absurd po (hx C d)⟩
/-- f(..), f writes nothing, the arguments not told -/
theorem ev_callP {P : Sl → Prop} {Pa : List Sl → Prop} (ha : EvA S ta ρ Pa) (h : ∀ ss, Pa ss → ∃ i, ss = args i ∧ pre i ∧ (∀ s, post i (.ok s) → P s) ∧ (∀ C d, ¬ post i (.ex C d))) : Ev S (tCall (spI S.K fx0 args pre post) [] E ta) ρ P := fun σ G H k e Q q =>
  ha σ G H k e _ fun vs ss G1 H1 g1 k1 p1 r1 => by
    obtain ⟨i, e1, hp, ho, hx⟩ := h ss p1
    subst e1
    rw [List.append_nil]
    refine ⟨i, G1, hp, k1.low, r1, fun v s G2 H2 g2 k2 r2 po => ?_, fun C d dd v G2 H2 _ _ _ _ po => absurd po (hx C d)⟩
    have k2' := k1.lift g2
    exact q v s G2 H2 (g1.trans k1 k2' g2.lift) k2' (ho s po) r2
end
end Dl

set_option Elab.async false
set_option linter.all false
set_option maxRecDepth 100000
set_option maxHeartbeats 4000000
/-! Dls: what statements and whole bodies do, as data. -/
namespace Dl
open PySem PySem.Spec PyProof.Rows L2
inductive Oc where
  | nx (ρ : Rho)
  | rt (s : Sl)
  | bk (ρ : Rho)
  | ct (ρ : Rho)
  | ex (C : Addr) (d : D)
structure OkS (S : Cf) (G H : Hp) : Prop where
  kn : Kn S.fx G H
  k0 : Kn S.fx S.G0 S.B
  gr : Grow S.fx S.G0 S.B G H
structure Fin (S : Cf) (P : Oc → Prop) (De : Ends) (G : Hp) : Prop where
  nx : ∀ (σ : L2.St) (G' H' : Hp) (ρ : Rho), OkS S G' H' → Same G G' → Env S G' H' σ ρ → P (.nx ρ) → De.nx σ H'
  bk : ∀ (σ : L2.St) (G' H' : Hp) (ρ : Rho), OkS S G' H' → Same G G' → Env S G' H' σ ρ → P (.bk ρ) → De.bk σ H'
  ct : ∀ (σ : L2.St) (G' H' : Hp) (ρ : Rho), OkS S G' H' → Same G G' → Env S G' H' σ ρ → P (.ct ρ) → De.ct σ H'
  rt : ∀ (v : V) (s : Sl) (G' H' : Hp), OkS S G' H' → RS S.K G' v s → P (.rt s) → De.rt v H'
  ex : ∀ (C : Addr) (d : D) (dd : Addr) (v : V) (G' H' : Hp), OkS S G' H' → H' dd = some (.xd [("value", v)]) → R S.K G' v d → P (.ex C d) → S.E (.ref C) (some dd) H'
def Xc (S : Cf) (ts : TS) (ρ : Rho) (P : Oc → Prop) : Prop := ∀ (σ : L2.St) (G H : Hp) (De : Ends), OkS S G H → Env S G H σ ρ → Fin S P De G → ts De σ H
/-- what is asked behind the first of two -/
def SeqP (S : Cf) (u : TS) (P : Oc → Prop) : Oc → Prop
  | .nx ρ => Xc S u ρ P
  | .rt s => P (.rt s)
  | .bk ρ => P (.bk ρ)
  | .ct ρ => P (.ct ρ)
  | .ex C d => P (.ex C d)
/-- .. behind a turn -/
def LoopP (N : Rho → Prop) (P : Oc → Prop) : Oc → Prop
  | .nx ρ => N ρ
  | .ct ρ => N ρ
  | .bk ρ => P (.nx ρ)
  | .rt s => P (.rt s)
  | .ex C d => P (.ex C d)
/-- .. behind a body -/
def RetP (post : Re → Prop) : Oc → Prop
  | .nx _ => post (.ok (.dat .none))
  | .rt s => post (.ok s)
  | .ex C d => post (.ex C d)
  | _ => False
section
variable {S : Cf} {G H G1 H1 : Hp} {ρ : Rho} {P : Oc → Prop} {t u : TS} {te ta tb : TE} {tt : TT} {g : TG}
theorem OkS.grow (o : OkS S G H) (g : Grow S.fx G H G1 H1) (k : Kn S.fx G1 H1) : OkS S G1 H1 := ⟨k, o.k0, o.gr.trans o.kn k g⟩
theorem Fin.same {De : Ends} (f : Fin S P De G) (e : Same G G1) : Fin S P De G1 :=
  ⟨fun σ G' H' ρ o s => f.nx σ G' H' ρ o (e.trans s), fun σ G' H' ρ o s => f.bk σ G' H' ρ o (e.trans s), fun σ G' H' ρ o s => f.ct σ G' H' ρ o (e.trans s), f.rt, f.ex⟩
theorem Xc.imp {P' : Oc → Prop} (h : Xc S t ρ P) (i : ∀ o, P o → P' o) : Xc S t ρ P' := fun σ G H De o e f => h σ G H De o e
  ⟨fun σ G' H' ρ o s e p => f.nx σ G' H' ρ o s e (i _ p), fun σ G' H' ρ o s e p => f.bk σ G' H' ρ o s e (i _ p), fun σ G' H' ρ o s e p => f.ct σ G' H' ρ o s e (i _ p), fun v s G' H' o r p => f.rt v s G' H' o r (i _ p),
    fun C d dd v G' H' o h r p => f.ex C d dd v G' H' o h r (i _ p)⟩
theorem xc_seq (h : Xc S t ρ (SeqP S u P)) : Xc S (tSeq t u) ρ P := fun σ G H De o e f => h σ G H { De with nx := u De } o e
  ⟨fun σ' G' H' ρ' o' s e' p => p σ' G' H' De o' e' (f.same s), f.bk, f.ct, f.rt, f.ex⟩
theorem xc_next (h : P (.nx ρ)) : Xc S tNext ρ P := fun σ G H De o e f => f.nx σ G H ρ o (Same.refl G) e h
theorem xc_break (h : P (.bk ρ)) : Xc S tBreak ρ P := fun σ G H De o e f => f.bk σ G H ρ o (Same.refl G) e h
theorem xc_cont (h : P (.ct ρ)) : Xc S tCont ρ P := fun σ G H De o e f => f.ct σ G H ρ o (Same.refl G) e h
theorem xc_never {t : TS} (h : False) : Xc S t ρ P := h.elim
theorem xc_asgP {i : Nat} {p : Sl → Prop} (h : Ev S te ρ p) (hs : ∀ s, p s → P (.nx (ρ.set i s))) : Xc S (tAsg te (gName i)) ρ P := fun σ G H De o e f =>
  h σ G H o.kn e _ fun v s G' H' g k p r => f.nx _ G' H' _ (o.grow g k) g.gg ((e.grow g).set i r) (hs s p)
theorem xc_asg {i : Nat} {s : Sl} (h : Ev S te ρ (Eq s)) (hs : P (.nx (ρ.set i s))) : Xc S (tAsg te (gName i)) ρ P := xc_asgP h fun _ e => e ▸ hs
theorem xc_retP {p : Sl → Prop} (h : Ev S te ρ p) (hs : ∀ s, p s → P (.rt s)) : Xc S (tRet te) ρ P := fun σ G H De o e f => h σ G H o.kn e _ fun v s G' H' g k p r => f.rt v s G' H' (o.grow g k) r (hs s p)
theorem xc_ret {s : Sl} (h : Ev S te ρ (Eq s)) (hs : P (.rt s)) : Xc S (tRet te) ρ P := xc_retP h fun _ e => e ▸ hs
theorem xc_retN (h : P (.rt (.dat .none))) : Xc S tRetN ρ P := fun σ G H De o e f => f.rt .non (.dat .none) G H o .non h
theorem xc_ifP {p : Bool → Prop} (h : EvT S tt ρ p) (h1 : p true → Xc S t ρ P) (h2 : p false → Xc S u ρ P) : Xc S (tIfS tt t u) ρ P := fun σ G H De o e f => h σ G H o.kn e _ fun b G' H' g k p => by
  cases b with
  | true => exact h1 p σ G' H' De (o.grow g k) (e.grow g) (f.same g.gg)
  | false => exact h2 p σ G' H' De (o.grow g k) (e.grow g) (f.same g.gg)
theorem xc_if {b : Bool} (h : EvT S tt ρ (Eq b)) (h1 : b = true → Xc S t ρ P) (h2 : b = false → Xc S u ρ P) : Xc S (tIfS tt t u) ρ P := xc_ifP h h1 h2
theorem xc_dropP {p : Sl → Prop} (h : Ev S te ρ p) (hs : ∀ s, p s → P (.nx ρ)) : Xc S (tDrop te) ρ P := fun σ G H De o e f => h σ G H o.kn e _ fun v s G' H' g k p r => f.nx _ G' H' _ (o.grow g k) g.gg (e.grow g) (hs s p)
/-- x op= e of ints -/
theorem xc_aug {i : Nat} {f : Int → Int → Int} {a b : Int} (hx : ρ[i]? = some (.dat (.int a))) (h : Ev S te ρ (Eq (.dat (.int b)))) (hs : P (.nx (ρ.set i (.dat (.int (f a b)))))) : Xc S (tAug i te (ipI f)) ρ P := fun σ G H De o e fi => by
  obtain ⟨v, h1, v', e', r⟩ := e.get hx
  cases e'
  refine ⟨v, h1, h σ G H o.kn e _ fun w s G' H' g k p r' => ?_⟩
  subst p
  cases r
  cases r'
  exact ⟨a, b, rfl, rfl, fi.nx _ G' H' _ (o.grow g k) g.gg ((e.grow g).set i (s := .dat (.int (f a b))) (.int _)) hs⟩
/-- a, b = e1, e2 -/
theorem xc_par {i j : Nat} {ta : TA} {x y : Sl} (h : EvA S ta ρ (Eq [x, y])) (hs : P (.nx ((ρ.set i x).set j y))) : Xc S (tPar i j ta) ρ P := fun σ G H De o e f => h σ G H o.kn e _ fun vs ss G' H' g k p r => by
  subst p
  cases r with
  | cons r1 r =>
    cases r with
    | cons r2 r =>
      cases r
      exact ⟨_, _, rfl, f.nx _ G' H' _ (o.grow g k) g.gg (((e.grow g).set i r1).set j r2) hs⟩
/-- f(..) as a statement, what is raised leaves -/
theorem xc_callX {ι : Type} {args : ι → List Sl} {pre : ι → Prop} {post : ι → Re → Prop} {ta : TA} (i : ι) (ha : EvA S ta ρ (Eq (args i))) (hp : pre i) (ho : ∀ s, post i (.ok s) → P (.nx ρ)) (hx : ∀ C d, post i (.ex C d) → P (.ex C d)) :
    Xc S (tDrop (tCall (spI S.K fx0 args pre post) [] S.E ta)) ρ P := fun σ G H De o e f => ha σ G H o.kn e _ fun vs ss G1 H1 g1 k1 p1 r1 => by
  subst p1
  rw [List.append_nil]
  have o1 := o.grow g1 k1
  refine ⟨i, G1, hp, k1.low, r1, fun v s G2 H2 g2 k2 r2 po => ?_, fun C d dd v G2 H2 g2 k2 hd r2 po => ?_⟩
  · exact f.nx _ G2 H2 _ (o1.grow g2.lift (k1.lift g2)) (g1.gg.trans g2.gg) ((e.grow g1).grow g2.lift) (ho s po)
  · exact f.ex C d dd v G2 H2 (o1.grow g2.lift (k1.lift g2)) hd r2 (hx C d po)
/-- return f(..), what is raised leaves -/
theorem xc_retX {ι : Type} {args : ι → List Sl} {pre : ι → Prop} {post : ι → Re → Prop} {ta : TA} (i : ι) (ha : EvA S ta ρ (Eq (args i))) (hp : pre i) (ho : ∀ s, post i (.ok s) → P (.rt s)) (hx : ∀ C d, post i (.ex C d) → P (.ex C d)) :
    Xc S (tRet (tCall (spI S.K fx0 args pre post) [] S.E ta)) ρ P := fun σ G H De o e f => ha σ G H o.kn e _ fun vs ss G1 H1 g1 k1 p1 r1 => by
  subst p1
  rw [List.append_nil]
  have o1 := o.grow g1 k1
  refine ⟨i, G1, hp, k1.low, r1, fun v s G2 H2 g2 k2 r2 po => ?_, fun C d dd v G2 H2 g2 k2 hd r2 po => ?_⟩
  · exact f.rt v s G2 H2 (o1.grow g2.lift (k1.lift g2)) r2 (ho s po)
  · exact f.ex C d dd v G2 H2 (o1.grow g2.lift (k1.lift g2)) hd r2 (hx C d po)
end
/-! ### a list that was just made: ours -/
def EvF (S : Cf) (te : TE) (ρ : Rho) (P : List D → Prop) : Prop := ∀ (σ : L2.St) (G H : Hp), Kn S.fx G H → Env S G H σ ρ → ∀ Q : VK,
  (∀ p vs ds G' H', Grow S.fx G H G' H' → Kn S.fx G' H' → H p = none → G' p = none → H' p = some (.lst vs) → RA S.K G' vs ds → P ds → Q (.ref p) H') → te σ H Q
section
variable {S : Cf} {G H G1 H1 : Hp} {ρ : Rho} {P : Oc → Prop} {t u : TS} {te ta tb : TE} {tt : TT} {g : TG}
theorem EvF.imp {p q : List D → Prop} (h : EvF S te ρ p) (i : ∀ ds, p ds → q ds) : EvF S te ρ q := fun σ G H k e Q f => h σ G H k e Q fun p vs ds G' H' g k' n1 n2 hp r pd => f p vs ds G' H' g k' n1 n2 hp r (i ds pd)
/-- an object of ours is known from now on -/
theorem grow_know (k : Kn S.fx G H) {a : Addr} {u : HO} (g : Grow S.fx G H G1 H1) (k1 : Kn S.fx G1 H1) (hn : H a = none) (n1 : G1 a = none) (ha : H1 a = some u) : Grow S.fx G H (upd G1 a u) H1 ∧ Kn S.fx (upd G1 a u) H1 := by
  have va : ¬ S.fx.vol a := k.fresh hn
  have sh : Same (upd G1 a u) H1 := fun b o hb => by
    by_cases q : b = a
    · subst q
      rw [upd_same] at hb
      rw [ha]
      exact hb
    · rw [upd_ne q] at hb
      exact k1.gh b o hb
  refine ⟨⟨g.gg.trans (same_new n1), sh, g.hh, fun b hb n => ?_⟩, sh, k1.inv, fun b vb => ?_⟩
  · have q : b ≠ a := fun q => hb (by rw [q]; exact hn)
    rw [upd_ne q]
    exact g.nn b hb n
  · have q : b ≠ a := fun q => va (q ▸ vb)
    rw [upd_ne q]
    exact k1.vn b vb
theorem EvF.ev {p : List D → Prop} (h : EvF S te ρ p) : Ev S te ρ (fun s => ∃ ds, s = .dat (.list ds) ∧ p ds) := fun σ G H k e Q f => h σ G H k e Q fun a vs ds G' H' g k' n1 n2 hp r pd => by
  obtain ⟨g2, k2⟩ := grow_know k g k' n1 n2 hp
  exact f _ _ _ H' g2 k2 ⟨ds, rfl, pd⟩ (.lst (SqL.of upd_same) (r.mono (same_new n2)))
theorem EvF.evE {ds : List D} (h : EvF S te ρ (Eq ds)) : Ev S te ρ (Eq (.dat (.list ds))) := h.ev.imp fun s ⟨ds', e, e'⟩ => e' ▸ e.symm
theorem ef_nil : EvF S (tLst tNil) ρ (Eq []) := fun σ G H k e Q q => ⟨Nat.zero_le _, fun p hp => q p [] [] G _ (Grow.same k (same_new hp)) (k.same (same_new hp)) hp (k.freeG hp) upd_same .nil rfl⟩
theorem ef_lst {ta : TA} {ds : List D} (h : EvA S ta ρ (Eq (ds.map Sl.dat))) (hl : ds.length ≤ 1000000) : EvF S (tLst ta) ρ (Eq ds) := fun σ G H k e Q q =>
  h σ G H k e _ fun vs ss G1 H1 g1 k1 p1 r1 => by
    subst p1
    have ra := r1.toRA
    refine ⟨sz_ok (by rw [ra.length]; exact hl), fun p hp => ?_⟩
    have hn : H p = none := by
      cases z : H p with
      | none => rfl
      | some o =>
        by_cases v : S.fx.vol p
        · exact absurd hp (S.fx.there k1.inv v)
        · rw [g1.hh p o v z] at hp
          cases hp
    exact q p vs ds G1 _ (g1.trans k1 (k1.same (same_new hp)) (Grow.same k1 (same_new hp))) (k1.same (same_new hp)) hn (k1.freeG hp) upd_same ra rfl
/-- fresh behind is fresh ahead -/
theorem fresh_of (g : Grow S.fx G H G1 H1) (k1 : Kn S.fx G1 H1) {p : Addr} (hp : H1 p = none) : H p = none := by
  cases z : H p with
  | none => rfl
  | some o =>
    by_cases v : S.fx.vol p
    · exact absurd hp (S.fx.there k1.inv v)
    · rw [g.hh p o v z] at hp
      cases hp
theorem OkS.freshB (o : OkS S G H) {p : Addr} (hp : H p = none) : S.B p = none := fresh_of o.gr o.kn hp
/-- x = a list just made -/
theorem xc_asgF {i : Nat} {p : List D → Prop} (h : EvF S te ρ p) (hs : ∀ a ds, p ds → P (.nx (ρ.set i (.own a (.lst ds))))) : Xc S (tAsg te (gName i)) ρ P := fun σ G H De o e f =>
  h σ G H o.kn e _ fun a vs ds G' H' g k n1 n2 hp r pd => by
    have o1 := o.grow g k
    refine f.nx _ G' H' _ o1 g.gg ((e.grow g).put i (some (.ref a)) (.own a (.lst ds)) ⟨rfl, n2, o.freshB n1, o.kn.fresh n1, _, hp, r⟩ fun b m z j m' nj hj => ?_) (hs a ds pd)
    cases z
    obtain ⟨w, _, _, _, _, _, u, hu, _⟩ := e.get hj
    rw [n1] at hu
    cases hu
/-- x, a list of ours, is data from now on -/
theorem xc_freeze {i : Nat} {a : Addr} {ds : List D} (h : ρ[i]? = some (.own a (.lst ds))) (hs : Xc S t (ρ.set i (.dat (.list ds))) P) : Xc S t ρ P := fun σ G H De o e f => by
  obtain ⟨u, ha, kn, sg, ba, ga, rr, e2⟩ := e.freeze o.kn h
  refine hs σ _ H De ⟨kn, o.k0, ⟨o.gr.gg.trans sg, kn.gh, o.gr.hh, fun b hb n => ?_⟩⟩ e2 (f.same sg)
  have q : b ≠ a := fun q => hb (by rw [q]; exact ba)
  rw [upd_ne q]
  exact o.gr.nn b hb n
theorem xc_forget (i : Nat) (hs : Xc S t (ρ.set i .no) P) : Xc S t ρ P := fun σ G H De o e f => hs σ G H De o (e.forget i) f
/-- an object of ours is written -/
theorem own_write {σ : L2.St} (o : OkS S G H) (e : Env S G H σ ρ) {i : Nat} {a : Addr} {m m' : Mo} {u' : HO} (h : ρ[i]? = some (.own a m)) (r : MoOk S.K G u' m') :
    OkS S G (upd H a u') ∧ Env S G (upd H a u') σ (ρ.set i (.own a m')) := by
  obtain ⟨v, h1, e1, ga, ba, va, u, ha, ru⟩ := e.get h
  cases Option.some.inj e1
  have nf : ¬ Fixd u := ru.noFix
  have inv' : S.fx.inv (upd H a u') := S.fx.ext (fun b w hb hw => by
    have q : b ≠ a := fun q => by
      rcases hb with hb | hb
      · exact va (q ▸ hb)
      · rw [q, ha] at hw
        cases hw
        exact nf hb
    rw [upd_ne q]
    exact hw) o.kn.inv
  have gh : Same G (upd H a u') := fun b w hb => by
    have q : b ≠ a := fun q => by
      rw [q, ga] at hb
      cases hb
    rw [upd_ne q]
    exact o.kn.gh b w hb
  refine ⟨⟨⟨gh, inv', o.kn.vn⟩, o.k0, ⟨o.gr.gg, gh, fun b w vb hb => ?_, o.gr.nn⟩⟩, ?_⟩
  · have q : b ≠ a := fun q => by
      rw [q, ba] at hb
      cases hb
    rw [upd_ne q]
    exact o.gr.hh b w vb hb
  · refine ⟨by simp [e.len], fun j s hj => ?_, fun j l b m1 m2 hj hl => ?_⟩
    · rcases set_get hj with ⟨ej, es⟩ | ⟨nj, hj⟩
      · subst ej es
        exact ⟨_, h1, rfl, ga, ba, va, u', upd_same, r⟩
      · obtain ⟨w, q1, q2⟩ := e.at_ j s hj
        refine ⟨w, q1, ?_⟩
        cases s with
        | no => exact True.intro
        | dat d => exact q2
        | raw x => exact q2
        | own b mb =>
          obtain ⟨y1, y2, y3, y4, ub, y5, y6⟩ := q2
          have q : b ≠ a := fun q => nj (e.dis j i a mb m (q ▸ hj) h)
          exact ⟨y1, y2, y3, y4, ub, by rw [upd_ne q]; exact y5, y6⟩
    · rcases set_get hj with ⟨ej, es⟩ | ⟨nj, hj⟩
      · rcases set_get hl with ⟨el, _⟩ | ⟨nl, hl⟩
        · rw [ej, el]
        · cases es
          exact absurd (e.dis l i a m2 m hl h) nl
      · rcases set_get hl with ⟨el, es⟩ | ⟨nl, hl⟩
        · cases es
          exact absurd (e.dis j i a m1 m hj h) nj
        · exact e.dis j l b m1 m2 hj hl
/-- xs.append(e), xs ours -/
theorem xc_append {i : Nat} {a : Addr} {ds : List D} {p : D → Prop} (hx : ρ[i]? = some (.own a (.lst ds))) (h : Ev S te ρ (fun s => ∃ d, s = .dat d ∧ p d)) (hl : ds.length < 1000000) (hs : ∀ d, p d → P (.nx (ρ.set i (.own a (.lst (ds ++ [d])))))) :
    Xc S (tDrop (tBM S.K "list" rAppend (tVar i) (tCons te tNil))) ρ P := fun σ G H De o e f => by
  obtain ⟨v, h1, e1, ga, ba, va, u, ha, ru⟩ := e.get hx
  cases Option.some.inj e1
  cases u with
  | lst vs =>
    refine ⟨_, h1, .inl ⟨rfl, vs, SqL.of ha⟩, h σ G H o.kn e _ fun w s G1 H1 g1 k1 ⟨d, es, pd⟩ rd => ?_⟩
    subst es
    have o1 := o.grow g1 k1
    have e1 := e.grow g1
    have ra : RA S.K G1 (vs ++ [w]) (ds ++ [d]) := RA.snoc (RA.mono g1.gg ru) rd
    obtain ⟨o2, e2⟩ := own_write (u' := .lst (vs ++ [w])) (m' := .lst (ds ++ [d])) o1 e1 hx ra
    refine ⟨a, vs, w, rfl, rfl, g1.hh a _ va ha, Nat.lt_of_lt_of_le (by rw [RA.length ru]; exact hl) (by decide), ?_⟩
    exact f.nx _ G1 _ _ o2 g1.gg e2 (hs d pd)
  | _ => exact ru.elim
/-- xs.extend(a list just made) -/
theorem xc_extend {i : Nat} {a : Addr} {ds : List D} {p : List D → Prop} (hx : ρ[i]? = some (.own a (.lst ds))) (h : EvF S te ρ p) (hl : ∀ es, p es → ds.length + es.length ≤ 1000000) (hs : ∀ es, p es → P (.nx (ρ.set i (.own a (.lst (ds ++ es)))))) :
    Xc S (tDrop (tBM S.K "list" rExtend (tVar i) (tCons te tNil))) ρ P := fun σ G H De o e f => by
  obtain ⟨v, h1, e1, ga, ba, va, u, ha, ru⟩ := e.get hx
  cases Option.some.inj e1
  cases u with
  | lst vs =>
    refine ⟨_, h1, .inl ⟨rfl, vs, SqL.of ha⟩, h σ G H o.kn e _ fun b ws es G1 H1 g1 k1 n1 n2 hb rw' pe => ?_⟩
    have o1 := o.grow g1 k1
    have e1 := e.grow g1
    have ra : RA S.K G1 (vs ++ ws) (ds ++ es) := RA.append (RA.mono g1.gg ru) rw'
    obtain ⟨o2, e2⟩ := own_write (u' := .lst (vs ++ ws)) (m' := .lst (ds ++ es)) o1 e1 hx ra
    refine ⟨a, b, vs, ws, rfl, rfl, g1.hh a _ va ha, hb, sz_ok (by rw [RA.length ru, rw'.length]; exact hl es pe), ?_⟩
    exact f.nx _ G1 _ _ o2 g1.gg e2 (hs es pe)
  | _ => exact ru.elim
end
/-! ### walks -/
/-- J walks the data ds while what is known stays known -/
def Wk (S : Cf) (J : It) (G : Hp) (ds : List D) : Prop := ∀ (G2 H2 : Hp), Same G G2 → Kn S.fx G2 H2 → J.stop ds.length H2 ∧
  ∀ (i : Nat) (d : D), ds[i]? = some d → J.go i H2 ∧ ∀ x H3, J.yld i H2 x H3 → ∃ G3, Grow S.fx G2 H2 G3 H3 ∧ Kn S.fx G3 H3 ∧ R S.K G3 x d
def Itm (S : Cf) (wi : TI) (ρ : Rho) (P : List D → Prop) : Prop := ∀ (σ : L2.St) (G H : Hp), Kn S.fx G H → Env S G H σ ρ → ∀ Rr : It → Hp → Prop,
  (∀ J ds G' H', Grow S.fx G H G' H' → Kn S.fx G' H' → P ds → Wk S J G' ds → Rr J H') → wi σ H Rr
section
variable {S : Cf} {G H : Hp} {ρ : Rho} {te ta tb : TE}
theorem wk_list {a : Addr} {vs : List V} {ds : List D} (hs : SqL S.K G a vs) (ra : RA S.K G vs ds) : Wk S (Itl S.K a) G ds := fun G2 H2 e k => by
  have hs2 : SqL S.K H2 a vs := (e.trans k.gh).seq hs
  refine ⟨⟨vs, hs2, by rw [ra.length]; exact Nat.le_refl _⟩, fun i d hd => ?_⟩
  obtain ⟨v, hv, rv⟩ := ra.get hd
  exact ⟨⟨vs, v, hs2, hv⟩, fun x H3 ⟨e3, hx⟩ => ⟨G2, by rw [e3]; exact Grow.refl k, by rw [e3]; exact k, by
    have := hx vs hs2
    rw [hv] at this
    cases this
    exact rv.mono e⟩⟩
theorem wk_tup {a : Addr} {vs : List V} {ds : List D} (hs : SqT S.K G a vs) (ra : RA S.K G vs ds) : Wk S (Itt S.K a) G ds := fun G2 H2 e k => by
  have hs2 : SqT S.K H2 a vs := sameT (e.trans k.gh) hs
  refine ⟨⟨vs, hs2, by rw [ra.length]; exact Nat.le_refl _⟩, fun i d hd => ?_⟩
  obtain ⟨v, hv, rv⟩ := ra.get hd
  exact ⟨⟨vs, v, hs2, hv⟩, fun x H3 ⟨e3, hx⟩ => ⟨G2, by rw [e3]; exact Grow.refl k, by rw [e3]; exact k, by
    have := hx vs hs2
    rw [hv] at this
    cases this
    exact rv.mono e⟩⟩
/-- lo, lo + 1, .. -/
def rngD (lo : Int) (n : Nat) : List D := (List.range n).map fun (i : Nat) => PyData.int (lo + (i : Int))
theorem rngD_length (lo : Int) (n : Nat) : (rngD lo n).length = n := by simp [rngD]
theorem rngD_get {lo : Int} {n i : Nat} {d : D} (h : (rngD lo n)[i]? = some d) : i < n ∧ d = .int (lo + (i : Int)) := by
  have hl := (List.getElem?_eq_some_iff.mp h).1
  rw [rngD_length] at hl
  refine ⟨hl, ?_⟩
  simp [rngD, hl] at h
  exact h.symm
theorem wk_range {lo : Int} {n : Nat} : Wk S (Itr lo n) G (rngD lo n) := fun G2 H2 e k => by
  refine ⟨by rw [rngD_length]; exact Nat.le_refl _, fun i d hd => ?_⟩
  obtain ⟨hi, ed⟩ := rngD_get hd
  exact ⟨hi, fun x H3 ⟨e3, hx⟩ => ⟨G2, by rw [e3]; exact Grow.refl k, by rw [e3]; exact k, by rw [hx, ed]; exact .int _⟩⟩
theorem im_list {P : List D → Prop} (h : Ev S te ρ (fun s => ∃ ds, s = .dat (.list ds) ∧ P ds)) : Itm S (iList S.K te) ρ P := fun σ G H k e Rr f => h σ G H k e _ fun v s G' H' g k' ⟨ds, es, pd⟩ r => by
  subst es
  cases r with
  | lst hs ra => exact ⟨_, rfl, ⟨_, k'.gh.seq hs⟩, f _ ds G' H' g k' pd (wk_list hs ra)⟩
theorem im_listE {ds : List D} (h : Ev S te ρ (Eq (.dat (.list ds)))) : Itm S (iList S.K te) ρ (Eq ds) := im_list (h.imp fun s e => ⟨ds, e.symm, rfl⟩)
theorem im_tupE {ds : List D} (h : Ev S te ρ (Eq (.dat (.tuple ds)))) : Itm S (iTup S.K te) ρ (Eq ds) := fun σ G H k e Rr f => h σ G H k e _ fun v s G' H' g k' es r => by
  subst es
  cases r with
  | tup hs ra => exact ⟨_, rfl, ⟨_, sameT k'.gh hs⟩, f _ ds G' H' g k' rfl (wk_tup hs ra)⟩
theorem im_rng1 {P : List D → Prop} (h : EvI S te ρ (fun n => 0 ≤ n ∧ n < 2 ^ 62 ∧ P (rngD 0 n.toNat))) : Itm S (iRng1 (tCons te tNil)) ρ P := fun σ G H k e Rr f => h σ G H k e _ fun v s G' H' g k' ⟨n, es, h1, h2, pd⟩ r => by
  subst es
  cases r
  exact ⟨n, rfl, by omega, h2, f _ _ G' H' g k' pd wk_range⟩
theorem im_rng1E {n : Nat} (h : Ev S te ρ (Eq (.dat (.int (n : Nat))))) (hn : n ≤ 1000000000) : Itm S (iRng1 (tCons te tNil)) ρ (Eq (rngD 0 n)) := im_rng1 (h.toI ⟨by omega, by omega, by rw [Int.toNat_natCast]⟩)
/-- enumerate -/
def enumD (k : Nat) : List D → List D
  | [] => []
  | d :: ds => .tuple [.int (k : Nat), d] :: enumD (k + 1) ds
theorem enumD_length : ∀ (k : Nat) (ds : List D), (enumD k ds).length = ds.length
  | _, [] => rfl
  | k, _ :: ds => congrArg (· + 1) (enumD_length (k + 1) ds)
theorem enumD_get : ∀ {k : Nat} {ds : List D} {i : Nat} {d : D}, (enumD k ds)[i]? = some d → ∃ x, ds[i]? = some x ∧ d = .tuple [.int ((k + i : Nat) : Int), x]
  | k, [], i, d, h => by simp [enumD] at h
  | k, y :: ds, 0, d, h => by
    simp only [enumD, List.getElem?_cons_zero, Option.some.injEq] at h
    exact ⟨y, rfl, by rw [← h]; rfl⟩
  | k, y :: ds, i + 1, d, h => by
    simp only [enumD, List.getElem?_cons_succ] at h
    obtain ⟨x, h1, h2⟩ := enumD_get h
    exact ⟨x, by simpa using h1, by rw [h2, show k + 1 + i = k + (i + 1) by omega]⟩
theorem wk_pair {J : It} {ds : List D} {f : D → D → D} (h : ∀ (G2 H2 : Hp), Same G G2 → Kn S.fx G2 H2 → J.stop ds.length H2 ∧ ∀ (i : Nat) (d : D), ds[i]? = some d → J.go i H2 ∧ ∀ x H3, J.yld i H2 x H3 →
      ∃ (T : Addr) (v w : V) (a b : D), x = .ref T ∧ H2 T = none ∧ H3 = upd H2 T (.tup [v, w]) ∧ R S.K G2 v a ∧ R S.K G2 w b ∧ d = .tuple [a, b]) : Wk S J G ds := fun G2 H2 e k => by
  obtain ⟨h1, h2⟩ := h G2 H2 e k
  refine ⟨h1, fun i d hd => ?_⟩
  obtain ⟨h3, h4⟩ := h2 i d hd
  refine ⟨h3, fun x H3 hy => ?_⟩
  obtain ⟨T, v, w, a, b, ex, hT, eH, rv, rw', ed⟩ := h4 x H3 hy
  subst ex eH ed
  have g3 := Grow.new k (.tup [v, w]) hT
  exact ⟨_, g3, Kn.new k _ hT, .tup (SqT.of upd_same) (.cons (rv.mono g3.gg) (.cons (rw'.mono g3.gg) .nil))⟩
theorem wk_enum {a : Addr} {vs : List V} {ds : List D} (hs : SqL S.K G a vs) (ra : RA S.K G vs ds) : Wk S (Ite S.K a) G (enumD 0 ds) := wk_pair (f := fun a b => .tuple [a, b]) fun G2 H2 e k => by
  have hs2 : SqL S.K H2 a vs := (e.trans k.gh).seq hs
  refine ⟨(walk_enum (K := S.K) (a := a) (xs := vs)).stops H2 hs2 |> fun z => by rw [enumD_length, ← ra.length]; exact z, fun i d hd => ?_⟩
  obtain ⟨x, hx, ed⟩ := enumD_get hd
  obtain ⟨v, hv, rv⟩ := ra.get hx
  have hi : i < vs.length := (List.getElem?_eq_some_iff.mp hv).1
  refine ⟨(walk_enum (K := S.K) (a := a) (xs := vs)).goes i H2 hi hs2, fun y H3 hy => ?_⟩
  obtain ⟨T, p, q, e1, e2, e3, e4, e5⟩ := (walk_enum (K := S.K) (a := a) (xs := vs)).yields i H2 y H3 hi hs2 hy
  have e5 : vs[i]? = some q := e5
  rw [hv] at e5
  cases e5
  cases e4
  exact ⟨T, _, _, .int ((0 + i : Nat) : Int), x, e1, e2, e3, by rw [Nat.zero_add]; exact .int _, rv.mono e, ed⟩
theorem im_enumL {ds : List D} (h : Ev S te ρ (Eq (.dat (.list ds)))) : Itm S (iEnum S.K (tCons te tNil)) ρ (Eq (enumD 0 ds)) := fun σ G H k e Rr f => h σ G H k e _ fun v s G' H' g k' es r => by
  subst es
  cases r with
  | lst hs ra => exact ⟨_, _, rfl, k'.gh.seq hs, f _ _ G' H' g k' rfl (wk_enum hs ra)⟩
end
/-! ### targets -/
structure Diff (js : List Nat) (σ σ' : L2.St) : Prop where
  len : σ'.length = σ.length
  at_ : ∀ i, i ∉ js → σ'[i]? = σ[i]?
def Tgt (S : Cf) (g : TG) (js : List Nat) (d : D) (ρ ρ' : Rho) : Prop := ∀ (σ : L2.St) (G H : Hp) (v : V), Kn S.fx G H → Env S G H σ ρ → R S.K G v d → ∀ Q : L2.St → Hp → Prop, (∀ σ', Diff js σ σ' → Env S G H σ' ρ' → Q σ' H) → g v σ H Q
def Tgts (S : Cf) (g : TGs) (js : List Nat) (ds : List D) (ρ ρ' : Rho) : Prop := ∀ (σ : L2.St) (G H : Hp) (vs : List V), Kn S.fx G H → Env S G H σ ρ → RA S.K G vs ds → ∀ Q : L2.St → Hp → Prop, (∀ σ', Diff js σ σ' → Env S G H σ' ρ' → Q σ' H) → g vs σ H Q
section
variable {S : Cf} {ρ ρ1 ρ2 : Rho} {g : TG} {gs : TGs}
theorem tg_name {j : Nat} {d : D} : Tgt S (gName j) [j] d ρ (ρ.set j (.dat d)) := fun σ G H v k e r Q q => q _ ⟨by simp, fun i hi => by
  have : j ≠ i := fun z => hi (by simp [z])
  rw [List.getElem?_set_ne this]⟩ (e.set j (s := .dat d) r)
theorem tgs_nil : Tgts S gNil [] [] ρ ρ := fun σ G H vs k e r Q q => by
  cases r
  exact ⟨rfl, q σ ⟨rfl, fun _ _ => rfl⟩ e⟩
theorem tgs_cons {js ks : List Nat} {d : D} {ds : List D} (h1 : Tgt S g js d ρ ρ1) (h2 : Tgts S gs ks ds ρ1 ρ2) : Tgts S (gCons g gs) (js ++ ks) (d :: ds) ρ ρ2 := fun σ G H vs k e r Q q => by
  cases r with
  | cons r1 r2 =>
    refine ⟨_, _, rfl, h1 σ G H _ k e r1 _ fun σ1 d1 e1 => h2 σ1 G H _ k e1 r2 Q fun σ2 d2 e2 => q σ2 ⟨d2.len.trans d1.len, fun i hi => ?_⟩ e2⟩
    rw [d2.at_ i fun z => hi (List.mem_append_right _ z), d1.at_ i fun z => hi (List.mem_append_left _ z)]
theorem tg_tup {js : List Nat} {ds : List D} {n : Nat} (h : Tgts S gs js ds ρ ρ1) (hn : ds.length = n := by rfl) : Tgt S (gTup S.K n gs) js (.tuple ds) ρ ρ1 := fun σ G H v k e r Q q => by
  cases r with
  | tup hs ra => exact ⟨_, _, rfl, sameT k.gh hs, by rw [ra.length]; exact hn, h σ G H _ k e ra Q q⟩
/-- two names -/
theorem tg_two {i j : Nat} {a b : D} : Tgt S (gTup S.K 2 (gCons (gName i) (gCons (gName j) gNil))) [i, j] (.tuple [a, b]) ρ ((ρ.set i (.dat a)).set j (.dat b)) := tg_tup (js := [i, j]) (tgs_cons (js := [i]) tg_name (tgs_cons (js := [j]) tg_name tgs_nil))
theorem xc_asgT {te : TE} {P : Oc → Prop} {js : List Nat} {d : D} (h : Ev S te ρ (Eq (.dat d))) (ht : Tgt S g js d ρ ρ1) (hs : P (.nx ρ1)) : Xc S (tAsg te g) ρ P := fun σ G H De o e f =>
  h σ G H o.kn e _ fun v s G' H' g' k es r => by
    subst es
    exact ht σ G' H' v k (e.grow g') r _ fun σ' _ e' => f.nx σ' G' H' ρ1 (o.grow g' k) g'.gg e' hs
/-! ### loops -/
theorem xc_for {wi : TI} {tb : TS} {P : Oc → Prop} {p : List D → Prop} (hi : Itm S wi ρ p) (I : List D → Nat → Rho → Prop) (h0 : ∀ ds, p ds → I ds 0 ρ)
    (hs : ∀ ds i d ρ1, p ds → ds[i]? = some d → I ds i ρ1 → ∃ js ρ2, Tgt S g js d ρ1 ρ2 ∧ Xc S tb ρ2 (LoopP (I ds (i + 1)) P)) (hd : ∀ ds ρ1, p ds → I ds ds.length ρ1 → P (.nx ρ1)) : Xc S (tFor wi g tb) ρ P := fun σ G H De o e f =>
  hi σ G H o.kn e _ fun J ds G1 H1 g1 k1 pd wk => by
    refine ⟨fun i m σ H => m = ds.length - i ∧ i ≤ ds.length ∧ ∃ G ρ', OkS S G H ∧ Same G1 G ∧ Env S G H σ ρ' ∧ I ds i ρ', ⟨_, rfl, Nat.zero_le _, G1, ρ, o.grow g1 k1, Same.refl _, e.grow g1, h0 ds pd⟩, ?_⟩
    rintro i m σ2 H2 ⟨rfl, hi, G2, ρ2, o2, s2, e2, hI⟩
    obtain ⟨w1, w2⟩ := wk G2 H2 s2 o2.kn
    by_cases hlt : i < ds.length
    · obtain ⟨go, yl⟩ := w2 i ds[i] (by simp [hlt])
      refine .inr ⟨go, fun σ' H' => ∃ G ρ', OkS S G H' ∧ Same G1 G ∧ Env S G H' σ' ρ' ∧ I ds (i + 1) ρ', fun σ' H' ⟨G', ρ', q⟩ => ⟨ds.length - (i + 1), by omega, rfl, hlt, G', ρ', q⟩, fun x H3 hy => ?_⟩
      obtain ⟨G3, g3, k3, r3⟩ := yl x H3 hy
      obtain ⟨js, ρ3, tg, xb⟩ := hs ds i ds[i] ρ2 pd (by simp [hlt]) hI
      have o3 := o2.grow g3 k3
      refine tg σ2 G3 H3 x k3 (e2.grow g3) r3 _ fun σ4 _ e4 => xb σ4 G3 H3 _ o3 e4 ?_
      have s3 := s2.trans g3.gg
      exact ⟨fun σ' G' H' ρ' o' s' e' p' => ⟨G', ρ', o', s3.trans s', e', p'⟩, fun σ' G' H' ρ' o' s' e' p' => f.nx σ' G' H' ρ' o' ((g1.gg.trans s3).trans s') e' p', fun σ' G' H' ρ' o' s' e' p' => ⟨G', ρ', o', s3.trans s', e', p'⟩, f.rt, f.ex⟩
    · have e' : i = ds.length := by omega
      subst e'
      exact .inl ⟨w1, f.nx σ2 G2 H2 ρ2 o2 (g1.gg.trans s2) e2 (hd ds ρ2 pd hI)⟩
theorem xc_forE {wi : TI} {tb : TS} {P : Oc → Prop} {ds : List D} (hi : Itm S wi ρ (Eq ds)) (I : Nat → Rho → Prop) (h0 : I 0 ρ)
    (hs : ∀ i d ρ1, ds[i]? = some d → I i ρ1 → ∃ js ρ2, Tgt S g js d ρ1 ρ2 ∧ Xc S tb ρ2 (LoopP (I (i + 1)) P)) (hd : ∀ ρ1, I ds.length ρ1 → P (.nx ρ1)) : Xc S (tFor wi g tb) ρ P :=
  xc_for hi (fun _ => I) (fun _ _ => h0) (fun ds' i d ρ1 e => e ▸ hs i d ρ1) (fun ds' ρ1 e => e ▸ hd ρ1)
theorem xc_while {tt : TT} {tb : TS} {P : Oc → Prop} (I : Nat → Rho → Prop) (m0 : Nat) (h0 : I m0 ρ)
    (hs : ∀ m ρ1, I m ρ1 → EvT S tt ρ1 (fun b => if b = true then Xc S tb ρ1 (LoopP (fun ρ2 => ∃ m', m' < m ∧ I m' ρ2) P) else P (.nx ρ1))) : Xc S (tWhile tt tb) ρ P := fun σ G H De o e f => by
  refine ⟨fun m σ' H' => ∃ G' ρ', OkS S G' H' ∧ Same G G' ∧ Env S G' H' σ' ρ' ∧ I m ρ', ⟨m0, G, ρ, o, Same.refl _, e, h0⟩, ?_⟩
  rintro m σ1 H1 ⟨G1, ρ1, o1, s1, e1, hI⟩
  refine hs m ρ1 hI σ1 G1 H1 o1.kn e1 _ fun b G2 H2 g2 k2 pb => ?_
  have o2 := o1.grow g2 k2
  have e2 := e1.grow g2
  have s2 := s1.trans g2.gg
  cases b with
  | true =>
    rw [if_pos rfl] at pb ⊢
    refine ⟨fun σ' H' => ∃ m', m' < m ∧ ∃ G' ρ', OkS S G' H' ∧ Same G G' ∧ Env S G' H' σ' ρ' ∧ I m' ρ', fun σ' H' ⟨m', hm, q⟩ => ⟨m', hm, q⟩, pb σ1 G2 H2 _ o2 e2 ?_⟩
    exact ⟨fun σ' G' H' ρ' o' s' e' ⟨m', hm, q⟩ => ⟨m', hm, G', ρ', o', s2.trans s', e', q⟩, fun σ' G' H' ρ' o' s' e' p' => f.nx σ' G' H' ρ' o' (s2.trans s') e' p', fun σ' G' H' ρ' o' s' e' ⟨m', hm, q⟩ => ⟨m', hm, G', ρ', o', s2.trans s', e', q⟩, f.rt, f.ex⟩
  | false =>
    rw [if_neg (by decide)] at pb ⊢
    exact f.nx σ1 G2 H2 ρ1 o2 s2 e2 pb
/-! ### comprehensions -/
def wipeR (ρ : Rho) : List Nat → Rho
  | [] => ρ
  | v :: vs => (wipeR ρ vs).set v .no
theorem Env.wipe {G H : Hp} {σ : L2.St} (e : Env S G H σ ρ) : ∀ vs : List Nat, Env S G H (L2.wipe σ vs) (wipeR ρ vs)
  | [] => e
  | v :: vs => (Env.wipe e vs).unset v _
theorem wipe_at (σ : L2.St) : ∀ (vs : List Nat) (i : Nat), (L2.wipe σ vs)[i]? = if i ∈ vs ∧ i < σ.length then some none else σ[i]?
  | [], i => by simp [L2.wipe]
  | v :: vs, i => by
    show ((L2.wipe σ vs).set v none)[i]? = _
    have ih := wipe_at σ vs i
    by_cases e : i = v
    · subst e
      by_cases hl : i < σ.length
      · rw [List.getElem?_set_self (by rw [L2.wipe_length]; exact hl), if_pos ⟨by simp, hl⟩]
      · rw [if_neg (fun z => hl z.2)]
        rw [List.getElem?_eq_none_iff.mpr (by simp [L2.wipe_length]; omega), List.getElem?_eq_none_iff.mpr (by omega)]
    · rw [List.getElem?_set_ne (Ne.symm e), ih]
      simp [e]
theorem wipe_diff {σ σ' : L2.St} {js vs : List Nat} (d : Diff js (L2.wipe σ vs) σ') (h : ∀ j ∈ js, j ∈ vs) : L2.wipe σ' vs = L2.wipe σ vs := by
  apply List.ext_getElem?
  intro i
  have hlen : σ'.length = σ.length := d.len.trans (L2.wipe_length σ vs)
  rw [wipe_at, wipe_at, hlen]
  by_cases hi : i ∈ vs
  · by_cases hl : i < σ.length
    · rw [if_pos ⟨hi, hl⟩, if_pos ⟨hi, hl⟩]
    · rw [if_neg (fun z => hl z.2), if_neg (fun z => hl z.2), List.getElem?_eq_none_iff.mpr (by omega), List.getElem?_eq_none_iff.mpr (by omega)]
  · rw [if_neg (fun z => hi z.1), if_neg (fun z => hi z.1), d.at_ i fun z => hi (h i z), wipe_at, if_neg (fun z => hi z.1)]
/-- [e for x in xs if t] -/
theorem ef_lc {wi : TI} {te : TE} {tt : TT} {vs : List Nat} {p P : List D → Prop} (hi : Itm S wi ρ p) (I : List D → Nat → List D → Prop) (h0 : ∀ ds, p ds → ds.length ≤ 1000000 ∧ I ds 0 [])
    (hs : ∀ ds i d acc, p ds → ds[i]? = some d → acc.length ≤ i → I ds i acc → ∃ js ρ2, (∀ j ∈ js, j ∈ vs) ∧ Tgt S g js d (wipeR ρ vs) ρ2 ∧
      EvT S tt ρ2 (fun b => if b = true then Ev S te ρ2 (fun s => ∃ y, s = .dat y ∧ I ds (i + 1) (acc ++ [y])) else I ds (i + 1) acc)) (hd : ∀ ds acc, p ds → acc.length ≤ ds.length → I ds ds.length acc → P acc) :
    EvF S (tLc wi g tt te vs) ρ P := fun σ G H k e Q q => hi σ G H k e _ fun J ds G1 H1 g1 k1 pd wk Dl hD => by
  obtain ⟨hl, hI0⟩ := h0 ds pd
  have hnD : H Dl = none := fresh_of g1 k1 hD
  have vD : ¬ S.fx.vol Dl := k1.fresh hD
  have e1 := e.grow g1
  -- the state between two turns
  refine ⟨fun i m H2 => m = ds.length - i ∧ i ≤ ds.length ∧ ∃ G2 acc vs', Grow S.fx G1 H1 G2 H2 ∧ Kn S.fx G2 H2 ∧ G2 Dl = none ∧ H2 Dl = some (.lst vs') ∧ RA S.K G2 vs' acc ∧ acc.length ≤ i ∧ I ds i acc,
    ⟨_, rfl, Nat.zero_le _, G1, [], [], Grow.same k1 (same_new hD), k1.same (same_new hD), k1.freeG hD, upd_same, .nil, Nat.le_refl _, hI0⟩, ?_⟩
  rintro i m H2 ⟨rfl, hi, G2, acc, vs', g2, k2, nD, aD, ra, al, hI⟩
  obtain ⟨w1, w2⟩ := wk G2 H2 g2.gg k2
  by_cases hlt : i < ds.length
  · obtain ⟨go, yl⟩ := w2 i ds[i] (by simp [hlt])
    refine .inr ⟨go, fun H' => ∃ G2 acc vs', Grow S.fx G1 H1 G2 H' ∧ Kn S.fx G2 H' ∧ G2 Dl = none ∧ H' Dl = some (.lst vs') ∧ RA S.K G2 vs' acc ∧ acc.length ≤ i + 1 ∧ I ds (i + 1) acc, fun H' h' => ⟨ds.length - (i + 1), by omega, rfl, hlt, h'⟩, fun x H3 hy => ?_⟩
    obtain ⟨G3, g3, k3, r3⟩ := yl x H3 hy
    obtain ⟨js, ρ2, hj, tg, et⟩ := hs ds i ds[i] acc pd (by simp [hlt]) al hI
    have ew : Env S G3 H3 (L2.wipe σ vs) (wipeR ρ vs) := (((e1.grow g2).grow g3)).wipe vs
    refine tg (L2.wipe σ vs) G3 H3 x k3 ew r3 _ fun σ4 df e4 => ⟨wipe_diff df hj, ?_⟩
    refine et σ4 G3 H3 k3 e4 _ fun b G4 H4 g4 k4 pb => ?_
    have g14 : Grow S.fx G1 H1 G4 H4 := ((g2.trans k2 k3 g3).trans k3 k4 g4)
    have nD4 : G4 Dl = none := g4.nn Dl (by rw [g3.hh Dl _ vD aD]; simp) (g3.nn Dl (by rw [aD]; simp) nD)
    have aD4 : H4 Dl = some (.lst vs') := g4.hh Dl _ vD (g3.hh Dl _ vD aD)
    have ra4 : RA S.K G4 vs' acc := ra.mono (g3.gg.trans g4.gg)
    cases b with
    | true =>
      rw [if_pos rfl] at pb ⊢
      refine pb σ4 G4 H4 k4 (e4.grow g4) _ fun y s G5 H5 g5 k5 ⟨d, es, hI'⟩ rd => ?_
      subst es
      have nD5 : G5 Dl = none := g5.nn Dl (by rw [aD4]; simp) nD4
      have aD5 : H5 Dl = some (.lst vs') := g5.hh Dl _ vD aD4
      refine ⟨vs', aD5, Nat.lt_of_lt_of_le (show vs'.length < 1000001 by rw [ra4.length]; omega) (by decide), G5, acc ++ [d], vs' ++ [y], ?_, ?_, nD5, upd_same, RA.snoc (ra4.mono g5.gg) rd, by simp; omega, hI'⟩
      · have g15 := g14.trans k4 k5 g5
        refine ⟨g15.gg, fun b w hb => ?_, fun b w vb hb => ?_, g15.nn⟩
        · have q : b ≠ Dl := fun z => by rw [z, nD5] at hb; cases hb
          rw [upd_ne q]
          exact k5.gh b w hb
        · have q : b ≠ Dl := fun z => by rw [z, hD] at hb; cases hb
          rw [upd_ne q]
          exact g15.hh b w vb hb
      · refine ⟨fun b w hb => ?_, S.fx.ext (fun b w hb hw => ?_) k5.inv, k5.vn⟩
        · have q : b ≠ Dl := fun z => by rw [z, nD5] at hb; cases hb
          rw [upd_ne q]
          exact k5.gh b w hb
        · have q : b ≠ Dl := fun z => by
            rcases hb with hb | hb
            · exact vD (z ▸ hb)
            · rw [z, aD5] at hw
              cases hw
              exact hb
          rw [upd_ne q]
          exact hw
    | false =>
      rw [if_neg (by decide)] at pb ⊢
      exact ⟨G4, acc, vs', g14, k4, nD4, aD4, ra4, by omega, pb⟩
  · have e' : i = ds.length := by omega
    subst e'
    refine .inl ⟨w1, q Dl vs' acc G2 H2 (g1.trans k1 k2 g2) k2 hnD nD aD ra (hd ds acc pd al hI)⟩
/-- each item gives one -/
theorem ef_map {wi : TI} {te : TE} {vs : List Nat} {ds : List D} {f : D → D} (hi : Itm S wi ρ (Eq ds)) (hl : ds.length ≤ 1000000)
    (hs : ∀ d, d ∈ ds → ∃ js ρ2, (∀ j ∈ js, j ∈ vs) ∧ Tgt S g js d (wipeR ρ vs) ρ2 ∧ Ev S te ρ2 (Eq (.dat (f d)))) : EvF S (tLc wi g tYes te vs) ρ (Eq (ds.map f)) := by
  refine ef_lc hi (fun _ i acc => acc = (ds.take i).map f) (fun ds' e => e ▸ ⟨hl, rfl⟩) (fun ds' i d acc e hd al hI => ?_) fun ds' acc e al hI => ?_
  · subst e
    obtain ⟨js, ρ2, h1, h2, h3⟩ := hs d (List.mem_of_getElem? hd)
    refine ⟨js, ρ2, h1, h2, fun σ G H k e Q q => q true G H (Grow.refl k) k ?_⟩
    show if true = true then _ else _
    rw [if_pos rfl]
    refine h3.imp fun s es => ⟨f d, es.symm, ?_⟩
    rw [hI, List.take_add_one, hd]
    simp
  · subst e
    rw [hI, List.take_length]
/-- some items give one -/
theorem ef_filterMap {wi : TI} {te : TE} {tt : TT} {vs : List Nat} {ds : List D} {f : D → Option D} (hi : Itm S wi ρ (Eq ds)) (hl : ds.length ≤ 1000000)
    (hs : ∀ d, d ∈ ds → ∃ js ρ2, (∀ j ∈ js, j ∈ vs) ∧ Tgt S g js d (wipeR ρ vs) ρ2 ∧ EvT S tt ρ2 (Eq (f d).isSome) ∧ ∀ y, f d = some y → Ev S te ρ2 (Eq (.dat y))) : EvF S (tLc wi g tt te vs) ρ (Eq (ds.filterMap f)) := by
  refine ef_lc hi (fun _ i acc => acc = (ds.take i).filterMap f) (fun ds' e => e ▸ ⟨hl, rfl⟩) (fun ds' i d acc e hd al hI => ?_) fun ds' acc e al hI => ?_
  · subst e
    obtain ⟨js, ρ2, h1, h2, h3, h4⟩ := hs d (List.mem_of_getElem? hd)
    refine ⟨js, ρ2, h1, h2, h3.imp fun b eb => ?_⟩
    cases hf : f d with
    | some y =>
      rw [hf] at eb
      subst eb
      rw [if_pos (show (some y).isSome = true from rfl)]
      refine (h4 y hf).imp fun s es => ⟨y, es.symm, ?_⟩
      rw [hI, List.take_add_one, hd]
      simp [hf]
    | none =>
      rw [hf] at eb
      subst eb
      rw [if_neg (show ¬ ((none : Option D).isSome = true) by simp), hI, List.take_add_one, hd]
      simp [hf]
  · subst e
    rw [hI, List.take_length]
end
/-! ### a def -/
section
variable {P : Program} {w : World} {K : PySem.W.Frag} {mg : Str → Option Value} {base : Heap}
theorem env_start {S : Cf} {G H : Hp} : ∀ {vs : List V} {ss : List Sl} (n : Nat), RSs S.K G vs ss → Env S G H (vs.map some ++ List.replicate n none) (ss ++ List.replicate n .no) := fun {vs ss} n r => by
  have hl := r.length
  have key : ∀ {vs : List V} {ss : List Sl} {i : Nat} {s : Sl}, RSs S.K G vs ss → ss[i]? = some s → ∃ v, vs[i]? = some v ∧ RS S.K G v s := by
    intro vs
    induction vs with
    | nil =>
      intro ss i s r h
      cases r
      simp at h
    | cons v vs ih =>
      intro ss i s r h
      cases r with
      | cons r1 r2 =>
        cases i with
        | zero =>
          simp only [List.getElem?_cons_zero, Option.some.injEq] at h
          subst h
          exact ⟨v, rfl, r1⟩
        | succ i =>
          simp only [List.getElem?_cons_succ] at h
          obtain ⟨w, h1, h2⟩ := ih r2 h
          exact ⟨w, by simpa using h1, h2⟩
  have noown : ∀ {i : Nat} {a : Addr} {m : Mo}, (ss ++ List.replicate n Sl.no)[i]? = some (.own a m) → False := fun {i a m} h => by
    by_cases hi : i < ss.length
    · rw [List.getElem?_append_left hi] at h
      obtain ⟨v, _, z⟩ := key r h
      exact z
    · rw [List.getElem?_append_right (by omega), List.getElem?_replicate] at h
      split at h
      · cases h
      · cases h
  refine ⟨by simp [hl], fun i s h => ?_, fun i j a m m' h _ => (noown h).elim⟩
  by_cases hi : i < ss.length
  · rw [List.getElem?_append_left hi] at h
    obtain ⟨v, h1, h2⟩ := key r h
    refine ⟨some v, by rw [List.getElem?_append_left (by simp; omega)]; simp [h1], ?_⟩
    cases s with
    | no => exact True.intro
    | dat d => exact ⟨v, rfl, h2⟩
    | raw x => exact congrArg some h2
    | own a m => exact h2.elim
  · rw [List.getElem?_append_right (by omega), List.getElem?_replicate] at h
    split at h
    · rename_i hn
      cases h
      refine ⟨none, ?_, True.intro⟩
      rw [List.getElem?_append_right (by simp; omega), List.getElem?_replicate]
      simp only [List.length_map, hl]
      rw [if_pos hn]
    · cases h
theorem fn_ok {ι : Type} {args : ι → List Sl} {pre : ι → Prop} {post : ι → Re → Prop} {fx : Fx} {x qual : Str} {st : Stmt} {f : Addr} {fd : FuncData} {N ps : List Str} {k : Nat} (F : Fun K x qual st f fd) (Sc : FnScope N ps (defScope st)) (hl : ∀ i, pre i → (args i).length = ps.length)
    (hbody : ∀ (cdv : Value) (A : Around) (outer : List PySem.Env) (s : Shared) (H : Hp) (E : XK), Room k (A.deeper (envOfC qual (defScope st) s.heap.objs.size f cdv)) → ∀ (i : ι), pre i →
      ∃ t, PSs (cxOf (L2.CX P w) P w K mg base N qual (defScope st) f cdv A outer s H E) (defBody st) t ∧ ∀ G : Hp, Xc ⟨K, fx, G, H, E⟩ t (args i ++ List.replicate (N.length - ps.length) .no) (RetP (post i))) :
    FnOk P w K mg base (L2.CX P w) (k + 1) f fd ps (spI K fx args pre post) := by
  refine F.okX Sc (fun vs H Q E h => ?_) fun cdv A outer s H vs Q E hr h => ?_
  · obtain ⟨i, G, hp, _, r, _⟩ := h
    rw [r.length, hl i hp]
  · obtain ⟨i, G, hp, kn, r, q1, q2⟩ := h
    obtain ⟨t, ht, hx⟩ := hbody cdv A outer s H E hr i hp
    refine ⟨t, ht, ?_⟩
    have hn : vs.length = ps.length := by rw [r.length, hl i hp]
    have ev := env_start (S := ⟨K, fx, G, H, E⟩) (H := H) (N.length - ps.length) r
    unfold L2.start
    rw [hn]
    refine hx G _ G H _ ⟨kn, kn, Grow.refl kn⟩ ev ⟨fun σ G' H' ρ o s e p => ?_, fun σ G' H' ρ o s e p => p.elim, fun σ G' H' ρ o s e p => p.elim, fun v s G' H' o r p => ?_, fun C d dd v G' H' o hd r p => ?_⟩
    · exact q1 .non (.dat .none) G' H' o.gr o.kn .non p
    · exact q1 v s G' H' o.gr o.kn r p
    · exact q2 C d dd v G' H' o.gr o.kn hd r p
end
end Dl

set_option Elab.async false
set_option linter.all false
set_option maxRecDepth 100000
set_option maxHeartbeats 4000000
/-! Dlx: errors raised and caught, repr, the end of a law that hands lambdas on. -/
namespace Dl
open PySem PySem.Spec PyProof.Rows L2
/-! ### an error with one value -/
/-- __init__(self, value): self.value = value -/
def spIni (K : PySem.W.Frag) : Sp := fun vs H Q _ => ∃ (a C : Addr) (v : V), vs = [.ref a, v] ∧ OexC K C ∧ PySem.W.findIn K (.ref C) "value" = some none ∧ H a = some (exo a C none) ∧
  ∀ dx, H dx = none → dx ≠ a → Q .non (upd (upd H dx (exd dx [("value", v)])) a (exo a C (some dx)))
section
variable {P : Program} {w : World} {K : PySem.W.Frag} {mg : Str → Option Value} {base : Heap}
theorem ini_ok {f : Addr} {fd : FuncData} {x qual : Str} {st : Stmt} {b1 b2 b3 b4 b5 : Pos} (F : Fun K x qual st f fd) (Sc : FnScope ["self", "value"] ["self", "value"] (defScope st)) (hs : (defScope st).names = [(PySem.Str.ofString "self", .local), (PySem.Str.ofString "value", .local)])
    (hb : defBody st = [.Assign [.Attribute (.Name "self" b1) "value" b2] (.Name "value" b3) b4]) : FnOk P w K mg base CX0 1 f fd ["self", "value"] (spIni K) := by
  refine F.ok Sc (fun vs H Q E h => ?_) fun cdv A outer s H vs Q E hr h => ?_
  · obtain ⟨a, C, v, rfl, _⟩ := h
    rfl
  · obtain ⟨a, C, v, rfl, T, nv, ha, k⟩ := h
    have v0 : Vis (cxOf CX0 P w K mg base ["self", "value"] qual (defScope st) f cdv A outer s H E).nox.env.scope "self" := .inl (by show (defScope st).names.lookup _ = _; rw [hs]; decide +kernel)
    have v1 : Vis (cxOf CX0 P w K mg base ["self", "value"] qual (defScope st) f cdv A outer s H E).nox.env.scope "value" := .inl (by show (defScope st).names.lookup _ = _; rw [hs]; decide +kernel)
    refine ⟨_, by rw [hb]; exact pss_one (ps_ost (pe_var (i := 0) rfl v0) (pe_var (i := 1) rfl v1)), ?_⟩
    exact ⟨v, rfl, .ref a, rfl, a, C, rfl, T, nv, .inl ⟨ha, fun dx h1 h2 => k dx h1 h2⟩⟩
end
section
variable {S : Cf} {ρ : Rho} {te : TE} {P : Oc → Prop}
/-- raise X(e) -/
theorem xc_raise {C : Addr} {d : D} (T : OexC S.K C) (nv : PySem.W.findIn S.K (.ref C) "value" = some none) (h : Ev S te ρ (Eq (.dat d))) (hs : P (.ex C d)) :
    Xc S (fun _ σ H => tMkO C (spIni S.K) [] (tCons te tNil) σ H fun cls d H' => S.E cls d H') ρ P := fun σ G H De o e f =>
  h σ G H o.kn e _ fun v s G1 H1 g1 k1 es r => by
    subst es
    refine ⟨by show 1 ≤ 1000; decide, fun a ha => ⟨a, C, v, rfl, T, nv, upd_same, fun dx hdx hne => ⟨rfl, dx, [("value", v)], upd_same, by rw [upd_ne hne, upd_same], ?_, ?_⟩⟩⟩
    · rw [upd_ne hne] at hdx
      exact hdx
    · have hd1 : H1 dx = none := by
        rw [upd_ne hne] at hdx
        exact hdx
      have sm : Same H1 (upd (del (upd (upd (upd H1 a (exo a C none)) dx (exd dx [("value", v)])) a (exo a C (some dx))) a) dx (.xd [("value", v)])) := fun b w hb => by
        have n1 : b ≠ a := ne_of_none hb ha
        have n2 : b ≠ dx := ne_of_none hb hd1
        rw [upd_ne n2, del_ne n1, upd_ne n1, upd_ne n2, upd_ne n1]
        exact hb
      have o1 := o.grow g1 k1
      exact f.ex C d dx v G1 _ (o1.grow (Grow.same k1 sm) (k1.same sm)) upd_same r hs
end
/-! ### repr of data -/
def isDisp : D → Bool
  | .list _ => true
  | .tuple _ => true
  | _ => false
def rRepr (K : PySem.W.Frag) : List V → Hp → VK → Prop := fun xs H Q => ∃ (x : V) (d : D), xs = [x] ∧ R K H x d ∧ isDisp d = true ∧ d.hasDict = false ∧ d.showable = true ∧ d.shown.length ≤ sizeLine ∧ d.depth ≤ 20 ∧ Q (.str d.shown) H
theorem cr_repr {X : Cx} (hg : X.A.guards = some []) (hu : X.A.units + 64 < cLine) : CallR X (.builtin "repr") (rRepr X.K) := by
  intro pins s σ H xs us Q I r h
  obtain ⟨x, d, rfl, rx, dd, nd, sh, sz, dp, q⟩ := h
  obtain ⟨u, rfl, ru⟩ := vals1 r
  obtain ⟨as, rd⟩ := Dp.reads I d x u (rx.dp nd) ru
  obtain ⟨a, rfl⟩ : ∃ a, u = Value.ref a := by
    cases rx with
    | lst _ _ => exact ⟨_, ru⟩
    | tup _ _ => exact ⟨_, ru⟩
    | _ => simp [isDisp] at dd
  exact repr_of_reads' rd sh (PyData.noDict_hsm nd) hg (by omega) (fun _ _ e => e) (fun h' u tk hk => ⟨.str d.shown, H, I.kept hk, ⟨u, rfl⟩, q⟩) sz
section
variable {S : Cf} {ρ : Rho} {te : TE}
theorem ev_repr {d : D} (h : Ev S te ρ (Eq (.dat d))) (dd : isDisp d = true) (nd : d.hasDict = false) (sh : d.showable = true) (sz : d.shown.length ≤ sizeLine) (dp : d.depth ≤ 20) : Ev S (tCB (rRepr S.K) (tCons te tNil)) ρ (Eq (.dat (.str d.shown))) := fun σ G H k e Q q =>
  h σ G H k e _ fun v s G1 H1 g1 k1 es r => by
    subst es
    exact ⟨v, d, rfl, r.mono k1.gh, dd, nd, sh, sz, dp, q _ _ G1 H1 g1 k1 rfl (.str _)⟩
end
/-! ### try with several clauses, each with the same name in slot i -/
def wManyN (K : PySem.W.Frag) (i : Nat) (Wout : WX) (De : Ends) : List (Value × (Addr → Value → Option Addr → TS)) → WX
  | [] => Wout
  | (c, ts) :: r => fun cls d σ H => ∃ b, PySem.W.exmOne K cls c = some b ∧
      (b = true → ∀ a, H a = none → ts a cls d { nx := fun σ' H' => De.nx (σ'.set i none) H', rt := De.rt, bk := fun σ' H' => De.bk (σ'.set i none) H', ct := fun σ' H' => De.ct (σ'.set i none) H' } (σ.set i (some (.ref a))) H) ∧
      (b = false → wManyN K i Wout De r cls d σ H)
/-- told of slots of the right number alone -/
def wLen (n : Nat) (W : WX) : WX := fun cls d σ H => σ.length = n → W cls d σ H
inductive HdsN (X : Cx) (n : Str) : List ExceptHandler → List (Value × (Addr → Value → Option Addr → TS)) → Prop
  | nil : HdsN X n [] []
  | cons {x : Str} {c : Value} {ts : Addr → Value → Option Addr → TS} {b0 : Stmt} {su : List Stmt} {np p' : Pos} {hds : List ExceptHandler} {l : List (Value × (Addr → Value → Option Addr → TS))} (hc : Names X x c)
      (hsu : ∀ (a : Addr) (oe : Obj) (cls : Value) (d : Option Addr) (pn : List (Addr × Obj)), Zc cls d oe → (∃ vs, oe.data = .fields vs) → PSs (X.suite a ((a, oe) :: pn)) (b0 :: su) (ts a cls d)) (r : HdsN X n hds l) :
      HdsN X n (.ExceptHandler (some (.Name x np)) (some n) (b0 :: su) p' :: hds) ((c, ts) :: l)
section
variable {X : Cx} {body : List Stmt} {h0 : ExceptHandler} {hds : List ExceptHandler} {l : List (Value × (Addr → Value → Option Addr → TS))} {pos : Pos} {tb : WX → TS} {Wout : WX} {n : Str} {i : Nat}
theorem ps_try_manyN (hs : X.stack = X.env :: X.outer) (hf : X.env.frame = some X.env.locals) (hN : X.N.Nodup) (hi : X.N[i]? = some n) (hln : X.env.kindOf n = some .local) (tk : Takes X Wout)
    (hb : ∀ (W : WX) (pn : List (Addr × Obj)) (xe : Value → Shared → Prop), Takes (X.tr pn xe) W → PassesOwn (model X.prog X.w) X.A X.env xe → PSs (X.tr pn xe) body (tb W))
    (hh : HdsN X n (h0 :: hds) l) : PS X (.Try body (h0 :: hds) [] [] pos) (fun De σ H => tb (wLen X.N.length (wManyN X.K i Wout De l)) De σ H) := ⟨fun pins s σ H De I h => by
  have ok := I.ok
  have hfr : X.A.frames = some (X.env :: X.outer) := by rw [ok.frames, hs]
  refine wpAny_Try_except (wpAny_mono ((hb (wLen X.N.length (wManyN X.K i Wout De l)) (X.pn ++ pins) (fun e s1 => wpAny (model X.prog X.w) X.A (noteFrame e X.env) (fun _ s2 => wpAny (model X.prog X.w) X.A (setFlight e none) (fun _ s3 =>
    wpAny (model X.prog X.w) X.A (handleBy e X.env (h0 :: hds)) (SP X pins De) X.xe s3) X.xe s2) X.xe s1) (fun u s' xx => ?_) PassesOwn.looking).run [] s σ H De (I.toTry _) h) (fun fl s1 hsp => ?_) fun _ _ he => he)
  · obtain ⟨a, B, sI, pins', σ', H', cls, d, rfl, J', nb, up, sky, na, os, ag, wish0⟩ := xx
    have J : Inv X pins σ' H' sI := J'.ofTry ok
    have wish := wish0 J.len
    rw [hs] at sky
    show wpAny (model X.prog X.w) X.A (noteFrame (.ref a) X.env) _ _ _
    refine Sky.land Zc.steady hfr hf sky fun h3 fl3 up3 => ?_
    have J3 : Inv X pins σ' H' { s' with heap := h3 } := J.landed nb fl3.1 (up.trans up3) os ag
    obtain ⟨oe3, vs3, he3, hz3, hd3⟩ := fl3.there
    have nfr : a ∉ frs (X.env :: X.outer) := fun hm => by
      obtain ⟨_, o', e', hnf⟩ := fl3.2.2.1.mem hm
      rw [he3] at e'
      cases e'
      exact hnf _ hd3
    have nL : a ≠ X.env.locals := fun z => nfr (List.mem_filterMap.mpr ⟨X.env, List.mem_cons_self, by rw [hf, z]⟩)
    have nF : a ∉ X.fs := fun hm => by
      obtain ⟨e, he, q⟩ := List.mem_filterMap.mp hm
      exact nfr (List.mem_filterMap.mpr ⟨e, List.mem_cons_of_mem _ he, q⟩)
    have S3 := J3.suite he3 hd3 na nL nF
    suffices key : ∀ {hds' : List ExceptHandler} {l' : List (Value × (Addr → Value → Option Addr → TS))}, HdsN X n hds' l' → wManyN X.K i Wout De l' cls d σ' H' →
        wpAny (model X.prog X.w) X.A (handleBy (.ref a) X.env hds') (SP X pins De) X.xe { s' with heap := h3 } from key hh wish
    intro hds' l' hk
    induction hk with
    | nil =>
      intro w
      refine wpAny_handleBy_nil ?_
      obtain ⟨k1, k2, k3, oe, vs, T, oT, ts', he, hz, hd, h1, hr⟩ := id fl3
      unfold PySem.passOn
      refine wpAny_bind (wpAny_field he hd h1 ?_)
      rw [if_neg (show ¬ ((Value.ref T == Value.none) = true) by simp)]
      have last : wpAny (model X.prog X.w) X.A (setFlight (.ref a) X.env.frame) (fun _ s4 => wpAny (model X.prog X.w) X.A (throw (.ref a) : Sem Flow) (SP X pins De) X.xe s4) X.xe { s' with heap := h3 } := by
        rw [hf]
        exact HandSPX.setFlight_upZ fl3 fun h4 hh4 up4 => wpAny_throw (tk _ _ ⟨a, B, sI, pins, σ', H', cls, d, rfl, J, nb, (up.trans up3).trans up4, .inr (.inr (by rw [hs]; exact hh4)), na, os, ag, w⟩)
      first
        | exact wpAny_bind (wpAny_pure (wpAny_bind last))
        | exact wpAny_bind last
    | @cons x c ts b0 su np p' hds2 l2 hc hsu r ih =>
      intro w
      obtain ⟨b, hb1, hyes, hno⟩ := w
      refine wpAny_handleBy_cons (codeAny_handlers_test ?_) (by intro q; cases q)
      have LM := PySem.W.exm_one (M := model X.prog X.w) J3.kIn (fun A Q E s k q => wpAny_typeOf_ref (k _ _ he3) (by rw [hz3.1]; exact q)) hb1
      have test : ∀ {Q : Value → Shared → Prop} {E : Value → Shared → Prop}, Q c { s' with heap := h3 } → wpAny (model X.prog X.w) (X.A.mark (some (.ref a))) (eval (.Name x np) X.env) Q E { s' with heap := h3 } := fun {Q E} q => by
        obtain ⟨hg, hdbg, hm | ⟨hm, hv, hnn⟩⟩ := hc
        · exact ld_glob (X := X.suite a ((a, oe3) :: (X.pn ++ pins))) S3 hg hm q hdbg
        · exact ld_blt (X := X.suite a ((a, oe3) :: (X.pn ++ pins))) S3 hg hm hv q hnn hdbg
      refine test (LM.here ?_)
      cases b with
      | false =>
        show wpAny _ X.A (handleBy (.ref a) X.env hds2) _ _ _
        exact ih (hno rfl)
      | true =>
        refine codeAny_handlers_suite_as (HandSPX.lands_againZ fl3 fun h4 fl4 up4 => ?_)
        have J4 : Inv X pins σ' H' { s' with heap := h4 } := J.landed nb fl4.1 ((up.trans up3).trans up4) os ag
        obtain ⟨oe4, vs4, he4, hz4, hd4⟩ := fl4.there
        refine store_ok (X := X.suite a ((a, oe4) :: (X.pn ++ pins))) (v := .ref a) (J4.suite he4 hd4 na nL nF) hN hi (.inl hln) rfl (fun s5 S5 => ?_) (.inr hln)
        refine wpAny_mono ((hsu a oe4 cls d (X.pn ++ pins) hz4 ⟨_, hd4⟩).run [] s5 _ H' _ S5 (hyes rfl a na)) (fun fl s6 hsp => ?_) (fun _ _ z => False.elim z)
        have away : ∀ {σ6 : L2.St} {H6 : Hp} {Q : Shared → Prop}, Inv (X.suite a ((a, oe4) :: (X.pn ++ pins))) [] σ6 H6 s6 → (∀ s7, Inv X pins (σ6.set i none) H6 s7 → Q s7) →
            wpAny (model X.prog X.w) X.A (do bindName X.env n .none; unbindBehindTheSuite X.env n p') (fun _ s7 => Q s7) X.xe s6 := fun S6 hq => gone_ok (S6.unsuite ok) hN hi hln hq
        cases fl with
        | next =>
          obtain ⟨σ6, H6, S6, q6⟩ := hsp
          exact away S6 fun s7 J7 => ⟨_, _, J7, q6⟩
        | brk =>
          obtain ⟨σ6, H6, S6, q6⟩ := hsp
          exact away S6 fun s7 J7 => ⟨_, _, J7, q6⟩
        | cont =>
          obtain ⟨σ6, H6, S6, q6⟩ := hsp
          exact away S6 fun s7 J7 => ⟨_, _, J7, q6⟩
        | ret u =>
          obtain ⟨v6, σ6, H6, S6, r6, q6⟩ := hsp
          exact away S6 fun s7 J7 => ⟨_, _, _, J7, r6, q6⟩
  · cases fl with
    | next =>
      obtain ⟨σ', H', J', q⟩ := hsp
      exact wpAny_execs_nil ⟨σ', H', J'.ofTry ok, q⟩
    | brk =>
      obtain ⟨σ', H', J', q⟩ := hsp
      exact ⟨σ', H', J'.ofTry ok, q⟩
    | cont =>
      obtain ⟨σ', H', J', q⟩ := hsp
      exact ⟨σ', H', J'.ofTry ok, q⟩
    | ret u =>
      obtain ⟨v, σ', H', J', r, q⟩ := hsp
      exact ⟨v, σ', H', J'.ofTry ok, r, q⟩⟩
end
/-! ### a def that asks what it is handed, and tells the error: try: ask() / except X1 as e: return ('w1', e.value) .. / return ('', None) -/
def tsR (C : Addr) (w : Str) : Addr → Value → Option Addr → TS := fun a cls d => tRet (tTup (tCons (tC (.str w)) (tCons (tXf a cls d C "value" (tVar 1)) tNil)))
def hdL (cs : List (Addr × Str)) : List (Value × (Addr → Value → Option Addr → TS)) := cs.map fun p => (.ref p.1, tsR p.1 p.2)
/-- the wish of the one who asks -/
def EchR (K : PySem.W.Frag) (Q : VK) : List (Addr × Str) → XK
  | [] => fun _ _ _ => False
  | (C, w) :: r => fun cls d H' => ∃ b, PySem.W.exmOne K cls (.ref C) = some b ∧
      (b = true → cls = .ref C ∧ ∃ (dd : Addr) (v : V), d = some dd ∧ H' dd = some (.xd [("value", v)]) ∧ ∀ p, H' p = none → Q (.ref p) (upd H' p (.tup [.str w, v]))) ∧ (b = false → EchR K Q r cls d H')
def TRef (K : PySem.W.Frag) (cs : List (Addr × Str)) : (XK → Hp → VK → Prop) → Hp → VK → Prop := fun tl H Q =>
  tl (EchR K Q cs) H (fun _ H' => ∀ p, H' p = none → Q (.ref p) (upd H' p (.tup [.str "", .non])))
theorem ech_many {K : PySem.W.Frag} {Q : VK} {De : Ends} (hrt : De.rt = Q) {cls : Value} {d : Option Addr} {σ : L2.St} {H : Hp} (hl : σ.length = 2) : ∀ {cs : List (Addr × Str)}, EchR K Q cs cls d H → wManyN K 1 (fun _ _ _ _ => False) De (hdL cs) cls d σ H
  | [], h => h
  | (C, w) :: r, h => by
    obtain ⟨b, h1, h2, h3⟩ := h
    refine ⟨b, h1, fun hb a ha => ?_, fun hb => ech_many hrt hl (h3 hb)⟩
    obtain ⟨ec, dd, v, ed, hd, k⟩ := h2 hb
    match σ, hl with
    | [x0, x1], _ =>
      refine ⟨.ref a, rfl, rfl, ec, dd, _, v, ed, hd, rfl, by show 2 ≤ sizeLine; decide, fun p hp => ?_⟩
      have hq := k p hp
      rw [← hrt] at hq
      exact hq
section
open LamX
theorem ref_gives {X : Cx} {x q : Str} {sg : Scope} {g : Addr} {cdg : Value} {h0 : ExceptHandler} {hds : List ExceptHandler} {cs : List (Addr × Str)} {a : Str} {j1 j2 : Nat} {k3 : Nat} {p1 p2 p3 pt q1 q2 q3 q4 : Pos} (nd : (["ask", "e"] : List Str).Nodup)
    (hl : sg.names.lookup (PySem.Str.ofString "e") = some NameKind.local)
    (hh : ∀ (s : Shared) (H : Hp), HdsN (cxOf C8.CX0 X.prog X.w X.K X.mg X.base ["ask", "e"] x sg g cdg X.A X.stack s H C8.E0).nox "e" (h0 :: hds) (hdL cs)) :
    GivesTo X ["ask", "e"] x sg g cdg [.Try [.Expr (.Call (.Name a p1) [] [] p2) p3] (h0 :: hds) [] [] pt, .Return (some (.Tuple [.Constant (.str "") j1 q1, .Constant .none j2 q2] k3 q3)) q4] a q (TRef X.K cs) := by
  intro f c' s H Q tl act hc h
  refine ⟨_, pss_cons (ps_try_manyN (X := (cxOf C8.CX0 X.prog X.w X.K X.mg X.base ["ask", "e"] x sg g cdg X.A X.stack s H C8.E0).nox) (i := 1)
      (tb := fun W De σ H => ∃ Ech : XK, (∀ cls d σ' H', Ech cls d H' → W cls d σ' H') ∧ σ[0]? = some (some (.ref f)) ∧ H c' = some (CodeO c' q) ∧ tl Ech H (fun _ H1 => De.nx σ H1))
      rfl rfl nd rfl hl L2.takes0 (fun W pn xe tk _ => ?_) (hh s H)) (pss_one (ps_ret (pe_tup (pa_cons pe_str (pa_cons pe_non pa_nil))))), ?_⟩
  · refine ⟨fun pins s' σ H' De I h' => ?_⟩
    obtain ⟨Ech, hW, h1, h2, h3⟩ := h'
    exact (pss_one (ps_expr (pos := p3) (act W pn xe Ech p1 p2 tk hW))).run pins s' σ H' De I ⟨h1, h2, h3⟩
  · exact ⟨EchR X.K Q cs, fun cls d σ' H' he hlen => ech_many rfl hlen he, rfl, hc, by
      refine (show tl (EchR X.K Q cs) H (fun _ H1 => (2 : Nat) ≤ sizeLine ∧ ∀ p, H1 p = none → Q (.ref p) (upd H1 p (.tup [.str "", .non]))) from ?_)
      have e : (fun (_ : V) (H1 : Hp) => (2 : Nat) ≤ sizeLine ∧ ∀ p, H1 p = none → Q (.ref p) (upd H1 p (.tup [.str "", .non]))) = fun _ H1 => ∀ p, H1 p = none → Q (.ref p) (upd H1 p (.tup [.str "", .non])) := by
        funext _ H1
        exact propext ⟨fun z => z.2, fun z => ⟨by decide, z⟩⟩
      rw [e]
      exact h⟩
end
end Dl

set_option Elab.async false
set_option linter.all false
set_option maxRecDepth 100000
set_option maxHeartbeats 4000000
/-! Dlam: a lambda handed to the def that asks it, as data; the end of a law. -/
namespace Dl
open PySem PySem.Spec PyProof.Rows L2 LamX
/-- all but the table at P stays -/
def ExtP (P : Addr) (H H1 : Hp) : Prop := ∀ b o, b ≠ P → H b = some o → H1 b = some o
section
variable {X : Cx} {pins : List (Addr × Obj)} {σ : L2.St} {H : Hp} {s : Shared}
/-- a lambda is made; what was tracked stays, but for the one table -/
theorem lam_mk {c P : Addr} {params : Arguments} {body : Expr} {scope : Scope} {pos : Pos} {E : Value → Shared → Prop} {Q : Value → Shared → Prop} (I : Inv X pins σ H s) (TB : TabB X.base X.mg c P) (hcode : X.env.code = .ref c)
    (hT : TabS H P (X.env.qual ++ "<lambda>")) (hdef : defaultsOf params X.env = ([], [])) (hfree : ∀ y ∈ scope.names, y.2 = .free → ∃ c, X.env.cells.lookup y.1 = some c)
    (h : ∀ (f c' : Addr) (pm ctv : Value) (H1 : Hp) (s' : Shared), Inv X pins σ H1 s' → ExtP P H H1 → TabS H1 P (X.env.qual ++ "<lambda>") →
      s'.heap.get? f = some (PySem.W.kla_obj "<lambda>" (X.env.qual ++ "<lambda>") params body scope (cloFrom X.env.cells scope.names []) pm c' ctv) → H1 f = none → f ∉ frs X.stack → H1 c' = some (CodeO c' (X.env.qual ++ "<lambda>")) → Q (.ref f) s') :
    wpAny (model X.prog X.w) X.A (eval (.Lambda params body scope pos) X.env) Q E s := by
  obtain ⟨ps, hP, ht, ha⟩ := hT
  have here : s.heap.get? P = some { cls := .none, data := .fields ps } := I.hok P _ hP
  have bP : s.heap.BuiltinsAt X.mg P := TB.bm.keeps I.bk
  have nofr : ∀ f, s.heap.objs.size ≤ f → f ∉ frs X.stack := fun f hf z => (List.mem_cons.mp (I.stkSub _ z)).elim (fun e => by
    have h1 := I.lt
    rw [← e] at h1
    exact Nat.lt_irrefl _ (Nat.lt_of_lt_of_le h1 hf)) fun e => I.nofs hf e
  refine PySem.W.kla_eval hdef ?_
  cases hc : codeAmong pos ps.toList with
  | some cv =>
    obtain ⟨c', rfl, hco⟩ := ha pos cv hc
    exact PySem.W.kla_makeFunctionHit (mg := X.mg) (c := c) (P := P) (ps := ps) (closure_ok hfree) I.ok.glob (I.mod.glob.keeps I.bk) hcode (TB.code.keeps I.bk) here ht hc bP fun ctv h' tk hx hsz =>
      h h'.objs.size c' _ ctv H _ (I.kept (t' := tk) fun b o e => Heap.get?_push_of_some _ (hx b o e)) (fun _ _ _ e => e) ⟨ps, hP, ht, ha⟩ (Heap.get?_push_size _ rfl) (I.hok.fresh hsz) (nofr _ hsz) hco
  | none =>
    refine PySem.W.kla_makeFunction (mg := X.mg) (c := c) (P := P) (ps := ps) (closure_ok hfree) I.ok.glob (I.mod.glob.keeps I.bk) hcode (TB.code.keeps I.bk) here ht hc TB.gP bP fun c' ctv h' tk hx hge hlt hrec htb => ?_
    obtain ⟨c2, oc, vs, t, e2, hoc, hd, hv⟩ := hrec
    cases e2
    have hsz : s.heap.objs.size ≤ h'.objs.size := Nat.le_of_lt (Nat.lt_of_le_of_lt hge hlt)
    have nC : H c' = none := I.hok.fresh hge
    have nPc : P ≠ c' := ne_of_none hP nC
    have J := inv_table (t' := tk) (more := #[rawInt pos.line, rawInt pos.col, .ref c']) (h' := h'.push (PySem.W.kla_obj "<lambda>" (X.env.qual ++ "<lambda>") params body scope (cloFrom X.env.cells scope.names []) ((X.mg "__name__").getD .none) c' ctv)) I hP
      (fun b o hb e => Heap.get?_push_of_some _ (hx b o hb e)) (Heap.get?_push_of_some _ htb) hge ⟨oc, vs, t, Heap.get?_push_of_some _ hoc, hd, hv⟩
    have hE : ExtP P H (upd (upd H P (.tbl (ps ++ #[rawInt pos.line, rawInt pos.col, .ref c']))) c' (CodeO c' (X.env.qual ++ "<lambda>"))) := fun b o nb e => by
      rw [upd_ne (ne_of_none e nC), upd_ne nb]
      exact e
    have eL : (ps ++ #[rawInt pos.line, rawInt pos.col, .ref c']).toList = ps.toList ++ [rawInt pos.line, rawInt pos.col, .ref c'] := by simp
    refine h h'.objs.size c' _ ctv _ _ J hE ⟨_, by rw [upd_ne nPc, upd_same], by rw [eL]; exact PySem.TriplesOk_snoc _ _ _ _ ht, fun p' cv hcv => ?_⟩ (Heap.get?_push_size _ rfl) ?_ (nofr _ hsz) upd_same
    · rw [eL] at hcv
      rcases among_app _ ht hcv with z | z
      · obtain ⟨c0, e1, e2⟩ := ha p' cv z
        exact ⟨c0, e1, hE _ _ (fun q => codeO_ne ps (Option.some.inj (e2.symm.trans (q ▸ hP)))) e2⟩
      · exact ⟨c', z, upd_same⟩
    · have n1 : h'.objs.size ≠ c' := Nat.ne_of_gt hlt
      have n2 : h'.objs.size ≠ P := Nat.ne_of_gt (Nat.lt_of_lt_of_le (Heap.lt_size here) hsz)
      rw [upd_ne n1, upd_ne n2]
      exact I.hok.fresh hsz
end
def tLamP (P : Addr) (q : Str) (TT : (XK → Hp → VK → Prop) → Hp → VK → Prop) (t : XK → TE) : TE := fun σ H Q => TabS H P q ∧ ∀ H1, ExtP P H H1 → TabS H1 P q → TT (fun E H' Q' => t E σ H' Q') H1 Q
/-- what a law's body knows of the def that asks lambdas, and of its own table -/
structure AskOk (X : Cx) (x a : Str) (Ng : List Str) (g c P : Addr) (TT : (XK → Hp → VK → Prop) → Hp → VK → Prop) : Prop where
  gm : X.mg x = some (.ref g)
  gk : PySem.W.keepIn X.K (.ref g) = true
  fn : ∃ (pg : Arguments) (bg : List Stmt) (sg : Scope) (dV kV doc pm cdv ct oc : Value) (an od : Option Addr) (osl : Array (Option Value)), X.K.lookup g = some ⟨oc, od, .func (PySem.W.fnOf x x pg bg sg dV kV doc pm an cdv ct), osl⟩ ∧ PySem.W.codeIn X.K cdv x = true ∧
    L2.Binds X.K (PySem.W.fnOf x x pg bg sg dV kV doc pm an cdv ct) [a] [] ∧ FnScope Ng [a] sg ∧ Vis sg a ∧ GivesTo X Ng x sg g cdv bg a (X.env.qual ++ "<lambda>") TT
  g0 : Ng[0]? = some a
  tb : TabB X.base X.mg c P
  code : X.env.code = .ref c
  d1 : (x == ("__debug__" : Str)) = false
  d2 : (a == ("__debug__" : Str)) = false
  d3 : (a == ("__classdict__" : Str)) = false
section
variable {X : Cx}
/-- x(lambda: body) -/
theorem pe_lam {TT : (XK → Hp → VK → Prop) → Hp → VK → Prop} {x a : Str} {g c P : Addr} {k : Nat} {Ng : List Str} {params : Arguments} {body : Expr} {scope : Scope} {t : XK → TE} {p lpos pos : Pos} (O : AskOk X x a Ng g c P TT) (hg : Gl X x) (hr : Room (k + 2) X.A) (L : LamS X.env.scope scope) (hdef : defaultsOf params X.env = ([], []))
    (hbind : ∀ (q : Str) (cl : List (Str × Addr)) (pm cv ctv : Value), bindArgs (PySem.W.kla_fn "<lambda>" q params body scope cl pm cv ctv) ⟨[], []⟩ = pure [])
    (hbody : ∀ (A : Around) (outer : List PySem.Env) (s : Shared) (H : Hp) (E : XK) (f c' : Addr), Room k (A.deeper (lamEnv X scope s.heap.objs.size f c')) → PE (lamCx X A outer s H E scope f c') body (t E)) :
    PE X (.Call (.Name x p) [.Lambda params body scope lpos] [] pos) (tLamP P (X.env.qual ++ "<lambda>") TT t) := by
  refine ⟨fun pins s σ H Q I ⟨hT, h⟩ => ?_⟩
  obtain ⟨pg, bg, sg, dV, kV, doc, pm, cdv, ct, oc, an, od, osl, lk, hcg, hb, Sg, hva, hG⟩ := O.fn
  refine wpAny_Call_Name_kw (ld_glob I hg O.gm ?_ O.d1)
  refine PySem.W.callWith_K (h₀ := X.base) I.ok.mod.kin O.gk ?_ (by rfl) (by rfl)
  show wpAny _ _ (spliced ((false, eval (.Lambda params body scope lpos) X.env) :: backTo pos (starEach [] X.env))) _ _ s
  refine Calls.spliced_cons (lam_mk I O.tb O.code hT hdef (L.has I.ok) fun f c' pm' ctv H1 s' J eN T1 hf hfn hfr hco => Calls.spliced_nil ⟨J.kIn, ?_⟩)
  refine wpAny_call (codeAny_mono (run_ofS (CX := C8.CX0) (Q := Q) (E := C8.E0) (N := Ng) (ps := [a]) (us := [.ref f]) (vs := [.ref f]) lk hcg Sg hr J.env0 (hb s' [.ref f] J.kIn rfl) (.cons rfl .nil) rfl fun hr' => ?_) fun r s2 hq => ?_)
  · obtain ⟨t', ht', hq'⟩ := hG f c' s' H1 Q (fun E H' Q' => t E σ H' Q') (fun W pn xe E p1 p2 tk hW => pe_act (i := 0) J L hf hfn hfr (hbind _ _ _ _ _) tk hW hr' (fun A outer s H hr2 => hbody A outer s H E f c' hr2) O.g0 hva O.d2 O.d3) hco (h H1 eN T1)
    exact ⟨t', ht'.nox, hq'⟩
  · cases r with
    | error e => exact (show False from hq).elim
    | ok fl =>
      cases fl with
      | ret u => exact J.after hq
      | next => exact False.elim hq
      | brk => exact False.elim hq
      | cont => exact False.elim hq
end
/-! ### as data -/
/-- what a lambda's body does: a value, or an error -/
def EvX (S : Cf) (t : XK → TE) (ρ : Rho) (Pok : Sl → Prop) (Pex : Addr → D → Prop) : Prop := ∀ (σ : L2.St) (G H : Hp), Kn S.fx G H → Env S G H σ ρ → ∀ (E : XK) (Q : VK),
  (∀ v s G' H', Grow S.fx G H G' H' → Kn S.fx G' H' → Pok s → RS S.K G' v s → Q v H') →
  (∀ C d dd v G' H', Grow S.fx G H G' H' → Kn S.fx G' H' → H' dd = some (.xd [("value", v)]) → R S.K G' v d → Pex C d → E (.ref C) (some dd) H') → t E σ H Q
/-- the word that the clauses tell of the class at C -/
def Told (K : PySem.W.Frag) (C : Addr) (w : Str) : List (Addr × Str) → Prop
  | [] => False
  | (C', w') :: r => ∃ b, PySem.W.exmOne K (.ref C) (.ref C') = some b ∧ (b = true → C = C' ∧ w = w') ∧ (b = false → Told K C w r)
section
variable {S : Cf} {ρ : Rho} {Pok : Sl → Prop} {Pex : Addr → D → Prop} {ι : Type} {args : ι → List Sl} {pre : ι → Prop} {post : ι → Re → Prop} {ta : TA}
theorem evx_callP {Pa : List Sl → Prop} (ha : EvA S ta ρ Pa) (h : ∀ ss, Pa ss → ∃ i, ss = args i ∧ pre i ∧ (∀ s, post i (.ok s) → Pok s) ∧ (∀ C d, post i (.ex C d) → Pex C d)) : EvX S (fun E => tCall (spI S.K fx0 args pre post) [] E ta) ρ Pok Pex := fun σ G H k e E Q q1 q2 =>
  ha σ G H k e _ fun vs ss G1 H1 g1 k1 p1 r1 => by
    obtain ⟨i, e1, hp, ho, hx⟩ := h ss p1
    subst e1
    rw [List.append_nil]
    refine ⟨i, G1, hp, k1.low, r1, fun v s G2 H2 g2 k2 r2 po => ?_, fun C d dd v G2 H2 g2 k2 hd r2 po => ?_⟩
    · exact q1 v s G2 H2 (g1.trans k1 (k1.lift g2) g2.lift) (k1.lift g2) (ho s po) r2
    · exact q2 C d dd v G2 H2 (g1.trans k1 (k1.lift g2) g2.lift) (k1.lift g2) hd r2 (hx C d po)
theorem evx_call (i : ι) (ha : EvA S ta ρ (Eq (args i))) (hp : pre i) (ho : ∀ s, post i (.ok s) → Pok s) (hx : ∀ C d, post i (.ex C d) → Pex C d) : EvX S (fun E => tCall (spI S.K fx0 args pre post) [] E ta) ρ Pok Pex := evx_callP ha fun ss e => ⟨i, e.symm, hp, ho, hx⟩
/-- the def that the j-th slot holds -/
theorem evx_callL {j : Nat} {f : Addr} (i : ι) (hj : ρ[j]? = some (.raw (.ref f))) (ha : EvA S ta ρ (Eq (args i))) (hp : pre i) (ho : ∀ s, post i (.ok s) → Pok s) (hx : ∀ C d, post i (.ex C d) → Pex C d) :
    EvX S (fun E => tCallL j f (spI S.K fx0 args pre post) [] E ta) ρ Pok Pex := fun σ G H k e E Q q1 q2 => by
  obtain ⟨v, h1, e'⟩ := e.get hj
  have e2 : v = .ref f := Option.some.inj e'
  subst e2
  exact ⟨h1, evx_call i ha hp ho hx σ G H k e E Q q1 q2⟩
theorem told_ech {K : PySem.W.Frag} {Q : VK} {C dd : Addr} {v : V} {w : Str} {H : Hp} (hd : H dd = some (.xd [("value", v)])) (q : ∀ p, H p = none → Q (.ref p) (upd H p (.tup [.str w, v]))) : ∀ {cs : List (Addr × Str)}, Told K C w cs → EchR K Q cs (.ref C) (some dd) H
  | [], h => h.elim
  | (C', w') :: r, h => by
    obtain ⟨b, h1, h2, h3⟩ := h
    refine ⟨b, h1, fun hb => ?_, fun hb => told_ech hd q (h3 hb)⟩
    obtain ⟨e1, e2⟩ := h2 hb
    subst e1 e2
    exact ⟨rfl, dd, v, rfl, hd, q⟩
/-- x(lambda: ..), x telling the error -/
theorem ev_lam {P : Addr} {q : Str} {cs : List (Addr × Str)} {t : XK → TE} {Pp : Sl → Prop} (hT : ∀ H, S.fx.inv H → TabS H P q) (hv : S.fx.vol P) (hI : ∀ H H1, S.fx.inv H → ExtP P H H1 → TabS H1 P q → S.fx.inv H1)
    (h : EvX S t ρ Pok Pex) (h1 : ∀ s, Pok s → Pp (.dat (.tuple [.str "", .none]))) (h2 : ∀ C d, Pex C d → ∃ w, Told S.K C w cs ∧ Pp (.dat (.tuple [.str w, d]))) : Ev S (tLamP P q (TRef S.K cs) t) ρ Pp := fun σ G H k e Q qq => by
  refine ⟨hT H k.inv, fun H1 eP T1 => ?_⟩
  have gP : G P = none := k.vn P hv
  have k1 : Kn S.fx G H1 := ⟨fun b o hb => eP b o (fun z => by rw [z, gP] at hb; cases hb) (k.gh b o hb), hI H H1 k.inv eP T1, k.vn⟩
  have g1 : Grow S.fx G H G H1 := ⟨Same.refl G, k1.gh, fun b o nv hb => eP b o (fun z => nv (z ▸ hv)) hb, fun _ _ n => n⟩
  refine h σ G H1 k1 (e.grow g1) _ _ (fun v s G2 H2 g2 k2 p2 r2 p hp => ?_) fun C d dd v G2 H2 g2 k2 hd r2 p2 => ?_
  · have g3 := Grow.new k2 (.tup [.str "", .non]) hp
    have k3 := Kn.new k2 (.tup [.str "", .non]) hp
    exact qq _ _ _ _ ((g1.trans k1 k2 g2).trans k2 k3 g3) k3 (h1 s p2) (.tup (SqT.of upd_same) (.cons (.str _) (.cons .non .nil)))
  · obtain ⟨w, tw, pw⟩ := h2 C d p2
    refine told_ech hd (fun p hp => ?_) tw
    have g3 := Grow.new k2 (.tup [.str w, v]) hp
    have k3 := Kn.new k2 (.tup [.str w, v]) hp
    exact qq _ _ _ _ ((g1.trans k1 k2 g2).trans k2 k3 g3) k3 pw (.tup (SqT.of upd_same) (.cons (.str _) (.cons (r2.mono g3.gg) .nil)))
end
end Dl

set_option Elab.async false
set_option linter.all false
set_option maxRecDepth 100000
set_option maxHeartbeats 4000000
/-! Dend: the end of a law whose own body makes lambdas; what runs around the law is known (no repr is under way). -/
namespace Dl
open PySem PySem.Spec PyProof.Rows L2 LamX
/-- the law's run, from any abstract heap that holds its own table and the script -/
def LawRun (P : Program) (w : World) (K : PySem.W.Frag) (mg : Str → Option Value) (fa c T : Addr) : Prop :=
  ∀ (base : Heap) (H : Hp) (s : Shared) (a : Addr) (ns : List Int), K.In base → base.Ns mainGlobals mg → TabB base mg c T → Env0 P w K mg base callerA [] s H → H T = some (.tbl #[]) → a ≠ T →
    SqL K H a (ns.map V.int) → ns.length ≤ 63 → (∀ z ∈ ns, Builtin.Int.intBits z ≤ 1048576) →
    codeAny (model P w) callerA (.call (.ref fa) ⟨[.ref a], []⟩) (CR (L2.CX P w) [] P w H s (fun v _ => v = .bl true) (fun _ _ _ => False)) s
theorem law_call1 {P : Program} {w : World} {K : PySem.W.Frag} {mg mb : Str → Option Value} {fa a c T : Addr} {s1 : Shared} {vs : List Value} {ns : List Int} (KX : K.In s1.heap) (hns : s1.heap.Ns mainGlobals mg) (hb : s1.heap.Ns builtinsNs mb)
    (hbb : ∀ x : Str, x ≠ "__name__" → mb x = bootBuiltins x) (hlim : s1.heap.NoLimit) (hg : s1.gens = #[]) (hT : s1.heap.get? T = some { cls := .none, data := .fields #[] }) (nT : K.lookup T = none) (C : PySem.W.CodeHd s1.heap c T)
    (hbm : ∃ (bm : Addr) (ob : Obj), mg "__builtins__" = some (.ref bm) ∧ bm ≠ builtinsNs ∧ s1.heap.get? bm = some ob ∧ ob.cls = .type "module" ∧ ob.dict = some builtinsNs ∧ ob.data = .plain)
    (ha : s1.heap.get? a = some { cls := .type "list", data := .seq vs.toArray }) (hi : IntsAre vs ns) (hl : ns.length ≤ 63) (hz : ∀ z ∈ ns, Builtin.Int.intBits z ≤ 1048576) (F : LawRun P w K mg fa c T) :
    codeAny (model P w) callerA (.call (.ref fa) ⟨[.ref a], []⟩) (fun r s' => r = .ok (.ret (.bool true)) ∧ OldK s1.heap s'.heap ∧ s'.os = s1.os ∧ AllBare s'.gens) s1 := by
  have lenV := hi.length
  have naT : a ≠ T := fun z => by
    rw [z, hT] at ha
    cases ha
  have hl' : ns.length ≤ sizeLine := Nat.le_trans hl (by decide)
  -- what is tracked: the table, and the script where the written part does not hold it
  let fo : HO := .frz { cls := .type "list", data := .seq vs.toArray } (.lst (ns.map V.int))
  let H : Hp := fun b => if b = T then some (.tbl #[]) else if b = a ∧ K.lookup a = none then some fo else none
  have HT : H T = some (.tbl #[]) := if_pos rfl
  have Hne : ∀ b, b ≠ T → b ≠ a → H b = none := fun b h1 h2 => (if_neg h1).trans (if_neg fun z => h2 z.1)
  have Hcases : ∀ b u, H b = some u → (b = T ∧ u = .tbl #[]) ∨ (b = a ∧ K.lookup a = none ∧ u = fo) := fun b u e => by
    by_cases h1 : b = T
    · have e' := (if_pos h1).symm.trans e
      exact .inl ⟨h1, (Option.some.inj e').symm⟩
    · have e1 := (if_neg h1).symm.trans e
      by_cases h2 : b = a ∧ K.lookup a = none
      · have e2 := (if_pos h2).symm.trans e1
        exact .inr ⟨h2.1, h2.2, (Option.some.inj e2).symm⟩
      · have e2 := (if_neg h2).symm.trans e1
        cases e2
  have hS : SqL K H a (ns.map V.int) := by
    cases hk : K.lookup a with
    | none => exact .inl (.inr ⟨_, (if_neg naT).trans (if_pos ⟨rfl, hk⟩)⟩)
    | some o =>
      have e := KX a o hk
      rw [ha] at e
      cases e
      exact .inr ⟨_, vs.toArray, _, hk, rfl, rfl, rfl, by rw [List.size_toArray, lenV]; exact hl', by simpa using vals_ints hi⟩
  have hok : HOk P w H s1.heap := fun b u e => by
    rcases Hcases b u e with ⟨rfl, rfl⟩ | ⟨rfl, _, rfl⟩
    · exact hT
    · exact ⟨ha, by rw [List.length_map]; exact hl', vs, _, vals_ints hi, ha⟩
  -- an object that is neither stays as it is in the base
  have kept : ∀ {b : Addr} {o : Obj}, s1.heap.get? b = some o → (∀ us n, o.data ≠ .seq us n) → o.data ≠ .fields #[] → H b = none := fun {b o} e h1 h2 => Hne b (fun z => by
    rw [z, hT] at e
    cases e
    exact h2 rfl) fun z => by
    rw [z, ha] at e
    cases e
    exact h1 _ _ rfl
  have noD : ∀ {b : Addr} {o : Obj} {es : Array DictEntry} {ep : Nat}, s1.heap.get? b = some o → o.data = .dict es ep → (hidT s1.heap H).get? b = some o := fun {b o es ep} e d => hidT_get e (kept e (fun us n z => by rw [d] at z; cases z) fun z => by rw [d] at z; cases z)
  have nsK : ∀ {b : Addr} {m : Str → Option Value}, s1.heap.Ns b m → (hidT s1.heap H).Ns b m := fun ⟨o, es, ep, e, d, r⟩ => ⟨o, es, ep, noD e d, d, r⟩
  have KB : K.In (hidT s1.heap H) := fun b o e => hidT_get (KX b o e) (by
    cases q : H b with
    | none => rfl
    | some u =>
      rcases Hcases b u q with ⟨rfl, _⟩ | ⟨rfl, hk, _⟩
      · rw [nT] at e
        cases e
      · rw [hk] at e
        cases e)
  have hM : L2.Mod K mg (hidT s1.heap H) := ⟨KB, nsK hns, ⟨mb, nsK hb, hbb⟩, let ⟨mc, h1, h2⟩ := hlim; ⟨mc, nsK h1, h2⟩⟩
  have TB : TabB (hidT s1.heap H) mg c T := by
    refine ⟨?_, ?_, fun z => ?_⟩
    · obtain ⟨o, us, file, tf, flags, tg, inF, text, tt, e1, r1, r2, r3, r⟩ := C
      refine ⟨o, us, file, tf, flags, tg, inF, text, tt, hidT_get e1 (kept e1 (fun x n z => by rw [r2] at z; cases z) fun z => ?_), r1, r2, r3, r⟩
      rw [r2] at z
      cases z
      simp at r3
    · obtain ⟨bm, ob, b1, b2, b3, b4, b5, b6⟩ := hbm
      refine ⟨bm, ob, b1, b2, fun q => ?_, fun q => ?_, hidT_get b3 (kept b3 (fun x n z => by rw [b6] at z; cases z) fun z => by rw [b6] at z; cases z), b4, b5, b6⟩
      · obtain ⟨o, es, ep, e, hd, _⟩ := hns
        rw [q, e] at b3
        cases b3
        rw [hd] at b6
        cases b6
      · rw [q, hT] at b3
        cases b3
        cases b6
    · obtain ⟨o, es, ep, e, hd, _⟩ := hns
      rw [z, hT] at e
      cases e
      cases hd
  have e0 : Env0 P w K mg (hidT s1.heap H) callerA [] s1 H := ⟨rfl, hM, fun b o e => of_hidT e, Nat.le_of_eq (hidT_size _ _), trivial, fun b hb => absurd (show b ∈ ([] : List Addr) from hb) (by simp), hok, .of_eq hg⟩
  refine codeAny_mono (F _ H s1 a ns KB (nsK hns) TB e0 HT naT hS hl hz) fun r s' h => ?_
  cases r with
  | error e =>
    obtain ⟨_, _, _, _, _, _, _, _, _, _, _, _, z⟩ := (show L2.CX P w [] H s1 (fun _ _ _ => False) e s' from h)
    exact z.elim
  | ok fl =>
    cases fl with
    | next => exact False.elim h
    | brk => exact False.elim h
    | cont => exact False.elim h
    | ret u =>
      obtain ⟨v, H', os, bare, un, hok', rv, q⟩ := h
      have qv : v = .bl true := q
      subst qv
      obtain rfl : u = Value.bool true := rv
      have stay : ∀ b o, b ≠ T → s1.heap.get? b = some o → s'.heap.get? b = some o := fun b o nb e => by
        cases q : H b with
        | none => exact un.keep b o e q (fun z => absurd (show b ∈ ([] : List Addr) from z) (by simp)) (by simp)
        | some u =>
          rcases Hcases b u q with ⟨z, _⟩ | ⟨_, _, z⟩
          · exact absurd z nb
          · subst z
            obtain ⟨e1, _⟩ := hok b _ q
            obtain ⟨e2, _⟩ := hok' b _ (un.frzs b _ _ q)
            rw [e] at e1
            cases e1
            exact e2
      obtain ⟨more, hm⟩ := un.tbls T #[] HT
      have grown : s'.heap.get? T = some { cls := .none, data := .fields (#[] ++ more) } := hok' T _ hm
      rw [Array.empty_append] at grown
      refine ⟨rfl, ⟨fun b o e => ?_, fun b o e => ?_⟩, os, bare⟩
      · by_cases z : b = T
        · subst z
          rw [hT] at e
          cases e
          exact .inr (.inl ⟨(C.tab hT).isCodeTable, rfl, #[], more, rfl, by rw [Array.empty_append]; exact grown⟩)
        · exact .inl (stay b o z e)
      · by_cases z : b = T
        · exact ⟨_, z ▸ grown⟩
        · exact ⟨o, stay b o z e⟩
/-- the facts of the law's own function, code and table -/
structure LawFn (K : PySem.W.Frag) (fa c T : Addr) : Prop where
  fn : ∃ (oc : Value) (od : Option Addr) (fd : FuncData) (sl : Array (Option Value)), K.lookup fa = some ⟨oc, od, .func fd, sl⟩ ∧ fd.code = .ref c
  cd : ∃ (e : Value) (dd : Option Addr) (vs : Array Value) (sl : Array (Option Value)), K.lookup c = some ⟨e, dd, .fields vs, sl⟩ ∧ vs[11]? = some (.ref T)
  hd : PySem.W.codeHdIn K c T = true
  no : K.lookup T = none
theorem walk_end {l : PySem.W.OpenLaw} {q : Program} {loose : List Str} {XP : (Str → Option Value) → Heap → Prop} {YP : World → Heap → Prop} {d : DefRec} {K : Params → PySem.W.Frag} (hn : l.most = some 63) (hdf : d.params.defaults = []) (hrec : ((recsOf q).any fun e => e.name == d.name) = true)
    (hY : ∀ (w : World) (h : Heap), YP w h → (K w.params).In h)
    (F : ∀ (w : World) (mg : Str → Option Value) (fa : Addr) (h : Heap), (K w.params).In h → h.Ns mainGlobals mg → mg d.name = some (.ref fa) → ∃ c T, LawFn (K w.params) fa c T ∧ LawRun l.prog w (K w.params) mg fa c T) :
    PySem.W.WalkO q loose XP YP l.row.toRowW d [] (fun f vs => PySem.call f vs) := by
  refine Att.attach_callB hn hdf fun w s₀ s1 mg mb fa o pm cd doc a vs ns G Y ho hd hcd hmg hobj hints hlen hbits hg => ?_
  have KX := hY w _ Y
  obtain ⟨c, T, ⟨⟨oc, od, fd, sl, k1, k2⟩, ⟨e, dd, cvs, csl, k4, k5⟩, k6, k7⟩, run⟩ := F w mg fa _ KX G.T.g hmg
  have hT : s1.heap.get? T = some { cls := .none, data := .fields #[] } := by
    obtain ⟨dL, hm, hn1⟩ := List.any_eq_true.mp hrec
    have hn2 : dL.name = d.name := beq_iff_eq.mp hn1
    obtain ⟨a', o', fd', c', P', h1, h2, h3, h4, h5, ⟨oc2, vc, e1, _, e3, e4⟩, hP⟩ := G.T.tab dL hm
    rw [hn2, hmg] at h1
    cases h1
    rw [KX _ _ k1] at h2
    cases h2
    cases h3
    rw [k2] at h4
    cases h4
    rw [KX _ _ k4] at e1
    cases e1
    cases e3
    rw [k5] at e4
    cases e4
    exact hP
  exact law_call1 KX G.T.g G.T.b G.T.builtins G.T.nolimit hg hT k7 (PySem.W.codeHd_of_K KX k6) G.T.bmain hobj hints hlen hbits run
/-- the run, by the body -/
theorem law_run {P : Program} {w : World} {K : PySem.W.Frag} {mg : Str → Option Value} {fa c T : Addr} {st : Stmt} {fd : FuncData} {N : List Str} {k : Nat} (F : Fun K "law" "law" st fa fd) (hc : fd.code = .ref c) (Sc : FnScope N ["script"] (defScope st)) (hb : Binds K fd ["script"] []) (hr : Room (k + 1) callerA)
    (hbody : ∀ (base : Heap) (s : Shared) (H : Hp) (a : Addr) (ns : List Int), K.In base → base.Ns mainGlobals mg → TabB base mg c T → Room k (callerA.deeper (envOfC "law" (defScope st) s.heap.objs.size fa (.ref c))) → H T = some (.tbl #[]) → a ≠ T → SqL K H a (ns.map V.int) → ns.length ≤ 63 → (∀ z ∈ ns, Builtin.Int.intBits z ≤ 1048576) →
      ∃ t, PSs (cxOf (L2.CX P w) P w K mg base N "law" (defScope st) fa (.ref c) callerA [] s H (fun _ _ _ => False)) (defBody st) t ∧ t { nx := fun _ H' => V.non = .bl true, rt := fun v _ => v = .bl true } (L2.start N [.ref a]) H) : LawRun P w K mg fa c T := by
  intro base H s a ns KB hG TB e0 HT naT hS hl hz
  obtain ⟨oc, od, kV, doc, pm, an, cdv, ct, osl, rfl, lk, hcd⟩ := F.ex
  have hc' : cdv = .ref c := hc
  subst hc'
  refine run_ofS (N := N) (ps := ["script"]) (us := [.ref a]) (vs := [.ref a]) lk hcd Sc hr e0 (hb s [.ref a] (e0.mod.kin.keeps fun b o e => (e0.bs b o e).1) rfl) (.cons rfl .nil) rfl fun hr' => ?_
  exact hbody base s H a ns KB hG TB hr' HT naT hS hl hz
end Dl

set_option Elab.async false
set_option linter.all false
set_option maxRecDepth 100000
set_option maxHeartbeats 4000000
/-! Dlt: enumerate over a tuple. -/
namespace Dl
open PySem PySem.Spec PyProof.Rows L2
theorem meets_enumT (l : Addr) (items : Array Value) :
    Meets (Builtin.«enumerate.__new__» ⟨[.type "enumerate", .ref l], []⟩) (fun _ R s => s.heap.IsTuple l items ∧
      R (.ok (.ret (.ref (s.heap.push { cls := .type "tuple_iterator", data := .fields #[.ref l, .int 0 0] }).objs.size)))
        { s with heap := (s.heap.push { cls := .type "tuple_iterator", data := .fields #[.ref l, .int 0 0] }).push { cls := .type "enumerate", data := .fields #[.none, .bool false, .ref s.heap.objs.size, rawInt 0, .none, .none] } }) :=
  .of_wp fun prog w A R s h => by
    obtain ⟨hp, g, d, tk, os⟩ := s
    obtain ⟨hL, h⟩ := h
    have hsub := sub_enumerate
    obtain ⟨o, ho, hc, n, hd⟩ := id hL
    wp_walk using AutoSeq1.wpAny_loadPart' ho
    refine wpAny_stack_any fun st => wpAny_pure ?_
    split
    · rename_i c _ _ _ _ _
      cases (c == Value.type "enumerate")
      · wp_walk using AutoSeq1.wpAny_loadPart' ho, wpAny_pyIter_tuple hL
        exact ⟨_, rfl, h⟩
      · wp_walk using AutoSeq1.wpAny_loadPart' ho, wpAny_pyIter_tuple hL
        exact ⟨_, rfl, h⟩
    · wp_walk using AutoSeq1.wpAny_loadPart' ho, wpAny_pyIter_tuple hL
      exact ⟨_, rfl, h⟩

section
variable {prog : Program} {w : World} {A : Around} {E : Value → Shared → Prop} {s : Shared}
theorem call_enumT {l : Addr} {items : Array Value} {Q : Value → Shared → Prop} (hL : s.heap.IsTuple l items)
    (h : ∀ h', IsEnum h' (s.heap.objs.size + 1) s.heap.objs.size 0 .none → h'.IsTupleIter s.heap.objs.size l 0 → (∀ b o, s.heap.get? b = some o → h'.get? b = some o) → Q (.ref (s.heap.objs.size + 1)) { s with heap := h' }) :
    wpAny (model prog w) A (call (.type "enumerate") [.ref l]) Q E s := by
  refine callType_new F.called_enumerate (by decide) (F.typeCall_enumerate_1 _) (F.newCall_enumerate_1 _) (fun obj => F.args_object_init_2 obj _) F.entry_enumerate_new (meets_enumT l items) ⟨hL, ?_⟩
  have hz : (s.heap.push { cls := .type "tuple_iterator", data := .fields #[.ref l, .int 0 0] }).objs.size = s.heap.objs.size + 1 := Heap.size_push ..
  show _ ∧ _
  rw [hz]
  have he : IsEnum ((s.heap.push { cls := .type "tuple_iterator", data := .fields #[.ref l, .int 0 0] }).push
      { cls := .type "enumerate", data := .fields #[.none, .bool false, .ref s.heap.objs.size, rawInt 0, .none, .none] }) (s.heap.objs.size + 1) s.heap.objs.size 0 .none := by
    have q := Heap.get?_push_size (s.heap.push { cls := .type "tuple_iterator", data := .fields #[.ref l, .int 0 0] })
      (o := { cls := .type "enumerate", data := .fields #[.none, .bool false, .ref s.heap.objs.size, rawInt 0, .none, .none] }) rfl
    rw [hz] at q
    exact q
  exact ⟨⟨_, he, rfl⟩, h _ he ⟨_, Heap.get?_push_of_some _ (Heap.get?_push_size _ rfl), rfl, rfl⟩ fun b o x => Heap.get?_push_of_some _ (Heap.get?_push_of_some _ x)⟩
end
/-- the tuple at a, each item in a new pair with its index -/
def IteT (K : PySem.W.Frag) (a : Addr) : It :=
  ⟨fun i H => ∃ (xs : List V) (x : V), SqT K H a xs ∧ xs[i]? = some x, fun i H v H' => ∃ T x, v = .ref T ∧ H T = none ∧ H' = upd H T (.tup [.int (i : Nat), x]) ∧ ∀ xs, SqT K H a xs → xs[i]? = some x, fun i H => ∃ xs : List V, SqT K H a xs ∧ xs.length ≤ i⟩
theorem turn_enumT {P : Program} {w : World} {K : PySem.W.Frag} {elts : List Expr} {kk : Nat} {tpos : Pos} (a e it : Addr) :
    Turn P w K (.Tuple elts kk tpos) (IteT K a) [e, it] e (fun i h => (∃ old, IsEnum h e it ((i : Nat) : Int) old) ∧ h.IsTupleIter it a i ∧ e ≠ it) where
  mem := by simp
  obj := fun i h st b hb => by
    obtain ⟨⟨old, he⟩, ⟨o, ho, hc, hd⟩, _⟩ := st
    rcases (show b = e ∨ b = it by simpa using hb) with z | z
    · exact ⟨_, z ▸ he, fun v q => by cases q⟩
    · exact ⟨o, z ▸ ho, fun v q => by rw [hd] at q; cases q⟩
  keep := fun i h h' st k => ⟨let ⟨old, he⟩ := st.1; ⟨old, k e (by simp) _ he⟩, st.2.1.at fun o q => k it (by simp) o q, st.2.2⟩
  item := by
    intro X hP hw hK hc i pins s σ H E I hf st hg
    subst hP hw hK
    obtain ⟨⟨old, he⟩, hit, hne⟩ := st
    obtain ⟨xs, x, hq, hx⟩ := hg
    obtain ⟨its, rv, p, hz⟩ := I.tuple hq
    obtain ⟨u, hu, ru⟩ := rv.get hx
    have hp : s.heap.IsTuple a its.toArray := p
    have hel : e < s.heap.objs.size := Heap.lt_size he
    have hil : it < s.heap.objs.size := by
      obtain ⟨_, q, _⟩ := hit
      exact Heap.lt_size q
    have nea : e ≠ a := fun z => by
      obtain ⟨o, ho, hcl, _⟩ := hp
      have he' : s.heap.get? e = _ := he
      rw [z, ho] at he'
      cases he'
      simp at hcl
    have nia : a ≠ it := fun z => by
      obtain ⟨o, ho, hcl, _⟩ := hp
      obtain ⟨o2, ho2, hc2, _⟩ := hit
      rw [z, ho2] at ho
      cases ho
      rw [hc2] at hcl
      simp at hcl
    have hi : i < its.toArray.size := by
      have := (List.getElem?_eq_some_iff.mp hu).1
      simpa using this
    refine wpAny_pyNext_enum_itemD (Draws.tuple (A := X.A.in1) (I.ok.hd hc) it a nia its.toArray) he ⟨hit, hp⟩ hi hne (by simp [hne, nea]) fun y h' tk hy ho st' hT hsz hk => ?_
    obtain ⟨hit', _⟩ := st'
    have ey : y = u := by
      have q : its.toArray[i]? = some u := by simpa using hu
      rw [q] at hy
      exact (Option.some.inj hy).symm
    subst ey
    refine ⟨_, rfl, wpAny_letOwnedTupleGo_enum (s := { s with heap := h', toks := tk + 1 }) ho fun h'' he' sb => ?_⟩
    have hT2 : h''.get? s.heap.objs.size = some { cls := .type "tuple", data := .seq #[.int i tk, y] } := (sb.2 _ (Nat.ne_of_gt hel)).trans hT
    have I1 : Inv X pins σ (upd H s.heap.objs.size (.tup [.int (i : Nat), x])) { s with heap := h'', toks := tk + 1 } :=
      I.turnedNew (ch := [e, it]) (fun b ob hb q => (sb.2 b (fun z => hb (by simp [z]))).trans (hk b ob (fun z => hb (by simp [z])) (fun z => hb (by simp [z])) q)) hf (Nat.le_refl _)
        ⟨by show 2 ≤ sizeLine; decide, [.int i tk, y], .cons ⟨_, rfl⟩ (.cons ru .nil), ⟨_, hT2, rfl, _, rfl⟩⟩
    refine ⟨.ref s.heap.objs.size, _, I1, rfl, ⟨_, x, rfl, I.hok.fresh (Nat.le_refl _), rfl, fun ys hy => by rw [I.tuple_inj hy hq]; exact hx⟩, ⟨⟨y, ?_⟩, hit'.at fun o q => (sb.2 it (Ne.symm hne)).trans q, hne⟩, fun b hb => ?_⟩
    · rw [show ((i + 1 : Nat) : Int) = (i : Int) + 1 by omega]
      exact he'
    · have hb' : b < s.heap.objs.size := by
        rcases (show b = e ∨ b = it by simpa using hb) with z | z
        · exact z ▸ hel
        · exact z ▸ hil
      rw [upd_ne (Nat.ne_of_lt hb')]
      exact (hf b hb).1
  done := by
    intro X hP hw hK hc i pins s σ H E I hf st hg
    subst hP hw hK
    obtain ⟨⟨old, he⟩, hit, hne⟩ := st
    obtain ⟨xs, hq, hx⟩ := hg
    obtain ⟨its, rv, p, hz⟩ := I.tuple hq
    have hp : s.heap.IsTuple a its.toArray := p
    obtain ⟨f0, f1, f2, f3, f4, f5⟩ := hf it (by simp)
    have hl := rv.length
    have nia : a ≠ it := fun z => by
      obtain ⟨o, ho, hcl, _⟩ := hp
      obtain ⟨o2, ho2, hc2, _⟩ := hit
      rw [z, ho2] at ho
      cases ho
      rw [hc2] at hcl
      simp at hcl
    have en : wpAny (model X.prog X.w) X.A (pyNext (.ref e)) (fun r s1 => r = none ∧ Inv X pins σ H s1) E s := by
      unfold pyNext
      refine wpAny_bind (wpAny_attempt (wpAny_callSpecial?_slot (name := Str.ofString "__next__") (show s.TypeIs (.ref e) "enumerate" from ⟨_, he, rfl⟩) F.slot_enumerate_next
        (wpAny_call_entry F.slot_enumerate_next (show s.TypeIs (.ref e) "enumerate" from ⟨_, he, rfl⟩) F.entry_enumerate_next ?_ (F.args_enumerate_next_1 _))))
      show wpAny _ _ (field (.ref e) 2 >>= _) _ _ _
      refine wpAny_bind (wpAny_field he rfl (x := .ref it) rfl ?_)
      refine wpAny_bind (wpAny_nextOf_tuple_end (show X.A.in1.handled = none from I.ok.hd hc) hit hp (by simp; omega) fun h' x he' hx' => ?_)
      obtain ⟨o, ho, hc⟩ := hx'
      refine wpAny_bind (wpAny_isInstance (T := "StopIteration") (b := true) ⟨o, ho, hc⟩ isSubtype_stop ?_)
      exact wpAny_pure ⟨rfl, I.turned (t' := s.toks) (fun b o hb q => he' b o hb q) f0 f1 f3 f4 f5⟩
    exact en
  self := fun A i s Q E st h => wpAny_pyIter_enum st.1.choose_spec h
def iEnumT (K : PySem.W.Frag) (ta : TA) : TI := fun σ H R => ta σ H fun vs H1 => ∃ a xs, vs = [.ref a] ∧ SqT K H1 a xs ∧ R (IteT K a) H1
theorem pi_enumT {X : Cx} {e : Expr} {ta : TA} {p pos tpos : Pos} {elts : List Expr} {kk : Nat} (hg : Gl X "enumerate") (hm : X.mg "enumerate" = none) (ha : PA X [e] ta) (hs : starEach [e] X.env = [(false, eval e X.env)] := by rfl) :
    PI X (.Tuple elts kk tpos) (.Call (.Name "enumerate" p) [e] [] pos) (iEnumT X.K ta) := ⟨fun pins s σ H R I h => by
  refine Call_ (ld_blt I hg hm boot_enumerate (PyProof.Rows.callWith_type1 (thn (ha.run pos pins s σ H _ I h) fun us s1 ⟨vs, H1, I1, r1, a, xs, ex, hq, q⟩ => ?_) hs rfl))
  subst ex
  cases r1 with
  | cons r rr =>
    cases rr
    cases r
    obtain ⟨its, rv, p', hz⟩ := I1.tuple hq
    refine call_enumT (show s1.heap.IsTuple a its.toArray from p') fun h' he hit hk => wpAny_pyIter_enum he ?_
    refine ⟨s1.heap.objs.size + 1, [s1.heap.objs.size + 1, s1.heap.objs.size], _, _, H1, rfl, I1.kept (t' := s1.toks) hk, turn_enumT a (s1.heap.objs.size + 1) s1.heap.objs.size, ⟨⟨.none, he⟩, hit, Nat.succ_ne_self _⟩, fun b hb => ?_, q⟩
    have hle : s1.heap.objs.size ≤ b := by
      rcases (show b = s1.heap.objs.size + 1 ∨ b = s1.heap.objs.size by simpa using hb) with z | z
      · exact z ▸ Nat.le_add_right _ _
      · exact z ▸ Nat.le_refl _
    exact I1.fpOk hle (I1.hok.fresh hle)⟩
section
variable {S : Cf} {ρ : Rho} {te : TE} {G : Hp}
theorem wk_enumT {a : Addr} {vs : List V} {ds : List D} (hs : SqT S.K G a vs) (ra : RA S.K G vs ds) : Wk S (IteT S.K a) G (enumD 0 ds) := wk_pair (f := fun a b => .tuple [a, b]) fun G2 H2 e k => by
  have hs2 : SqT S.K H2 a vs := sameT (e.trans k.gh) hs
  refine ⟨⟨vs, hs2, by rw [enumD_length, ra.length]; exact Nat.le_refl _⟩, fun i d hd => ?_⟩
  obtain ⟨x, hx, ed⟩ := enumD_get hd
  obtain ⟨v, hv, rv⟩ := ra.get hx
  refine ⟨⟨vs, v, hs2, hv⟩, fun y H3 hy => ?_⟩
  obtain ⟨T, q, e1, e2, e3, e5⟩ := hy
  have e5 := e5 vs hs2
  rw [hv] at e5
  cases e5
  exact ⟨T, _, _, .int ((0 + i : Nat) : Int), x, e1, e2, e3, by rw [Nat.zero_add]; exact .int _, rv.mono e, ed⟩
theorem im_enumT {ds : List D} (h : Ev S te ρ (Eq (.dat (.tuple ds)))) : Itm S (iEnumT S.K (tCons te tNil)) ρ (Eq (enumD 0 ds)) := fun σ G H k e Rr f => h σ G H k e _ fun v s G' H' g k' es r => by
  subst es
  cases r with
  | tup hs ra => exact ⟨_, _, rfl, sameT k'.gh hs, f _ _ G' H' g k' rfl (wk_enumT hs ra)⟩
end
end Dl

set_option Elab.async false
set_option linter.all false
set_option maxRecDepth 100000
set_option maxHeartbeats 4000000
/-! Dlu: short words. -/
namespace Dl
open PySem PySem.Spec PyProof.Rows L2
section
variable {S : Cf} {ρ : Rho} {te ta tb tc td : TE} {x y z u : D}
theorem ev_tup1 (h1 : Ev S ta ρ (Eq (.dat x))) : Ev S (tTup (tCons ta tNil)) ρ (Eq (.dat (.tuple [x]))) := ev_tup (ds := [x]) (ea_cons h1 ea_nil) (by simp)
theorem ev_tup2 (h1 : Ev S ta ρ (Eq (.dat x))) (h2 : Ev S tb ρ (Eq (.dat y))) : Ev S (tTup (tCons ta (tCons tb tNil))) ρ (Eq (.dat (.tuple [x, y]))) := ev_tup (ds := [x, y]) (ea_cons h1 (ea_cons h2 ea_nil)) (by simp)
theorem ev_tup3 (h1 : Ev S ta ρ (Eq (.dat x))) (h2 : Ev S tb ρ (Eq (.dat y))) (h3 : Ev S tc ρ (Eq (.dat z))) : Ev S (tTup (tCons ta (tCons tb (tCons tc tNil)))) ρ (Eq (.dat (.tuple [x, y, z]))) := ev_tup (ds := [x, y, z]) (ea_cons h1 (ea_cons h2 (ea_cons h3 ea_nil))) (by simp)
theorem ev_tup4 (h1 : Ev S ta ρ (Eq (.dat x))) (h2 : Ev S tb ρ (Eq (.dat y))) (h3 : Ev S tc ρ (Eq (.dat z))) (h4 : Ev S td ρ (Eq (.dat u))) : Ev S (tTup (tCons ta (tCons tb (tCons tc (tCons td tNil))))) ρ (Eq (.dat (.tuple [x, y, z, u]))) :=
  ev_tup (ds := [x, y, z, u]) (ea_cons h1 (ea_cons h2 (ea_cons h3 (ea_cons h4 ea_nil)))) (by simp)
theorem ev_lst0 : Ev S (tLst tNil) ρ (Eq (.dat (.list []))) := ev_lst (ds := []) ea_nil (by decide)
theorem ea_datP {tr : TA} {x : D} {ds : List D} (h : Ev S ta ρ (Eq (.dat x))) (hr : EvA S tr ρ (Eq (ds.map Sl.dat))) : EvA S (tCons ta tr) ρ (Eq ((x :: ds).map Sl.dat)) := ea_cons h hr
theorem ea_dat0 : EvA S tNil ρ (Eq (([] : List D).map Sl.dat)) := ea_nil
/-! ints compared by == and != -/
theorem eqv_int (i j : Int) : PyData.eqv (.int i) (.int j) = decide (i = j) := by
  simp only [PyData.eqv]
  rfl
theorem ev_eqI {i j : Int} (h1 : Ev S ta ρ (Eq (.dat (.int i)))) (h2 : Ev S tb ρ (Eq (.dat (.int j)))) : Ev S (tOp (rEqD S.K) ta tb) ρ (Eq (.dat (.bool (decide (i = j))))) := (ev_eqD h1 h2 rfl rfl).cast (by rw [eqv_int])
theorem ev_neI {i j : Int} (h1 : Ev S ta ρ (Eq (.dat (.int i)))) (h2 : Ev S tb ρ (Eq (.dat (.int j)))) : Ev S (tOp (rNeD S.K) ta tb) ρ (Eq (.dat (.bool (!decide (i = j))))) := (ev_neD h1 h2 rfl rfl).cast (by rw [eqv_int])
theorem ev_isB {b b' : Bool} (h : Ev S ta ρ (Eq (.dat (.bool b)))) (e : b = b') : Ev S ta ρ (Eq (.dat (.bool b'))) := e ▸ h
/-! isinstance -/
def dInt : D → Bool
  | .int _ => true
  | .bool _ => true
  | _ => false
def dBool : D → Bool
  | .bool _ => true
  | _ => false
def dStr : D → Bool
  | .str _ => true
  | _ => false
def dList : D → Bool
  | .list _ => true
  | _ => false
def dTuple : D → Bool
  | .tuple _ => true
  | _ => false
def dDict : D → Bool
  | .dict _ => true
  | _ => false
theorem ev_isInt {d : D} (h : Ev S te ρ (Eq (.dat d))) : Ev S (tCB (rIsi S.K) (tCons te (tCons (tC (.ty "int")) tNil))) ρ (Eq (.dat (.bool (dInt d)))) := ev_isi h (by cases d <;> kernel_rfl)
theorem ev_isBool {d : D} (h : Ev S te ρ (Eq (.dat d))) : Ev S (tCB (rIsi S.K) (tCons te (tCons (tC (.ty "bool")) tNil))) ρ (Eq (.dat (.bool (dBool d)))) := ev_isi h (by cases d <;> kernel_rfl)
theorem ev_isStr {d : D} (h : Ev S te ρ (Eq (.dat d))) : Ev S (tCB (rIsi S.K) (tCons te (tCons (tC (.ty "str")) tNil))) ρ (Eq (.dat (.bool (dStr d)))) := ev_isi h (by cases d <;> kernel_rfl)
theorem ev_isList {d : D} (h : Ev S te ρ (Eq (.dat d))) : Ev S (tCB (rIsi S.K) (tCons te (tCons (tC (.ty "list")) tNil))) ρ (Eq (.dat (.bool (dList d)))) := ev_isi h (by cases d <;> kernel_rfl)
theorem ev_isTuple {d : D} (h : Ev S te ρ (Eq (.dat d))) : Ev S (tCB (rIsi S.K) (tCons te (tCons (tC (.ty "tuple")) tNil))) ρ (Eq (.dat (.bool (dTuple d)))) := ev_isi h (by cases d <;> kernel_rfl)
theorem ev_isDict {d : D} (h : Ev S te ρ (Eq (.dat d))) : Ev S (tCB (rIsi S.K) (tCons te (tCons (tC (.ty "dict")) tNil))) ρ (Eq (.dat (.bool (dDict d)))) := ev_isi h (by cases d <;> kernel_rfl)
theorem ev_isTL {d : D} (h : Ev S te ρ (Eq (.dat d))) : Ev S (tCB (rIsiT S.K) (tCons te (tCons (tTup (tCons (tC (.ty "tuple")) (tCons (tC (.ty "list")) tNil))) tNil))) ρ (Eq (.dat (.bool (dTuple d || dList d)))) := ev_isi2 h (by cases d <;> kernel_rfl) (by cases d <;> kernel_rfl)
theorem ev_isLT {d : D} (h : Ev S te ρ (Eq (.dat d))) : Ev S (tCB (rIsiT S.K) (tCons te (tCons (tTup (tCons (tC (.ty "list")) (tCons (tC (.ty "tuple")) tNil))) tNil))) ρ (Eq (.dat (.bool (dList d || dTuple d)))) := ev_isi2 h (by cases d <;> kernel_rfl) (by cases d <;> kernel_rfl)
theorem ev_andF (h : Ev S ta ρ (Eq (.dat (.bool false)))) : Ev S (tAndV ta tb) ρ (Eq (.dat (.bool false))) := ev_andV (a := false) (b := false) h fun z => by cases z
theorem ev_orT (h : Ev S ta ρ (Eq (.dat (.bool true)))) : Ev S (tOrV ta tb) ρ (Eq (.dat (.bool true))) := ev_orV (a := true) (b := true) h fun z => by cases z
theorem et_andF {tt uu : TT} (h : EvT S tt ρ (Eq false)) : EvT S (tAnd tt uu) ρ (Eq false) := et_and (a := false) (b := false) h fun z => by cases z
theorem et_orT {tt uu : TT} (h : EvT S tt ρ (Eq true)) : EvT S (tOr tt uu) ρ (Eq true) := et_or (a := true) (b := true) h fun z => by cases z
/-- all([e for x in xs]) -/
theorem ev_allMap {wi : TI} {g : TG} {vs : List Nat} {ds : List D} {p : D → Bool} (hi : Itm S wi ρ (Eq ds)) (hl : ds.length ≤ 1000000)
    (hs : ∀ d, d ∈ ds → ∃ js ρ2, (∀ j ∈ js, j ∈ vs) ∧ Tgt S g js d (wipeR ρ vs) ρ2 ∧ Ev S te ρ2 (Eq (.dat (.bool (p d))))) : Ev S (tCB (rAll S.K) (tCons (tLc wi g tYes te vs) tNil)) ρ (Eq (.dat (.bool (ds.all p)))) := by
  have h := (ef_map (f := fun d => .bool (p d)) hi hl hs).evE
  have e : ds.map (fun d => PyData.bool (p d)) = (ds.map p).map PyData.bool := by rw [List.map_map]; rfl
  rw [e] at h
  refine (ev_all h).cast ?_
  rw [List.all_map]
  rfl
/-! statements that follow one another -/
variable {P : Oc → Prop} {t w : TS} {g : TG} {tt : TT} {ts us : TS}
theorem xs_asg {i : Nat} {s : Sl} (h : Ev S te ρ (Eq s)) (k : Xc S w (ρ.set i s) P) : Xc S (tSeq (tAsg te (gName i)) w) ρ P := xc_seq (xc_asg h k)
theorem xs_asgP {i : Nat} {p : Sl → Prop} (h : Ev S te ρ p) (k : ∀ s, p s → Xc S w (ρ.set i s) P) : Xc S (tSeq (tAsg te (gName i)) w) ρ P := xc_seq (xc_asgP h k)
theorem xs_asgF {i : Nat} {p : List D → Prop} (h : EvF S te ρ p) (k : ∀ a ds, p ds → Xc S w (ρ.set i (.own a (.lst ds))) P) : Xc S (tSeq (tAsg te (gName i)) w) ρ P := xc_seq (xc_asgF h k)
theorem xs_asgT {js : List Nat} {d : D} {ρ1 : Rho} (h : Ev S te ρ (Eq (.dat d))) (ht : Tgt S g js d ρ ρ1) (k : Xc S w ρ1 P) : Xc S (tSeq (tAsg te g) w) ρ P := xc_seq (xc_asgT h ht k)
theorem xs_par {i j : Nat} {ta : TA} {x y : Sl} (h : EvA S ta ρ (Eq [x, y])) (k : Xc S w ((ρ.set i x).set j y) P) : Xc S (tSeq (tPar i j ta) w) ρ P := xc_seq (xc_par h k)
theorem xs_if {b : Bool} (h : EvT S tt ρ (Eq b)) (h1 : b = true → Xc S ts ρ (SeqP S w P)) (h2 : b = false → Xc S us ρ (SeqP S w P)) : Xc S (tSeq (tIfS tt ts us) w) ρ P := xc_seq (xc_if h h1 h2)
/-- if t: ..(out), then the rest -/
theorem xs_when {b : Bool} (h : EvT S tt ρ (Eq b)) (h1 : b = true → Xc S ts ρ (SeqP S w P)) (h2 : b = false → Xc S w ρ P) : Xc S (tSeq (tIfS tt ts tNext) w) ρ P := xc_seq (xc_if h h1 fun e => xc_next (h2 e))
theorem xs_whenP {p : Bool → Prop} (h : EvT S tt ρ p) (h1 : p true → Xc S ts ρ (SeqP S w P)) (h2 : p false → Xc S w ρ P) : Xc S (tSeq (tIfS tt ts tNext) w) ρ P := xc_seq (xc_ifP h h1 fun e => xc_next (h2 e))
theorem xs_dropP {p : Sl → Prop} (h : Ev S te ρ p) (k : ∀ s, p s → Xc S w ρ P) : Xc S (tSeq (tDrop te) w) ρ P := xc_seq (xc_dropP h k)
theorem xs_ret {s : Sl} (h : Ev S te ρ (Eq s)) (k : P (.rt s)) : Xc S (tRet te) ρ (SeqP S w P) := xc_ret h k
theorem xc_retB {b b' : Bool} (h : Ev S te ρ (Eq (.dat (.bool b)))) (e : b = b') : Xc S (tRet te) ρ (RetP (Eq (.ok (.dat (.bool b'))))) := xc_ret h (e ▸ rfl)
theorem xc_retD {d d' : D} (h : Ev S te ρ (Eq (.dat d))) (e : d = d') : Xc S (tRet te) ρ (RetP (Eq (.ok (.dat d')))) := xc_ret h (e ▸ rfl)
theorem xs_aug {i : Nat} {f : Int → Int → Int} {a b : Int} (hx : ρ[i]? = some (.dat (.int a))) (h : Ev S te ρ (Eq (.dat (.int b)))) (k : Xc S w (ρ.set i (.dat (.int (f a b)))) P) : Xc S (tSeq (tAug i te (ipI f)) w) ρ P := xc_seq (xc_aug hx h k)
theorem xs_callX {ι : Type} {args : ι → List Sl} {pre : ι → Prop} {post : ι → Re → Prop} {ta : TA} (i : ι) (ha : EvA S ta ρ (Eq (args i))) (hp : pre i) (ho : ∀ s, post i (.ok s) → Xc S w ρ P) (hx : ∀ C d, post i (.ex C d) → P (.ex C d)) :
    Xc S (tSeq (tDrop (tCall (spI S.K fx0 args pre post) [] S.E ta)) w) ρ P := xc_seq (xc_callX i ha hp ho hx)
theorem xs_for {wi : TI} {tb : TS} {ds : List D} (hi : Itm S wi ρ (Eq ds)) (I : Nat → Rho → Prop) (h0 : I 0 ρ)
    (hs : ∀ i d ρ1, ds[i]? = some d → I i ρ1 → ∃ js ρ2, Tgt S g js d ρ1 ρ2 ∧ Xc S tb ρ2 (LoopP (I (i + 1)) (SeqP S w P))) (hd : ∀ ρ1, I ds.length ρ1 → Xc S w ρ1 P) : Xc S (tSeq (tFor wi g tb) w) ρ P := xc_seq (xc_forE hi I h0 hs hd)
theorem xs_while {tb : TS} (I : Nat → Rho → Prop) (m0 : Nat) (h0 : I m0 ρ)
    (hs : ∀ m ρ1, I m ρ1 → EvT S tt ρ1 (fun b => if b = true then Xc S tb ρ1 (LoopP (fun ρ2 => ∃ m', m' < m ∧ I m' ρ2) (SeqP S w P)) else Xc S w ρ1 P)) : Xc S (tSeq (tWhile tt tb) w) ρ P := xc_seq (xc_while I m0 h0 hs)
theorem xs_append {i : Nat} {a : Addr} {ds : List D} {p : D → Prop} (hx : ρ[i]? = some (.own a (.lst ds))) (h : Ev S te ρ (fun s => ∃ d, s = .dat d ∧ p d)) (hl : ds.length < 1000000) (k : ∀ d, p d → Xc S w (ρ.set i (.own a (.lst (ds ++ [d])))) P) :
    Xc S (tSeq (tDrop (tBM S.K "list" rAppend (tVar i) (tCons te tNil))) w) ρ P := xc_seq (xc_append hx h hl k)
end
/-! ### defs by name -/
structure Cal (P : Program) (w : World) (K : PySem.W.Frag) (mg : Str → Option Value) (base : Heap) (k : Nat) (x : Str) (ps : List Str) (sp : Sp) : Prop where
  ex : ∃ (f : Addr) (fd : FuncData), FnOk P w K mg base (L2.CX P w) k f fd ps sp ∧ mg x = some (.ref f) ∧ PySem.W.keepIn K (.ref f) = true ∧ Binds K fd ps []
/-- where the text's def stands -/
def Def (K : PySem.W.Frag) (mg : Str → Option Value) (x : Str) (st : Stmt) : Prop := ∃ (f : Addr) (fd : FuncData), Fun K x x st f fd ∧ mg x = some (.ref f)
section
variable {P : Program} {w : World} {K : PySem.W.Frag} {mg : Str → Option Value} {base : Heap}
theorem mk_cal {ι : Type} {args : ι → List Sl} {pre : ι → Prop} {post : ι → Re → Prop} {fx : Fx} {x : Str} {st : Stmt} {N ps : List Str} {k : Nat} (T : Def K mg x st) (Sc : FnScope N ps (defScope st)) (hl : ∀ i, (args i).length = ps.length)
    (hb : ∀ (kV doc pm : Value) (an : Option Addr) (cdv ct : Value) (us : List Value), us.length = ps.length → bindArgs (PySem.W.fnOf x x (defArgs st) (defBody st) (defScope st) .none kV doc pm an cdv ct) ⟨us, []⟩ = pure (ps.zip us))
    (body : ∀ (f : Addr) (cdv : Value) (A : Around) (outer : List PySem.Env) (s : Shared) (H : Hp) (E : XK), Room k (A.deeper (envOfC x (defScope st) s.heap.objs.size f cdv)) → ∀ (i : ι), pre i →
      ∃ t, PSs (cxOf (L2.CX P w) P w K mg base N x (defScope st) f cdv A outer s H E) (defBody st) t ∧ ∀ G : Hp, Xc ⟨K, fx, G, H, E⟩ t (args i ++ List.replicate (N.length - ps.length) .no) (RetP (post i))) :
    Cal P w K mg base (k + 1) x ps (spI K fx args pre post) := by
  obtain ⟨f, fd, F, hm⟩ := T
  exact ⟨f, fd, fn_ok F Sc (fun i _ => hl i) (fun cdv A outer s H E => body f cdv A outer s H E), hm, F.kp, F.binds hb⟩
variable {X : Cx} {k : Nat} {x : Str} {ps : List Str} {sp : Sp} {p pos : Pos} {e : Expr} {es : List Expr} {t : TA}
theorem pe_cal (C : Cal X.prog X.w X.K X.mg X.base k x ps sp) (hr : Room k X.A) (hg : Gl X x) (ha : PA X (e :: es) t) (hdb : (x == ("__debug__" : Str)) = false := by decide) (he : starEach (e :: es) X.env = (false, eval e X.env) :: starEach es X.env := by rfl)
    (hpl : (backTo pos (starEach es X.env)).any (·.1) = false := by rfl) : PE X (.Call (.Name x p) (e :: es) [] pos) (tCall sp [] E0 t) := by
  obtain ⟨f, fd, F, hm, hk, hb⟩ := C.ex
  exact pe_call F hr hg hm hk hb .nil passL ha hdb he hpl
/-- .. that may raise what leaves this def too -/
theorem pe_calX {E : XK} (C : Cal X.prog X.w X.K X.mg X.base k x ps sp) (hr : Room k X.A) (hg : Gl X x) (ha : PA X (e :: es) t) (tk : Takes X (fun cls d _ H => E cls d H)) (hdb : (x == ("__debug__" : Str)) = false := by decide) (he : starEach (e :: es) X.env = (false, eval e X.env) :: starEach es X.env := by rfl)
    (hpl : (backTo pos (starEach es X.env)).any (·.1) = false := by rfl) : PE X (.Call (.Name x p) (e :: es) [] pos) (tCall sp [] E t) := by
  obtain ⟨f, fd, F, hm, hk, hb⟩ := C.ex
  exact pe_call F hr hg hm hk hb .nil (passes_call tk fun _ _ _ _ h => h) ha hdb he hpl
theorem Cal.mono {j : Nat} (C : Cal P w K mg base j x ps sp) (h : j ≤ k) : Cal P w K mg base k x ps sp := by
  obtain ⟨f, fd, F, r⟩ := C.ex
  exact ⟨f, fd, F.mono h, r⟩
theorem u64 {k : Nat} {A : Around} (r : Room k A) : A.units + 64 < cLine := by
  have := r.un
  omega
theorem u65 {k : Nat} {A : Around} (r : Room k A) : A.units + 65 < cLine := by
  have := r.un
  omega
end
/-! ### constants of the module -/
section
variable {X : Cx} {x : Str} {pos : Pos}
theorem pe_gint {n : Int} (hg : Gl X x) (h : ∃ t, X.mg x = some (.int n t)) (hd : (x == ("__debug__" : Str)) = false := by decide) : PE X (.Name x pos) (tC (.int n)) := by
  obtain ⟨t, h⟩ := h
  exact pe_glob hg h ⟨t, rfl⟩ hd
theorem pe_gstr {n : Str} (hg : Gl X x) (h : ∃ t, X.mg x = some (.str n t)) (hd : (x == ("__debug__" : Str)) = false := by decide) : PE X (.Name x pos) (tC (.str n)) := by
  obtain ⟨t, h⟩ := h
  exact pe_glob hg h ⟨t, rfl⟩ hd
theorem pe_gref {a : Addr} (hg : Gl X x) (h : X.mg x = some (.ref a)) (hd : (x == ("__debug__" : Str)) = false := by decide) : PE X (.Name x pos) (tC (.ref a)) := pe_glob hg h rfl hd
end
/-! ### own errors -/
structure ErrC (K : PySem.W.Frag) (mg : Str → Option Value) (x : Str) (C fI : Addr) : Prop where
  gC : mg x = some (.ref C)
  oex : OexC K C
  nv : PySem.W.findIn K (.ref C) "value" = some none
  iC : PySem.W.findIn K (.ref C) "__init__" = some (some (.ref fI))
  tI : PySem.W.typeIn K (.ref fI) = some (.type "function")
  xf : XfC K C
structure IniF (P : Program) (w : World) (K : PySem.W.Frag) (mg : Str → Option Value) (base : Heap) (fI : Addr) : Prop where
  ex : ∃ fd : FuncData, FnOk P w K mg base CX0 1 fI fd ["self", "value"] (spIni K) ∧ Binds K fd ["self", "value"] []
section
variable {X : Cx} {x : Str} {C fI : Addr} {k : Nat} {e : Expr} {te : TE} {p pos pos' : Pos} {E : XK}
theorem ps_err (T : ErrC X.K X.mg x C fI) (I : IniF X.prog X.w X.K X.mg X.base fI) (hc : X.calm = true) (hr : Room (k + 2) X.A) (hg : Gl X x) (tk : Takes X (fun cls d _ H => E cls d H)) (he : PE X e te) (hdb : (x == ("__debug__" : Str)) = false := by decide)
    (hs : starEach [e] X.env = (false, eval e X.env) :: starEach [] X.env := by rfl) :
    PS X (.Raise (some (.Call (.Name x p) [e] [] pos)) none pos') (fun _ σ H => tMkO C (spIni X.K) [] (tCons te tNil) σ H fun cls d H' => E cls d H') := by
  obtain ⟨fd, F, hb⟩ := I.ex
  exact ps_raise hc tk (pmk_oex T.oex T.iC T.tI F (hr.mono (Nat.le_add_left 2 k)) hb .nil pass0 hg T.gC (pa_cons he pa_nil hs) hdb hs (by rfl))
end
end Dl

set_option Elab.async false
set_option linter.all false
set_option maxRecDepth 100000
set_option maxHeartbeats 4000000
/-! Dlr: the laws' own source of numbers: a row that is written again and again. -/
namespace Dl
open PySem PySem.Spec PyProof.Rows L2 LamX
/-! ### a raw promise of a def -/
section
variable {P : Program} {w : World} {K : PySem.W.Frag} {mg : Str → Option Value} {base : Heap}
theorem mk_calR {sp : Sp} {x : Str} {st : Stmt} {N ps : List Str} {k : Nat} (T : Def K mg x st) (Sc : FnScope N ps (defScope st)) (hl : ∀ vs H Q E, sp vs H Q E → vs.length = ps.length)
    (hb : ∀ (kV doc pm : Value) (an : Option Addr) (cdv ct : Value) (us : List Value), us.length = ps.length → bindArgs (PySem.W.fnOf x x (defArgs st) (defBody st) (defScope st) .none kV doc pm an cdv ct) ⟨us, []⟩ = pure (ps.zip us))
    (body : ∀ (f : Addr) (cdv : Value) (A : Around) (outer : List PySem.Env) (s : Shared) (H : Hp) (E : XK) (vs : List V) (Q : VK), Room k (A.deeper (envOfC x (defScope st) s.heap.objs.size f cdv)) → sp vs H Q E →
      ∃ t, PSs (cxOf (L2.CX P w) P w K mg base N x (defScope st) f cdv A outer s H E) (defBody st) t ∧ t { nx := fun _ H' => Q .non H', rt := Q } (L2.start N vs) H) :
    Cal P w K mg base (k + 1) x ps sp := by
  obtain ⟨f, fd, F, hm⟩ := T
  exact ⟨f, fd, F.okX Sc hl fun cdv A outer s H vs Q E hr h => body f cdv A outer s H E vs Q hr h, hm, F.kp, F.binds hb⟩
/-- a promise for each z -/
def spZ {Z : Type} (sp : Z → Sp) : Sp := fun vs H Q E => ∃ z, sp z vs H Q E
theorem mk_calZ {Z ι : Type} {args : Z → ι → List Sl} {pre : Z → ι → Prop} {post : Z → ι → Re → Prop} {fx : Z → Fx} {x : Str} {st : Stmt} {N ps : List Str} {k : Nat} (T : Def K mg x st) (Sc : FnScope N ps (defScope st)) (hl : ∀ z i, (args z i).length = ps.length)
    (hb : ∀ (kV doc pm : Value) (an : Option Addr) (cdv ct : Value) (us : List Value), us.length = ps.length → bindArgs (PySem.W.fnOf x x (defArgs st) (defBody st) (defScope st) .none kV doc pm an cdv ct) ⟨us, []⟩ = pure (ps.zip us))
    (body : ∀ (z : Z) (f : Addr) (cdv : Value) (A : Around) (outer : List PySem.Env) (s : Shared) (H : Hp) (E : XK), Room k (A.deeper (envOfC x (defScope st) s.heap.objs.size f cdv)) → ∀ (i : ι), pre z i →
      ∃ t, PSs (cxOf (L2.CX P w) P w K mg base N x (defScope st) f cdv A outer s H E) (defBody st) t ∧ ∀ G : Hp, Xc ⟨K, fx z, G, H, E⟩ t (args z i ++ List.replicate (N.length - ps.length) .no) (RetP (post z i))) :
    Cal P w K mg base (k + 1) x ps (spZ fun z => spI K (fx z) (args z) (pre z) (post z)) := by
  obtain ⟨f, fd, F, hm⟩ := T
  have h := fun z => fn_ok (base := base) (k := k) F Sc (fun i _ => hl z i) (fun cdv A outer s H E => body z f cdv A outer s H E)
  exact ⟨f, fd, ⟨fun vs H Q E ⟨z, q⟩ => (h z).len vs H Q E q, fun A outer s H args us vs Q E hr he hbd hv ⟨z, q⟩ => (h z).run A outer s H args us vs Q E hr he hbd hv q⟩, hm, F.kp, F.binds hb⟩
end
/-! ### values that change nothing -/
def Gv (te : TE) (σ : L2.St) (H : Hp) (v : V) : Prop := ∀ Q : VK, Q v H → te σ H Q
def Gt (tt : TT) (σ : L2.St) (H : Hp) (b : Bool) : Prop := ∀ Q : Bool → Hp → Prop, Q b H → tt σ H Q
section
variable {K : PySem.W.Frag} {σ : L2.St} {H : Hp} {ta tb te : TE} {i j k : Int} {v : V} {a : Addr} {xs : List V} {n : Nat}
theorem gv_int : Gv (tC (.int k)) σ H (.int k) := fun Q q => q
theorem gv_var (h : σ[n]? = some (some v)) : Gv (tVar n) σ H v := fun Q q => ⟨v, h, q⟩
theorem gv_I0 {f : Int → Int → Int} (ha : Gv ta σ H (.int i)) (hb : Gv tb σ H (.int j)) : Gv (tOp (rI0 fun i j => .int (f i j)) ta tb) σ H (.int (f i j)) := fun Q q => ha _ (hb _ ⟨i, j, rfl, rfl, q⟩)
theorem gv_C0 {f : Int → Int → Bool} (ha : Gv ta σ H (.int i)) (hb : Gv tb σ H (.int j)) : Gv (tOp (rI0 fun i j => .bl (f i j)) ta tb) σ H (.bl (f i j)) := fun Q q => ha _ (hb _ ⟨i, j, rfl, rfl, q⟩)
theorem gv_IC {C : Int → Int → Prop} {f : Int → Int → Int} (ha : Gv ta σ H (.int i)) (hb : Gv tb σ H (.int j)) (hc : C i j) : Gv (tOp (rI C fun i j => .int (f i j)) ta tb) σ H (.int (f i j)) := fun Q q => ha _ (hb _ ⟨i, j, rfl, rfl, hc, q⟩)
theorem gv_ix (ha : Gv ta σ H (.ref a)) (hb : Gv tb σ H (.int i)) (hl : SqL K H a xs) (hv : atI xs i = some v) : Gv (tOp (rIxL K) ta tb) σ H v := fun Q q => ha _ (hb _ ⟨a, xs, i, v, rfl, rfl, hl, hv, q⟩)
theorem gv_toInt (ha : Gv ta σ H (.int i)) : Gv (tCB (fun xs H Q => (∃ i, xs = [.int i] ∧ Q (.int i) H) ∨ ∃ k, xs = [.bl k] ∧ Q (.int (if k then 1 else 0)) H) (tCons ta tNil)) σ H (.int i) := fun Q q => ha _ (.inl ⟨i, rfl, q⟩)
theorem gv_len (ha : Gv ta σ H (.ref a)) (hl : SqL K H a xs) : Gv (tCB (fun xs H Q => ∃ p ys, xs = [.ref p] ∧ (SqL K H p ys ∨ SqT K H p ys) ∧ Q (.int ys.length) H) (tCons ta tNil)) σ H (.int xs.length) := fun Q q => ha _ ⟨a, xs, rfl, .inl hl, q⟩
theorem gt_test {b : Bool} (h : Gv te σ H (.bl b)) : Gt (tTest te) σ H b := fun Q q => h _ ⟨b, rfl, q⟩
variable {De : Ends} {t u w : TS} {tt : TT}
/-- if t: ..(out), then the rest -/
theorem gs_when {b : Bool} (h : Gt tt σ H b) (h1 : b = true → t { De with nx := w De } σ H) (h2 : b = false → w De σ H) : tSeq (tIfS tt t tNext) w De σ H := h _ (by
  cases b with
  | true => exact h1 rfl
  | false => exact h2 rfl)
theorem gs_asg (h : Gv te σ H v) (k : w De (σ.set n (some v)) H) : tSeq (tAsg te (gName n)) w De σ H := h _ k
theorem gs_ret (h : Gv te σ H v) (k : De.rt v H) : tRet te De σ H := h _ k
/-- row[k] = e -/
theorem gs_put {m : Nat} (h : Gv te σ H v) (ho : σ[m]? = some (some (.ref a))) (hl : H a = some (.lst xs)) (hi : ixN xs.length k = some n) (q : w De σ (upd H a (.lst (xs.set n v)))) : tSeq (tAsg te (gSub (tVar m) (tC (.int k)) rSetL)) w De σ H :=
  h _ ⟨.ref a, ho, a, xs, k, n, rfl, rfl, hl, hi, q⟩
theorem gs_put1 {m : Nat} (h : Gv te σ H v) (ho : σ[m]? = some (some (.ref a))) (hl : H a = some (.lst xs)) (hi : ixN xs.length k = some n) (q : De.nx σ (upd H a (.lst (xs.set n v)))) : tAsg te (gSub (tVar m) (tC (.int k)) rSetL) De σ H :=
  h _ ⟨.ref a, ho, a, xs, k, n, rfl, rfl, hl, hi, q⟩
theorem gs_if {b : Bool} (h : Gt tt σ H b) (h1 : b = true → t { De with nx := w De } σ H) (h2 : b = false → u { De with nx := w De } σ H) : tSeq (tIfS tt t u) w De σ H := h _ (by
  cases b with
  | true => exact h1 rfl
  | false => exact h2 rfl)
theorem upd_twice {H : Hp} {p : Addr} {o o' : HO} : upd (upd H p o) p o' = upd H p o' := by
  funext b
  by_cases e : b = p
  · subst e
    rw [upd_same, upd_same]
  · rw [upd_ne e, upd_ne e, upd_ne e]
theorem sq_upd {p : Addr} {o : HO} (h : SqL K H a xs) (n : p ≠ a) : SqL K (upd H p o) a xs := by
  rcases h with (h | ⟨o', h⟩) | h
  · exact .inl (.inl (by rw [upd_ne n.symm]; exact h))
  · exact .inl (.inr ⟨o', by rw [upd_ne n.symm]; exact h⟩)
  · exact .inr h
end
/-! ### the row -/
structure RowZ where
  r : Addr
  sc : Addr
  T : Addr
  q : Str
  vs : List Int
  t : Prop
def ScOk (K : PySem.W.Frag) (z : RowZ) (H : Hp) : Prop := (z.t ∧ H z.sc = some (.lst (z.vs.map V.int))) ∨ (∃ o, H z.sc = some (.frz o (.lst (z.vs.map V.int)))) ∨ (¬ z.t ∧ SqL K (fun _ => none) z.sc (z.vs.map V.int))
def rowHO (sc : Addr) (p m c : Int) : HO := .lst [.ref sc, .int p, .int m, .int c]
def RowAt (z : RowZ) (H : Hp) : Prop := ∃ p m c : Int, 0 ≤ p ∧ 0 ≤ m ∧ m < 2147483648 ∧ H z.r = some (rowHO z.sc p m c)
theorem row_ne {H : Hp} {r sc : Addr} {p m c : Int} {ns : List Int} (h1 : H r = some (rowHO sc p m c)) (h2 : H sc = some (.lst (ns.map V.int))) : r ≠ sc := fun q => by
  rw [q, h2] at h1
  cases ns with
  | nil => cases h1
  | cons n ns => cases h1
theorem row_neF {H : Hp} {r sc : Addr} {p m c : Int} {o : Obj} {u : HO} (h1 : H r = some (rowHO sc p m c)) (h2 : H sc = some (.frz o u)) : r ≠ sc := fun q => by
  rw [q, h2] at h1
  cases h1
theorem ScOk.sq {K : PySem.W.Frag} {z : RowZ} {H : Hp} (h : ScOk K z H) : SqL K H z.sc (z.vs.map V.int) := by
  rcases h with ⟨_, h⟩ | ⟨o, h⟩ | ⟨_, h⟩
  · exact .inl (.inl h)
  · exact .inl (.inr ⟨o, h⟩)
  · exact Same.seq (fun a o e => by cases e) h
theorem tabS_ext {H H' : Hp} {P : Addr} {q : Str} (e : ∀ a o, a = P ∨ Fixd o → H a = some o → H' a = some o) (h : TabS H P q) : TabS H' P q := by
  obtain ⟨ps, h1, h2, h3⟩ := h
  refine ⟨ps, e _ _ (.inl rfl) h1, h2, fun pos cv hc => ?_⟩
  obtain ⟨c, e1, e2⟩ := h3 pos cv hc
  exact ⟨c, e1, e c _ (.inr True.intro) e2⟩
theorem ScOk.sq' {K : PySem.W.Frag} {z : RowZ} {H : Hp} {p m c : Int} (hr : H z.r = some (rowHO z.sc p m c)) (h : ScOk K z H) (o : HO) : SqL K (upd H z.r o) z.sc (z.vs.map V.int) := by
  rcases h with ⟨_, h⟩ | ⟨o', h⟩ | ⟨_, h⟩
  · exact .inl (.inl (by rw [upd_ne (row_ne hr h).symm]; exact h))
  · exact .inl (.inr ⟨o', by rw [upd_ne (row_neF hr h).symm]; exact h⟩)
  · exact Same.seq (fun a o e => by cases e) h
def rowFx (K : PySem.W.Frag) (z : RowZ) : Fx where
  vol a := a = z.r ∨ a = z.T ∨ (a = z.sc ∧ z.t)
  inv H := RowAt z H ∧ ScOk K z H ∧ TabS H z.T z.q
  ext := fun {H H'} e ⟨⟨p, m, c, h1, h2, h3, h4⟩, h5, h6⟩ => ⟨⟨p, m, c, h1, h2, h3, e _ _ (.inl (.inl rfl)) h4⟩, by
    rcases h5 with ⟨t, h⟩ | ⟨o, h⟩ | h
    · exact .inl ⟨t, e _ _ (.inl (.inr (.inr ⟨rfl, t⟩))) h⟩
    · exact .inr (.inl ⟨o, e _ _ (.inr True.intro) h⟩)
    · exact .inr (.inr h), tabS_ext (fun a o q h => e a o (q.elim (fun q => .inl (.inr (.inl q))) .inr) h) h6⟩
  there := fun {H a} ⟨⟨p, m, c, h1, h2, h3, h4⟩, h5, h6⟩ hv => by
    rcases hv with rfl | rfl | ⟨rfl, t⟩
    · rw [h4]
      simp
    · obtain ⟨ps, h, _⟩ := h6
      rw [h]
      simp
    · rcases h5 with ⟨_, h⟩ | ⟨o, h⟩ | h
      · rw [h]
        simp
      · rw [h]
        simp
      · exact absurd t h.1
/-- what row and many give -/
def spTaken (K : PySem.W.Frag) : Sp := fun vs H Q _ => ∃ (r sc : Addr) (ns : List Int) (many p m c : Int), vs = [.ref r, .int many] ∧ 0 < many ∧ many < 1073741824 ∧ 0 ≤ p ∧ 0 ≤ m ∧ m < 2147483648 ∧ H r = some (rowHO sc p m c) ∧ SqL K H sc (ns.map V.int) ∧ (∀ o, SqL K (upd H r o) sc (ns.map V.int)) ∧
  ∀ x p' m' c' : Int, 0 ≤ x → x < many → 0 ≤ p' → 0 ≤ m' → m' < 2147483648 → Q (.int x) (upd H r (rowHO sc p' m' c'))
section
variable {K : PySem.W.Frag} {G0 B : Hp} {E : XK} {z : RowZ} {ρ : Rho} {te ti : TE}
theorem row_new {G H : Hp} (k : Kn (rowFx K z) G H) {p m c : Int} (h1 : 0 ≤ p) (h2 : 0 ≤ m) (h3 : m < 2147483648) : Grow (rowFx K z) G H G (upd H z.r (rowHO z.sc p m c)) ∧ Kn (rowFx K z) G (upd H z.r (rowHO z.sc p m c)) := by
  have hr : G z.r = none := k.vn _ (.inl rfl)
  have hs : Same G (upd H z.r (rowHO z.sc p m c)) := fun a o e => by
    have q : a ≠ z.r := fun q => by rw [q, hr] at e; cases e
    rw [upd_ne q]
    exact k.gh a o e
  obtain ⟨⟨p0, m0, c0, _, _, _, h4⟩, h5, ⟨ps, t1, t2, t3⟩⟩ := k.inv
  have nT : z.T ≠ z.r := fun q => by
    rw [q, h4] at t1
    cases t1
  refine ⟨⟨Same.refl G, hs, fun a o v e => ?_, fun _ _ h => h⟩, hs, ⟨⟨p, m, c, h1, h2, h3, upd_same⟩, ?_, ⟨ps, ?_, t2, fun pos cv hc => ?_⟩⟩, k.vn⟩
  · have q : a ≠ z.r := fun q => v (.inl q)
    rw [upd_ne q]
    exact e
  · rcases h5 with ⟨t, h⟩ | ⟨o, h⟩ | h
    · exact .inl ⟨t, by rw [upd_ne (row_ne h4 h).symm]; exact h⟩
    · exact .inr (.inl ⟨o, by rw [upd_ne (row_neF h4 h).symm]; exact h⟩)
    · exact .inr (.inr h)
  · rw [upd_ne nT]
    exact t1
  · obtain ⟨c', e1, e2⟩ := t3 pos cv hc
    have q : c' ≠ z.r := fun q => by
      rw [q, h4] at e2
      cases e2
    exact ⟨c', e1, by rw [upd_ne q]; exact e2⟩
/-- _law_taken(row, e) -/
theorem ev_taken {many : Int} {E' : XK} (hi : Ev ⟨K, rowFx K z, G0, B, E⟩ ti ρ (Eq (.raw (.ref z.r)))) (he : Ev ⟨K, rowFx K z, G0, B, E⟩ te ρ (Eq (.dat (.int many)))) (h0 : 0 < many) (h1 : many < 1073741824) :
    Ev ⟨K, rowFx K z, G0, B, E⟩ (tCall (spTaken K) [] E' (tCons ti (tCons te tNil))) ρ (fun s => ∃ x, s = .dat (.int x) ∧ 0 ≤ x ∧ x < many) := fun σ G H k e Q q =>
  hi σ G H k e _ fun v s G1 H1 g1 k1 es r1 => he σ G1 H1 k1 (e.grow g1) _ fun u s2 G2 H2 g2 k2 es2 r2 => by
    subst es es2
    cases r2
    cases (show v = _ from r1)
    obtain ⟨⟨p, m, c, a1, a2, a3, a4⟩, h5, h6⟩ := id k2.inv
    refine ⟨z.r, z.sc, z.vs, many, p, m, c, rfl, h0, h1, a1, a2, a3, a4, h5.sq, h5.sq' a4, fun x p' m' c' x0 x1 p0 m0 m1 => ?_⟩
    obtain ⟨g3, k3⟩ := row_new k2 (c := c') p0 m0 m1
    exact q _ _ G2 _ ((g1.trans k1 k2 g2).trans k2 k3 g3) k3 ⟨x, rfl, x0, x1⟩ (.int x)
/-- a def that may write where all may -/
theorem ev_callZ {Z ι : Type} {fx : Z → Fx} {args : Z → ι → List Sl} {pre : Z → ι → Prop} {post : Z → ι → Re → Prop} {ta : TA} {E' : XK} (y : Z) {P : Sl → Prop} {Pa : List Sl → Prop} (ha : EvA ⟨K, fx y, G0, B, E⟩ ta ρ Pa) (h : ∀ ss, Pa ss → ∃ i, ss = args y i ∧ pre y i ∧ (∀ s, post y i (.ok s) → P s) ∧ (∀ C d, ¬ post y i (.ex C d))) :
    Ev ⟨K, fx y, G0, B, E⟩ (tCall (spZ fun z => spI K (fx z) (args z) (pre z) (post z)) [] E' ta) ρ P := fun σ G H k e Q q =>
  ha σ G H k e _ fun vs ss G1 H1 g1 k1 p1 r1 => by
    obtain ⟨i, e1, hp, ho, hx⟩ := h ss p1
    subst e1
    rw [List.append_nil]
    exact ⟨y, i, G1, hp, k1, r1, fun v s G2 H2 g2 k2 r2 po => q v s G2 H2 (g1.trans k1 k2 g2) k2 (ho s po) r2, fun C d dd v G2 H2 _ _ _ _ po => absurd po (hx C d)⟩
end
section
variable {S : Cf} {ρ : Rho} {P : Oc → Prop} {w : TS} {ta : TA}
/-- a, b, c = e1, e2, e3 -/
theorem xc_par3 {i j l : Nat} {x y z : Sl} (h : EvA S ta ρ (Eq [x, y, z])) (hs : P (.nx (((ρ.set i x).set j y).set l z))) : Xc S (tPar3 i j l ta) ρ P := fun σ G H De o e f => h σ G H o.kn e _ fun vs ss G' H' g k p r => by
  subst p
  cases r with
  | cons r1 r =>
    cases r with
    | cons r2 r =>
      cases r with
      | cons r3 r =>
        cases r
        exact ⟨_, _, _, rfl, f.nx _ G' H' _ (o.grow g k) g.gg ((((e.grow g).set i r1).set j r2).set l r3) hs⟩
theorem xs_par3 {i j l : Nat} {x y z : Sl} (h : EvA S ta ρ (Eq [x, y, z])) (k : Xc S w (((ρ.set i x).set j y).set l z) P) : Xc S (tSeq (tPar3 i j l ta) w) ρ P := xc_seq (xc_par3 h k)
end
end Dl

set_option Elab.async false
set_option linter.all false
set_option maxRecDepth 100000
set_option maxHeartbeats 4000000
/-! Dlv: more of lists; loops over raw values; lambdas over the row. -/
namespace Dl
open PySem PySem.Spec PyProof.Rows L2 LamX
/-! ### xs + ys of any lists -/
def rCatL (K : PySem.W.Frag) : R2 := fun x y H Q => ∃ l b xs zs, x = .ref l ∧ y = .ref b ∧ SqL K H l xs ∧ SqL K H b zs ∧ xs.length + zs.length ≤ sizeLine ∧ ∀ p, H p = none → Q (.ref p) (upd H p (.lst (xs ++ zs)))
theorem op_catL {X : Cx} : OpR X (binaryOp .Add) (rCatL X.K) := by
  intro pins s σ H x y v u Q I rx ry h
  obtain ⟨l, b, xs, zs, rfl, rfl, hH, hB, hz, q⟩ := h
  cases rx
  cases ry
  obtain ⟨its, r, ⟨⟨c1, d1, t1, s1⟩, n, e, ec, ed, et⟩, z⟩ := I.list hH
  obtain ⟨its2, r2, ⟨⟨c2, d2, t2, s2⟩, n2, e2, ec2, ed2, et2⟩, z2⟩ := I.list hB
  simp only at ec ed et ec2 ed2 et2
  subst ec ed et ec2 ed2 et2
  have hsz : its.toArray.size + its2.toArray.size ≤ sizeLine := by
    rw [List.size_toArray, List.size_toArray, ← r.length, ← r2.length]
    exact hz
  refine concat_meets ⟨_, e, rfl⟩ ⟨_, e2, rfl⟩ noFill_list_add seq_list_add PySem.F.slot_list_add PySem.F.entry_list_add (PySem.F.args_list_add_2 _ _) (list_addW l b its.toArray its2.toArray n n2 none none s1 s2 hsz) ⟨e, e2, ?_⟩
  have ea : its.toArray ++ its2.toArray = (its ++ its2).toArray := by simp
  rw [ea]
  exact ⟨.ref _, _, I.lnew (t' := s.toks) (r.append r2) (by rw [List.length_append]; omega), rfl, q _ I.fresh⟩
section
variable {S : Cf} {ρ : Rho} {te ta tb : TE} {P : Oc → Prop} {w : TS}
theorem ef_catL {ds es : List D} (ha : EvL S ta ρ ds) (hb : EvL S tb ρ es) (hl : ds.length + es.length ≤ 1000000) : EvF S (tOp (rCatL S.K) ta tb) ρ (Eq (ds ++ es)) := fun σ G H k e Q q =>
  ha σ G H k e _ fun a vs G1 H1 g1 k1 st1 ra1 => hb σ G1 H1 k1 (e.grow g1) _ fun b ws G2 H2 g2 k2 st2 ra2 =>
    ⟨a, b, vs, ws, rfl, rfl, st1 G2 H2 g2, st2 _ _ (Grow.refl k2), sz_ok (by rw [ra1.length, ra2.length]; exact hl), fun p hp => by
      have g := g1.trans k1 k2 g2
      exact q p _ _ G2 _ (g.trans k2 (k2.same (same_new hp)) (Grow.same k2 (same_new hp))) (k2.same (same_new hp)) (fresh_of g k2 hp) (k2.freeG hp) upd_same ((ra1.mono g2.gg).append ra2) rfl⟩
theorem ef_rev {ds : List D} (ha : EvL S ta ρ ds) : EvF S (tRevL S.K ta) ρ (Eq ds.reverse) := fun σ G H k e Q q =>
  ha σ G H k e _ fun a vs G1 H1 g1 k1 st1 ra1 => ⟨a, vs, rfl, st1 _ _ (Grow.refl k1), fun p hp =>
    q p _ _ G1 _ (g1.trans k1 (k1.same (same_new hp)) (Grow.same k1 (same_new hp))) (k1.same (same_new hp)) (fresh_of g1 k1 hp) (k1.freeG hp) upd_same ra1.reverse rfl⟩
theorem RA.rep {K : PySem.W.Frag} {G : Hp} {vs : List V} {ds : List D} (h : RA K G vs ds) : ∀ n : Nat, RA K G (List.replicate n vs).flatten (List.replicate n ds).flatten
  | 0 => .nil
  | n + 1 => by
    rw [List.replicate_succ, List.replicate_succ, List.flatten_cons, List.flatten_cons]
    exact h.append (RA.rep h n)
/-- a list just made, times n -/
theorem ef_rep {ds : List D} {n : Nat} (ha : EvF S ta ρ (Eq ds)) (hb : Ev S tb ρ (Eq (.dat (.int (n : Nat))))) (hn : n ≤ 1000000) (hl : ds.length * n ≤ 1000000) : EvF S (tOp rRep ta tb) ρ (Eq (List.replicate n ds).flatten) := fun σ G H k e Q q =>
  ha σ G H k e _ fun a vs ds' G1 H1 g1 k1 n0 n1 ha1 ra1 ed => hb σ G1 H1 k1 (e.grow g1) _ fun y s G2 H2 g2 k2 es r2 => by
    subst ed es
    cases r2
    have va : ¬ S.fx.vol a := k.fresh n0
    have ha2 : H2 a = some (.lst vs) := g2.hh a _ va ha1
    refine ⟨a, (n : Nat), vs, rfl, rfl, ha2, by omega, by omega, sz_ok (by rw [Int.toNat_natCast, ra1.length]; exact hl), fun p hp => ?_⟩
    rw [Int.toNat_natCast]
    have g := g1.trans k1 k2 g2
    exact q p _ _ G2 _ (g.trans k2 (k2.same (same_new hp)) (Grow.same k2 (same_new hp))) (k2.same (same_new hp)) (fresh_of g k2 hp) (k2.freeG hp) upd_same ((ra1.mono g2.gg).rep n) rfl
/-- strings that are alike -/
theorem ev_neS {x y : Str} (ha : Ev S ta ρ (Eq (.dat (.str x)))) (hb : Ev S tb ρ (Eq (.dat (.str y)))) : Ev S (tOp rNe ta tb) ρ (Eq (.dat (.bool (!decide (x = y))))) :=
  ev_op' ha hb (opd_here (z := .bl (!decide (x = y))) fun G H v w k rx ry => ⟨.bl _, fun Q q => by
    cases rx
    cases ry
    refine ⟨rfl, ?_⟩
    rw [show decide (V.str x = V.str y) = decide (x = y) by rw [decide_eq_decide]; exact ⟨V.str.inj, congrArg V.str⟩]
    exact q⟩)
theorem ev_eqS {x y : Str} (ha : Ev S ta ρ (Eq (.dat (.str x)))) (hb : Ev S tb ρ (Eq (.dat (.str y)))) : Ev S (tOp rEq ta tb) ρ (Eq (.dat (.bool (decide (x = y))))) :=
  ev_op' ha hb (opd_here (z := .bl (decide (x = y))) fun G H v w k rx ry => ⟨.bl _, fun Q q => by
    cases rx
    cases ry
    refine ⟨rfl, ?_⟩
    rw [show decide (V.str x = V.str y) = decide (x = y) by rw [decide_eq_decide]; exact ⟨V.str.inj, congrArg V.str⟩]
    exact q⟩)
/-- a, b = e1, e2, not told -/
theorem xc_parP {i j : Nat} {ta : TA} {p : Sl → Sl → Prop} (h : EvA S ta ρ (fun ss => ∃ x y, ss = [x, y] ∧ p x y)) (hs : ∀ x y, p x y → P (.nx ((ρ.set i x).set j y))) : Xc S (tPar i j ta) ρ P := fun σ G H De o e f => h σ G H o.kn e _ fun vs ss G' H' g k ⟨x, y, es, pp⟩ r => by
  subst es
  cases r with
  | cons r1 r =>
    cases r with
    | cons r2 r =>
      cases r
      exact ⟨_, _, rfl, f.nx _ G' H' _ (o.grow g k) g.gg (((e.grow g).set i r1).set j r2) (hs x y pp)⟩
theorem xs_parP {i j : Nat} {ta : TA} {p : Sl → Sl → Prop} (h : EvA S ta ρ (fun ss => ∃ x y, ss = [x, y] ∧ p x y)) (k : ∀ x y, p x y → Xc S w ((ρ.set i x).set j y) P) : Xc S (tSeq (tPar i j ta) w) ρ P := xc_seq (xc_parP h k)
theorem ea_two {Pa Pb : Sl → Prop} (ha : Ev S ta ρ Pa) (hb : Ev S tb ρ Pb) : EvA S (tCons ta (tCons tb tNil)) ρ (fun ss => ∃ x y, ss = [x, y] ∧ Pa x ∧ Pb y) :=
  ea_consP ha (ea_consP (P := fun ss => ∃ y, ss = [y] ∧ Pb y) hb ea_nil fun y ys h e => ⟨y, by rw [← e], h⟩) fun x xs h ⟨y, e, hy⟩ => ⟨x, y, by rw [e], h, hy⟩
theorem xs_freeze {i : Nat} {a : Addr} {ds : List D} (h : ρ[i]? = some (.own a (.lst ds))) (hs : Xc S w (ρ.set i (.dat (.list ds))) P) : Xc S w ρ P := xc_freeze h hs
/-! ### for x in [f, g, ..], the values raw -/
theorem RSs.raws {K : PySem.W.Frag} {G : Hp} : ∀ {vs ws : List V}, RSs K G vs (ws.map Sl.raw) → vs = ws
  | _, [], h => by
    cases h
    rfl
  | _, w :: ws, h => by
    cases h with
    | cons h1 h2 => rw [RSs.raws h2, show _ = w from h1]
theorem xc_forR {ta : TA} {tb : TS} {j : Nat} {ws : List V} (hi : EvA S ta ρ (Eq (ws.map Sl.raw))) (hl : ws.length ≤ 1000000) (I : Nat → Rho → Prop) (h0 : I 0 ρ)
    (hs : ∀ i v ρ1, ws[i]? = some v → I i ρ1 → Xc S tb (ρ1.set j (.raw v)) (LoopP (I (i + 1)) P)) (hd : ∀ ρ1, I ws.length ρ1 → P (.nx ρ1)) : Xc S (tFor (iList S.K (tLst ta)) (gName j) tb) ρ P := fun σ G H De o e f =>
  hi σ G H o.kn e _ fun vs ss G0 H0 g0 k0 es rs => by
    subst es
    obtain rfl := rs.raws
    refine ⟨sz_ok hl, fun p hp => ?_⟩
    have g1 := Grow.new k0 (.lst vs) hp
    have k1 := Kn.new k0 (.lst vs) hp
    have o1 := (o.grow g0 k0).grow g1 k1
    have hG : (upd G0 p (.lst vs)) p = some (.lst vs) := upd_same
    refine ⟨p, rfl, ⟨vs, SqL.of upd_same⟩, ?_⟩
    have gg := g0.trans k0 k1 g1
    revert hG o1 gg
    generalize upd G0 p (.lst vs) = G1
    intro o1 hG gg
    refine ⟨fun i m σ H => m = vs.length - i ∧ i ≤ vs.length ∧ ∃ G ρ', OkS S G H ∧ Same G1 G ∧ Env S G H σ ρ' ∧ I i ρ', ⟨_, rfl, Nat.zero_le _, G1, ρ, o1, Same.refl _, e.grow gg, h0⟩, ?_⟩
    rintro i m σ2 H2 ⟨rfl, hi, G2, ρ2, o2, s2, e2, hI⟩
    have hs2 : SqL S.K H2 p vs := SqL.of ((s2.trans o2.kn.gh) _ _ hG)
    by_cases hlt : i < vs.length
    · refine .inr ⟨⟨vs, vs[i], hs2, by simp [hlt]⟩, fun σ' H' => ∃ G ρ', OkS S G H' ∧ Same G1 G ∧ Env S G H' σ' ρ' ∧ I (i + 1) ρ', fun σ' H' ⟨G', ρ', q⟩ => ⟨vs.length - (i + 1), by omega, rfl, hlt, G', ρ', q⟩, fun x H3 hy => ?_⟩
      obtain ⟨eh, hx⟩ := hy
      subst eh
      have hx := hx vs hs2
      refine hs i x ρ2 hx hI _ G2 H3 _ o2 (e2.set j (s := .raw x) rfl) ?_
      exact ⟨fun σ' G' H' ρ' o' s' e' p' => ⟨G', ρ', o', s2.trans s', e', p'⟩, fun σ' G' H' ρ' o' s' e' p' => f.nx σ' G' H' ρ' o' ((gg.gg.trans s2).trans s') e' p', fun σ' G' H' ρ' o' s' e' p' => ⟨G', ρ', o', s2.trans s', e', p'⟩, f.rt, f.ex⟩
    · have e' : i = vs.length := by omega
      subst e'
      exact .inl ⟨⟨vs, hs2, Nat.le_refl _⟩, f.nx σ2 G2 H2 ρ2 o2 (gg.gg.trans s2) e2 (hd ρ2 hI)⟩
theorem xs_forR {ta : TA} {tb : TS} {j : Nat} {ws : List V} (hi : EvA S ta ρ (Eq (ws.map Sl.raw))) (hl : ws.length ≤ 1000000) (I : Nat → Rho → Prop) (h0 : I 0 ρ)
    (hs : ∀ i v ρ1, ws[i]? = some v → I i ρ1 → Xc S tb (ρ1.set j (.raw v)) (LoopP (I (i + 1)) (SeqP S w P))) (hd : ∀ ρ1, I ws.length ρ1 → Xc S w ρ1 P) : Xc S (tSeq (tFor (iList S.K (tLst ta)) (gName j) tb) w) ρ P := xc_seq (xc_forR hi hl I h0 hs hd)
end
/-! ### one of two readings -/
def tAlt (t1 t2 : TE) : TE := fun σ H Q => t1 σ H Q ∨ t2 σ H Q
theorem pe_alt {X : Cx} {e : Expr} {t1 t2 : TE} (h1 : PE X e t1) (h2 : PE X e t2) : PE X e (tAlt t1 t2) := ⟨fun pins s σ H Q I h => h.elim (h1.run pins s σ H Q I) (h2.run pins s σ H Q I)⟩
section
variable {S : Cf} {ρ : Rho} {t1 t2 : XK → TE} {Pok : Sl → Prop} {Pex : Addr → D → Prop}
theorem evx_alt1 (h : EvX S t1 ρ Pok Pex) : EvX S (fun E => tAlt (t1 E) (t2 E)) ρ Pok Pex := fun σ G H k e E Q q1 q2 => .inl (h σ G H k e E Q q1 q2)
theorem evx_alt2 (h : EvX S t2 ρ Pok Pex) : EvX S (fun E => tAlt (t1 E) (t2 E)) ρ Pok Pex := fun σ G H k e E Q q1 q2 => .inr (h σ G H k e E Q q1 q2)
end
/-! ### lambdas over the row -/
section
variable {K : PySem.W.Frag} {G0 B : Hp} {E : XK} {z : RowZ} {ρ : Rho} {C : Addr} {w : Str} {d : D} {cs : List (Addr × Str)} {t : XK → TE}
theorem row_ext {H H1 : Hp} (i : (rowFx K z).inv H) (e : ExtP z.T H H1) (T1 : TabS H1 z.T z.q) : (rowFx K z).inv H1 := by
  obtain ⟨⟨p, m, c, a1, a2, a3, a4⟩, h5, ⟨ps, t1, _, _⟩⟩ := i
  have nr : z.r ≠ z.T := fun q => by
    rw [q, t1] at a4
    cases a4
  refine ⟨⟨p, m, c, a1, a2, a3, e _ _ nr a4⟩, ?_, T1⟩
  rcases h5 with ⟨t, h⟩ | ⟨o, h⟩ | h
  · exact .inl ⟨t, e _ _ (fun q => by rw [q, t1] at h; cases h) h⟩
  · exact .inr (.inl ⟨o, e _ _ (fun q => by rw [q, t1] at h; cases h) h⟩)
  · exact .inr (.inr h)
theorem ev_ref (ht : Told K C w cs) (h : EvX ⟨K, rowFx K z, G0, B, E⟩ t ρ (fun _ => False) (fun C' d' => C' = C ∧ d' = d)) : Ev ⟨K, rowFx K z, G0, B, E⟩ (tLamP z.T z.q (TRef K cs) t) ρ (Eq (.dat (.tuple [.str w, d]))) :=
  ev_lam (fun H i => i.2.2) (.inr (.inl rfl)) (fun H H1 i e T1 => row_ext i e T1) h (fun s hs => hs.elim) fun C' d' ⟨e1, e2⟩ => ⟨w, by rw [e1]; exact ht, by rw [e2]⟩
end
/-! ### a def that a slot holds; the def that asks -/
section
variable {X : Cx} {k i : Nat} {x y : Str} {ps : List Str} {sp : Sp} {p pos : Pos} {e : Expr} {es : List Expr} {t : TA} {E : XK} {f : Addr}
theorem pe_calL (C : Cal X.prog X.w X.K X.mg X.base k x ps sp) (hf : X.mg x = some (.ref f)) (hr : Room k X.A) (hN : X.N[i]? = some y) (hv : Vis X.env.scope y) (ha : PA X (e :: es) t) (tk : Takes X (fun cls d _ H => E cls d H)) (hdb : (y == ("__debug__" : Str)) = false := by decide)
    (hcd : (y == ("__classdict__" : Str)) = false := by decide) (he : starEach (e :: es) X.env = (false, eval e X.env) :: starEach es X.env := by rfl) (hpl : (backTo pos (starEach es X.env)).any (·.1) = false := by rfl) : PE X (.Call (.Name y p) (e :: es) [] pos) (tCallL i f sp [] E t) := by
  obtain ⟨f', fd, F, hm, hk, hb⟩ := C.ex
  rw [hf] at hm
  cases hm
  exact pe_callL F hr hN hv hk hb .nil (passes_call tk fun _ _ _ _ h => h) ha hdb hcd he hpl
end
section
variable {P : Program} {w : World} {K : PySem.W.Frag} {mg : Str → Option Value} {base : Heap} {N : List Str} {sc : Scope} {fa c Tb : Addr} {A : Around} {s : Shared} {H : Hp} {E : XK}
theorem ask_ok {x : Str} {st : Stmt} {cs : List (Addr × Str)} (D : Def K mg x st) (Sg : FnScope ["ask", "e"] ["ask"] (defScope st)) (hv : Vis (defScope st) "ask") (tb : TabB base mg c Tb) (d1 : (x == ("__debug__" : Str)) = false)
    (hb : ∀ (kV doc pm : Value) (an : Option Addr) (cdv ct : Value) (us : List Value), us.length = 1 → bindArgs (PySem.W.fnOf x x (defArgs st) (defBody st) (defScope st) .none kV doc pm an cdv ct) ⟨us, []⟩ = pure ((["ask"] : List Str).zip us))
    (hG : ∀ (g : Addr) (cdg : Value), GivesTo (cxOf (L2.CX P w) P w K mg base N "law" sc fa (.ref c) A [] s H E) ["ask", "e"] x (defScope st) g cdg (defBody st) "ask" ((cxOf (L2.CX P w) P w K mg base N "law" sc fa (.ref c) A [] s H E).env.qual ++ "<lambda>") (TRef K cs)) :
    ∃ g, AskOk (cxOf (L2.CX P w) P w K mg base N "law" sc fa (.ref c) A [] s H E) x "ask" ["ask", "e"] g c Tb (TRef K cs) := by
  obtain ⟨g, fd, F, hm⟩ := D
  have kp := F.kp
  have bd := F.binds (ps := ["ask"]) hb
  obtain ⟨oc, od, kV, doc, pm, an, cdv, ct, osl, rfl, lk, hcd⟩ := F.ex
  exact ⟨g, hm, kp, ⟨_, _, _, _, _, _, _, _, _, _, _, _, _, lk, hcd, bd, Sg, hv, hG g cdv⟩, rfl, tb, rfl, d1, by decide, by decide⟩
end
/-! ### the start of a law -/
section
variable {K : PySem.W.Frag} {H : Hp} {a Tb p : Addr} {q : Str} {ns : List Int}
theorem law_start (hT : H Tb = some (.tbl #[])) (hS : SqL K H a (ns.map V.int)) (hp : H p = none) (b m : Int) (hb : 0 ≤ b) (h0 : 0 ≤ m) (h1 : m < 2147483648) (x : Int) : ∃ t : Prop, Kn (rowFx K ⟨p, a, Tb, q, ns, t⟩) (fun _ => none) (upd H p (rowHO a b m x)) := by
  have hx : ∃ t : Prop, (t ∧ H a = some (.lst (ns.map V.int))) ∨ (∃ o, H a = some (.frz o (.lst (ns.map V.int)))) ∨ (¬ t ∧ SqL K (fun _ => none) a (ns.map V.int)) := by
    rcases hS with (h | ⟨o, h⟩) | h
    · exact ⟨True, .inl ⟨trivial, h⟩⟩
    · exact ⟨False, .inr (.inl ⟨o, h⟩)⟩
    · exact ⟨False, .inr (.inr ⟨id, .inr h⟩)⟩
  obtain ⟨t, ht⟩ := hx
  refine ⟨t, fun a o e => (by cases e), ⟨⟨b, m, x, hb, h0, h1, upd_same⟩, ?_, ⟨#[], ?_, ?_, fun pos cv hc => ?_⟩⟩, fun _ _ => rfl⟩
  · rcases ht with ⟨t, h⟩ | ⟨o, h⟩ | h
    · exact .inl ⟨t, by show upd H p _ a = _; rw [upd_ne (ne_of_none h hp)]; exact h⟩
    · exact .inr (.inl ⟨o, by show upd H p _ a = _; rw [upd_ne (ne_of_none h hp)]; exact h⟩)
    · exact .inr (.inr h)
  · show upd H p _ Tb = _
    rw [upd_ne (ne_of_none hT hp)]
    exact hT
  · trivial
  · cases hc
theorem xs_row {i : Nat} {w : TS} {De : Ends} {σ : L2.St} (h0 : σ[0]? = some (some (.ref a))) (k : ∀ p, H p = none → w De (σ.set i (some (.ref p))) (upd H p (rowHO a 0 110 0))) :
    tSeq (tAsg (tLst (tCons (tVar 0) (tCons (tC (.int 0)) (tCons (tC (.int 110)) (tCons (tC (.int 0)) tNil))))) (gName i)) w De σ H := ⟨.ref a, h0, (by show 4 ≤ sizeLine; decide), fun p hp => k p hp⟩
theorem xc_start {fx : Fx} {t : TS} {σ : L2.St} {ρ : Rho} (k : Kn fx (fun _ => none) H) (e : Env ⟨K, fx, fun _ => none, H, fun _ _ _ => False⟩ (fun _ => none) H σ ρ) (h : Xc ⟨K, fx, fun _ => none, H, fun _ _ _ => False⟩ t ρ (RetP (Eq (.ok (.dat (.bool true)))))) :
    t { nx := fun _ H' => V.non = .bl true, rt := fun v _ => v = .bl true } σ H := by
  refine h σ _ H _ ⟨k, k, Grow.refl k⟩ e ⟨fun σ G' H' ρ o s e p => ?_, fun σ G' H' ρ o s e p => p.elim, fun σ G' H' ρ o s e p => p.elim, fun v s G' H' o r p => ?_, fun C d dd v G' H' o hd r p => ?_⟩
  · cases (show Re.ok (.dat (.bool true)) = Re.ok (.dat .none) from p)
  · cases (show Re.ok (.dat (.bool true)) = Re.ok s from p)
    cases (show R K G' v (.bool true) from r)
    rfl
  · cases (show Re.ok (.dat (.bool true)) = Re.ex C d from p)
end
section
variable {S : Cf} {ρ : Rho} {ι : Type} {args : ι → List Sl} {pre : ι → Prop} {ta : TA} {E : XK} {r : ι → Re}
theorem ev_callV {s : Sl} (i : ι) (ha : EvA S ta ρ (Eq (args i))) (hp : pre i) (e : r i = .ok s) : Ev S (tCall (spI S.K fx0 args pre (fun i => Eq (r i))) [] E ta) ρ (Eq s) :=
  ev_call i ha hp (fun s' h => by rw [e] at h; exact Re.ok.inj h) fun C d h => by rw [e] at h; cases h
theorem evx_callV {C : Addr} {d : D} (i : ι) (ha : EvA S ta ρ (Eq (args i))) (hp : pre i) (e : r i = .ex C d) : EvX S (fun E => tCall (spI S.K fx0 args pre (fun i => Eq (r i))) [] E ta) ρ (fun _ => False) (fun C' d' => C' = C ∧ d' = d) :=
  evx_call i ha hp (fun s' h => by rw [e] at h; cases h) fun C' d' h => by
    rw [e] at h
    cases h
    exact ⟨rfl, rfl⟩
theorem evx_callLV {C : Addr} {d : D} {j : Nat} {f : Addr} (i : ι) (hj : ρ[j]? = some (.raw (.ref f))) (ha : EvA S ta ρ (Eq (args i))) (hp : pre i) (e : r i = .ex C d) : EvX S (fun E => tCallL j f (spI S.K fx0 args pre (fun i => Eq (r i))) [] E ta) ρ (fun _ => False) (fun C' d' => C' = C ∧ d' = d) :=
  evx_callL i hj ha hp (fun s' h => by rw [e] at h; cases h) fun C' d' h => by
    rw [e] at h
    cases h
    exact ⟨rfl, rfl⟩
theorem et_no {tt : TT} {b : Bool} (h : EvT S tt ρ (Eq b)) (e : b = false) : EvT S tt ρ (Eq false) := e ▸ h
end
end Dl

set_option Elab.async false
set_option linter.all false
set_option maxRecDepth 100000
set_option maxHeartbeats 4000000
/-! Dini: facts of the written part, put together. -/
namespace Dl
open PySem PySem.Spec PyProof.Rows L2 LamX
section
variable {P : Program} {w : World} {K : PySem.W.Frag} {mg : Str → Option Value} {base : Heap}
/-- __init__(self, value=None): self.value = value -/
theorem iniF_mk {fI : Addr} {fd : FuncData} {q : Str} {st : Stmt} {b1 b2 b3 b4 : Pos} (F : FunD K "__init__" q (defArgs st) (defBody st) (defScope st) [.non] [] fI fd) (Sc : FnScope ["self", "value"] ["self", "value"] (defScope st))
    (hs : (defScope st).names = [(PySem.Str.ofString "self", .local), (PySem.Str.ofString "value", .local)]) (hb : defBody st = [.Assign [.Attribute (.Name "self" b1) "value" b2] (.Name "value" b3) b4])
    (hbind : ∀ (T : Addr) (kV doc pm : Value) (an : Option Addr) (cdv ct : Value) (us its : List Value), us.length = 2 → its.length = 1 →
      ∃ k, bindArgs (PySem.W.fnOf "__init__" q (defArgs st) (defBody st) (defScope st) (.ref T) kV doc pm an cdv ct) ⟨us, []⟩ = seqItems? (.ref T) >>= k ∧ k (some its.toArray) = pure ((["self", "value"] : List Str).zip (us ++ its.drop 1))) : IniF P w K mg base fI := by
  obtain ⟨ds, hv, hB⟩ := F.binds1 (ps := ["self", "value"]) 2 1 (by simp) rfl fun T kV doc pm an cdv ct us its h1 h2 => hbind T kV doc pm an cdv ct us its h1 h2
  cases hv
  refine ⟨fd, F.ok (CX := CX0) Sc (fun vs H Q E h => ?_) fun cdv A outer s H vs Q E hr h => ?_, hB⟩
  · obtain ⟨a, C, v, rfl, _⟩ := h
    rfl
  · obtain ⟨a, C, v, rfl, T, nv, ha, k⟩ := h
    have v0 : Vis (cxOf CX0 P w K mg base ["self", "value"] q (defScope st) fI cdv A outer s H E).env.scope "self" := .inl (by show (defScope st).names.lookup _ = _; rw [hs]; decide +kernel)
    have v1 : Vis (cxOf CX0 P w K mg base ["self", "value"] q (defScope st) fI cdv A outer s H E).env.scope "value" := .inl (by show (defScope st).names.lookup _ = _; rw [hs]; decide +kernel)
    refine ⟨_, by rw [hb]; exact pss_one (ps_ost (pe_var (i := 0) rfl v0) (pe_var (i := 1) rfl v1)), ?_⟩
    exact ⟨v, rfl, .ref a, rfl, a, C, rfl, T, nv, .inl ⟨ha, fun dx h1 h2 => k dx h1 h2⟩⟩
theorem exm_of {cls : Value} {S : Addr} {b : Bool} (h1 : PySem.W.subIn K (.ref S) (.type "BaseException") = some true) (h2 : PySem.W.isClsIn K S = true) (h3 : PySem.W.typeIn K (.ref S) = some (.type "type")) (h4 : PySem.W.subIn K cls (.ref S) = some b) : PySem.W.exmOne K cls (.ref S) = some b := by
  have e1 : (PySem.W.subIn K (.ref S) (.type "BaseException") == some true) = true := by rw [h1] <;> rfl
  have e2 : ((PySem.W.clsIn K S).isSome && PySem.W.typeIn K (.ref S) == some (.type "type")) = true := by
    have h2' : (PySem.W.clsIn K S).isSome = true := h2
    rw [h2', h3] <;> rfl
  show (if (PySem.W.subIn K (.ref S) (.type "BaseException") == some true) = true then (if ((PySem.W.clsIn K S).isSome && PySem.W.typeIn K (.ref S) == some (.type "type")) = true then PySem.W.subIn K cls (.ref S) else none) else none) = some b
  rw [if_pos e1, if_pos e2]
  exact h4
/-- the law's code object -/
theorem lawFn_mk {fa c T : Addr} {oc : Value} {od oe' : Option Addr} {fd : FuncData} {sl sl' : Array (Option Value)} {vs : Array Value} {t18 : Tok} {x18 : Str} {i7 i10 : Int} {t7 t10 : Tok} {b9 : Bool} (l : K.lookup fa = some ⟨oc, od, .func fd, sl⟩) (hc : fd.code = .ref c) (lc : K.lookup c = some ⟨.type "code", oe', .fields vs, sl'⟩)
    (v11 : vs[11]? = some (.ref T)) (v18 : vs.getD 18 .none = .str x18 t18) (v7 : vs.getD 7 .none = .int i7 t7) (v9 : vs.getD 9 .none = .bool b9) (v10 : vs.getD 10 .none = .int i10 t10) (ne : (c != T) = true) (no : K.lookup T = none) : LawFn K fa c T := by
  refine ⟨⟨_, _, _, _, l, hc⟩, ⟨_, _, _, _, lc, v11⟩, ?_, no⟩
  unfold PySem.W.codeHdIn
  rw [lc]
  simp only [v11, v18, v7, v9, v10, ne]
  simp
theorem tup_K {a : Addr} {xs : List V} {its : Array Value} {n : Nat} {dd : Option Addr} {sl : Array (Option Value)} (l : K.lookup a = some ⟨.type "tuple", dd, .seq its n, sl⟩) (hz : its.size ≤ sizeLine) (r : Vals xs its.toList) : SqT K (fun _ => none) a xs := .inr ⟨_, _, _, l, rfl, rfl, hz, r⟩
end
end Dl

set_option Elab.async false
set_option linter.all false
set_option maxRecDepth 100000
/-! K10m: turns, in plain numbers. -/
namespace K10
abbrev T3 := Int × Int × Int
def step (s : T3) : T3 := if s.2.1 ≤ 0 ∨ s.2.2 < 0 then (s.1 + 1, s.2.2, -s.2.1) else s
def rot (s : T3) : T3 := step (step (step s))
def gg (x y : Int) : Int := ((Nat.gcd x.natAbs y.natAbs : Nat) : Int)
/-- the turn of some quarters and the angle to a point -/
def low (s : T3) : T3 := (s.1, s.2.1 / gg s.2.1 s.2.2, s.2.2 / gg s.2.1 s.2.2)
def nrm (s : T3) : T3 := low (rot s)
def In0 (s : T3) : Prop := 0 < s.2.1 ∧ 0 ≤ s.2.2
theorem step_in {s : T3} (h : In0 s) : step s = s := if_neg (by unfold In0 at h; omega)
theorem step_out {s : T3} (h : ¬ In0 s) : step s = (s.1 + 1, s.2.2, -s.2.1) := if_pos (by unfold In0 at h; omega)
theorem rot_in {s : T3} (h : In0 s) : rot s = s := by
  unfold rot
  rw [step_in h, step_in h, step_in h]
def NZ (s : T3) : Prop := s.2.1 ≠ 0 ∨ s.2.2 ≠ 0
theorem In0.nz {s : T3} (h : In0 s) : NZ s := .inl (by unfold In0 at h; omega)
theorem step_nz {s : T3} (h : NZ s) : NZ (step s) := by
  unfold step
  split
  · unfold NZ at h ⊢
    show s.2.2 ≠ 0 ∨ -s.2.1 ≠ 0
    omega
  · exact h
/-- how many more quarters -/
def cnt (x y : Int) : Nat := if 0 < x ∧ 0 ≤ y then 0 else if x ≤ 0 ∧ 0 < y then 1 else if x < 0 ∧ y ≤ 0 then 2 else 3
theorem cnt_fall {x y : Int} (h : x ≤ 0 ∨ y < 0) (n : x ≠ 0 ∨ y ≠ 0) : cnt y (-x) < cnt x y := by
  unfold cnt
  split <;> split <;> (repeat' split) <;> omega
theorem rot_step {s : T3} (h : NZ s) : rot (step s) = rot s := by
  obtain ⟨q, x, y⟩ := s
  unfold NZ at h
  simp only at h
  by_cases h0 : In0 (q, x, y)
  · rw [step_in h0]
  · have e1 : step (q, x, y) = (q + 1, y, -x) := step_out h0
    by_cases h1 : In0 (q + 1, y, -x)
    · rw [e1, rot_in h1]
      unfold rot
      rw [e1, step_in h1, step_in h1]
    · have e2 : step (q + 1, y, -x) = (q + 1 + 1, -x, -y) := step_out h1
      by_cases h2 : In0 (q + 1 + 1, -x, -y)
      · unfold rot
        rw [e1, e2, step_in h2, step_in h2]
      · have e3 : step (q + 1 + 1, -x, -y) = (q + 1 + 1 + 1, -y, - -x) := step_out h2
        have h3 : In0 (q + 1 + 1 + 1, -y, - -x) := by
          unfold In0 at h0 h1 h2 ⊢
          simp only at h0 h1 h2 ⊢
          omega
        unfold rot
        rw [e1, e2, e3, step_in h3]
theorem rot_ok {s : T3} (h : NZ s) : In0 (rot s) := by
  obtain ⟨q, x, y⟩ := s
  unfold NZ at h
  simp only at h
  by_cases h0 : In0 (q, x, y)
  · rw [rot_in h0]
    exact h0
  · have e1 : step (q, x, y) = (q + 1, y, -x) := step_out h0
    rw [← rot_step (s := (q, x, y)) h, e1]
    by_cases h1 : In0 (q + 1, y, -x)
    · rw [rot_in h1]
      exact h1
    · have e2 : step (q + 1, y, -x) = (q + 1 + 1, -x, -y) := step_out h1
      rw [← rot_step (s := (q + 1, y, -x)) (by unfold NZ; simp only; omega), e2]
      by_cases h2 : In0 (q + 1 + 1, -x, -y)
      · rw [rot_in h2]
        exact h2
      · have e3 : step (q + 1 + 1, -x, -y) = (q + 1 + 1 + 1, -y, - -x) := step_out h2
        have h3 : In0 (q + 1 + 1 + 1, -y, - -x) := by
          unfold In0 at h0 h1 h2 ⊢
          simp only at h0 h1 h2 ⊢
          omega
        rw [← rot_step (s := (q + 1 + 1, -x, -y)) (by unfold NZ; simp only; omega), e3, rot_in h3]
        exact h3
theorem nrm_step {s : T3} (h : NZ s) : nrm (step s) = nrm s := by
  unfold nrm
  rw [rot_step h]
theorem nrm_in {s : T3} (h : In0 s) : nrm s = low s := by
  unfold nrm
  rw [rot_in h]
/-- out of the first quarter -/
theorem nrm_out {q x y : Int} (h : x ≤ 0 ∨ y < 0) (n : x ≠ 0 ∨ y ≠ 0) : nrm (q, x, y) = nrm (q + 1, y, -x) := by
  rw [← nrm_step (s := (q, x, y)) n]
  congr 1
  exact if_pos h
theorem gg_pos {x y : Int} (h : 0 < x) : 0 < gg x y := by
  unfold gg
  have : 0 < Nat.gcd x.natAbs y.natAbs := Nat.gcd_pos_of_pos_left _ (by omega)
  omega
theorem gg_dvd_left (x y : Int) : gg x y ∣ x := by
  unfold gg
  exact Int.ofNat_dvd_left.mpr (Nat.gcd_dvd_left _ _)
theorem gg_dvd_right (x y : Int) : gg x y ∣ y := by
  unfold gg
  exact Int.ofNat_dvd_left.mpr (Nat.gcd_dvd_right _ _)
/-- a point and its multiple -/
theorem gg_mul {k x y : Int} (hk : 0 < k) : gg (k * x) (k * y) = k * gg x y := by
  unfold gg
  rw [Int.natAbs_mul, Int.natAbs_mul, Nat.gcd_mul_left]
  have : ((k.natAbs : Nat) : Int) = k := by omega
  rw [Int.natCast_mul, this]
theorem low_mul {k q x y : Int} (hk : 0 < k) (hx : 0 < x) : low (q, k * x, k * y) = low (q, x, y) := by
  unfold low
  simp only
  rw [gg_mul hk]
  rw [Int.mul_ediv_mul_of_pos _ _ hk, Int.mul_ediv_mul_of_pos _ _ hk]
theorem step_mul {k q x y : Int} (hk : 0 < k) : step (q, k * x, k * y) = ((step (q, x, y)).1, k * (step (q, x, y)).2.1, k * (step (q, x, y)).2.2) := by
  have e : (k * x ≤ 0 ∨ k * y < 0) ↔ (x ≤ 0 ∨ y < 0) := by
    have a : k * x ≤ 0 ↔ x ≤ 0 := by
      constructor
      · intro h
        apply Int.not_lt.mp
        intro z
        have := Int.mul_pos hk z
        omega
      · intro h
        have := Int.mul_nonneg (Int.le_of_lt hk) (show 0 ≤ -x by omega)
        rw [Int.mul_neg] at this
        omega
    have b : k * y < 0 ↔ y < 0 := by
      constructor
      · intro h
        apply Int.not_le.mp
        intro z
        have := Int.mul_nonneg (Int.le_of_lt hk) z
        omega
      · intro h
        have := Int.mul_pos hk (show 0 < -y by omega)
        rw [Int.mul_neg] at this
        omega
    rw [a, b]
  unfold step
  simp only
  by_cases h : x ≤ 0 ∨ y < 0
  · rw [if_pos (e.mpr h), if_pos h, Int.mul_neg]
  · rw [if_neg (fun z => h (e.mp z)), if_neg h]
theorem nrm_mul {k q x y : Int} (hk : 0 < k) (n : x ≠ 0 ∨ y ≠ 0) : nrm (q, k * x, k * y) = nrm (q, x, y) := by
  unfold nrm
  have e : rot (q, k * x, k * y) = ((rot (q, x, y)).1, k * (rot (q, x, y)).2.1, k * (rot (q, x, y)).2.2) := by
    unfold rot
    rw [step_mul hk, step_mul hk, step_mul hk]
  rw [e]
  have := rot_ok (s := (q, x, y)) n
  rw [low_mul hk this.1]
/-- a turn: in the first quarter, in lowest terms -/
def Trn (t : T3) : Prop := 0 < t.2.1 ∧ 0 ≤ t.2.2 ∧ gg t.2.1 t.2.2 = 1
theorem low_trn {s : T3} (h : In0 s) : Trn (low s) := by
  obtain ⟨q, x, y⟩ := s
  obtain ⟨hx, hy⟩ := h
  simp only at hx hy
  have hg := gg_pos (y := y) hx
  obtain ⟨a, ha⟩ := gg_dvd_left x y
  obtain ⟨b, hb⟩ := gg_dvd_right x y
  have ex : x / gg x y = a := Int.ediv_eq_of_eq_mul_right (by omega) ha
  have ey : y / gg x y = b := Int.ediv_eq_of_eq_mul_right (by omega) hb
  have ha0 : 0 < a := by
    apply Int.not_le.mp
    intro z
    have := Int.mul_nonneg (Int.le_of_lt hg) (show 0 ≤ -a by omega)
    rw [Int.mul_neg] at this
    omega
  have hb0 : 0 ≤ b := by
    apply Int.not_lt.mp
    intro z
    have := Int.mul_pos hg (show 0 < -b by omega)
    rw [Int.mul_neg] at this
    omega
  unfold low Trn
  simp only
  rw [ex, ey]
  refine ⟨ha0, hb0, ?_⟩
  have e : gg (gg x y * a) (gg x y * b) = gg x y * gg a b := gg_mul hg
  rw [← ha, ← hb] at e
  have h1 : gg x y * 1 = gg x y * gg a b := by rw [Int.mul_one]; exact e
  exact (Int.eq_of_mul_eq_mul_left (by omega) h1).symm
theorem nrm_trn {s : T3} (h : NZ s) : Trn (nrm s) := low_trn (rot_ok h)
theorem low_of {t : T3} (h : Trn t) : low t = t := by
  obtain ⟨q, x, y⟩ := t
  obtain ⟨_, _, g⟩ := h
  simp only at g
  unfold low
  simp only
  rw [g, Int.ediv_one, Int.ediv_one]
theorem Trn.in0 {t : T3} (h : Trn t) : In0 t := ⟨h.1, h.2.1⟩
theorem nrm_of {t : T3} (h : Trn t) : nrm t = t := by rw [nrm_in h.in0, low_of h]
/-! ### the sum -/
def add (a b : T3) : T3 := nrm (a.1 + b.1, a.2.1 * b.2.1 - a.2.2 * b.2.2, a.2.1 * b.2.2 + a.2.2 * b.2.1)
/-- the point that comes of two points -/
def cx (a b : T3) : Int := a.2.1 * b.2.1 - a.2.2 * b.2.2
def cy (a b : T3) : Int := a.2.1 * b.2.2 + a.2.2 * b.2.1
theorem cy_nn {a b : T3} (ha : In0 a) (hb : In0 b) : 0 ≤ cy a b := by
  have := Int.mul_nonneg (Int.le_of_lt ha.1) hb.2
  have := Int.mul_nonneg ha.2 (Int.le_of_lt hb.1)
  unfold cy
  omega
theorem c_nz {a b : T3} (ha : In0 a) (hb : In0 b) : cx a b ≠ 0 ∨ cy a b ≠ 0 := by
  have h1 := Int.mul_pos ha.1 hb.1
  have h2 := Int.mul_nonneg ha.2 hb.2
  have h3 := Int.mul_nonneg (Int.le_of_lt ha.1) hb.2
  have h4 := Int.mul_nonneg ha.2 (Int.le_of_lt hb.1)
  by_cases h : cy a b = 0
  · left
    unfold cy at h
    have e1 : a.2.1 * b.2.2 = 0 := by omega
    have e2 : b.2.2 = 0 := by
      rcases Int.mul_eq_zero.mp e1 with z | z
      · have := ha.1
        omega
      · exact z
    unfold cx
    rw [e2, Int.mul_zero]
    omega
  · exact .inr h
theorem c_up {a b : T3} (ha : In0 a) (hb : In0 b) : 0 < cx a b ∨ 0 < cy a b := by
  have h1 := Int.mul_pos ha.1 hb.1
  have h3 := Int.mul_nonneg (Int.le_of_lt ha.1) hb.2
  have h4 := Int.mul_nonneg ha.2 (Int.le_of_lt hb.1)
  by_cases h : cy a b = 0
  · left
    unfold cy at h
    have e1 : a.2.1 * b.2.2 = 0 := by omega
    have e2 : b.2.2 = 0 := by
      rcases Int.mul_eq_zero.mp e1 with z | z
      · have := ha.1
        omega
      · exact z
    unfold cx
    rw [e2, Int.mul_zero]
    omega
  · have := cy_nn ha hb
    exact .inr (by omega)
theorem add_trn {a b : T3} (ha : In0 a) (hb : In0 b) : Trn (add a b) := nrm_trn (c_nz ha hb)
theorem add_comm (a b : T3) : add a b = add b a := by
  unfold add
  rw [Int.add_comm a.1 b.1, Int.mul_comm a.2.1 b.2.1, Int.mul_comm a.2.2 b.2.2, Int.mul_comm a.2.1 b.2.2, Int.mul_comm a.2.2 b.2.1, Int.add_comm (b.2.2 * a.2.1)]
/-- the sum of what is not yet turned back -/
theorem add_nrm {q x y : Int} {c : T3} (hy : 0 ≤ y) (n : 0 < x ∨ 0 < y) (hc : In0 c) : add (nrm (q, x, y)) c = nrm (q + c.1, x * c.2.1 - y * c.2.2, x * c.2.2 + y * c.2.1) := by
  obtain ⟨r, u, v⟩ := c
  obtain ⟨hu, hv⟩ := hc
  simp only at hu hv ⊢
  -- the same with a lowest point of the first quarter
  have key : ∀ {q x y : Int}, 0 < x → 0 ≤ y → add (low (q, x, y)) (r, u, v) = nrm (q + r, x * u - y * v, x * v + y * u) := by
    intro q x y hx hy
    have hg := gg_pos (y := y) hx
    obtain ⟨a, ha⟩ := gg_dvd_left x y
    obtain ⟨b, hb⟩ := gg_dvd_right x y
    have ex : x / gg x y = a := Int.ediv_eq_of_eq_mul_right (by omega) ha
    have ey : y / gg x y = b := Int.ediv_eq_of_eq_mul_right (by omega) hb
    have ht := low_trn (s := (q, x, y)) ⟨hx, hy⟩
    unfold low at ht ⊢
    simp only at ht ⊢
    rw [ex, ey] at ht ⊢
    have nz := c_nz (a := (q, a, b)) (b := (r, u, v)) ht.in0 ⟨hu, hv⟩
    unfold cx cy at nz
    simp only at nz
    unfold add
    simp only
    rw [← nrm_mul (q := q + r) hg nz]
    generalize hG : gg x y = g at ha hb
    rw [ha, hb]
    congr 2
    congr 1
    · rw [Int.mul_sub, ← Int.mul_assoc, ← Int.mul_assoc]
    · rw [Int.mul_add, ← Int.mul_assoc, ← Int.mul_assoc]
  by_cases hx : 0 < x
  · rw [nrm_in (s := (q, x, y)) ⟨hx, hy⟩]
    exact key hx hy
  · have hy' : 0 < y := by omega
    rw [nrm_out (by omega) (by omega)]
    rw [nrm_in (s := (q + 1, y, -x)) ⟨hy', by show (0 : Int) ≤ -x; omega⟩]
    rw [key hy' (by omega)]
    have h1 : x * u - y * v ≤ 0 := by
      have := Int.mul_nonneg (show 0 ≤ -x by omega) (Int.le_of_lt hu)
      have := Int.mul_nonneg hy hv
      rw [Int.neg_mul] at *
      omega
    have h2 : x * u - y * v ≠ 0 ∨ x * v + y * u ≠ 0 := by
      by_cases z : x * u - y * v = 0
      · right
        have a1 := Int.mul_nonneg (show 0 ≤ -x by omega) (Int.le_of_lt hu)
        have a2 := Int.mul_nonneg hy hv
        rw [Int.neg_mul] at a1
        have e1 : y * v = 0 := by omega
        have e2 : v = 0 := by
          rcases Int.mul_eq_zero.mp e1 with w | w
          · exact absurd w (by omega)
          · exact w
        have a3 := Int.mul_pos hy' hu
        rw [e2, Int.mul_zero]
        omega
      · exact .inl z
    rw [nrm_out (q := q + r) (.inl h1) h2]
    congr 2
    · omega
    · congr 1
      · rw [Int.neg_mul]
        omega
      · rw [Int.neg_mul]
        omega
theorem add3 {a b c : T3} (ha : In0 a) (hb : In0 b) (hc : In0 c) : add (add a b) c = nrm (a.1 + b.1 + c.1, cx a b * c.2.1 - cy a b * c.2.2, cx a b * c.2.2 + cy a b * c.2.1) := add_nrm (cy_nn ha hb) (c_up ha hb) hc
theorem add_swap {a b c : T3} (ha : In0 a) (hb : In0 b) (hc : In0 c) : add (add a b) c = add (add a c) b := by
  rw [add3 ha hb hc, add3 ha hc hb]
  unfold cx cy
  obtain ⟨q, x, y⟩ := a
  obtain ⟨r, u, v⟩ := b
  obtain ⟨s, m, n⟩ := c
  simp only [Int.sub_mul, Int.add_mul]
  congr 2
  · omega
  · congr 1
    · rw [Int.mul_right_comm x m u, Int.mul_right_comm y n u, Int.mul_right_comm x n v, Int.mul_right_comm y m v]
      omega
    · rw [Int.mul_right_comm x m v, Int.mul_right_comm y n v, Int.mul_right_comm x n u, Int.mul_right_comm y m u]
      omega
def all0 (l : List T3) : Prop := ∀ t ∈ l, In0 t
theorem foldl_trn : ∀ (l : List T3) (z : T3), all0 l → In0 z → In0 (l.foldl add z)
  | [], z, _, h => h
  | t :: l, z, hl, h => foldl_trn l _ (fun s hs => hl s (List.mem_cons_of_mem _ hs)) (add_trn h (hl t List.mem_cons_self)).in0
theorem foldl_out : ∀ (l : List T3) (z x : T3), all0 l → In0 z → In0 x → l.foldl add (add z x) = add (l.foldl add z) x
  | [], z, x, _, _, _ => rfl
  | t :: l, z, x, hl, hz, hx => by
    have ht := hl t List.mem_cons_self
    show l.foldl add (add (add z x) t) = add (l.foldl add (add z t)) x
    rw [add_swap hz hx ht]
    exact foldl_out l _ x (fun s hs => hl s (List.mem_cons_of_mem _ hs)) (add_trn hz ht).in0 hx
theorem foldl_rev : ∀ (l : List T3) (z : T3), all0 l → In0 z → l.reverse.foldl add z = l.foldl add z
  | [], z, _, _ => rfl
  | t :: l, z, hl, hz => by
    have ht := hl t List.mem_cons_self
    have hl' : all0 l := fun s hs => hl s (List.mem_cons_of_mem _ hs)
    rw [List.reverse_cons, List.foldl_append]
    show add (l.reverse.foldl add z) t = l.foldl add (add z t)
    rw [foldl_rev l z hl' hz, foldl_out l z t hl' hz ht]
/-! ### the back -/
def bck (t : T3) : T3 := if t.2.2 = 0 then (-t.1, 1, 0) else (-t.1 - 1, t.2.2, t.2.1)
theorem gg_zero {x : Int} (h : 0 < x) : gg x 0 = x := by
  unfold gg
  simp
  omega
theorem gg_comm (x y : Int) : gg x y = gg y x := by
  unfold gg
  rw [Nat.gcd_comm]
theorem low_one {q s : Int} (h : 0 < s) : low (q, s, 0) = (q, 1, 0) := by
  unfold low
  simp only
  rw [gg_zero h, Int.ediv_self (by omega), Int.zero_ediv]
theorem bck_trn {t : T3} (h : Trn t) : Trn (bck t) := by
  unfold bck
  split
  · refine ⟨by show (0 : Int) < 1; omega, by show (0 : Int) ≤ 0; omega, ?_⟩
    exact gg_zero (show (0 : Int) < 1 by omega)
  · rename_i n
    refine ⟨?_, Int.le_of_lt h.1, ?_⟩
    · show 0 < t.2.2
      have := h.2.1
      omega
    · show gg t.2.2 t.2.1 = 1
      rw [gg_comm]
      exact h.2.2
theorem trn_one {t : T3} (h : Trn t) (z : t.2.2 = 0) : t.2.1 = 1 := by
  have g := h.2.2
  rw [z, gg_zero h.1] at g
  exact g
theorem add_bck {t : T3} (h : Trn t) : add t (bck t) = (0, 1, 0) := by
  obtain ⟨q, x, y⟩ := t
  unfold bck
  simp only
  by_cases z : y = 0
  · have hx : x = 1 := trn_one h z
    rw [if_pos z]
    subst z hx
    unfold add
    simp only
    rw [nrm_in ⟨by show (0 : Int) < 1 * 1 - 0 * 0; omega, by show (0 : Int) ≤ 1 * 0 + 0 * 1; omega⟩]
    have e : ((q + -q, 1 * 1 - 0 * 0, 1 * 0 + 0 * 1) : T3) = (0, 1, 0) := by
      congr 1
      omega
    rw [e]
    exact low_one (by omega)
  · rw [if_neg z]
    have hx : 0 < x := h.1
    have hy : 0 ≤ y := h.2.1
    have s1 := Int.mul_pos hx hx
    have s2 := Int.mul_pos (show 0 < y by omega) (show 0 < y by omega)
    unfold add
    simp only
    have e0 : x * y - y * x = 0 := by rw [Int.mul_comm]; omega
    rw [e0, nrm_out (.inl (Int.le_refl 0)) (.inr (by omega)), nrm_in ⟨by show 0 < x * x + y * y; omega, by show (0 : Int) ≤ -0; omega⟩]
    have e : ((q + (-q - 1) + 1, x * x + y * y, -0) : T3) = (0, x * x + y * y, 0) := by
      congr 1
      omega
    rw [e]
    exact low_one (by omega)
/-- what the law reckons for the back -/
theorem bck_law {t : T3} (h : Trn t) (z : t.2.2 ≠ 0) : nrm (0 - t.1 - 1, 1 * t.2.2 - 0 * t.2.1, 1 * t.2.1 + 0 * t.2.2) = bck t := by
  obtain ⟨q, x, y⟩ := t
  have hb := bck_trn h
  unfold bck at hb ⊢
  simp only at z hb ⊢
  rw [if_neg z] at hb ⊢
  have e : ((0 - q - 1, 1 * y - 0 * x, 1 * x + 0 * y) : T3) = (-q - 1, y, x) := by
    rw [Int.one_mul, Int.zero_mul, Int.one_mul, Int.zero_mul, Int.sub_zero, Int.add_zero]
    congr 1
    omega
  rw [e]
  exact nrm_of hb
/-! ### there and back again -/
theorem rot_b {q c s : Int} (hc : c ≤ 0) (hs : 0 < s) : rot (q, c, s) = (q + 1, s, -c) := by
  rw [← rot_step (s := (q, c, s)) (.inr (by show s ≠ 0; omega)), step_out (by unfold In0; simp only; omega), rot_in]
  exact ⟨hs, by show 0 ≤ -c; omega⟩
theorem rot_c {q c s : Int} (hc : c < 0) (hs : s ≤ 0) : rot (q, c, s) = (q + 2, -c, -s) := by
  rw [← rot_step (s := (q, c, s)) (.inl (by show c ≠ 0; omega)), step_out (by unfold In0; simp only; omega)]
  show rot (q + 1, s, -c) = _
  rw [rot_b hs (by omega)]
  congr 1
  omega
theorem rot_d {q c s : Int} (hc : 0 ≤ c) (hs : s < 0) : rot (q, c, s) = (q + 3, -s, c) := by
  rw [← rot_step (s := (q, c, s)) (.inr (by show s ≠ 0; omega)), step_out (by unfold In0; simp only; omega)]
  show rot (q + 1, s, -c) = _
  rw [rot_c hs (by omega), Int.neg_neg]
  congr 1
  omega
theorem add_low {q x y : Int} {c : T3} (hx : 0 < x) (hy : 0 ≤ y) (hc : In0 c) : add (low (q, x, y)) c = nrm (q + c.1, x * c.2.1 - y * c.2.2, x * c.2.2 + y * c.2.1) := by
  have h := add_nrm (q := q) hy (.inl hx) hc
  rw [nrm_in (s := (q, x, y)) ⟨hx, hy⟩] at h
  exact h
theorem add_lows {q r x y u v : Int} (hx : 0 < x) (hy : 0 ≤ y) (hu : 0 < u) (hv : 0 ≤ v) : add (low (q, x, y)) (low (r, u, v)) = nrm (q + r, x * u - y * v, x * v + y * u) := by
  have hl := low_trn (s := (r, u, v)) ⟨hu, hv⟩
  rw [add_comm, add_low hu hv (low_trn (s := (q, x, y)) ⟨hx, hy⟩).in0]
  have h2 := add_low (q := q) (c := (r, u, v)) hx hy ⟨hu, hv⟩
  have h3 := add_low (q := r) (c := low (q, x, y)) hu hv (low_trn (s := (q, x, y)) ⟨hx, hy⟩).in0
  rw [← h3, ← h2]
  -- the second one is not lowered
  rw [h3, h2]
  have hg := gg_pos (y := y) hx
  obtain ⟨a, ha⟩ := gg_dvd_left x y
  obtain ⟨b, hb⟩ := gg_dvd_right x y
  have ex : x / gg x y = a := Int.ediv_eq_of_eq_mul_right (by omega) ha
  have ey : y / gg x y = b := Int.ediv_eq_of_eq_mul_right (by omega) hb
  have ht := low_trn (s := (q, x, y)) ⟨hx, hy⟩
  unfold low at ht ⊢
  simp only at ht ⊢
  rw [ex, ey] at ht ⊢
  have nz := c_nz (a := (r, u, v)) (b := (q, a, b)) ⟨hu, hv⟩ ht.in0
  unfold cx cy at nz
  simp only at nz
  rw [← nrm_mul (q := r + q) hg nz, Int.add_comm r q]
  generalize hG : gg x y = g at ha hb
  rw [ha, hb]
  congr 2
  congr 1
  · rw [Int.mul_sub, Int.mul_assoc, Int.mul_assoc, Int.mul_comm a u, Int.mul_comm b v]
  · rw [Int.mul_add, Int.mul_assoc, Int.mul_assoc, Int.mul_comm a v, Int.mul_comm b u]
    omega
theorem nrm_up {q n : Int} (h : 0 < n) : nrm (q, 0, n) = (q + 1, 1, 0) := by
  rw [nrm_out (.inl (Int.le_refl 0)) (.inr (by omega)), nrm_in ⟨h, by show (0 : Int) ≤ -0; omega⟩]
  exact low_one h
theorem nrm_right {q n : Int} (h : 0 < n) : nrm (q, n, 0) = (q, 1, 0) := by
  rw [nrm_in ⟨h, by show (0 : Int) ≤ 0; omega⟩]
  exact low_one h
theorem there_back {c s : Int} (n : c ≠ 0 ∨ s ≠ 0) : add (nrm (0, c, s)) (nrm (0, c, -s)) = (if nrm (0, c, s) = (0, 1, 0) then (0, 1, 0) else (4, 1, 0)) ∧ 0 ≤ (nrm (0, c, s)).1 ∧ (nrm (0, c, s)).1 < 4 := by
  have far : ∀ {q x y : Int}, q ≠ 0 → low (q, x, y) ≠ (0, 1, 0) := fun h z => h (congrArg Prod.fst z)
  have sq : ∀ {a : Int}, a ≠ 0 → 0 < a * a := fun {a} h => by
    rcases Int.lt_or_gt_of_ne h with z | z
    · have := Int.mul_pos (show 0 < -a by omega) (show 0 < -a by omega)
      rw [Int.neg_mul_neg] at this
      exact this
    · exact Int.mul_pos z z
  have sq0 : ∀ {a : Int}, 0 ≤ a * a := fun {a} => by
    by_cases h : a = 0
    · rw [h]
      omega
    · exact Int.le_of_lt (sq h)
  by_cases hc : 0 < c
  · rcases Int.lt_trichotomy s 0 with hs | hs | hs
    · have e1 : nrm (0, c, s) = low (3, -s, c) := by
        unfold nrm
        rw [rot_d (by omega) hs]
        rfl
      have e2 : nrm (0, c, -s) = low (0, c, -s) := nrm_in ⟨hc, by show 0 ≤ -s; omega⟩
      rw [e1, e2, if_neg (far (by omega)), add_lows (by omega) (by omega) hc (by omega)]
      refine ⟨?_, by show (0 : Int) ≤ 3; omega, by show (3 : Int) < 4; omega⟩
      have a1 : -s * c - c * -s = 0 := by rw [Int.mul_comm]; omega
      have a2 : 0 < -s * -s + c * c := by
        have := sq (show -s ≠ 0 by omega)
        have := sq (show c ≠ 0 by omega)
        omega
      rw [a1, nrm_up a2]
      rfl
    · subst hs
      have e1 : nrm (0, c, 0) = (0, 1, 0) := nrm_right hc
      have e2 : nrm (0, c, -0) = (0, 1, 0) := nrm_right hc
      rw [e1, e2, if_pos rfl]
      exact ⟨rfl, by decide, by decide⟩
    · have e1 : nrm (0, c, s) = low (0, c, s) := nrm_in ⟨hc, Int.le_of_lt hs⟩
      have e2 : nrm (0, c, -s) = low (3, s, c) := by
        unfold nrm
        rw [rot_d (by omega) (by omega), Int.neg_neg]
        rfl
      have ne : low (0, c, s) ≠ (0, 1, 0) := fun z => by
        have hy : s / gg c s = 0 := congrArg (fun t : T3 => t.2.2) z
        obtain ⟨b, hb⟩ := gg_dvd_right c s
        have hg := gg_pos (y := s) hc
        have ey : s / gg c s = b := Int.ediv_eq_of_eq_mul_right (by omega) hb
        rw [ey] at hy
        rw [hy, Int.mul_zero] at hb
        omega
      rw [e1, e2, if_neg ne, add_lows hc (Int.le_of_lt hs) hs (by omega)]
      refine ⟨?_, by show (0 : Int) ≤ 0; omega, by show (0 : Int) < 4; omega⟩
      have a1 : c * s - s * c = 0 := by rw [Int.mul_comm]; omega
      have a2 : 0 < c * c + s * s := by
        have := sq (show s ≠ 0 by omega)
        have := sq (show c ≠ 0 by omega)
        omega
      rw [a1, nrm_up a2]
      rfl
  · rcases Int.lt_trichotomy s 0 with hs | hs | hs
    · by_cases h0 : c = 0
      · subst h0
        have e1 : nrm (0, 0, s) = low (3, -s, 0) := by
          unfold nrm
          rw [rot_d (by omega) hs]
          rfl
        have e2 : nrm (0, 0, -s) = low (1, -s, 0) := by
          unfold nrm
          rw [rot_b (by omega) (by omega)]
          rfl
        rw [e1, e2, if_neg (far (by omega)), add_lows (by omega) (by omega) (by omega) (by omega)]
        refine ⟨?_, by show (0 : Int) ≤ 3; omega, by show (3 : Int) < 4; omega⟩
        have := sq (show -s ≠ 0 by omega)
        rw [show -s * -s - 0 * 0 = -s * -s by omega, show -s * 0 + 0 * -s = 0 by omega, nrm_right this]
        rfl
      · have e1 : nrm (0, c, s) = low (2, -c, -s) := by
          unfold nrm
          rw [rot_c (by omega) (by omega)]
          rfl
        have e2 : nrm (0, c, -s) = low (1, -s, -c) := by
          unfold nrm
          rw [rot_b (by omega) (by omega)]
          rfl
        rw [e1, e2, if_neg (far (by omega)), add_lows (by omega) (by omega) (by omega) (by omega)]
        refine ⟨?_, by show (0 : Int) ≤ 2; omega, by show (2 : Int) < 4; omega⟩
        have a1 : -c * -s - -s * -c = 0 := by rw [Int.mul_comm]; omega
        have a2 : 0 < -c * -c + -s * -s := by
          have := sq (show -s ≠ 0 by omega)
          have := sq (show -c ≠ 0 by omega)
          omega
        rw [a1, nrm_up a2]
        rfl
    · subst hs
      have e1 : nrm (0, c, 0) = low (2, -c, 0) := by
        unfold nrm
        rw [rot_c (by omega) (by omega)]
        rfl
      have e2 : nrm (0, c, -0) = low (2, -c, 0) := e1
      rw [e2, e1, if_neg (far (by omega)), add_lows (by omega) (by omega) (by omega) (by omega)]
      refine ⟨?_, by show (0 : Int) ≤ 2; omega, by show (2 : Int) < 4; omega⟩
      have := sq (show -c ≠ 0 by omega)
      rw [show -c * -c - 0 * 0 = -c * -c by omega, show -c * 0 + 0 * -c = 0 by omega, nrm_right this]
      rfl
    · have e1 : nrm (0, c, s) = low (1, s, -c) := by
        unfold nrm
        rw [rot_b (by omega) hs]
        rfl
      by_cases h0 : c = 0
      · subst h0
        have e2 : nrm (0, 0, -s) = low (3, s, 0) := by
          unfold nrm
          rw [rot_d (by omega) (by omega), Int.neg_neg]
          rfl
        rw [e1, e2, if_neg (far (by omega)), add_lows hs (by omega) hs (by omega)]
        refine ⟨?_, by show (0 : Int) ≤ 1; omega, by show (1 : Int) < 4; omega⟩
        have := sq (show s ≠ 0 by omega)
        rw [show s * s - -0 * 0 = s * s by omega, show s * 0 + -0 * s = 0 by omega, nrm_right this]
        rfl
      · have e2 : nrm (0, c, -s) = low (2, -c, s) := by
          unfold nrm
          rw [rot_c (by omega) (by omega), Int.neg_neg]
          rfl
        rw [e1, e2, if_neg (far (by omega)), add_lows hs (by omega) (by omega) (by omega)]
        refine ⟨?_, by show (0 : Int) ≤ 1; omega, by show (1 : Int) < 4; omega⟩
        have a1 : s * -c - -c * s = 0 := by rw [Int.mul_comm]; omega
        have a2 : 0 < s * s + -c * -c := by
          have := sq (show s ≠ 0 by omega)
          have := sq (show -c ≠ 0 by omega)
          omega
        rw [a1, nrm_up a2]
        rfl
/-! ### the law's own divisor -/
def steps (a b : Nat) : Nat := if h : b = 0 then 0 else 1 + steps b (a % b)
termination_by b
decreasing_by exact Nat.mod_lt _ (by omega)
theorem steps_zero (a : Nat) : steps a 0 = 0 := by
  unfold steps
  rw [dif_pos rfl]
theorem steps_succ {a b : Nat} (h : b ≠ 0) : steps a b = 1 + steps b (a % b) := by
  rw [steps, dif_neg h]
theorem mod_half {b r : Nat} (h0 : r ≠ 0) (h : r < b) : 2 * (b % r) < b := by
  have h1 := Nat.mod_lt b (show 0 < r by omega)
  have h2 := Nat.div_add_mod b r
  have h3 : 1 ≤ b / r := (Nat.le_div_iff_mul_le (by omega)).mpr (by omega)
  have h4 : r * 1 ≤ r * (b / r) := Nat.mul_le_mul_left r h3
  omega
theorem steps_le : ∀ (m a b : Nat), b < 2 ^ m → steps a b ≤ 2 * m
  | 0, a, b, h => by
    have : b = 0 := by simpa using h
    rw [this, steps_zero]
    exact Nat.zero_le _
  | m + 1, a, b, h => by
    by_cases hb : b = 0
    · rw [hb, steps_zero]
      exact Nat.zero_le _
    · rw [steps_succ hb]
      by_cases hr : a % b = 0
      · rw [hr, steps_zero]
        omega
      · rw [steps_succ hr]
        have h1 := mod_half hr (Nat.mod_lt a (by omega))
        have := steps_le m (a % b) (b % (a % b)) (by rw [Nat.pow_succ] at h; omega)
        omega
/-! ### sizes -/
def Sz (n : Nat) (s : T3) : Prop := s.2.1.natAbs < 2 ^ n ∧ s.2.2.natAbs < 2 ^ n
theorem step_sz {n : Nat} {s : T3} (h : Sz n s) : Sz n (step s) := by
  unfold step
  split
  · exact ⟨h.2, by show (-s.2.1).natAbs < 2 ^ n; rw [Int.natAbs_neg]; exact h.1⟩
  · exact h
theorem rot_sz {n : Nat} {s : T3} (h : Sz n s) : Sz n (rot s) := step_sz (step_sz (step_sz h))
theorem div_abs {a g : Int} (ha : 0 ≤ a) (hg : 0 < g) : (a / g).natAbs ≤ a.natAbs := by
  have h1 := Int.ediv_nonneg ha (Int.le_of_lt hg)
  have h2 := Int.ediv_le_self g ha
  omega
theorem low_sz {n : Nat} {s : T3} (hi : In0 s) (h : Sz n s) : Sz n (low s) :=
  ⟨Nat.lt_of_le_of_lt (div_abs (Int.le_of_lt hi.1) (gg_pos hi.1)) h.1, Nat.lt_of_le_of_lt (div_abs hi.2 (gg_pos hi.1)) h.2⟩
theorem nrm_sz {n : Nat} {s : T3} (nz : NZ s) (h : Sz n s) : Sz n (nrm s) := low_sz (rot_ok nz) (rot_sz h)
theorem two_sz {a b c d : Int} {n m : Nat} (ha : a.natAbs < 2 ^ n) (hb : b.natAbs < 2 ^ n) (hc : c.natAbs < 2 ^ m) (hd : d.natAbs < 2 ^ m) : (a * c - b * d).natAbs < 2 ^ (n + m + 1) ∧ (a * d + b * c).natAbs < 2 ^ (n + m + 1) := by
  have key : ∀ {x y : Int}, x.natAbs < 2 ^ n → y.natAbs < 2 ^ m → (x * y).natAbs < 2 ^ (n + m) := fun {x y} hx hy => by
    rw [Int.natAbs_mul, Nat.pow_add]
    exact Nat.mul_lt_mul'' hx hy
  have h1 := key ha hc
  have h2 := key hb hd
  have h3 := key ha hd
  have h4 := key hb hc
  rw [Nat.pow_succ]
  constructor <;> omega
theorem add_sz {n m : Nat} {a b : T3} (ha : In0 a) (hb : In0 b) (sa : Sz n a) (sb : Sz m b) : Sz (n + m + 1) (add a b) := by
  obtain ⟨h1, h2⟩ := two_sz sa.1 sa.2 sb.1 sb.2
  exact nrm_sz (c_nz ha hb) ⟨h1, h2⟩
theorem bck_sz {n : Nat} {t : T3} (hn : 0 < n) (h : Sz n t) : Sz n (bck t) := by
  unfold bck
  split
  · have : 2 ^ 1 ≤ 2 ^ n := Nat.pow_le_pow_right (by omega) hn
    exact ⟨by show (1 : Int).natAbs < 2 ^ n; simp; omega, by show (0 : Int).natAbs < 2 ^ n; exact Nat.two_pow_pos n⟩
  · exact ⟨h.2, h.1⟩
end K10

set_option Elab.async false
set_option linter.all false
set_option maxRecDepth 100000
set_option maxHeartbeats 4000000
namespace K10
open PySem PySem.Spec PyProof.Rows L2 Dl
def top (i : Nat) : Stmt := PySem.Challenge.pw_sailcut_k10_whole_turns.main.body.getD i (.Pass ⟨0, 0, 0, 0⟩)
abbrev s_is_integer : Stmt := top 2
theorem sc_is_integer : FnScope ["thing"] ["thing"] (defScope s_is_integer) := ⟨rfl, rfl, rfl, by decide +kernel, rfl, by decide +kernel, by decide +kernel⟩
abbrev s_is_within : Stmt := top 3
theorem sc_is_within : FnScope ["thing", "least", "most"] ["thing", "least", "most"] (defScope s_is_within) := ⟨rfl, rfl, rfl, by decide +kernel, rfl, by decide +kernel, by decide +kernel⟩
abbrev s_is_row : Stmt := top 4
theorem sc_is_row : FnScope ["thing"] ["thing"] (defScope s_is_row) := ⟨rfl, rfl, rfl, by decide +kernel, rfl, by decide +kernel, by decide +kernel⟩
abbrev s_is_tuple_of : Stmt := top 5
theorem sc_is_tuple_of : FnScope ["thing", "many"] ["thing", "many"] (defScope s_is_tuple_of) := ⟨rfl, rfl, rfl, by decide +kernel, rfl, by decide +kernel, by decide +kernel⟩
abbrev s_SailError___init__ : Stmt := inClass (top 7) 0
theorem sc_SailError___init__ : FnScope ["self", "value"] ["self", "value"] (defScope s_SailError___init__) := ⟨rfl, rfl, rfl, by decide +kernel, rfl, by decide +kernel, by decide +kernel⟩
abbrev s_is_turn : Stmt := top 15
theorem sc_is_turn : FnScope ["thing", "one"] ["thing"] (defScope s_is_turn) := ⟨rfl, rfl, rfl, by decide +kernel, rfl, by decide +kernel, by decide +kernel⟩
abbrev s_as_turn : Stmt := top 16
theorem sc_as_turn : FnScope ["quarters", "x", "y", "common"] ["quarters", "x", "y"] (defScope s_as_turn) := ⟨rfl, rfl, rfl, by decide +kernel, rfl, by decide +kernel, by decide +kernel⟩
abbrev s_told_between : Stmt := top 17
theorem sc_told_between : FnScope ["one", "other"] ["one", "other"] (defScope s_told_between) := ⟨rfl, rfl, rfl, by decide +kernel, rfl, by decide +kernel, by decide +kernel⟩
abbrev s_check_point : Stmt := top 18
theorem sc_check_point : FnScope ["point", "one"] ["point"] (defScope s_check_point) := ⟨rfl, rfl, rfl, by decide +kernel, rfl, by decide +kernel, by decide +kernel⟩
abbrev s_turn_between : Stmt := top 19
theorem sc_turn_between : FnScope ["one", "other"] ["one", "other"] (defScope s_turn_between) := ⟨rfl, rfl, rfl, by decide +kernel, rfl, by decide +kernel, by decide +kernel⟩
abbrev s_check_turn : Stmt := top 20
theorem sc_check_turn : FnScope ["turn"] ["turn"] (defScope s_check_turn) := ⟨rfl, rfl, rfl, by decide +kernel, rfl, by decide +kernel, by decide +kernel⟩
abbrev s_told_sum : Stmt := top 21
theorem sc_told_sum : FnScope ["one", "other", "x"] ["one", "other"] (defScope s_told_sum) := ⟨rfl, rfl, rfl, by decide +kernel, rfl, by decide +kernel, by decide +kernel⟩
abbrev s_add_turns : Stmt := top 22
theorem sc_add_turns : FnScope ["one", "other"] ["one", "other"] (defScope s_add_turns) := ⟨rfl, rfl, rfl, by decide +kernel, rfl, by decide +kernel, by decide +kernel⟩
abbrev s_told_back : Stmt := top 23
theorem sc_told_back : FnScope ["turn", "quarters", "x", "y"] ["turn"] (defScope s_told_back) := ⟨rfl, rfl, rfl, by decide +kernel, rfl, by decide +kernel, by decide +kernel⟩
abbrev s_turn_back : Stmt := top 24
theorem sc_turn_back : FnScope ["turn"] ["turn"] (defScope s_turn_back) := ⟨rfl, rfl, rfl, by decide +kernel, rfl, by decide +kernel, by decide +kernel⟩
abbrev s_told_less : Stmt := top 25
theorem sc_told_less : FnScope ["one", "other"] ["one", "other"] (defScope s_told_less) := ⟨rfl, rfl, rfl, by decide +kernel, rfl, by decide +kernel, by decide +kernel⟩
abbrev s_is_less_turn : Stmt := top 26
theorem sc_is_less_turn : FnScope ["one", "other"] ["one", "other"] (defScope s_is_less_turn) := ⟨rfl, rfl, rfl, by decide +kernel, rfl, by decide +kernel, by decide +kernel⟩
abbrev s_told_whole : Stmt := top 27
theorem sc_told_whole : FnScope ["turns", "found", "turn"] ["turns"] (defScope s_told_whole) := ⟨rfl, rfl, rfl, by decide +kernel, rfl, by decide +kernel, by decide +kernel⟩
abbrev s_sum_turns : Stmt := top 28
theorem sc_sum_turns : FnScope ["turns", "index", "turn"] ["turns"] (defScope s_sum_turns) := ⟨rfl, rfl, rfl, by decide +kernel, rfl, by decide +kernel, by decide +kernel⟩
abbrev s__law_taken : Stmt := top 30
theorem sc__law_taken : FnScope ["row", "many", "found", "cell"] ["row", "many"] (defScope s__law_taken) := ⟨rfl, rfl, rfl, by decide +kernel, rfl, by decide +kernel, by decide +kernel⟩
abbrev s__law_pick : Stmt := top 31
theorem sc__law_pick : FnScope ["row", "some"] ["row", "some"] (defScope s__law_pick) := ⟨rfl, rfl, rfl, by decide +kernel, rfl, by decide +kernel, by decide +kernel⟩
abbrev s__law_alike : Stmt := top 32
theorem sc__law_alike : FnScope ["found", "due", "k", "key"] ["found", "due"] (defScope s__law_alike) := ⟨rfl, rfl, rfl, by decide +kernel, rfl, by decide +kernel, by decide +kernel⟩
abbrev s__law_gcd : Stmt := top 33
theorem sc__law_gcd : FnScope ["one", "other", "k"] ["one", "other"] (defScope s__law_gcd) := ⟨rfl, rfl, rfl, by decide +kernel, rfl, by decide +kernel, by decide +kernel⟩
abbrev s__law_turn : Stmt := top 34
theorem sc__law_turn : FnScope ["quarters", "x", "y", "k", "common"] ["quarters", "x", "y"] (defScope s__law_turn) := ⟨rfl, rfl, rfl, by decide +kernel, rfl, by decide +kernel, by decide +kernel⟩
abbrev s__law_more : Stmt := top 35
theorem sc__law_more : FnScope ["one", "other"] ["one", "other"] (defScope s__law_more) := ⟨rfl, rfl, rfl, by decide +kernel, rfl, by decide +kernel, by decide +kernel⟩
abbrev s__law_less : Stmt := top 36
theorem sc__law_less : FnScope ["one", "other", "x"] ["one", "other"] (defScope s__law_less) := ⟨rfl, rfl, rfl, by decide +kernel, rfl, by decide +kernel, by decide +kernel⟩
abbrev s__law_point : Stmt := top 37
theorem sc__law_point : FnScope ["row", "most", "point"] ["row"] (defScope s__law_point) := ⟨rfl, rfl, rfl, by decide +kernel, rfl, by decide +kernel, by decide +kernel⟩
abbrev s__law_refused : Stmt := top 38
theorem sc__law_refused : FnScope ["ask", "e"] ["ask"] (defScope s__law_refused) := ⟨rfl, rfl, rfl, by decide +kernel, rfl, by decide +kernel, by decide +kernel⟩
abbrev s_law : Stmt := top 39
theorem sc_law : FnScope ["script", "k", "one", "other", "due", "told", "back", "whole", "ask", "bad", "odd", "row", "turns"] ["script"] (defScope s_law) := ⟨rfl, rfl, rfl, by decide +kernel, rfl, by decide +kernel, by decide +kernel⟩
/-- what the top has written -/
structure Tx (P : Program) (w : World) (K : PySem.W.Frag) (mg : Str → Option Value) (base : Heap) (C1 C2 C3 fI aN : Addr) : Prop where
  d_is_integer : Def K mg "is_integer" s_is_integer
  d_is_within : Def K mg "is_within" s_is_within
  d_is_row : Def K mg "is_row" s_is_row
  d_is_tuple_of : Def K mg "is_tuple_of" s_is_tuple_of
  d_is_turn : Def K mg "is_turn" s_is_turn
  d_as_turn : Def K mg "as_turn" s_as_turn
  d_told_between : Def K mg "told_between" s_told_between
  d_check_point : Def K mg "check_point" s_check_point
  d_turn_between : Def K mg "turn_between" s_turn_between
  d_check_turn : Def K mg "check_turn" s_check_turn
  d_told_sum : Def K mg "told_sum" s_told_sum
  d_add_turns : Def K mg "add_turns" s_add_turns
  d_told_back : Def K mg "told_back" s_told_back
  d_turn_back : Def K mg "turn_back" s_turn_back
  d_told_less : Def K mg "told_less" s_told_less
  d_is_less_turn : Def K mg "is_less_turn" s_is_less_turn
  d_told_whole : Def K mg "told_whole" s_told_whole
  d_sum_turns : Def K mg "sum_turns" s_sum_turns
  d__law_taken : Def K mg "_law_taken" s__law_taken
  d__law_pick : Def K mg "_law_pick" s__law_pick
  d__law_alike : Def K mg "_law_alike" s__law_alike
  d__law_gcd : Def K mg "_law_gcd" s__law_gcd
  d__law_turn : Def K mg "_law_turn" s__law_turn
  d__law_more : Def K mg "_law_more" s__law_more
  d__law_less : Def K mg "_law_less" s__law_less
  d__law_point : Def K mg "_law_point" s__law_point
  d__law_refused : Def K mg "_law_refused" s__law_refused
  b_isinstance : mg "isinstance" = none
  b_len : mg "len" = none
  b_all : mg "all" = none
  b_enumerate : mg "enumerate" = none
  b_range : mg "range" = none
  b_int : mg "int" = none
  b_bool : mg "bool" = none
  b_str : mg "str" = none
  b_list : mg "list" = none
  b_tuple : mg "tuple" = none
  b_dict : mg "dict" = none
  b_repr : mg "repr" = none
  b_gcd : mg "gcd" = some (.builtin "math.gcd")
  k_MOST_PLACE : ∃ t, mg "MOST_PLACE" = some (.int 1000 t)
  k_MOST_TURNS : ∃ t, mg "MOST_TURNS" = some (.int 100 t)
  k_NONE : mg "NONE" = some (.ref aN)
  n_NONE : SqT K (fun _ => none) aN [.int 0, .int 1, .int 0]
  e_BadPoint : ErrC K mg "BadPoint" C1 fI
  e_BadTurn : ErrC K mg "BadTurn" C2 fI
  e_BadTurns : ErrC K mg "BadTurns" C3 fI
  ini : IniF P w K mg base fI
  told1 : Told K C1 "point" [(C1, "point"), (C2, "turn"), (C3, "turns")]
  told2 : Told K C2 "turn" [(C1, "point"), (C2, "turn"), (C3, "turns")]
  told3 : Told K C3 "turns" [(C1, "point"), (C2, "turn"), (C3, "turns")]
section
variable {P : Program} {w : World} {K : PySem.W.Frag} {mg : Str → Option Value} {base : Heap} {C1 C2 C3 fI aN : Addr} (T : Tx P w K mg base C1 C2 C3 fI aN)
include T
/-! ### basics -/
def isInt : D → Bool
  | .int _ => true
  | _ => false
theorem c_is_integer : Cal P w K mg base 1 "is_integer" ["thing"] (spI K fx0 (fun d : D => [.dat d]) (fun _ => True) (fun d => Eq (.ok (.dat (.bool (isInt d)))))) := by
  refine mk_cal T.d_is_integer sc_is_integer (fun _ => rfl) (fun _ _ _ _ _ _ us hl => match us, hl with | [_], _ => rfl) (fun f cdv A outer s H E hr d _ => ⟨_, (pss_one (ps_ret (pe_and (pe_callB call_isi (by rfl) T.b_isinstance (by decide +kernel) (pa_cons (pv 0) (pa_cons (pe_bltn (v := .ty "int") (u := .type "int") (by rfl) T.b_int (by decide +kernel) rfl) pa_nil))) (pe_one (pe_not (pe_callB call_isi (by rfl) T.b_isinstance (by decide +kernel) (pa_cons (pv 0) (pa_cons (pe_bltn (v := .ty "bool") (u := .type "bool") (by rfl) T.b_bool (by decide +kernel) rfl) pa_nil)))))))), fun G => ?_⟩)
  cases d <;> exact xc_ret (ev_andV (ev_isInt (ev_var rfl)) fun _ => ev_notV (ev_isBool (ev_var rfl))) rfl
def isWithin (lo hi : Int) : D → Bool
  | .int i => decide (lo ≤ i) && decide (i ≤ hi)
  | _ => false
theorem c_is_within : Cal P w K mg base 2 "is_within" ["thing", "least", "most"] (spI K fx0 (fun i : D × Int × Int => [.dat i.1, .dat (.int i.2.1), .dat (.int i.2.2)]) (fun _ => True) (fun i => Eq (.ok (.dat (.bool (isWithin i.2.1 i.2.2 i.1)))))) := by
  have c_is_integer := c_is_integer T
  refine mk_cal T.d_is_within sc_is_within (fun _ => rfl) (fun _ _ _ _ _ _ us hl => match us, hl with | [_, _, _], _ => rfl) (fun f cdv A outer s H E hr i _ => ⟨_, (pss_one (ps_ret (pe_and (pe_cal c_is_integer (hr.mono (by decide)) rfl (pa_cons (pv 0) pa_nil)) (pe_one (pe_chain op_le op_le (pv 1) (pv 0) (pv 2)))))), fun G => ?_⟩)
  obtain ⟨d, lo, hi⟩ := i
  cases d with
  | int n => exact xc_retB (ev_andV (ev_callE (PyData.int n) (ea_cons (ev_var rfl) ea_nil) True.intro) fun _ => ev_chain (ev_var rfl) (ev_var rfl) fun _ => ev_var rfl) rfl
  | none => exact xc_retB (ev_andV (b := false) (ev_callE PyData.none (ea_cons (ev_var rfl) ea_nil) True.intro) fun z => by cases z) rfl
  | bool b => exact xc_retB (ev_andV (b := false) (ev_callE (PyData.bool b) (ea_cons (ev_var rfl) ea_nil) True.intro) fun z => by cases z) rfl
  | str b => exact xc_retB (ev_andV (b := false) (ev_callE (PyData.str b) (ea_cons (ev_var rfl) ea_nil) True.intro) fun z => by cases z) rfl
  | list b => exact xc_retB (ev_andV (b := false) (ev_callE (PyData.list b) (ea_cons (ev_var rfl) ea_nil) True.intro) fun z => by cases z) rfl
  | tuple b => exact xc_retB (ev_andV (b := false) (ev_callE (PyData.tuple b) (ea_cons (ev_var rfl) ea_nil) True.intro) fun z => by cases z) rfl
  | dict b => exact xc_retB (ev_andV (b := false) (ev_callE (PyData.dict b) (ea_cons (ev_var rfl) ea_nil) True.intro) fun z => by cases z) rfl
theorem c_is_row : Cal P w K mg base 1 "is_row" ["thing"] (spI K fx0 (fun d : D => [.dat d]) (fun _ => True) (fun d => Eq (.ok (.dat (.bool (dList d || dTuple d)))))) := by
  refine mk_cal T.d_is_row sc_is_row (fun _ => rfl) (fun _ _ _ _ _ _ us hl => match us, hl with | [_], _ => rfl) (fun f cdv A outer s H E hr d _ => ⟨_, (pss_one (ps_ret (pe_callB call_isiT (by rfl) T.b_isinstance (by decide +kernel) (pa_cons (pv 0) (pa_cons (pe_tup (pa_cons (pe_bltn (v := .ty "list") (u := .type "list") (by rfl) T.b_list (by decide +kernel) rfl) (pa_cons (pe_bltn (v := .ty "tuple") (u := .type "tuple") (by rfl) T.b_tuple (by decide +kernel) rfl) pa_nil))) pa_nil))))), fun G => ?_⟩)
  exact xc_retB (ev_isLT (ev_var rfl)) rfl
def isTupOf (n : Int) : D → Bool
  | .tuple ds => decide ((ds.length : Int) = n)
  | _ => false
theorem c_is_tuple_of : Cal P w K mg base 1 "is_tuple_of" ["thing", "many"] (spI K fx0 (fun i : D × Int => [.dat i.1, .dat (.int i.2)]) (fun _ => True) (fun i => Eq (.ok (.dat (.bool (isTupOf i.2 i.1)))))) := by
  refine mk_cal T.d_is_tuple_of sc_is_tuple_of (fun _ => rfl) (fun _ _ _ _ _ _ us hl => match us, hl with | [_, _], _ => rfl) (fun f cdv A outer s H E hr i _ => ⟨_, (pss_one (ps_ret (pe_and (pe_callB call_isi (by rfl) T.b_isinstance (by decide +kernel) (pa_cons (pv 0) (pa_cons (pe_bltn (v := .ty "tuple") (u := .type "tuple") (by rfl) T.b_tuple (by decide +kernel) rfl) pa_nil))) (pe_one (pe_cmpR (op_eqD (u64 hr)) (pe_callB call_len_seq (by rfl) T.b_len (by decide +kernel) (pa_cons (pv 0) pa_nil)) (pv 1) (nomark _)))))), fun G => ?_⟩)
  obtain ⟨d, n⟩ := i
  cases d with
  | tuple ds => exact xc_retB (ev_andV (ev_isTuple (d := PyData.tuple ds) (ev_var rfl)) fun _ => ev_eqI (ev_lenU (ds := ds) (eu_of (ev_var rfl))) (ev_var (d := PyData.int n) rfl)) rfl
  | none => exact xc_retB (ev_andV (b := false) (ev_isTuple (d := PyData.none) (ev_var rfl)) fun z => by cases z) rfl
  | bool b => exact xc_retB (ev_andV (b := false) (ev_isTuple (d := PyData.bool b) (ev_var rfl)) fun z => by cases z) rfl
  | int b => exact xc_retB (ev_andV (b := false) (ev_isTuple (d := PyData.int b) (ev_var rfl)) fun z => by cases z) rfl
  | str b => exact xc_retB (ev_andV (b := false) (ev_isTuple (d := PyData.str b) (ev_var rfl)) fun z => by cases z) rfl
  | list b => exact xc_retB (ev_andV (b := false) (ev_isTuple (d := PyData.list b) (ev_var rfl)) fun z => by cases z) rfl
  | dict b => exact xc_retB (ev_andV (b := false) (ev_isTuple (d := PyData.dict b) (ev_var rfl)) fun z => by cases z) rfl
def isTurn : D → Bool
  | .tuple [.int _, .int x, .int y] => decide (0 < x) && (decide (0 ≤ y) && decide (((Nat.gcd x.natAbs y.natAbs : Nat) : Int) = 1))
  | _ => false
omit T in
theorem isTupOf3 {d : D} (h : isTupOf 3 d = true) : ∃ a b c, d = .tuple [a, b, c] := by
  cases d with
  | tuple ds =>
    have h' : (ds.length : Int) = 3 := of_decide_eq_true h
    match ds, h' with
    | [a, b, c], _ => exact ⟨a, b, c, rfl⟩
    | [], h' => simp at h'
    | [_], h' => simp at h'
    | [_, _], h' => simp at h'
    | _ :: _ :: _ :: _ :: _, h' => simp at h'; omega
  | _ => cases h
omit T in
theorem isTurn_of {d : D} (h : isTupOf 3 d = false) : isTurn d = false := by
  unfold isTurn
  split
  · simp [isTupOf] at h
  · rfl
omit T in
theorem isTurn_no {a b c : D} (h : [a, b, c].all isInt = false) : isTurn (.tuple [a, b, c]) = false := by
  unfold isTurn
  split
  · rename_i e
    cases e
    simp [isInt] at h
  · rfl
omit T in
theorem allInt {a b c : D} (h : [a, b, c].all isInt = true) : ∃ q x y, a = .int q ∧ b = .int x ∧ c = .int y := by
  cases a <;> cases b <;> cases c <;> simp [isInt] at h
  exact ⟨_, _, _, rfl, rfl, rfl⟩
theorem c_is_turn : Cal P w K mg base 2 "is_turn" ["thing"] (spI K fx0 (fun d : D => [.dat d]) (fun _ => True) (fun d => Eq (.ok (.dat (.bool (isTurn d)))))) := by
  have c_is_integer := c_is_integer T
  have c_is_tuple_of := c_is_tuple_of T
  refine mk_cal T.d_is_turn sc_is_turn (fun _ => rfl) (fun _ _ _ _ _ _ us hl => match us, hl with | [_], _ => rfl) (fun f cdv A outer s H E hr d _ => ⟨_, (pss_cons (ps_if (PW.pt (pw_or (pt_not (pt_val (pe_cal c_is_tuple_of (hr.mono (by decide)) rfl (pa_cons (pv 0) (pa_cons pe_int pa_nil))))) (pw_or1 (pt_not (pt_val (pe_callB (cr_all rfl) (by rfl) T.b_all (by decide +kernel) (pa_cons (pe_lc (own := [("one", 1)]) (by rfl) sc_is_turn.nd (pi_tup (pv 0)) (blkOk_by (N := ["thing", "one"]) (sc := defScope s_is_turn) (own := [("one", 1)]) (by decide +kernel)) (fun _ _ _ _ _ => (pg_name (i := 1) sc_is_turn.nd rfl (Or.inl rfl))) (fun _ _ _ _ _ => pts_nil) (fun _ _ _ _ _ => (pe_cal c_is_integer (hr.mono (by decide)) rfl (pa_cons (pv 1) pa_nil)))) pa_nil))))))) (pss_one (ps_ret pe_bl)) pss_nil)
      (pss_one (ps_ret (pe_and (pe_cmpR op_gt (pe_ix (r := rIxT K) ix_tup (pv 0) pe_int (fun _ _ => rfl)) pe_int (nomark _)) (pe_and (pe_cmpR op_ge (pe_ix (r := rIxT K) ix_tup (pv 0) pe_int (fun _ _ => rfl)) pe_int (nomark _)) (pe_one (pe_cmpR (op_eqD (u64 hr)) (pe_callBfun cr_gcd rfl T.b_gcd (pa_cons (pe_ix (r := rIxT K) ix_tup (pv 0) pe_int (fun _ _ => rfl)) (pa_cons (pe_ix (r := rIxT K) ix_tup (pv 0) pe_int (fun _ _ => rfl)) pa_nil))) pe_int (nomark _)))))))), fun G => ?_⟩)
  have h1 := fun (S : Cf) (hS : S.K = K) => (show Ev S (tCall (spI S.K fx0 (fun i : D × Int => [.dat i.1, .dat (.int i.2)]) (fun _ => True) (fun i => Eq (.ok (.dat (.bool (isTupOf i.2 i.1)))))) [] E0 (tCons (tVar 0) (tCons (tC (.int 3)) tNil))) [.dat d, .no] (Eq (.dat (.bool (isTupOf 3 d)))) from ev_callE (d, (3 : Int)) (ea_cons (ev_var rfl) (ea_cons ev_int ea_nil)) True.intro)
  have h1 := h1 ⟨K, fx0, G, H, E⟩ rfl
  cases hd : isTupOf 3 d with
  | false =>
    rw [hd] at h1
    exact xs_when (et_orT (et_not (et_B h1))) (fun _ => xc_ret ev_bl (congrArg (fun b => Re.ok (.dat (.bool b))) (isTurn_of hd))) fun z => by cases z
  | true =>
    rw [hd] at h1
    obtain ⟨a, b, c, rfl⟩ := isTupOf3 hd
    refine xs_when (et_or (et_not (et_B h1)) fun _ => et_not (et_B (ev_allMap (p := isInt) (im_tupE (ev_var rfl)) (by simp) fun d _ => ⟨[1], _, by simp, tg_name, ev_callE d (ea_cons (ev_var rfl) ea_nil) True.intro⟩))) (fun z => ?_) fun z => ?_
    · have hn : [a, b, c].all isInt = false := by
        revert z
        cases [a, b, c].all isInt <;> simp
      exact xc_ret ev_bl (congrArg (fun b => Re.ok (.dat (.bool b))) (isTurn_no hn))
    · have hn : [a, b, c].all isInt = true := by
        revert z
        cases [a, b, c].all isInt <;> simp
      obtain ⟨q, x, y, rfl, rfl, rfl⟩ := allInt hn
      exact xc_retB (ev_andV (ev_C0 (ev_ixT (eu_of (ev_var rfl)) ev_int rfl) ev_int) fun _ => ev_andV (ev_C0 (ev_ixT (eu_of (ev_var rfl)) ev_int rfl) ev_int) fun _ => ev_eqI (ev_cb (ea_cons (ev_ixT (eu_of (ev_var rfl)) ev_int rfl) (ea_cons (ev_ixT (eu_of (ev_var rfl)) ev_int rfl) ea_nil)) cb_gcd) ev_int) rfl
end
end K10

set_option Elab.async false
set_option linter.all false
set_option maxRecDepth 100000
set_option maxHeartbeats 4000000
namespace K10
open PySem PySem.Spec PyProof.Rows L2 Dl
section
variable {P : Program} {w : World} {K : PySem.W.Frag} {mg : Str → Option Value} {base : Heap} {C1 C2 C3 fI aN : Addr} (T : Tx P w K mg base C1 C2 C3 fI aN)
/-! ### turns and points as data -/
def dT (s : T3) : D := .tuple [.int s.1, .int s.2.1, .int s.2.2]
def dP (p : Int × Int) : D := .tuple [.int p.1, .int p.2]
theorem ev_ixU {S : Cf} {ρ : Rho} {te tb : TE} {ds : List D} {i : Int} {d : D} (h : Ev S te ρ (Eq (.dat (.tuple ds)))) (hb : Ev S tb ρ (Eq (.dat (.int i)))) (hd : atI ds i = some d) : Ev S (tOp (rIxT S.K) te tb) ρ (Eq (.dat d)) := ev_ixT (eu_of h) hb hd
theorem mulW {n m : Nat} {a b : Int} (ha : a.natAbs < 2 ^ n) (hb : b.natAbs < 2 ^ m) (hn : n ≤ 4000) (hm : m ≤ 4000) : CMulW a b := by
  have h1 : a.natAbs < 2 ^ (n + 1) := Nat.lt_of_lt_of_le ha (Nat.pow_le_pow_right (by omega) (by omega))
  have h2 : b.natAbs < 2 ^ (m + 1) := Nat.lt_of_lt_of_le hb (Nat.pow_le_pow_right (by omega) (by omega))
  exact wide_mul h1 h2 (by omega) (by omega) (by omega)
theorem gg_lt {n : Nat} {x y : Int} (hx : 0 < x) (h : x.natAbs < 2 ^ n) : (gg x y).natAbs < 2 ^ n := by
  have h1 := gg_dvd_left x y
  have h2 := Int.le_of_dvd hx h1
  have h3 := gg_pos (y := y) hx
  omega
theorem divW {n : Nat} {a x y : Int} (hx : 0 < x) (h : x.natAbs < 2 ^ n) (hn : n ≤ 4000) : CDivW a (gg x y) := by
  have h1 : (gg x y).natAbs < 2 ^ (n + 1) := Nat.lt_of_lt_of_le (gg_lt hx h) (Nat.pow_le_pow_right (by omega) (by omega))
  exact wide_div (gg_pos hx) h1 (by omega) (by omega)
include T
theorem c_as_turn : Cal P w K mg base 1 "as_turn" ["quarters", "x", "y"] (spI K fx0 (fun s : T3 => [.dat (.int s.1), .dat (.int s.2.1), .dat (.int s.2.2)]) (fun s => NZ s ∧ ∃ n, n ≤ 4000 ∧ Sz n s) (fun s => Eq (.ok (.dat (dT (nrm s)))))) := by
  refine mk_cal T.d_as_turn sc_as_turn (fun _ => rfl) (fun _ _ _ _ _ _ us hl => match us, hl with | [_, _, _], _ => rfl) (fun f cdv A outer s H E hr i hp => ⟨_, (pss_cons (ps_while (passes_of rfl) (PW.pt (pw_or (pt_cmpR op_le (pv 1) pe_int (nomark _)) (pw_or1 (pt_cmpR op_lt (pv 2) pe_int (nomark _))))) (pss_cons (ps_par (i := 1) (j := 2) (by rfl) sc_as_turn.nd rfl rfl (by decide) rfl rfl (pa_cons (pv 2) (pa_cons (pe_un un_neg (pv 1)) pa_nil)) (by rfl))
      (pss_one (ps_aug (i := 0) sc_as_turn.nd rfl (.inl rfl) pe_int ip_add))))
      (pss_cons (ps_set (i := 3) sc_as_turn.nd rfl (Or.inl rfl) (pe_callBfun cr_gcd rfl T.b_gcd (pa_cons (pv 1) (pa_cons (pv 2) pa_nil))))
      (pss_one (ps_ret (pe_tup (pa_cons (pv 0) (pa_cons (pe_op op_fdivW (pv 1) (pv 3)) (pa_cons (pe_op op_fdivW (pv 2) (pv 3)) pa_nil)))))))), fun G => ?_⟩)
  obtain ⟨nz, n, hn, sz⟩ := hp
  refine xs_while (fun m ρ => ∃ s : T3, ρ = [.dat (.int s.1), .dat (.int s.2.1), .dat (.int s.2.2), .no] ∧ m = cnt s.2.1 s.2.2 ∧ NZ s ∧ rot s = rot i ∧ Sz n s) _ ⟨i, rfl, rfl, nz, rfl, sz⟩ ?_
  rintro m ρ ⟨⟨q, x, y⟩, rfl, rfl, nz, hr, sz⟩
  refine (et_or (et_B (ev_C0 (i := x) (j := 0) (ev_var rfl) ev_int)) fun _ => et_B (ev_C0 (i := y) (j := 0) (ev_var rfl) ev_int)).imp fun b e => ?_
  cases b with
  | true =>
    rw [if_pos rfl]
    have ho : x ≤ 0 ∨ y < 0 := by simpa using e
    have es : step (q, x, y) = (q + 1, y, -x) := if_pos ho
    have hz := step_nz nz
    have hs := step_sz sz
    have hrt := rot_step nz
    rw [es] at hz hs hrt
    exact xs_par (ea_cons (ev_var rfl) (ea_cons (ev_neg (ev_var rfl)) ea_nil)) (xc_aug rfl ev_int ⟨_, cnt_fall ho nz, (q + 1, y, -x), rfl, rfl, hz, hrt.trans hr, hs⟩)
  | false =>
    rw [if_neg (by decide)]
    have ho : 0 < x ∧ 0 ≤ y := by simpa using e
    have hd : dT (nrm i) = .tuple [.int q, .int (x / gg x y), .int (y / gg x y)] := by
      unfold nrm
      rw [← hr, rot_in (s := (q, x, y)) ho]
      rfl
    refine xs_asg (ev_cb (ea_cons (ev_var rfl) (ea_cons (ev_var rfl) ea_nil)) cb_gcd) ?_
    exact xc_retD (ev_tup3 (ev_var rfl) (ev_IC (i := x) (j := gg x y) (ev_var rfl) (ev_var rfl) (divW ho.1 sz.1 hn)) (ev_IC (i := y) (j := gg x y) (ev_var rfl) (ev_var rfl) (divW ho.1 sz.1 hn))) hd.symm
omit T in
theorem bt_nz {a b : Int × Int} (ha : a ≠ (0, 0)) (hb : b ≠ (0, 0)) : a.1 * b.1 + a.2 * b.2 ≠ 0 ∨ a.1 * b.2 - a.2 * b.1 ≠ 0 := by
  obtain ⟨x, y⟩ := a
  obtain ⟨u, v⟩ := b
  show x * u + y * v ≠ 0 ∨ x * v - y * u ≠ 0
  by_cases h1 : x * u + y * v = 0
  · right
    intro h2
    have sq : ∀ {z : Int}, 0 ≤ z * z := fun {z} => by
      rcases Int.le_total 0 z with h | h
      · exact Int.mul_nonneg h h
      · have := Int.mul_nonneg (show 0 ≤ -z by omega) (show 0 ≤ -z by omega)
        rw [Int.neg_mul_neg] at this
        exact this
    have pos : 0 < u * u + v * v := by
      have hu := sq (z := u)
      have hv := sq (z := v)
      by_cases z1 : u = 0
      · by_cases z2 : v = 0
        · exact absurd (by rw [z1, z2]) hb
        · have : v * v ≠ 0 := fun z => (Int.mul_eq_zero.mp z).elim z2 z2
          omega
      · have : u * u ≠ 0 := fun z => (Int.mul_eq_zero.mp z).elim z1 z1
        omega
    have e1 : x * (u * u + v * v) = (x * u + y * v) * u + (x * v - y * u) * v := by
      rw [Int.mul_add, Int.add_mul, Int.sub_mul, ← Int.mul_assoc, ← Int.mul_assoc, Int.mul_right_comm y v u]
      omega
    have e2 : y * (u * u + v * v) = (x * u + y * v) * v - (x * v - y * u) * u := by
      rw [Int.mul_add, Int.add_mul, Int.sub_mul, ← Int.mul_assoc, ← Int.mul_assoc, Int.mul_right_comm x v u]
      omega
    rw [h1, h2] at e1 e2
    have f1 : x * (u * u + v * v) = 0 := by omega
    have f2 : y * (u * u + v * v) = 0 := by omega
    have g1 : x = 0 := (Int.mul_eq_zero.mp f1).elim id (fun z => absurd z (by omega))
    have g2 : y = 0 := (Int.mul_eq_zero.mp f2).elim id (fun z => absurd z (by omega))
    exact ha (by rw [g1, g2])
  · exact .inl h1
/-- the point from one to the other -/
def bt (a b : Int × Int) : T3 := (0, a.1 * b.1 + a.2 * b.2, a.1 * b.2 - a.2 * b.1)
def Pt (p : Int × Int) : Prop := p ≠ (0, 0) ∧ p.1.natAbs < 2 ^ 10 ∧ p.2.natAbs < 2 ^ 10
omit T in
theorem bt_sz {a b : Int × Int} (ha : Pt a) (hb : Pt b) : Sz 21 (bt a b) := by
  have h1 := two_sz (a := a.1) (b := a.2) (c := b.1) (d := -b.2) ha.2.1 ha.2.2 hb.2.1 (by rw [Int.natAbs_neg]; exact hb.2.2)
  have h2 := two_sz (a := a.1) (b := a.2) (c := b.2) (d := b.1) ha.2.1 ha.2.2 hb.2.2 hb.2.1
  refine ⟨?_, h2.1⟩
  have e := h1.1
  rw [Int.mul_neg, Int.sub_neg] at e
  exact e
theorem c_told_between : Cal P w K mg base 2 "told_between" ["one", "other"] (spI K fx0 (fun i : (Int × Int) × (Int × Int) => [.dat (dP i.1), .dat (dP i.2)]) (fun i => Pt i.1 ∧ Pt i.2) (fun i => Eq (.ok (.dat (dT (nrm (bt i.1 i.2))))))) := by
  have c_as_turn := c_as_turn T
  refine mk_cal T.d_told_between sc_told_between (fun _ => rfl) (fun _ _ _ _ _ _ us hl => match us, hl with | [_, _], _ => rfl) (fun f cdv A outer s H E hr i hp => ⟨_, (pss_one (ps_ret (pe_cal c_as_turn (hr.mono (by decide)) rfl (pa_cons pe_int (pa_cons (pe_op op_add (pe_op op_mulW (pe_ix (r := rIxT K) ix_tup (pv 0) pe_int (fun _ _ => rfl)) (pe_ix (r := rIxT K) ix_tup (pv 1) pe_int (fun _ _ => rfl))) (pe_op op_mulW (pe_ix (r := rIxT K) ix_tup (pv 0) pe_int (fun _ _ => rfl)) (pe_ix (r := rIxT K) ix_tup (pv 1) pe_int (fun _ _ => rfl)))) (pa_cons (pe_op op_sub (pe_op op_mulW (pe_ix (r := rIxT K) ix_tup (pv 0) pe_int (fun _ _ => rfl)) (pe_ix (r := rIxT K) ix_tup (pv 1) pe_int (fun _ _ => rfl))) (pe_op op_mulW (pe_ix (r := rIxT K) ix_tup (pv 0) pe_int (fun _ _ => rfl)) (pe_ix (r := rIxT K) ix_tup (pv 1) pe_int (fun _ _ => rfl)))) pa_nil)))))), fun G => ?_⟩)
  obtain ⟨⟨a, b⟩, ⟨c, d⟩⟩ := i
  obtain ⟨ha, hb⟩ := hp
  have m1 : CMulW a c := mulW ha.2.1 hb.2.1 (by omega) (by omega)
  have m2 : CMulW b d := mulW ha.2.2 hb.2.2 (by omega) (by omega)
  have m3 : CMulW a d := mulW ha.2.1 hb.2.2 (by omega) (by omega)
  have m4 : CMulW b c := mulW ha.2.2 hb.2.1 (by omega) (by omega)
  refine xc_ret (ev_callE (bt (a, b) (c, d)) (ea_cons ev_int (ea_cons (ev_I0 (i := a * c) (j := b * d) (ev_IC (ev_ixU (ev_var rfl) ev_int rfl) (ev_ixU (ev_var rfl) ev_int rfl) m1) (ev_IC (ev_ixU (ev_var rfl) ev_int rfl) (ev_ixU (ev_var rfl) ev_int rfl) m2)) (ea_cons (ev_I0 (i := a * d) (j := b * c) (ev_IC (ev_ixU (ev_var rfl) ev_int rfl) (ev_ixU (ev_var rfl) ev_int rfl) m3) (ev_IC (ev_ixU (ev_var rfl) ev_int rfl) (ev_ixU (ev_var rfl) ev_int rfl) m4)) ea_nil))) ⟨bt_nz ha.1 hb.1, 21, by omega, bt_sz ha hb⟩) rfl
/-- a point that may be asked of -/
def okP (d : D) : Bool := isTupOf 2 d && (match d with
  | .tuple ds => ds.all (isWithin (-1000) 1000) && !PyData.eqv d (.tuple [.int 0, .int 0])
  | _ => false)
theorem c_check_point : Cal P w K mg base 3 "check_point" ["point"] (spI K fx0 (fun d : D => [.dat d]) (fun _ => True) (fun d => Eq (if okP d then .ok (.dat .none) else .ex C1 d))) := by
  have c_is_within := c_is_within T
  have c_is_tuple_of := c_is_tuple_of T
  refine mk_cal T.d_check_point sc_check_point (fun _ => rfl) (fun _ _ _ _ _ _ us hl => match us, hl with | [_], _ => rfl) (fun f cdv A outer s H E hr d hp => ⟨_, (pss_cons (ps_if (PW.pt (pw_or (pt_not (pt_val (pe_cal c_is_tuple_of (hr.mono (by decide)) rfl (pa_cons (pv 0) (pa_cons pe_int pa_nil))))) (pw_or1 (pt_not (pt_val (pe_callB (cr_all rfl) (by rfl) T.b_all (by decide +kernel) (pa_cons (pe_lc (own := [("one", 1)]) (by rfl) sc_check_point.nd (pi_tup (pv 0)) (blkOk_by (N := ["point", "one"]) (sc := defScope s_check_point) (own := [("one", 1)]) (by decide +kernel)) (fun _ _ _ _ _ => (pg_name (i := 1) sc_check_point.nd rfl (Or.inl rfl))) (fun _ _ _ _ _ => pts_nil) (fun _ _ _ _ _ => (pe_cal c_is_within (hr.mono (by decide)) rfl (pa_cons (pv 1) (pa_cons (pe_un un_neg (pe_gint rfl T.k_MOST_PLACE)) (pa_cons (pe_gint rfl T.k_MOST_PLACE) pa_nil)))))) pa_nil))))))) (pss_one (ps_err (k := 0) T.e_BadPoint T.ini rfl (hr.mono (by decide)) rfl (takes_of rfl rfl rfl rfl) (pv 0))) pss_nil)
      (pss_one (ps_if (pt_cmpR (op_eqD (u64 hr)) (pv 0) (pe_tup (pa_cons pe_int (pa_cons pe_int pa_nil))) (nomark _)) (pss_one (ps_err (k := 0) T.e_BadPoint T.ini rfl (hr.mono (by decide)) rfl (takes_of rfl rfl rfl rfl) (pv 0))) pss_nil))), fun G => ?_⟩)
  have h1 := (show Ev ⟨K, fx0, G, H, E⟩ (tCall (spI K fx0 (fun i : D × Int => [.dat i.1, .dat (.int i.2)]) (fun _ => True) (fun i => Eq (.ok (.dat (.bool (isTupOf i.2 i.1)))))) [] E0 (tCons (tVar 0) (tCons (tC (.int 2)) tNil))) ([.dat d] ++ List.replicate (2 - 1) .no) (Eq (.dat (.bool (isTupOf 2 d)))) from ev_callE (d, (2 : Int)) (ea_cons (ev_var rfl) (ea_cons ev_int ea_nil)) True.intro)
  cases hd : isTupOf 2 d with
  | false =>
    rw [hd] at h1
    have ho : okP d = false := by
      unfold okP
      rw [hd]
      rfl
    exact xs_when (et_orT (et_not (et_B h1))) (fun _ => xc_raise T.e_BadPoint.oex T.e_BadPoint.nv (ev_var rfl) (by rw [ho]; rfl)) fun z => by cases z
  | true =>
    rw [hd] at h1
    obtain ⟨a, b, rfl⟩ : ∃ a b, d = .tuple [a, b] := by
      cases d with
      | tuple ds =>
        have h' : (ds.length : Int) = 2 := of_decide_eq_true hd
        match ds, h' with
        | [a, b], _ => exact ⟨a, b, rfl⟩
        | [], h' => simp at h'
        | [_], h' => simp at h'
        | _ :: _ :: _ :: _, h' => simp at h'; omega
      | _ => cases hd
    refine xs_when (et_or (et_not (et_B h1)) fun _ => et_not (et_B (ev_allMap (p := isWithin (-1000) 1000) (im_tupE (ev_var rfl)) (by simp) fun d _ => ⟨[1], _, by simp, tg_name, ev_callE (d, -1000, 1000) (ea_cons (ev_var rfl) (ea_cons (ev_neg ev_int) (ea_cons ev_int ea_nil))) True.intro⟩))) (fun z => ?_) fun z => ?_
    · have hn : [a, b].all (isWithin (-1000) 1000) = false := by
        revert z
        cases [a, b].all (isWithin (-1000) 1000) <;> simp
      have ho : okP (.tuple [a, b]) = false := by
        unfold okP
        rw [hd]
        show ([a, b].all _ && _) = false
        rw [hn]
        rfl
      exact xc_raise T.e_BadPoint.oex T.e_BadPoint.nv (ev_var rfl) (by rw [ho]; rfl)
    · have hn : [a, b].all (isWithin (-1000) 1000) = true := by
        revert z
        cases [a, b].all (isWithin (-1000) 1000) <;> simp
      have ho : okP (.tuple [a, b]) = !PyData.eqv (.tuple [a, b]) (.tuple [.int 0, .int 0]) := by
        unfold okP
        rw [hd]
        show ([a, b].all _ && _) = _
        rw [hn]
        rfl
      obtain ⟨x, y, rfl, rfl⟩ : ∃ x y, a = .int x ∧ b = .int y := by
        cases a <;> cases b <;> simp [isWithin] at hn
        exact ⟨_, _, rfl, rfl⟩
      refine xc_if (et_B (ev_eqD (ev_var rfl) (ev_tup2 ev_int ev_int) rfl rfl)) (fun z => ?_) fun z => ?_
      · exact xc_raise T.e_BadPoint.oex T.e_BadPoint.nv (ev_var rfl) (by rw [ho, z]; rfl)
      · exact xc_next (by rw [ho, z]; rfl)
end
end K10

set_option Elab.async false
set_option linter.all false
set_option maxRecDepth 100000
set_option maxHeartbeats 4000000
namespace K10
open PySem PySem.Spec PyProof.Rows L2 Dl
section
variable {P : Program} {w : World} {K : PySem.W.Frag} {mg : Str → Option Value} {base : Heap} {C1 C2 C3 fI aN : Addr} (T : Tx P w K mg base C1 C2 C3 fI aN)
/-! ### the told functions -/
def pt : D → Int × Int
  | .tuple [.int x, .int y] => (x, y)
  | _ => (1, 0)
def tr : D → T3
  | .tuple [.int q, .int x, .int y] => (q, x, y)
  | _ => (0, 1, 0)
theorem okP_pt {d : D} (h : okP d = true) : d = dP (pt d) ∧ Pt (pt d) := by
  unfold okP at h
  simp only [Bool.and_eq_true] at h
  obtain ⟨h1, h2⟩ := h
  cases d with
  | tuple ds =>
    have h' : (ds.length : Int) = 2 := of_decide_eq_true h1
    match ds, h', h2 with
    | [a, b], _, h2 =>
      simp only [Bool.and_eq_true] at h2
      obtain ⟨h2, h3⟩ := h2
      obtain ⟨x, y, rfl, rfl⟩ : ∃ x y, a = .int x ∧ b = .int y := by
        cases a <;> cases b <;> simp [isWithin] at h2
        exact ⟨_, _, rfl, rfl⟩
      simp [isWithin] at h2
      refine ⟨rfl, fun z => ?_, ?_, ?_⟩
      · have e1 : x = 0 := congrArg Prod.fst z
        have e2 : y = 0 := congrArg Prod.snd z
        subst e1 e2
        exact absurd h3 (by decide)
      · show x.natAbs < 2 ^ 10
        omega
      · show y.natAbs < 2 ^ 10
        omega
    | [], h', _ => simp at h'
    | [_], h', _ => simp at h'
    | _ :: _ :: _ :: _, h', _ => simp at h'; omega
  | _ => cases h1
theorem isTurn_tr {d : D} (h : isTurn d = true) : d = dT (tr d) ∧ Trn (tr d) := by
  unfold isTurn at h
  split at h
  · simp only [Bool.and_eq_true, decide_eq_true_eq] at h
    exact ⟨rfl, h.1, h.2.1, h.2.2⟩
  · cases h
theorem isTurn_dT {t : T3} (h : Trn t) : isTurn (dT t) = true := by
  unfold dT isTurn
  simp only [Bool.and_eq_true, decide_eq_true_eq]
  exact ⟨h.1, h.2.1, h.2.2⟩
theorem tr_dT (t : T3) : tr (dT t) = t := rfl
include T
theorem c_turn_between : Cal P w K mg base 4 "turn_between" ["one", "other"] (spI K fx0 (fun i : D × D => [.dat i.1, .dat i.2]) (fun _ => True) (fun i => Eq (if okP i.1 then if okP i.2 then .ok (.dat (dT (nrm (bt (pt i.1) (pt i.2))))) else .ex C1 i.2 else .ex C1 i.1))) := by
  have c_check_point := c_check_point T
  have c_told_between := c_told_between T
  refine mk_cal T.d_turn_between sc_turn_between (fun _ => rfl) (fun _ _ _ _ _ _ us hl => match us, hl with | [_, _], _ => rfl) (fun f cdv A outer s H E hr i hp => ⟨_, (pss_cons (ps_expr (pe_calX c_check_point (hr.mono (by decide)) rfl (pa_cons (pv 0) pa_nil) (takes_of rfl rfl rfl rfl)))
      (pss_cons (ps_expr (pe_calX c_check_point (hr.mono (by decide)) rfl (pa_cons (pv 1) pa_nil) (takes_of rfl rfl rfl rfl)))
      (pss_one (ps_ret (pe_cal c_told_between (hr.mono (by decide)) rfl (pa_cons (pv 0) (pa_cons (pv 1) pa_nil))))))), fun G => ?_⟩)
  obtain ⟨d1, d2⟩ := i
  refine xs_callX (S := ⟨K, fx0, G, H, E⟩) d1 (ea_cons (ev_var rfl) ea_nil) True.intro (fun s hs => ?_) fun C d hx => ?_
  · cases h1 : okP d1 with
    | false => simp [h1] at hs
    | true =>
      refine xs_callX (S := ⟨K, fx0, G, H, E⟩) d2 (ea_cons (ev_var rfl) ea_nil) True.intro (fun s hs => ?_) fun C d hx => ?_
      · cases h2 : okP d2 with
        | false => simp [h2] at hs
        | true =>
          obtain ⟨e1, p1⟩ := okP_pt h1
          obtain ⟨e2, p2⟩ := okP_pt h2
          refine xc_ret (ev_callE (S := ⟨K, fx0, G, H, E⟩) (pt d1, pt d2) (ea_cons (ev_var (congrArg (fun z => some (Sl.dat z)) e1)) (ea_cons (ev_var (congrArg (fun z => some (Sl.dat z)) e2)) ea_nil)) ⟨p1, p2⟩) ?_
          rfl
      · cases h2 : okP d2 with
        | false =>
          rw [h2] at hx
          exact hx
        | true => simp [h2] at hx
  · cases h1 : okP d1 with
    | false =>
      rw [h1] at hx
      exact hx
    | true => simp [h1] at hx
theorem c_check_turn : Cal P w K mg base 3 "check_turn" ["turn"] (spI K fx0 (fun d : D => [.dat d]) (fun _ => True) (fun d => Eq (if isTurn d then .ok (.dat .none) else .ex C2 d))) := by
  have c_is_turn := c_is_turn T
  refine mk_cal T.d_check_turn sc_check_turn (fun _ => rfl) (fun _ _ _ _ _ _ us hl => match us, hl with | [_], _ => rfl) (fun f cdv A outer s H E hr d hp => ⟨_, (pss_one (ps_if (pt_not (pt_val (pe_cal c_is_turn (hr.mono (by decide)) rfl (pa_cons (pv 0) pa_nil)))) (pss_one (ps_err (k := 0) T.e_BadTurn T.ini rfl (hr.mono (by decide)) rfl (takes_of rfl rfl rfl rfl) (pv 0))) pss_nil)), fun G => ?_⟩)
  refine xc_if (S := ⟨K, fx0, G, H, E⟩) (et_not (et_B (ev_callE d (ea_cons (ev_var rfl) ea_nil) True.intro))) (fun z => ?_) fun z => ?_
  · have e : isTurn d = false := by simpa using z
    exact xc_raise T.e_BadTurn.oex T.e_BadTurn.nv (ev_var rfl) (by show (if isTurn d = true then _ else _) = _; rw [e]; rfl)
  · have e : isTurn d = true := by simpa using z
    exact xc_next (by show (if isTurn d = true then _ else _) = _; rw [e]; rfl)
theorem c_told_sum : Cal P w K mg base 2 "told_sum" ["one", "other"] (spI K fx0 (fun i : T3 × T3 => [.dat (dT i.1), .dat (dT i.2)]) (fun i => In0 i.1 ∧ In0 i.2 ∧ ∃ n m, n + m < 4000 ∧ Sz n i.1 ∧ Sz m i.2) (fun i => Eq (.ok (.dat (dT (add i.1 i.2)))))) := by
  have c_as_turn := c_as_turn T
  refine mk_cal T.d_told_sum sc_told_sum (fun _ => rfl) (fun _ _ _ _ _ _ us hl => match us, hl with | [_, _], _ => rfl) (fun f cdv A outer s H E hr i hp => ⟨_, (pss_cons (ps_set (i := 2) sc_told_sum.nd rfl (Or.inl rfl) (pe_op op_sub (pe_op op_mulW (pe_ix (r := rIxT K) ix_tup (pv 0) pe_int (fun _ _ => rfl)) (pe_ix (r := rIxT K) ix_tup (pv 1) pe_int (fun _ _ => rfl))) (pe_op op_mulW (pe_ix (r := rIxT K) ix_tup (pv 0) pe_int (fun _ _ => rfl)) (pe_ix (r := rIxT K) ix_tup (pv 1) pe_int (fun _ _ => rfl)))))
      (pss_one (ps_ret (pe_cal c_as_turn (hr.mono (by decide)) rfl (pa_cons (pe_op op_add (pe_ix (r := rIxT K) ix_tup (pv 0) pe_int (fun _ _ => rfl)) (pe_ix (r := rIxT K) ix_tup (pv 1) pe_int (fun _ _ => rfl))) (pa_cons (pv 2) (pa_cons (pe_op op_add (pe_op op_mulW (pe_ix (r := rIxT K) ix_tup (pv 0) pe_int (fun _ _ => rfl)) (pe_ix (r := rIxT K) ix_tup (pv 1) pe_int (fun _ _ => rfl))) (pe_op op_mulW (pe_ix (r := rIxT K) ix_tup (pv 0) pe_int (fun _ _ => rfl)) (pe_ix (r := rIxT K) ix_tup (pv 1) pe_int (fun _ _ => rfl)))) pa_nil))))))), fun G => ?_⟩)
  obtain ⟨⟨q, x, y⟩, ⟨r, u, v⟩⟩ := i
  obtain ⟨ha, hb, n, m, hn, sa, sb⟩ := hp
  have m1 : CMulW x u := mulW sa.1 sb.1 (by omega) (by omega)
  have m2 : CMulW y v := mulW sa.2 sb.2 (by omega) (by omega)
  have m3 : CMulW x v := mulW sa.1 sb.2 (by omega) (by omega)
  have m4 : CMulW y u := mulW sa.2 sb.1 (by omega) (by omega)
  have ts := two_sz sa.1 sa.2 sb.1 sb.2
  refine xs_asg (S := ⟨K, fx0, G, H, E⟩) (ev_I0 (i := x * u) (j := y * v) (ev_IC (ev_ixU (ev_var rfl) ev_int rfl) (ev_ixU (ev_var rfl) ev_int rfl) m1) (ev_IC (ev_ixU (ev_var rfl) ev_int rfl) (ev_ixU (ev_var rfl) ev_int rfl) m2)) ?_
  exact xc_ret (ev_callE (q + r, x * u - y * v, x * v + y * u) (ea_cons (ev_I0 (i := q) (j := r) (ev_ixU (ev_var rfl) ev_int rfl) (ev_ixU (ev_var rfl) ev_int rfl)) (ea_cons (ev_var rfl)
    (ea_cons (ev_I0 (i := x * v) (j := y * u) (ev_IC (ev_ixU (ev_var rfl) ev_int rfl) (ev_ixU (ev_var rfl) ev_int rfl) m3) (ev_IC (ev_ixU (ev_var rfl) ev_int rfl) (ev_ixU (ev_var rfl) ev_int rfl) m4)) ea_nil))) ⟨c_nz ha hb, n + m + 1, by omega, ts⟩) rfl
theorem c_add_turns : Cal P w K mg base 4 "add_turns" ["one", "other"] (spI K fx0 (fun i : D × D => [.dat i.1, .dat i.2]) (fun i => Sz 200 (tr i.1) ∧ Sz 200 (tr i.2)) (fun i => Eq (if isTurn i.1 then if isTurn i.2 then .ok (.dat (dT (add (tr i.1) (tr i.2)))) else .ex C2 i.2 else .ex C2 i.1))) := by
  have c_check_turn := c_check_turn T
  have c_told_sum := c_told_sum T
  refine mk_cal T.d_add_turns sc_add_turns (fun _ => rfl) (fun _ _ _ _ _ _ us hl => match us, hl with | [_, _], _ => rfl) (fun f cdv A outer s H E hr i hp => ⟨_, (pss_cons (ps_expr (pe_calX c_check_turn (hr.mono (by decide)) rfl (pa_cons (pv 0) pa_nil) (takes_of rfl rfl rfl rfl)))
      (pss_cons (ps_expr (pe_calX c_check_turn (hr.mono (by decide)) rfl (pa_cons (pv 1) pa_nil) (takes_of rfl rfl rfl rfl)))
      (pss_one (ps_ret (pe_cal c_told_sum (hr.mono (by decide)) rfl (pa_cons (pv 0) (pa_cons (pv 1) pa_nil))))))), fun G => ?_⟩)
  obtain ⟨d1, d2⟩ := i
  obtain ⟨s1, s2⟩ := hp
  refine xs_callX (S := ⟨K, fx0, G, H, E⟩) d1 (ea_cons (ev_var rfl) ea_nil) True.intro (fun s hs => ?_) fun C d hx => ?_
  · cases h1 : isTurn d1 with
    | false => simp [h1] at hs
    | true =>
      refine xs_callX (S := ⟨K, fx0, G, H, E⟩) d2 (ea_cons (ev_var rfl) ea_nil) True.intro (fun s hs => ?_) fun C d hx => ?_
      · cases h2 : isTurn d2 with
        | false => simp [h2] at hs
        | true =>
          obtain ⟨e1, p1⟩ := isTurn_tr h1
          obtain ⟨e2, p2⟩ := isTurn_tr h2
          refine xc_ret (ev_callE (S := ⟨K, fx0, G, H, E⟩) (tr d1, tr d2) (ea_cons (ev_var (congrArg (fun z => some (Sl.dat z)) e1)) (ea_cons (ev_var (congrArg (fun z => some (Sl.dat z)) e2)) ea_nil)) ⟨p1.in0, p2.in0, 200, 200, by omega, s1, s2⟩) ?_
          rfl
      · cases h2 : isTurn d2 with
        | false =>
          rw [h2] at hx
          exact hx
        | true => simp [h2] at hx
  · cases h1 : isTurn d1 with
    | false =>
      rw [h1] at hx
      exact hx
    | true => simp [h1] at hx
theorem c_told_back : Cal P w K mg base 1 "told_back" ["turn"] (spI K fx0 (fun t : T3 => [.dat (dT t)]) (fun _ => True) (fun t => Eq (.ok (.dat (dT (bck t)))))) := by
  refine mk_cal T.d_told_back sc_told_back (fun _ => rfl) (fun _ _ _ _ _ _ us hl => match us, hl with | [_], _ => rfl) (fun f cdv A outer s H E hr i hp => ⟨_, (pss_cons (ps_asg (pv 0) (pg_tup (by rfl) (pgs_cons (pg_name (i := 1) sc_told_back.nd rfl (Or.inl rfl)) (pgs_cons (pg_name (i := 2) sc_told_back.nd rfl (Or.inl rfl)) (pgs_cons (pg_name (i := 3) sc_told_back.nd rfl (Or.inl rfl)) pgs_nil)))))
      (pss_one (ps_ret (pe_ifExp (pt_cmpR (op_eqD (u64 hr)) (pv 3) pe_int (nomark _)) (pe_tup (pa_cons (pe_un un_neg (pv 1)) (pa_cons pe_int (pa_cons pe_int pa_nil)))) (pe_tup (pa_cons (pe_op op_sub (pe_un un_neg (pv 1)) pe_int) (pa_cons (pv 3) (pa_cons (pv 2) pa_nil)))))))), fun G => ?_⟩)
  obtain ⟨q, x, y⟩ := i
  refine xs_asgT (S := ⟨K, fx0, G, H, E⟩) (d := dT (q, x, y)) (ev_var rfl) (tg_tup (js := [1, 2, 3]) (tgs_cons (js := [1]) tg_name (tgs_cons (js := [2]) tg_name (tgs_cons (js := [3]) tg_name tgs_nil)))) ?_
  refine xc_retP (p := Eq (.dat (dT (bck (q, x, y))))) (ev_if (et_B (ev_eqI (i := y) (j := 0) (ev_var rfl) ev_int)) (fun z => ?_) fun z => ?_) fun s e => by rw [← e]; rfl
  · have z' : y = 0 := of_decide_eq_true z
    have e : bck (q, x, y) = (-q, 1, 0) := if_pos z'
    rw [e]
    exact ev_tup3 (ev_neg (ev_var rfl)) ev_int ev_int
  · have z' : y ≠ 0 := of_decide_eq_false z
    have e : bck (q, x, y) = (-q - 1, y, x) := if_neg z'
    rw [e]
    exact ev_tup3 (ev_I0 (i := -q) (j := 1) (ev_neg (ev_var rfl)) ev_int) (ev_var rfl) (ev_var rfl)
theorem c_turn_back : Cal P w K mg base 4 "turn_back" ["turn"] (spI K fx0 (fun d : D => [.dat d]) (fun _ => True) (fun d => Eq (if isTurn d then .ok (.dat (dT (bck (tr d)))) else .ex C2 d))) := by
  have c_check_turn := c_check_turn T
  have c_told_back := c_told_back T
  refine mk_cal T.d_turn_back sc_turn_back (fun _ => rfl) (fun _ _ _ _ _ _ us hl => match us, hl with | [_], _ => rfl) (fun f cdv A outer s H E hr d1 hp => ⟨_, (pss_cons (ps_expr (pe_calX c_check_turn (hr.mono (by decide)) rfl (pa_cons (pv 0) pa_nil) (takes_of rfl rfl rfl rfl)))
      (pss_one (ps_ret (pe_cal c_told_back (hr.mono (by decide)) rfl (pa_cons (pv 0) pa_nil))))), fun G => ?_⟩)
  refine xs_callX (S := ⟨K, fx0, G, H, E⟩) d1 (ea_cons (ev_var rfl) ea_nil) True.intro (fun s hs => ?_) fun C d hx => ?_
  · cases h1 : isTurn d1 with
    | false => simp [h1] at hs
    | true =>
      obtain ⟨e1, p1⟩ := isTurn_tr h1
      refine xc_ret (ev_callE (S := ⟨K, fx0, G, H, E⟩) (tr d1) (ea_cons (ev_var (congrArg (fun z => some (Sl.dat z)) e1)) ea_nil) True.intro) ?_
      rfl
  · cases h1 : isTurn d1 with
    | false =>
      rw [h1] at hx
      exact hx
    | true => simp [h1] at hx
/-- less -/
def les (a b : T3) : Bool := if a.1 = b.1 then decide (0 < a.2.1 * b.2.2 - a.2.2 * b.2.1) else decide (a.1 < b.1)
theorem c_told_less : Cal P w K mg base 1 "told_less" ["one", "other"] (spI K fx0 (fun i : T3 × T3 => [.dat (dT i.1), .dat (dT i.2)]) (fun i => Sz 200 i.1 ∧ Sz 200 i.2) (fun i => Eq (.ok (.dat (.bool (les i.1 i.2)))))) := by
  refine mk_cal T.d_told_less sc_told_less (fun _ => rfl) (fun _ _ _ _ _ _ us hl => match us, hl with | [_, _], _ => rfl) (fun f cdv A outer s H E hr i hp => ⟨_, (pss_cons (ps_if (pt_cmpR (op_neD (u64 hr)) (pe_ix (r := rIxT K) ix_tup (pv 0) pe_int (fun _ _ => rfl)) (pe_ix (r := rIxT K) ix_tup (pv 1) pe_int (fun _ _ => rfl)) (nomark _)) (pss_one (ps_ret (pe_cmpR op_lt (pe_ix (r := rIxT K) ix_tup (pv 0) pe_int (fun _ _ => rfl)) (pe_ix (r := rIxT K) ix_tup (pv 1) pe_int (fun _ _ => rfl)) (nomark _)))) pss_nil)
      (pss_one (ps_ret (pe_cmpR op_gt (pe_op op_sub (pe_op op_mulW (pe_ix (r := rIxT K) ix_tup (pv 0) pe_int (fun _ _ => rfl)) (pe_ix (r := rIxT K) ix_tup (pv 1) pe_int (fun _ _ => rfl))) (pe_op op_mulW (pe_ix (r := rIxT K) ix_tup (pv 0) pe_int (fun _ _ => rfl)) (pe_ix (r := rIxT K) ix_tup (pv 1) pe_int (fun _ _ => rfl)))) pe_int (nomark _))))), fun G => ?_⟩)
  obtain ⟨⟨q, x, y⟩, ⟨r, u, v⟩⟩ := i
  obtain ⟨sa, sb⟩ := hp
  have m3 : CMulW x v := mulW sa.1 sb.2 (by omega) (by omega)
  have m4 : CMulW y u := mulW sa.2 sb.1 (by omega) (by omega)
  refine xs_when (S := ⟨K, fx0, G, H, E⟩) (et_B (ev_neI (i := q) (j := r) (ev_ixU (ev_var rfl) ev_int rfl) (ev_ixU (ev_var rfl) ev_int rfl))) (fun z => ?_) fun z => ?_
  · have z' : q ≠ r := by simpa using z
    exact xs_ret (ev_C0 (i := q) (j := r) (ev_ixU (ev_var rfl) ev_int rfl) (ev_ixU (ev_var rfl) ev_int rfl)) (congrArg (fun b => Re.ok (.dat (.bool b))) (if_neg z'))
  · have z' : q = r := by simpa using z
    exact xc_retB (ev_C0 (i := x * v - y * u) (j := 0) (ev_I0 (i := x * v) (j := y * u) (ev_IC (ev_ixU (ev_var rfl) ev_int rfl) (ev_ixU (ev_var rfl) ev_int rfl) m3) (ev_IC (ev_ixU (ev_var rfl) ev_int rfl) (ev_ixU (ev_var rfl) ev_int rfl) m4)) ev_int) (if_pos z' : les (q, x, y) (r, u, v) = _).symm
theorem c_is_less_turn : Cal P w K mg base 4 "is_less_turn" ["one", "other"] (spI K fx0 (fun i : D × D => [.dat i.1, .dat i.2]) (fun i => Sz 200 (tr i.1) ∧ Sz 200 (tr i.2)) (fun i => Eq (if isTurn i.1 then if isTurn i.2 then .ok (.dat (.bool (les (tr i.1) (tr i.2)))) else .ex C2 i.2 else .ex C2 i.1))) := by
  have c_check_turn := c_check_turn T
  have c_told_less := c_told_less T
  refine mk_cal T.d_is_less_turn sc_is_less_turn (fun _ => rfl) (fun _ _ _ _ _ _ us hl => match us, hl with | [_, _], _ => rfl) (fun f cdv A outer s H E hr i hp => ⟨_, (pss_cons (ps_expr (pe_calX c_check_turn (hr.mono (by decide)) rfl (pa_cons (pv 0) pa_nil) (takes_of rfl rfl rfl rfl)))
      (pss_cons (ps_expr (pe_calX c_check_turn (hr.mono (by decide)) rfl (pa_cons (pv 1) pa_nil) (takes_of rfl rfl rfl rfl)))
      (pss_one (ps_ret (pe_cal c_told_less (hr.mono (by decide)) rfl (pa_cons (pv 0) (pa_cons (pv 1) pa_nil))))))), fun G => ?_⟩)
  obtain ⟨d1, d2⟩ := i
  obtain ⟨s1, s2⟩ := hp
  refine xs_callX (S := ⟨K, fx0, G, H, E⟩) d1 (ea_cons (ev_var rfl) ea_nil) True.intro (fun s hs => ?_) fun C d hx => ?_
  · cases h1 : isTurn d1 with
    | false => simp [h1] at hs
    | true =>
      refine xs_callX (S := ⟨K, fx0, G, H, E⟩) d2 (ea_cons (ev_var rfl) ea_nil) True.intro (fun s hs => ?_) fun C d hx => ?_
      · cases h2 : isTurn d2 with
        | false => simp [h2] at hs
        | true =>
          obtain ⟨e1, p1⟩ := isTurn_tr h1
          obtain ⟨e2, p2⟩ := isTurn_tr h2
          refine xc_ret (ev_callE (S := ⟨K, fx0, G, H, E⟩) (tr d1, tr d2) (ea_cons (ev_var (congrArg (fun z => some (Sl.dat z)) e1)) (ea_cons (ev_var (congrArg (fun z => some (Sl.dat z)) e2)) ea_nil)) ⟨s1, s2⟩) ?_
          rfl
      · cases h2 : isTurn d2 with
        | false =>
          rw [h2] at hx
          exact hx
        | true => simp [h2] at hx
  · cases h1 : isTurn d1 with
    | false =>
      rw [h1] at hx
      exact hx
    | true => simp [h1] at hx
end
end K10

set_option Elab.async false
set_option linter.all false
set_option maxRecDepth 100000
set_option maxHeartbeats 4000000
namespace K10
open PySem PySem.Spec PyProof.Rows L2 Dl
section
variable {P : Program} {w : World} {K : PySem.W.Frag} {mg : Str → Option Value} {base : Heap} {C1 C2 C3 fI aN : Addr} (T : Tx P w K mg base C1 C2 C3 fI aN)
include T
theorem c__law_taken : Cal P w K mg base 1 "_law_taken" ["row", "many"] (spTaken K) := by
  refine mk_calR T.d__law_taken sc__law_taken (fun vs H Q E h => ?_) (fun _ _ _ _ _ _ us hl => match us, hl with | [_, _], _ => rfl) (fun f cdv A outer s H E vs Q hr h => ⟨_, (pss_cons (ps_if (pt_cmpR op_gt (pe_ix (r := rIxL K) ix_list (pv 0) pe_int (fun _ _ => rfl)) pe_int (nomark _)) (pss_cons (ps_set (i := 2) sc__law_taken.nd rfl (Or.inl rfl) (pe_op op_mod (pe_callTy call_int1 (by rfl) T.b_int (by decide +kernel) (pa_cons (pe_ix (r := rIxL K) ix_list (pv 0) pe_int (fun _ _ => rfl)) pa_nil)) (pv 1)))
      (pss_cons (ps_asg (pe_op op_fdiv (pe_ix (r := rIxL K) ix_list (pv 0) pe_int (fun _ _ => rfl)) (pv 1)) (pg_sub (pv 0) pe_int set_list))
      (pss_one (ps_ret (pv 2))))) pss_nil)
      (pss_cons (ps_asg (pe_op op_add (pe_ix (r := rIxL K) ix_list (pv 0) pe_int (fun _ _ => rfl)) pe_int) (pg_sub (pv 0) pe_int set_list))
      (pss_cons (ps_if (pt_cmpR op_gt (pe_ix (r := rIxL K) ix_list (pv 0) pe_int (fun _ _ => rfl)) (pe_callB call_len_seq (by rfl) T.b_len (by decide +kernel) (pa_cons (pe_ix (r := rIxL K) ix_list (pv 0) pe_int (fun _ _ => rfl)) pa_nil)) (nomark _)) (pss_cons (ps_asg (pe_op op_mod (pe_callTy call_int1 (by rfl) T.b_int (by decide +kernel) (pa_cons (pe_op op_add (pe_op op_mul (pe_ix (r := rIxL K) ix_list (pv 0) pe_int (fun _ _ => rfl)) pe_int) pe_int) pa_nil)) pe_int) (pg_sub (pv 0) pe_int set_list))
      (pss_one (ps_ret (pe_op op_mod (pe_callTy call_int1 (by rfl) T.b_int (by decide +kernel) (pa_cons (pe_op op_fdiv (pe_ix (r := rIxL K) ix_list (pv 0) pe_int (fun _ _ => rfl)) pe_int) pa_nil)) (pv 1))))) pss_nil)
      (pss_cons (ps_set (i := 3) sc__law_taken.nd rfl (Or.inl rfl) (pe_ix (r := rIxL K) ix_list (pe_ix (r := rIxL K) ix_list (pv 0) pe_int (fun _ _ => rfl)) (pe_op op_sub (pe_ix (r := rIxL K) ix_list (pv 0) pe_int (fun _ _ => rfl)) pe_int) (fun _ _ => rfl)))
      (pss_cons (ps_asg (pe_op op_mod (pe_callTy call_int1 (by rfl) T.b_int (by decide +kernel) (pa_cons (pe_op op_add (pe_op op_add (pe_op op_mul (pe_ix (r := rIxL K) ix_list (pv 0) pe_int (fun _ _ => rfl)) pe_int) (pv 3)) pe_int) pa_nil)) pe_int) (pg_sub (pv 0) pe_int set_list))
      (pss_cons (ps_if (pt_cmpR op_ge (pv 3) (pe_op op_pow pe_int pe_int) (nomark _)) (pss_one (ps_asg (pe_op op_fdiv (pv 3) (pv 1)) (pg_sub (pv 0) pe_int set_list))) pss_nil)
      (pss_one (ps_ret (pe_op op_mod (pe_callTy call_int1 (by rfl) T.b_int (by decide +kernel) (pa_cons (pv 3) pa_nil)) (pv 1)))))))))), ?_⟩)
  · obtain ⟨r, sc, ns, many, p, m, c, rfl, _⟩ := h
    rfl
  obtain ⟨r, sc, ns, many, p, m, c, rfl, h0, h1, p0, m0, m1, hr, hs, hso, q⟩ := h
  have mm : ∀ k : Int, 0 ≤ k % 2147483647 ∧ k % 2147483647 < 2147483648 := fun k => by omega
  refine gs_when (gt_test (gv_C0 (gv_ix (gv_var rfl) gv_int (SqL.of hr) rfl) gv_int)) (fun _ => ?_) fun _ => ?_
  · refine gs_asg (gv_IC (gv_toInt (gv_ix (gv_var rfl) gv_int (SqL.of hr) rfl)) (gv_var rfl) h0) ?_
    refine gs_put (gv_IC (gv_ix (gv_var rfl) gv_int (SqL.of hr) rfl) (gv_var rfl) ⟨h0, h1⟩) rfl hr rfl ?_
    exact gs_ret (gv_var rfl) (q _ p m _ (Int.emod_nonneg _ (by omega)) (Int.emod_lt_of_pos _ h0) p0 m0 m1)
  refine gs_put (gv_I0 (gv_ix (gv_var rfl) gv_int (SqL.of hr) rfl) gv_int) rfl hr rfl ?_
  change tSeq _ _ _ _ (upd H r (rowHO sc (p + 1) m c))
  have hr1 : upd H r (rowHO sc (p + 1) m c) r = some (.lst [.ref sc, .int (p + 1), .int m, .int c]) := upd_same
  have hs1 : SqL K (upd H r (rowHO sc (p + 1) m c)) sc (ns.map V.int) := hso _
  refine gs_when (gt_test (gv_C0 (gv_ix (gv_var rfl) gv_int (SqL.of hr1) rfl) (gv_len (gv_ix (gv_var rfl) gv_int (SqL.of hr1) rfl) hs1))) (fun _ => ?_) fun z => ?_
  · refine gs_put (gv_IC (gv_toInt (gv_I0 (gv_IC (gv_ix (gv_var rfl) gv_int (SqL.of hr1) rfl) gv_int (.inl ⟨by omega, by omega⟩)) gv_int)) gv_int (by omega)) rfl hr1 rfl ?_
    rw [upd_twice]
    have hr2 : upd H r (rowHO sc (p + 1) ((m * 48271 + 11) % 2147483647) c) r = some (.lst [.ref sc, .int (p + 1), .int ((m * 48271 + 11) % 2147483647), .int c]) := upd_same
    refine gs_ret (gv_IC (gv_toInt (gv_IC (gv_ix (gv_var rfl) gv_int (SqL.of hr2) rfl) gv_int ⟨by omega, by omega⟩)) (gv_var rfl) h0) ?_
    exact q _ _ _ _ (Int.emod_nonneg _ (by omega)) (Int.emod_lt_of_pos _ h0) (by omega) (mm _).1 (mm _).2
  · have zl : ¬ (p + 1 > ((ns.map V.int).length : Int)) := of_decide_eq_false z
    rw [List.length_map] at zl
    obtain ⟨i, rfl⟩ : ∃ i : Nat, p = i := ⟨p.toNat, by omega⟩
    have hi : i < ns.length := by omega
    have hv : atI (ns.map V.int) ((i : Int) + 1 - 1) = some (.int ns[i]) := by
      unfold atI ixN
      rw [if_pos (by omega), if_pos (by rw [List.length_map]; omega), show ((i : Int) + 1 - 1).toNat = i by omega]
      simp [hi]
    refine gs_asg (gv_ix (gv_ix (gv_var rfl) gv_int (SqL.of hr1) rfl) (gv_I0 (gv_ix (gv_var rfl) gv_int (SqL.of hr1) rfl) gv_int) hs1 hv) ?_
    refine gs_put (gv_IC (gv_toInt (gv_I0 (gv_I0 (gv_IC (gv_ix (gv_var rfl) gv_int (SqL.of hr1) rfl) gv_int (.inl ⟨by omega, by omega⟩)) (gv_var rfl)) gv_int)) gv_int (by omega)) rfl hr1 rfl ?_
    rw [upd_twice]
    have hr2 : upd H r (rowHO sc ((i : Int) + 1) ((m * 48271 + ns[i] + 11) % 2147483647) c) r = some (.lst [.ref sc, .int ((i : Int) + 1), .int ((m * 48271 + ns[i] + 11) % 2147483647), .int c]) := upd_same
    refine gs_if (gt_test (gv_C0 (gv_var rfl) (gv_IC gv_int gv_int ⟨by omega, by omega, by decide⟩))) (fun _ => ?_) fun _ => ?_
    · refine gs_put1 (gv_IC (gv_var rfl) (gv_var rfl) ⟨h0, h1⟩) rfl hr2 rfl ?_
      dsimp only
      rw [upd_twice]
      exact gs_ret (gv_IC (gv_toInt (gv_var rfl)) (gv_var rfl) h0) (q _ _ _ _ (Int.emod_nonneg _ (by omega)) (Int.emod_lt_of_pos _ h0) (by omega) (mm _).1 (mm _).2)
    · unfold tNext
      dsimp only
      exact gs_ret (gv_IC (gv_toInt (gv_var rfl)) (gv_var rfl) h0) (q _ _ _ c (Int.emod_nonneg _ (by omega)) (Int.emod_lt_of_pos _ h0) (by omega) (mm _).1 (mm _).2)
theorem c__law_pick : Cal P w K mg base 2 "_law_pick" ["row", "some"] (spZ fun z : RowZ => spI K (rowFx K z) (fun ds : List D => [.raw (.ref z.r), .dat (.list ds)]) (fun ds => ds ≠ [] ∧ ds.length < 1073741824) (fun ds r => ∃ d, d ∈ ds ∧ r = .ok (.dat d))) := by
  have c__law_taken := c__law_taken T
  refine mk_calZ T.d__law_pick sc__law_pick (fun _ _ => rfl) (fun _ _ _ _ _ _ us hl => match us, hl with | [_, _], _ => rfl) (fun z f cdv A outer s H E hr ds hp => ⟨_, (pss_one (ps_ret (pe_ix (r := rIxL K) ix_list (pv 1) (pe_cal c__law_taken (hr.mono (by decide)) rfl (pa_cons (pv 0) (pa_cons (pe_callB call_len_seq (by rfl) T.b_len (by decide +kernel) (pa_cons (pv 1) pa_nil)) pa_nil))) (fun _ _ => rfl)))), fun G => ?_⟩)
  obtain ⟨h0, h1⟩ := hp
  have hl : 0 < ds.length := List.length_pos_iff.mpr h0
  refine xc_retP (ev_ixLI (S := ⟨K, rowFx K z, G, H, E⟩) (el_of (ev_var rfl)) (ev_taken (ev_varR rfl) (ev_lenL (ds := ds) (el_of (ev_var rfl))) (by omega) (by omega)) (P := fun d => d ∈ ds) fun i hi => ?_) fun s ⟨d, e, hd⟩ => ⟨d, hd, by rw [e]⟩
  obtain ⟨n, rfl⟩ : ∃ n : Nat, i = n := ⟨i.toNat, by omega⟩
  have hn : n < ds.length := by omega
  refine ⟨ds[n], ?_, List.getElem_mem hn⟩
  unfold atI ixN
  rw [if_pos (by omega), if_pos (by omega), show ((n : Int)).toNat = n by omega]
  simp [hn]
/-- data that _law_alike walks within n calls -/
def FlP : Nat → D → Prop
  | 0, _ => False
  | n + 1, .list ds => ds.length ≤ 1000000 ∧ ∀ x ∈ ds, FlP n x
  | n + 1, .tuple ds => ds.length ≤ 1000000 ∧ ∀ x ∈ ds, FlP n x
  | _ + 1, .dict _ => False
  | _ + 1, .str x => SeqAt.shaped (.str x) = true
  | _ + 1, _ => True
omit T in
theorem fm_none (l : List D) : l.filterMap (fun _ => (none : Option D)) = [] := by
  induction l with
  | nil => rfl
  | cons a l ih => rw [List.filterMap_cons, ih]
omit T in
theorem at_rng {ds : List D} {n : Nat} {d : D} (hn : n = ds.length) (h : d ∈ rngD 0 n) : ∃ i x, d = .int i ∧ atI ds i = some x ∧ x ∈ ds := by
  obtain ⟨i, hi⟩ := List.getElem?_of_mem h
  obtain ⟨h1, h2⟩ := rngD_get hi
  have hl : i < ds.length := by omega
  refine ⟨_, ds[i], h2, ?_, List.getElem_mem hl⟩
  unfold atI ixN
  rw [if_pos (by omega), if_pos (by omega), show ((0 : Int) + (i : Int)).toNat = i by omega]
  simp [hl]
omit T in
theorem eqv_b (b c : Bool) : PyData.eqv (.bool b) (.bool c) = (b == c) := by
  cases b <;> cases c <;> kernel_rfl
omit T in
theorem eqv_s (x : Str) : PyData.eqv (.str x) (.str x) = true := by
  simp [PyData.eqv]
theorem c__law_alike : ∀ n, Cal P w K mg base (n + 1) "_law_alike" ["found", "due"] (spI K fx0 (fun d : D => [.dat d, .dat d]) (fun d => FlP n d) (fun d => Eq (.ok (.dat (.bool true))))) := by
  intro n
  induction n with
  | zero => exact mk_cal T.d__law_alike sc__law_alike (fun _ => rfl) (fun _ _ _ _ _ _ us hl => match us, hl with | [_, _], _ => rfl) (fun f cdv A outer s H E hr d hp => hp.elim)
  | succ n c__law_alike =>
    refine mk_cal T.d__law_alike sc__law_alike (fun _ => rfl) (fun _ _ _ _ _ _ us hl => match us, hl with | [_, _], _ => rfl) (fun f cdv A outer s H E hr d hp => ?_)
    cases d with
    | list ds =>
      refine ⟨_, (pss_cons (ps_if (pt_val (pe_callB call_isiT (by rfl) T.b_isinstance (by decide +kernel) (pa_cons (pv 1) (pa_cons (pe_tup (pa_cons (pe_bltn (v := .ty "tuple") (u := .type "tuple") (by rfl) T.b_tuple (by decide +kernel) rfl) (pa_cons (pe_bltn (v := .ty "list") (u := .type "list") (by rfl) T.b_list (by decide +kernel) rfl) pa_nil))) pa_nil)))) (pss_cons (ps_if (PW.pt (pw_or (pt_not (pt_val (pe_callB call_isiT (by rfl) T.b_isinstance (by decide +kernel) (pa_cons (pv 0) (pa_cons (pe_tup (pa_cons (pe_bltn (v := .ty "tuple") (u := .type "tuple") (by rfl) T.b_tuple (by decide +kernel) rfl) (pa_cons (pe_bltn (v := .ty "list") (u := .type "list") (by rfl) T.b_list (by decide +kernel) rfl) pa_nil))) pa_nil))))) (pw_or1 (pt_cmpR (op_neD (u64 hr)) (pe_callB call_isi (by rfl) T.b_isinstance (by decide +kernel) (pa_cons (pv 0) (pa_cons (pe_bltn (v := .ty "list") (u := .type "list") (by rfl) T.b_list (by decide +kernel) rfl) pa_nil))) (pe_callB call_isi (by rfl) T.b_isinstance (by decide +kernel) (pa_cons (pv 1) (pa_cons (pe_bltn (v := .ty "list") (u := .type "list") (by rfl) T.b_list (by decide +kernel) rfl) pa_nil))) (nomark _))))) (pss_one (ps_ret pe_bl)) pss_nil)
      (pss_cons (ps_if (pt_cmpR (op_neD (u64 hr)) (pe_callB call_len_seq (by rfl) T.b_len (by decide +kernel) (pa_cons (pv 0) pa_nil)) (pe_callB call_len_seq (by rfl) T.b_len (by decide +kernel) (pa_cons (pv 1) pa_nil)) (nomark _)) (pss_one (ps_ret pe_bl)) pss_nil)
      (pss_one (ps_ret (pe_cmpR (op_eqD (u64 hr)) (pe_lc (own := [("k", 2)]) (by rfl) sc__law_alike.nd (pi_range1 (by rfl) T.b_range (pa_cons (pe_callB call_len_seq (by rfl) T.b_len (by decide +kernel) (pa_cons (pv 1) pa_nil)) pa_nil)) (blkOk_by (N := ["found", "due", "k", "key"]) (sc := defScope s__law_alike) (own := [("k", 2)]) (by decide +kernel)) (fun _ _ _ _ _ => (pg_name (i := 2) sc__law_alike.nd rfl (Or.inl rfl))) (fun _ _ _ _ _ => (pts_one (pt_not (pt_val (pe_cal c__law_alike hr rfl (pa_cons (pe_ix (r := rIxL K) ix_list (pv 0) (pv 2) (fun _ _ => rfl)) (pa_cons (pe_ix (r := rIxL K) ix_list (pv 1) (pv 2) (fun _ _ => rfl)) pa_nil))))))) (fun _ _ _ _ _ => (pv 2))) (pe_lst pa_nil) (nomark _)))))) pss_nil)
      (pss_cons (ps_if (pt_val (pe_callB call_isi (by rfl) T.b_isinstance (by decide +kernel) (pa_cons (pv 1) (pa_cons (pe_bltn (v := .ty "dict") (u := .type "dict") (by rfl) T.b_dict (by decide +kernel) rfl) pa_nil)))) (pss_cons (ps_if (PW.pt (pw_or (pt_not (pt_val (pe_callB call_isi (by rfl) T.b_isinstance (by decide +kernel) (pa_cons (pv 0) (pa_cons (pe_bltn (v := .ty "dict") (u := .type "dict") (by rfl) T.b_dict (by decide +kernel) rfl) pa_nil))))) (pw_or1 (pt_cmpR (op_neD (u64 hr)) (pe_callTy call_list_of (by rfl) T.b_list (by decide +kernel) (pa_cons (pv 0) pa_nil)) (pe_callTy call_list_of (by rfl) T.b_list (by decide +kernel) (pa_cons (pv 1) pa_nil)) (nomark _))))) (pss_one (ps_ret pe_bl)) pss_nil)
      (pss_one (ps_ret (pe_cmpR (op_eqD (u64 hr)) (pe_lc (own := [("key", 3)]) (by rfl) sc__law_alike.nd (pi_list (pv 1)) (blkOk_by (N := ["found", "due", "k", "key"]) (sc := defScope s__law_alike) (own := [("key", 3)]) (by decide +kernel)) (fun _ _ _ _ _ => (pg_name (i := 3) sc__law_alike.nd rfl (Or.inl rfl))) (fun _ _ _ _ _ => (pts_one (pt_not (pt_val (pe_cal c__law_alike hr rfl (pa_cons (pe_ix (r := rIxL K) ix_list (pv 0) (pv 3) (fun _ _ => rfl)) (pa_cons (pe_ix (r := rIxL K) ix_list (pv 1) (pv 3) (fun _ _ => rfl)) pa_nil))))))) (fun _ _ _ _ _ => (pv 3))) (pe_lst pa_nil) (nomark _))))) pss_nil)
      (pss_cons (ps_if (PW.pt (pw_or (pt_cmpR op_isN (pv 1) pe_non (nomark _)) (pw_or1 (pt_val (pe_callB call_isi (by rfl) T.b_isinstance (by decide +kernel) (pa_cons (pv 1) (pa_cons (pe_bltn (v := .ty "str") (u := .type "str") (by rfl) T.b_str (by decide +kernel) rfl) pa_nil))))))) (pss_one (ps_ret (pe_and (pe_cmpR (op_eqD (u64 hr)) (pv 0) (pv 1) (nomark _)) (pe_one (pe_cmpR (op_eqD (u64 hr)) (pe_callB call_isi (by rfl) T.b_isinstance (by decide +kernel) (pa_cons (pv 0) (pa_cons (pe_bltn (v := .ty "str") (u := .type "str") (by rfl) T.b_str (by decide +kernel) rfl) pa_nil))) (pe_callB call_isi (by rfl) T.b_isinstance (by decide +kernel) (pa_cons (pv 1) (pa_cons (pe_bltn (v := .ty "str") (u := .type "str") (by rfl) T.b_str (by decide +kernel) rfl) pa_nil))) (nomark _)))))) pss_nil)
      (pss_one (ps_ret (pe_and (pe_callB call_isi (by rfl) T.b_isinstance (by decide +kernel) (pa_cons (pv 0) (pa_cons (pe_bltn (v := .ty "int") (u := .type "int") (by rfl) T.b_int (by decide +kernel) rfl) pa_nil))) (pe_and (pe_cmpR (op_eqD (u64 hr)) (pe_callB call_isi (by rfl) T.b_isinstance (by decide +kernel) (pa_cons (pv 0) (pa_cons (pe_bltn (v := .ty "bool") (u := .type "bool") (by rfl) T.b_bool (by decide +kernel) rfl) pa_nil))) (pe_callB call_isi (by rfl) T.b_isinstance (by decide +kernel) (pa_cons (pv 1) (pa_cons (pe_bltn (v := .ty "bool") (u := .type "bool") (by rfl) T.b_bool (by decide +kernel) rfl) pa_nil))) (nomark _)) (pe_one (pe_cmpR (op_eqD (u64 hr)) (pv 0) (pv 1) (nomark _)))))))))), fun G => ?_⟩
      obtain ⟨hl, hd⟩ := hp
      refine xs_when (S := ⟨K, fx0, G, H, E⟩) (et_B (ev_isTL (d := .list ds) (ev_var rfl))) (fun _ => ?_) fun z => by cases z
      refine xs_when (et_or (et_not (et_B (ev_isTL (d := .list ds) (ev_var rfl)))) fun _ => et_B (ev_neD (ev_isList (d := .list ds) (ev_var rfl)) (ev_isList (d := .list ds) (ev_var rfl)) rfl rfl)) (fun z => ?_) fun _ => ?_
      · rw [eqv_b] at z
        cases z
      refine xs_when (et_B (ev_neI (ev_lenL (ds := ds) (el_of (ev_var rfl))) (ev_lenL (ds := ds) (el_of (ev_var rfl))))) (fun z => ?_) fun _ => ?_
      · simp at z
      refine xs_ret (ev_eqD (d := .list ((rngD 0 ds.length).filterMap fun _ => none)) (d' := .list []) (ef_filterMap (im_rng1E (ev_lenL (ds := ds) (el_of (ev_var rfl))) (by omega)) (by rw [rngD_length]; exact hl) fun d hdm => ?_).evE ev_lst0 (by rw [fm_none]; rfl) rfl) (by rw [fm_none]; rfl)
      obtain ⟨i, x, rfl, hat, hx⟩ := at_rng rfl hdm
      exact ⟨[2], _, by simp, tg_name, et_is (et_not (et_B (ev_callE x (ea_cons (ev_ixL (el_of (ev_var rfl)) (ev_var rfl) hat) (ea_cons (ev_ixL (el_of (ev_var rfl)) (ev_var rfl) hat) ea_nil)) (hd x hx)))) rfl, fun y hy => by cases hy⟩
    | tuple ds =>
      refine ⟨_, (pss_cons (ps_if (pt_val (pe_callB call_isiT (by rfl) T.b_isinstance (by decide +kernel) (pa_cons (pv 1) (pa_cons (pe_tup (pa_cons (pe_bltn (v := .ty "tuple") (u := .type "tuple") (by rfl) T.b_tuple (by decide +kernel) rfl) (pa_cons (pe_bltn (v := .ty "list") (u := .type "list") (by rfl) T.b_list (by decide +kernel) rfl) pa_nil))) pa_nil)))) (pss_cons (ps_if (PW.pt (pw_or (pt_not (pt_val (pe_callB call_isiT (by rfl) T.b_isinstance (by decide +kernel) (pa_cons (pv 0) (pa_cons (pe_tup (pa_cons (pe_bltn (v := .ty "tuple") (u := .type "tuple") (by rfl) T.b_tuple (by decide +kernel) rfl) (pa_cons (pe_bltn (v := .ty "list") (u := .type "list") (by rfl) T.b_list (by decide +kernel) rfl) pa_nil))) pa_nil))))) (pw_or1 (pt_cmpR (op_neD (u64 hr)) (pe_callB call_isi (by rfl) T.b_isinstance (by decide +kernel) (pa_cons (pv 0) (pa_cons (pe_bltn (v := .ty "list") (u := .type "list") (by rfl) T.b_list (by decide +kernel) rfl) pa_nil))) (pe_callB call_isi (by rfl) T.b_isinstance (by decide +kernel) (pa_cons (pv 1) (pa_cons (pe_bltn (v := .ty "list") (u := .type "list") (by rfl) T.b_list (by decide +kernel) rfl) pa_nil))) (nomark _))))) (pss_one (ps_ret pe_bl)) pss_nil)
      (pss_cons (ps_if (pt_cmpR (op_neD (u64 hr)) (pe_callB call_len_seq (by rfl) T.b_len (by decide +kernel) (pa_cons (pv 0) pa_nil)) (pe_callB call_len_seq (by rfl) T.b_len (by decide +kernel) (pa_cons (pv 1) pa_nil)) (nomark _)) (pss_one (ps_ret pe_bl)) pss_nil)
      (pss_one (ps_ret (pe_cmpR (op_eqD (u64 hr)) (pe_lc (own := [("k", 2)]) (by rfl) sc__law_alike.nd (pi_range1 (by rfl) T.b_range (pa_cons (pe_callB call_len_seq (by rfl) T.b_len (by decide +kernel) (pa_cons (pv 1) pa_nil)) pa_nil)) (blkOk_by (N := ["found", "due", "k", "key"]) (sc := defScope s__law_alike) (own := [("k", 2)]) (by decide +kernel)) (fun _ _ _ _ _ => (pg_name (i := 2) sc__law_alike.nd rfl (Or.inl rfl))) (fun _ _ _ _ _ => (pts_one (pt_not (pt_val (pe_cal c__law_alike hr rfl (pa_cons (pe_ix (r := rIxT K) ix_tup (pv 0) (pv 2) (fun _ _ => rfl)) (pa_cons (pe_ix (r := rIxT K) ix_tup (pv 1) (pv 2) (fun _ _ => rfl)) pa_nil))))))) (fun _ _ _ _ _ => (pv 2))) (pe_lst pa_nil) (nomark _)))))) pss_nil)
      (pss_cons (ps_if (pt_val (pe_callB call_isi (by rfl) T.b_isinstance (by decide +kernel) (pa_cons (pv 1) (pa_cons (pe_bltn (v := .ty "dict") (u := .type "dict") (by rfl) T.b_dict (by decide +kernel) rfl) pa_nil)))) (pss_cons (ps_if (PW.pt (pw_or (pt_not (pt_val (pe_callB call_isi (by rfl) T.b_isinstance (by decide +kernel) (pa_cons (pv 0) (pa_cons (pe_bltn (v := .ty "dict") (u := .type "dict") (by rfl) T.b_dict (by decide +kernel) rfl) pa_nil))))) (pw_or1 (pt_cmpR (op_neD (u64 hr)) (pe_callTy call_list_of (by rfl) T.b_list (by decide +kernel) (pa_cons (pv 0) pa_nil)) (pe_callTy call_list_of (by rfl) T.b_list (by decide +kernel) (pa_cons (pv 1) pa_nil)) (nomark _))))) (pss_one (ps_ret pe_bl)) pss_nil)
      (pss_one (ps_ret (pe_cmpR (op_eqD (u64 hr)) (pe_lc (own := [("key", 3)]) (by rfl) sc__law_alike.nd (pi_list (pv 1)) (blkOk_by (N := ["found", "due", "k", "key"]) (sc := defScope s__law_alike) (own := [("key", 3)]) (by decide +kernel)) (fun _ _ _ _ _ => (pg_name (i := 3) sc__law_alike.nd rfl (Or.inl rfl))) (fun _ _ _ _ _ => (pts_one (pt_not (pt_val (pe_cal c__law_alike hr rfl (pa_cons (pe_ix (r := rIxT K) ix_tup (pv 0) (pv 3) (fun _ _ => rfl)) (pa_cons (pe_ix (r := rIxT K) ix_tup (pv 1) (pv 3) (fun _ _ => rfl)) pa_nil))))))) (fun _ _ _ _ _ => (pv 3))) (pe_lst pa_nil) (nomark _))))) pss_nil)
      (pss_cons (ps_if (PW.pt (pw_or (pt_cmpR op_isN (pv 1) pe_non (nomark _)) (pw_or1 (pt_val (pe_callB call_isi (by rfl) T.b_isinstance (by decide +kernel) (pa_cons (pv 1) (pa_cons (pe_bltn (v := .ty "str") (u := .type "str") (by rfl) T.b_str (by decide +kernel) rfl) pa_nil))))))) (pss_one (ps_ret (pe_and (pe_cmpR (op_eqD (u64 hr)) (pv 0) (pv 1) (nomark _)) (pe_one (pe_cmpR (op_eqD (u64 hr)) (pe_callB call_isi (by rfl) T.b_isinstance (by decide +kernel) (pa_cons (pv 0) (pa_cons (pe_bltn (v := .ty "str") (u := .type "str") (by rfl) T.b_str (by decide +kernel) rfl) pa_nil))) (pe_callB call_isi (by rfl) T.b_isinstance (by decide +kernel) (pa_cons (pv 1) (pa_cons (pe_bltn (v := .ty "str") (u := .type "str") (by rfl) T.b_str (by decide +kernel) rfl) pa_nil))) (nomark _)))))) pss_nil)
      (pss_one (ps_ret (pe_and (pe_callB call_isi (by rfl) T.b_isinstance (by decide +kernel) (pa_cons (pv 0) (pa_cons (pe_bltn (v := .ty "int") (u := .type "int") (by rfl) T.b_int (by decide +kernel) rfl) pa_nil))) (pe_and (pe_cmpR (op_eqD (u64 hr)) (pe_callB call_isi (by rfl) T.b_isinstance (by decide +kernel) (pa_cons (pv 0) (pa_cons (pe_bltn (v := .ty "bool") (u := .type "bool") (by rfl) T.b_bool (by decide +kernel) rfl) pa_nil))) (pe_callB call_isi (by rfl) T.b_isinstance (by decide +kernel) (pa_cons (pv 1) (pa_cons (pe_bltn (v := .ty "bool") (u := .type "bool") (by rfl) T.b_bool (by decide +kernel) rfl) pa_nil))) (nomark _)) (pe_one (pe_cmpR (op_eqD (u64 hr)) (pv 0) (pv 1) (nomark _)))))))))), fun G => ?_⟩
      obtain ⟨hl, hd⟩ := hp
      refine xs_when (S := ⟨K, fx0, G, H, E⟩) (et_B (ev_isTL (d := .tuple ds) (ev_var rfl))) (fun _ => ?_) fun z => by cases z
      refine xs_when (et_or (et_not (et_B (ev_isTL (d := .tuple ds) (ev_var rfl)))) fun _ => et_B (ev_neD (ev_isList (d := .tuple ds) (ev_var rfl)) (ev_isList (d := .tuple ds) (ev_var rfl)) rfl rfl)) (fun z => ?_) fun _ => ?_
      · rw [eqv_b] at z
        cases z
      refine xs_when (et_B (ev_neI (ev_lenU (ds := ds) (eu_of (ev_var rfl))) (ev_lenU (ds := ds) (eu_of (ev_var rfl))))) (fun z => ?_) fun _ => ?_
      · simp at z
      refine xs_ret (ev_eqD (d := .list ((rngD 0 ds.length).filterMap fun _ => none)) (d' := .list []) (ef_filterMap (im_rng1E (ev_lenU (ds := ds) (eu_of (ev_var rfl))) (by omega)) (by rw [rngD_length]; exact hl) fun d hdm => ?_).evE ev_lst0 (by rw [fm_none]; rfl) rfl) (by rw [fm_none]; rfl)
      obtain ⟨i, x, rfl, hat, hx⟩ := at_rng rfl hdm
      exact ⟨[2], _, by simp, tg_name, et_is (et_not (et_B (ev_callE x (ea_cons (ev_ixT (eu_of (ev_var rfl)) (ev_var rfl) hat) (ea_cons (ev_ixT (eu_of (ev_var rfl)) (ev_var rfl) hat) ea_nil)) (hd x hx)))) rfl, fun y hy => by cases hy⟩
    | dict ds => exact hp.elim
    | none =>
      refine ⟨_, (pss_cons (ps_if (pt_val (pe_callB call_isiT (by rfl) T.b_isinstance (by decide +kernel) (pa_cons (pv 1) (pa_cons (pe_tup (pa_cons (pe_bltn (v := .ty "tuple") (u := .type "tuple") (by rfl) T.b_tuple (by decide +kernel) rfl) (pa_cons (pe_bltn (v := .ty "list") (u := .type "list") (by rfl) T.b_list (by decide +kernel) rfl) pa_nil))) pa_nil)))) (pss_cons (ps_if (PW.pt (pw_or (pt_not (pt_val (pe_callB call_isiT (by rfl) T.b_isinstance (by decide +kernel) (pa_cons (pv 0) (pa_cons (pe_tup (pa_cons (pe_bltn (v := .ty "tuple") (u := .type "tuple") (by rfl) T.b_tuple (by decide +kernel) rfl) (pa_cons (pe_bltn (v := .ty "list") (u := .type "list") (by rfl) T.b_list (by decide +kernel) rfl) pa_nil))) pa_nil))))) (pw_or1 (pt_cmpR (op_neD (u64 hr)) (pe_callB call_isi (by rfl) T.b_isinstance (by decide +kernel) (pa_cons (pv 0) (pa_cons (pe_bltn (v := .ty "list") (u := .type "list") (by rfl) T.b_list (by decide +kernel) rfl) pa_nil))) (pe_callB call_isi (by rfl) T.b_isinstance (by decide +kernel) (pa_cons (pv 1) (pa_cons (pe_bltn (v := .ty "list") (u := .type "list") (by rfl) T.b_list (by decide +kernel) rfl) pa_nil))) (nomark _))))) (pss_one (ps_ret pe_bl)) pss_nil)
      (pss_cons (ps_if (pt_cmpR (op_neD (u64 hr)) (pe_callB call_len_seq (by rfl) T.b_len (by decide +kernel) (pa_cons (pv 0) pa_nil)) (pe_callB call_len_seq (by rfl) T.b_len (by decide +kernel) (pa_cons (pv 1) pa_nil)) (nomark _)) (pss_one (ps_ret pe_bl)) pss_nil)
      (pss_one (ps_ret (pe_cmpR (op_eqD (u64 hr)) (pe_lc (own := [("k", 2)]) (by rfl) sc__law_alike.nd (pi_range1 (by rfl) T.b_range (pa_cons (pe_callB call_len_seq (by rfl) T.b_len (by decide +kernel) (pa_cons (pv 1) pa_nil)) pa_nil)) (blkOk_by (N := ["found", "due", "k", "key"]) (sc := defScope s__law_alike) (own := [("k", 2)]) (by decide +kernel)) (fun _ _ _ _ _ => (pg_name (i := 2) sc__law_alike.nd rfl (Or.inl rfl))) (fun _ _ _ _ _ => (pts_one (pt_not (pt_val (pe_cal c__law_alike hr rfl (pa_cons (pe_ix (r := rIxT K) ix_tup (pv 0) (pv 2) (fun _ _ => rfl)) (pa_cons (pe_ix (r := rIxT K) ix_tup (pv 1) (pv 2) (fun _ _ => rfl)) pa_nil))))))) (fun _ _ _ _ _ => (pv 2))) (pe_lst pa_nil) (nomark _)))))) pss_nil)
      (pss_cons (ps_if (pt_val (pe_callB call_isi (by rfl) T.b_isinstance (by decide +kernel) (pa_cons (pv 1) (pa_cons (pe_bltn (v := .ty "dict") (u := .type "dict") (by rfl) T.b_dict (by decide +kernel) rfl) pa_nil)))) (pss_cons (ps_if (PW.pt (pw_or (pt_not (pt_val (pe_callB call_isi (by rfl) T.b_isinstance (by decide +kernel) (pa_cons (pv 0) (pa_cons (pe_bltn (v := .ty "dict") (u := .type "dict") (by rfl) T.b_dict (by decide +kernel) rfl) pa_nil))))) (pw_or1 (pt_cmpR (op_neD (u64 hr)) (pe_callTy call_list_of (by rfl) T.b_list (by decide +kernel) (pa_cons (pv 0) pa_nil)) (pe_callTy call_list_of (by rfl) T.b_list (by decide +kernel) (pa_cons (pv 1) pa_nil)) (nomark _))))) (pss_one (ps_ret pe_bl)) pss_nil)
      (pss_one (ps_ret (pe_cmpR (op_eqD (u64 hr)) (pe_lc (own := [("key", 3)]) (by rfl) sc__law_alike.nd (pi_list (pv 1)) (blkOk_by (N := ["found", "due", "k", "key"]) (sc := defScope s__law_alike) (own := [("key", 3)]) (by decide +kernel)) (fun _ _ _ _ _ => (pg_name (i := 3) sc__law_alike.nd rfl (Or.inl rfl))) (fun _ _ _ _ _ => (pts_one (pt_not (pt_val (pe_cal c__law_alike hr rfl (pa_cons (pe_ix (r := rIxT K) ix_tup (pv 0) (pv 3) (fun _ _ => rfl)) (pa_cons (pe_ix (r := rIxT K) ix_tup (pv 1) (pv 3) (fun _ _ => rfl)) pa_nil))))))) (fun _ _ _ _ _ => (pv 3))) (pe_lst pa_nil) (nomark _))))) pss_nil)
      (pss_cons (ps_if (PW.pt (pw_or (pt_cmpR op_isN (pv 1) pe_non (nomark _)) (pw_or1 (pt_val (pe_callB call_isi (by rfl) T.b_isinstance (by decide +kernel) (pa_cons (pv 1) (pa_cons (pe_bltn (v := .ty "str") (u := .type "str") (by rfl) T.b_str (by decide +kernel) rfl) pa_nil))))))) (pss_one (ps_ret (pe_and (pe_cmpR (op_eqD (u64 hr)) (pv 0) (pv 1) (nomark _)) (pe_one (pe_cmpR (op_eqD (u64 hr)) (pe_callB call_isi (by rfl) T.b_isinstance (by decide +kernel) (pa_cons (pv 0) (pa_cons (pe_bltn (v := .ty "str") (u := .type "str") (by rfl) T.b_str (by decide +kernel) rfl) pa_nil))) (pe_callB call_isi (by rfl) T.b_isinstance (by decide +kernel) (pa_cons (pv 1) (pa_cons (pe_bltn (v := .ty "str") (u := .type "str") (by rfl) T.b_str (by decide +kernel) rfl) pa_nil))) (nomark _)))))) pss_nil)
      (pss_one (ps_ret (pe_and (pe_callB call_isi (by rfl) T.b_isinstance (by decide +kernel) (pa_cons (pv 0) (pa_cons (pe_bltn (v := .ty "int") (u := .type "int") (by rfl) T.b_int (by decide +kernel) rfl) pa_nil))) (pe_and (pe_cmpR (op_eqD (u64 hr)) (pe_callB call_isi (by rfl) T.b_isinstance (by decide +kernel) (pa_cons (pv 0) (pa_cons (pe_bltn (v := .ty "bool") (u := .type "bool") (by rfl) T.b_bool (by decide +kernel) rfl) pa_nil))) (pe_callB call_isi (by rfl) T.b_isinstance (by decide +kernel) (pa_cons (pv 1) (pa_cons (pe_bltn (v := .ty "bool") (u := .type "bool") (by rfl) T.b_bool (by decide +kernel) rfl) pa_nil))) (nomark _)) (pe_one (pe_cmpR (op_eqD (u64 hr)) (pv 0) (pv 1) (nomark _)))))))))), fun G => ?_⟩
      refine xs_when (S := ⟨K, fx0, G, H, E⟩) (et_B (ev_isTL (d := .none) (ev_var rfl))) (fun z => by cases z) fun _ => ?_
      refine xs_when (et_B (ev_isDict (d := .none) (ev_var rfl))) (fun z => by cases z) fun _ => ?_
      refine xs_when (et_orT (et_B (ev_isN (d := .none) (ev_var rfl)))) (fun _ => ?_) fun z => by cases z
      exact xs_ret (ev_andV (ev_eqD (d := .none) (d' := .none) (ev_var rfl) (ev_var rfl) rfl rfl) fun _ => ev_eqD (ev_isStr (d := .none) (ev_var rfl)) (ev_isStr (d := .none) (ev_var rfl)) rfl rfl) rfl
    | str x =>
      refine ⟨_, (pss_cons (ps_if (pt_val (pe_callB call_isiT (by rfl) T.b_isinstance (by decide +kernel) (pa_cons (pv 1) (pa_cons (pe_tup (pa_cons (pe_bltn (v := .ty "tuple") (u := .type "tuple") (by rfl) T.b_tuple (by decide +kernel) rfl) (pa_cons (pe_bltn (v := .ty "list") (u := .type "list") (by rfl) T.b_list (by decide +kernel) rfl) pa_nil))) pa_nil)))) (pss_cons (ps_if (PW.pt (pw_or (pt_not (pt_val (pe_callB call_isiT (by rfl) T.b_isinstance (by decide +kernel) (pa_cons (pv 0) (pa_cons (pe_tup (pa_cons (pe_bltn (v := .ty "tuple") (u := .type "tuple") (by rfl) T.b_tuple (by decide +kernel) rfl) (pa_cons (pe_bltn (v := .ty "list") (u := .type "list") (by rfl) T.b_list (by decide +kernel) rfl) pa_nil))) pa_nil))))) (pw_or1 (pt_cmpR (op_neD (u64 hr)) (pe_callB call_isi (by rfl) T.b_isinstance (by decide +kernel) (pa_cons (pv 0) (pa_cons (pe_bltn (v := .ty "list") (u := .type "list") (by rfl) T.b_list (by decide +kernel) rfl) pa_nil))) (pe_callB call_isi (by rfl) T.b_isinstance (by decide +kernel) (pa_cons (pv 1) (pa_cons (pe_bltn (v := .ty "list") (u := .type "list") (by rfl) T.b_list (by decide +kernel) rfl) pa_nil))) (nomark _))))) (pss_one (ps_ret pe_bl)) pss_nil)
      (pss_cons (ps_if (pt_cmpR (op_neD (u64 hr)) (pe_callB call_len_seq (by rfl) T.b_len (by decide +kernel) (pa_cons (pv 0) pa_nil)) (pe_callB call_len_seq (by rfl) T.b_len (by decide +kernel) (pa_cons (pv 1) pa_nil)) (nomark _)) (pss_one (ps_ret pe_bl)) pss_nil)
      (pss_one (ps_ret (pe_cmpR (op_eqD (u64 hr)) (pe_lc (own := [("k", 2)]) (by rfl) sc__law_alike.nd (pi_range1 (by rfl) T.b_range (pa_cons (pe_callB call_len_seq (by rfl) T.b_len (by decide +kernel) (pa_cons (pv 1) pa_nil)) pa_nil)) (blkOk_by (N := ["found", "due", "k", "key"]) (sc := defScope s__law_alike) (own := [("k", 2)]) (by decide +kernel)) (fun _ _ _ _ _ => (pg_name (i := 2) sc__law_alike.nd rfl (Or.inl rfl))) (fun _ _ _ _ _ => (pts_one (pt_not (pt_val (pe_cal c__law_alike hr rfl (pa_cons (pe_ix (r := rIxT K) ix_tup (pv 0) (pv 2) (fun _ _ => rfl)) (pa_cons (pe_ix (r := rIxT K) ix_tup (pv 1) (pv 2) (fun _ _ => rfl)) pa_nil))))))) (fun _ _ _ _ _ => (pv 2))) (pe_lst pa_nil) (nomark _)))))) pss_nil)
      (pss_cons (ps_if (pt_val (pe_callB call_isi (by rfl) T.b_isinstance (by decide +kernel) (pa_cons (pv 1) (pa_cons (pe_bltn (v := .ty "dict") (u := .type "dict") (by rfl) T.b_dict (by decide +kernel) rfl) pa_nil)))) (pss_cons (ps_if (PW.pt (pw_or (pt_not (pt_val (pe_callB call_isi (by rfl) T.b_isinstance (by decide +kernel) (pa_cons (pv 0) (pa_cons (pe_bltn (v := .ty "dict") (u := .type "dict") (by rfl) T.b_dict (by decide +kernel) rfl) pa_nil))))) (pw_or1 (pt_cmpR (op_neD (u64 hr)) (pe_callTy call_list_of (by rfl) T.b_list (by decide +kernel) (pa_cons (pv 0) pa_nil)) (pe_callTy call_list_of (by rfl) T.b_list (by decide +kernel) (pa_cons (pv 1) pa_nil)) (nomark _))))) (pss_one (ps_ret pe_bl)) pss_nil)
      (pss_one (ps_ret (pe_cmpR (op_eqD (u64 hr)) (pe_lc (own := [("key", 3)]) (by rfl) sc__law_alike.nd (pi_list (pv 1)) (blkOk_by (N := ["found", "due", "k", "key"]) (sc := defScope s__law_alike) (own := [("key", 3)]) (by decide +kernel)) (fun _ _ _ _ _ => (pg_name (i := 3) sc__law_alike.nd rfl (Or.inl rfl))) (fun _ _ _ _ _ => (pts_one (pt_not (pt_val (pe_cal c__law_alike hr rfl (pa_cons (pe_ix (r := rIxT K) ix_tup (pv 0) (pv 3) (fun _ _ => rfl)) (pa_cons (pe_ix (r := rIxT K) ix_tup (pv 1) (pv 3) (fun _ _ => rfl)) pa_nil))))))) (fun _ _ _ _ _ => (pv 3))) (pe_lst pa_nil) (nomark _))))) pss_nil)
      (pss_cons (ps_if (PW.pt (pw_or (pt_cmpR op_isN (pv 1) pe_non (nomark _)) (pw_or1 (pt_val (pe_callB call_isi (by rfl) T.b_isinstance (by decide +kernel) (pa_cons (pv 1) (pa_cons (pe_bltn (v := .ty "str") (u := .type "str") (by rfl) T.b_str (by decide +kernel) rfl) pa_nil))))))) (pss_one (ps_ret (pe_and (pe_cmpR (op_eqD (u64 hr)) (pv 0) (pv 1) (nomark _)) (pe_one (pe_cmpR (op_eqD (u64 hr)) (pe_callB call_isi (by rfl) T.b_isinstance (by decide +kernel) (pa_cons (pv 0) (pa_cons (pe_bltn (v := .ty "str") (u := .type "str") (by rfl) T.b_str (by decide +kernel) rfl) pa_nil))) (pe_callB call_isi (by rfl) T.b_isinstance (by decide +kernel) (pa_cons (pv 1) (pa_cons (pe_bltn (v := .ty "str") (u := .type "str") (by rfl) T.b_str (by decide +kernel) rfl) pa_nil))) (nomark _)))))) pss_nil)
      (pss_one (ps_ret (pe_and (pe_callB call_isi (by rfl) T.b_isinstance (by decide +kernel) (pa_cons (pv 0) (pa_cons (pe_bltn (v := .ty "int") (u := .type "int") (by rfl) T.b_int (by decide +kernel) rfl) pa_nil))) (pe_and (pe_cmpR (op_eqD (u64 hr)) (pe_callB call_isi (by rfl) T.b_isinstance (by decide +kernel) (pa_cons (pv 0) (pa_cons (pe_bltn (v := .ty "bool") (u := .type "bool") (by rfl) T.b_bool (by decide +kernel) rfl) pa_nil))) (pe_callB call_isi (by rfl) T.b_isinstance (by decide +kernel) (pa_cons (pv 1) (pa_cons (pe_bltn (v := .ty "bool") (u := .type "bool") (by rfl) T.b_bool (by decide +kernel) rfl) pa_nil))) (nomark _)) (pe_one (pe_cmpR (op_eqD (u64 hr)) (pv 0) (pv 1) (nomark _)))))))))), fun G => ?_⟩
      refine xs_when (S := ⟨K, fx0, G, H, E⟩) (et_B (ev_isTL (d := .str x) (ev_var rfl))) (fun z => by cases z) fun _ => ?_
      refine xs_when (et_B (ev_isDict (d := .str x) (ev_var rfl))) (fun z => by cases z) fun _ => ?_
      refine xs_when (et_or (et_B (ev_isN (d := .str x) (ev_var rfl))) fun _ => et_B (ev_isStr (d := .str x) (ev_var rfl))) (fun _ => ?_) fun z => by cases z
      exact xs_ret (ev_andV (ev_eqD (d := .str x) (d' := .str x) (ev_var rfl) (ev_var rfl) hp hp) fun _ => ev_eqD (ev_isStr (d := .str x) (ev_var rfl)) (ev_isStr (d := .str x) (ev_var rfl)) rfl rfl) (by rw [eqv_s, eqv_b]; rfl)
    | int i =>
      refine ⟨_, (pss_cons (ps_if (pt_val (pe_callB call_isiT (by rfl) T.b_isinstance (by decide +kernel) (pa_cons (pv 1) (pa_cons (pe_tup (pa_cons (pe_bltn (v := .ty "tuple") (u := .type "tuple") (by rfl) T.b_tuple (by decide +kernel) rfl) (pa_cons (pe_bltn (v := .ty "list") (u := .type "list") (by rfl) T.b_list (by decide +kernel) rfl) pa_nil))) pa_nil)))) (pss_cons (ps_if (PW.pt (pw_or (pt_not (pt_val (pe_callB call_isiT (by rfl) T.b_isinstance (by decide +kernel) (pa_cons (pv 0) (pa_cons (pe_tup (pa_cons (pe_bltn (v := .ty "tuple") (u := .type "tuple") (by rfl) T.b_tuple (by decide +kernel) rfl) (pa_cons (pe_bltn (v := .ty "list") (u := .type "list") (by rfl) T.b_list (by decide +kernel) rfl) pa_nil))) pa_nil))))) (pw_or1 (pt_cmpR (op_neD (u64 hr)) (pe_callB call_isi (by rfl) T.b_isinstance (by decide +kernel) (pa_cons (pv 0) (pa_cons (pe_bltn (v := .ty "list") (u := .type "list") (by rfl) T.b_list (by decide +kernel) rfl) pa_nil))) (pe_callB call_isi (by rfl) T.b_isinstance (by decide +kernel) (pa_cons (pv 1) (pa_cons (pe_bltn (v := .ty "list") (u := .type "list") (by rfl) T.b_list (by decide +kernel) rfl) pa_nil))) (nomark _))))) (pss_one (ps_ret pe_bl)) pss_nil)
      (pss_cons (ps_if (pt_cmpR (op_neD (u64 hr)) (pe_callB call_len_seq (by rfl) T.b_len (by decide +kernel) (pa_cons (pv 0) pa_nil)) (pe_callB call_len_seq (by rfl) T.b_len (by decide +kernel) (pa_cons (pv 1) pa_nil)) (nomark _)) (pss_one (ps_ret pe_bl)) pss_nil)
      (pss_one (ps_ret (pe_cmpR (op_eqD (u64 hr)) (pe_lc (own := [("k", 2)]) (by rfl) sc__law_alike.nd (pi_range1 (by rfl) T.b_range (pa_cons (pe_callB call_len_seq (by rfl) T.b_len (by decide +kernel) (pa_cons (pv 1) pa_nil)) pa_nil)) (blkOk_by (N := ["found", "due", "k", "key"]) (sc := defScope s__law_alike) (own := [("k", 2)]) (by decide +kernel)) (fun _ _ _ _ _ => (pg_name (i := 2) sc__law_alike.nd rfl (Or.inl rfl))) (fun _ _ _ _ _ => (pts_one (pt_not (pt_val (pe_cal c__law_alike hr rfl (pa_cons (pe_ix (r := rIxT K) ix_tup (pv 0) (pv 2) (fun _ _ => rfl)) (pa_cons (pe_ix (r := rIxT K) ix_tup (pv 1) (pv 2) (fun _ _ => rfl)) pa_nil))))))) (fun _ _ _ _ _ => (pv 2))) (pe_lst pa_nil) (nomark _)))))) pss_nil)
      (pss_cons (ps_if (pt_val (pe_callB call_isi (by rfl) T.b_isinstance (by decide +kernel) (pa_cons (pv 1) (pa_cons (pe_bltn (v := .ty "dict") (u := .type "dict") (by rfl) T.b_dict (by decide +kernel) rfl) pa_nil)))) (pss_cons (ps_if (PW.pt (pw_or (pt_not (pt_val (pe_callB call_isi (by rfl) T.b_isinstance (by decide +kernel) (pa_cons (pv 0) (pa_cons (pe_bltn (v := .ty "dict") (u := .type "dict") (by rfl) T.b_dict (by decide +kernel) rfl) pa_nil))))) (pw_or1 (pt_cmpR (op_neD (u64 hr)) (pe_callTy call_list_of (by rfl) T.b_list (by decide +kernel) (pa_cons (pv 0) pa_nil)) (pe_callTy call_list_of (by rfl) T.b_list (by decide +kernel) (pa_cons (pv 1) pa_nil)) (nomark _))))) (pss_one (ps_ret pe_bl)) pss_nil)
      (pss_one (ps_ret (pe_cmpR (op_eqD (u64 hr)) (pe_lc (own := [("key", 3)]) (by rfl) sc__law_alike.nd (pi_list (pv 1)) (blkOk_by (N := ["found", "due", "k", "key"]) (sc := defScope s__law_alike) (own := [("key", 3)]) (by decide +kernel)) (fun _ _ _ _ _ => (pg_name (i := 3) sc__law_alike.nd rfl (Or.inl rfl))) (fun _ _ _ _ _ => (pts_one (pt_not (pt_val (pe_cal c__law_alike hr rfl (pa_cons (pe_ix (r := rIxT K) ix_tup (pv 0) (pv 3) (fun _ _ => rfl)) (pa_cons (pe_ix (r := rIxT K) ix_tup (pv 1) (pv 3) (fun _ _ => rfl)) pa_nil))))))) (fun _ _ _ _ _ => (pv 3))) (pe_lst pa_nil) (nomark _))))) pss_nil)
      (pss_cons (ps_if (PW.pt (pw_or (pt_cmpR op_isN (pv 1) pe_non (nomark _)) (pw_or1 (pt_val (pe_callB call_isi (by rfl) T.b_isinstance (by decide +kernel) (pa_cons (pv 1) (pa_cons (pe_bltn (v := .ty "str") (u := .type "str") (by rfl) T.b_str (by decide +kernel) rfl) pa_nil))))))) (pss_one (ps_ret (pe_and (pe_cmpR (op_eqD (u64 hr)) (pv 0) (pv 1) (nomark _)) (pe_one (pe_cmpR (op_eqD (u64 hr)) (pe_callB call_isi (by rfl) T.b_isinstance (by decide +kernel) (pa_cons (pv 0) (pa_cons (pe_bltn (v := .ty "str") (u := .type "str") (by rfl) T.b_str (by decide +kernel) rfl) pa_nil))) (pe_callB call_isi (by rfl) T.b_isinstance (by decide +kernel) (pa_cons (pv 1) (pa_cons (pe_bltn (v := .ty "str") (u := .type "str") (by rfl) T.b_str (by decide +kernel) rfl) pa_nil))) (nomark _)))))) pss_nil)
      (pss_one (ps_ret (pe_and (pe_callB call_isi (by rfl) T.b_isinstance (by decide +kernel) (pa_cons (pv 0) (pa_cons (pe_bltn (v := .ty "int") (u := .type "int") (by rfl) T.b_int (by decide +kernel) rfl) pa_nil))) (pe_and (pe_cmpR (op_eqD (u64 hr)) (pe_callB call_isi (by rfl) T.b_isinstance (by decide +kernel) (pa_cons (pv 0) (pa_cons (pe_bltn (v := .ty "bool") (u := .type "bool") (by rfl) T.b_bool (by decide +kernel) rfl) pa_nil))) (pe_callB call_isi (by rfl) T.b_isinstance (by decide +kernel) (pa_cons (pv 1) (pa_cons (pe_bltn (v := .ty "bool") (u := .type "bool") (by rfl) T.b_bool (by decide +kernel) rfl) pa_nil))) (nomark _)) (pe_one (pe_cmpR (op_eqD (u64 hr)) (pv 0) (pv 1) (nomark _)))))))))), fun G => ?_⟩
      refine xs_when (S := ⟨K, fx0, G, H, E⟩) (et_B (ev_isTL (d := .int i) (ev_var rfl))) (fun z => by cases z) fun _ => ?_
      refine xs_when (et_B (ev_isDict (d := .int i) (ev_var rfl))) (fun z => by cases z) fun _ => ?_
      refine xs_when (et_or (et_B (ev_isN (d := .int i) (ev_var rfl))) fun _ => et_B (ev_isStr (d := .int i) (ev_var rfl))) (fun z => by cases z) fun _ => ?_
      exact xc_retB (ev_andV (ev_isInt (d := .int i) (ev_var rfl)) fun _ => ev_andV (ev_eqD (ev_isBool (d := .int i) (ev_var rfl)) (ev_isBool (d := .int i) (ev_var rfl)) rfl rfl) fun _ => ev_eqI (ev_var rfl) (ev_var rfl)) (by rw [eqv_b]; simp [dInt, dBool])
    | bool b =>
      refine ⟨_, (pss_cons (ps_if (pt_val (pe_callB call_isiT (by rfl) T.b_isinstance (by decide +kernel) (pa_cons (pv 1) (pa_cons (pe_tup (pa_cons (pe_bltn (v := .ty "tuple") (u := .type "tuple") (by rfl) T.b_tuple (by decide +kernel) rfl) (pa_cons (pe_bltn (v := .ty "list") (u := .type "list") (by rfl) T.b_list (by decide +kernel) rfl) pa_nil))) pa_nil)))) (pss_cons (ps_if (PW.pt (pw_or (pt_not (pt_val (pe_callB call_isiT (by rfl) T.b_isinstance (by decide +kernel) (pa_cons (pv 0) (pa_cons (pe_tup (pa_cons (pe_bltn (v := .ty "tuple") (u := .type "tuple") (by rfl) T.b_tuple (by decide +kernel) rfl) (pa_cons (pe_bltn (v := .ty "list") (u := .type "list") (by rfl) T.b_list (by decide +kernel) rfl) pa_nil))) pa_nil))))) (pw_or1 (pt_cmpR (op_neD (u64 hr)) (pe_callB call_isi (by rfl) T.b_isinstance (by decide +kernel) (pa_cons (pv 0) (pa_cons (pe_bltn (v := .ty "list") (u := .type "list") (by rfl) T.b_list (by decide +kernel) rfl) pa_nil))) (pe_callB call_isi (by rfl) T.b_isinstance (by decide +kernel) (pa_cons (pv 1) (pa_cons (pe_bltn (v := .ty "list") (u := .type "list") (by rfl) T.b_list (by decide +kernel) rfl) pa_nil))) (nomark _))))) (pss_one (ps_ret pe_bl)) pss_nil)
      (pss_cons (ps_if (pt_cmpR (op_neD (u64 hr)) (pe_callB call_len_seq (by rfl) T.b_len (by decide +kernel) (pa_cons (pv 0) pa_nil)) (pe_callB call_len_seq (by rfl) T.b_len (by decide +kernel) (pa_cons (pv 1) pa_nil)) (nomark _)) (pss_one (ps_ret pe_bl)) pss_nil)
      (pss_one (ps_ret (pe_cmpR (op_eqD (u64 hr)) (pe_lc (own := [("k", 2)]) (by rfl) sc__law_alike.nd (pi_range1 (by rfl) T.b_range (pa_cons (pe_callB call_len_seq (by rfl) T.b_len (by decide +kernel) (pa_cons (pv 1) pa_nil)) pa_nil)) (blkOk_by (N := ["found", "due", "k", "key"]) (sc := defScope s__law_alike) (own := [("k", 2)]) (by decide +kernel)) (fun _ _ _ _ _ => (pg_name (i := 2) sc__law_alike.nd rfl (Or.inl rfl))) (fun _ _ _ _ _ => (pts_one (pt_not (pt_val (pe_cal c__law_alike hr rfl (pa_cons (pe_ix (r := rIxT K) ix_tup (pv 0) (pv 2) (fun _ _ => rfl)) (pa_cons (pe_ix (r := rIxT K) ix_tup (pv 1) (pv 2) (fun _ _ => rfl)) pa_nil))))))) (fun _ _ _ _ _ => (pv 2))) (pe_lst pa_nil) (nomark _)))))) pss_nil)
      (pss_cons (ps_if (pt_val (pe_callB call_isi (by rfl) T.b_isinstance (by decide +kernel) (pa_cons (pv 1) (pa_cons (pe_bltn (v := .ty "dict") (u := .type "dict") (by rfl) T.b_dict (by decide +kernel) rfl) pa_nil)))) (pss_cons (ps_if (PW.pt (pw_or (pt_not (pt_val (pe_callB call_isi (by rfl) T.b_isinstance (by decide +kernel) (pa_cons (pv 0) (pa_cons (pe_bltn (v := .ty "dict") (u := .type "dict") (by rfl) T.b_dict (by decide +kernel) rfl) pa_nil))))) (pw_or1 (pt_cmpR (op_neD (u64 hr)) (pe_callTy call_list_of (by rfl) T.b_list (by decide +kernel) (pa_cons (pv 0) pa_nil)) (pe_callTy call_list_of (by rfl) T.b_list (by decide +kernel) (pa_cons (pv 1) pa_nil)) (nomark _))))) (pss_one (ps_ret pe_bl)) pss_nil)
      (pss_one (ps_ret (pe_cmpR (op_eqD (u64 hr)) (pe_lc (own := [("key", 3)]) (by rfl) sc__law_alike.nd (pi_list (pv 1)) (blkOk_by (N := ["found", "due", "k", "key"]) (sc := defScope s__law_alike) (own := [("key", 3)]) (by decide +kernel)) (fun _ _ _ _ _ => (pg_name (i := 3) sc__law_alike.nd rfl (Or.inl rfl))) (fun _ _ _ _ _ => (pts_one (pt_not (pt_val (pe_cal c__law_alike hr rfl (pa_cons (pe_ix (r := rIxT K) ix_tup (pv 0) (pv 3) (fun _ _ => rfl)) (pa_cons (pe_ix (r := rIxT K) ix_tup (pv 1) (pv 3) (fun _ _ => rfl)) pa_nil))))))) (fun _ _ _ _ _ => (pv 3))) (pe_lst pa_nil) (nomark _))))) pss_nil)
      (pss_cons (ps_if (PW.pt (pw_or (pt_cmpR op_isN (pv 1) pe_non (nomark _)) (pw_or1 (pt_val (pe_callB call_isi (by rfl) T.b_isinstance (by decide +kernel) (pa_cons (pv 1) (pa_cons (pe_bltn (v := .ty "str") (u := .type "str") (by rfl) T.b_str (by decide +kernel) rfl) pa_nil))))))) (pss_one (ps_ret (pe_and (pe_cmpR (op_eqD (u64 hr)) (pv 0) (pv 1) (nomark _)) (pe_one (pe_cmpR (op_eqD (u64 hr)) (pe_callB call_isi (by rfl) T.b_isinstance (by decide +kernel) (pa_cons (pv 0) (pa_cons (pe_bltn (v := .ty "str") (u := .type "str") (by rfl) T.b_str (by decide +kernel) rfl) pa_nil))) (pe_callB call_isi (by rfl) T.b_isinstance (by decide +kernel) (pa_cons (pv 1) (pa_cons (pe_bltn (v := .ty "str") (u := .type "str") (by rfl) T.b_str (by decide +kernel) rfl) pa_nil))) (nomark _)))))) pss_nil)
      (pss_one (ps_ret (pe_and (pe_callB call_isi (by rfl) T.b_isinstance (by decide +kernel) (pa_cons (pv 0) (pa_cons (pe_bltn (v := .ty "int") (u := .type "int") (by rfl) T.b_int (by decide +kernel) rfl) pa_nil))) (pe_and (pe_cmpR (op_eqD (u64 hr)) (pe_callB call_isi (by rfl) T.b_isinstance (by decide +kernel) (pa_cons (pv 0) (pa_cons (pe_bltn (v := .ty "bool") (u := .type "bool") (by rfl) T.b_bool (by decide +kernel) rfl) pa_nil))) (pe_callB call_isi (by rfl) T.b_isinstance (by decide +kernel) (pa_cons (pv 1) (pa_cons (pe_bltn (v := .ty "bool") (u := .type "bool") (by rfl) T.b_bool (by decide +kernel) rfl) pa_nil))) (nomark _)) (pe_one (pe_cmpR (op_eqD (u64 hr)) (pv 0) (pv 1) (nomark _)))))))))), fun G => ?_⟩
      refine xs_when (S := ⟨K, fx0, G, H, E⟩) (et_B (ev_isTL (d := .bool b) (ev_var rfl))) (fun z => by cases z) fun _ => ?_
      refine xs_when (et_B (ev_isDict (d := .bool b) (ev_var rfl))) (fun z => by cases z) fun _ => ?_
      refine xs_when (et_or (et_B (ev_isN (d := .bool b) (ev_var rfl))) fun _ => et_B (ev_isStr (d := .bool b) (ev_var rfl))) (fun z => by cases z) fun _ => ?_
      exact xc_retB (ev_andV (ev_isInt (d := .bool b) (ev_var rfl)) fun _ => ev_andV (ev_eqD (ev_isBool (d := .bool b) (ev_var rfl)) (ev_isBool (d := .bool b) (ev_var rfl)) rfl rfl) fun _ => ev_eqD (ev_var rfl) (ev_var rfl) rfl rfl) (by rw [eqv_b, eqv_b]; simp [dInt, dBool])

end
end K10

set_option Elab.async false
set_option linter.all false
set_option maxRecDepth 100000
set_option maxHeartbeats 4000000
namespace K10
open PySem PySem.Spec PyProof.Rows L2 Dl
section
variable {P : Program} {w : World} {K : PySem.W.Frag} {mg : Str → Option Value} {base : Heap} {C1 C2 C3 fI aN : Addr} (T : Tx P w K mg base C1 C2 C3 fI aN)
/-! ### many turns -/
theorem fold_ok : ∀ (l : List T3) (z : T3) (n : Nat), (∀ t ∈ l, Trn t ∧ Sz 21 t) → In0 z → Sz n z → In0 (l.foldl add z) ∧ Sz (n + 22 * l.length) (l.foldl add z)
  | [], z, n, _, h0, h1 => ⟨h0, h1⟩
  | t :: l, z, n, h, h0, h1 => by
    have ht := h t List.mem_cons_self
    have h2 := fold_ok l (add z t) (n + 21 + 1) (fun s hs => h s (List.mem_cons_of_mem _ hs)) (add_trn h0 ht.1.in0).in0 (add_sz h0 ht.1.in0 h1 ht.2)
    refine ⟨h2.1, ?_⟩
    have e : n + 22 * (t :: l).length = n + 21 + 1 + 22 * l.length := by
      rw [List.length_cons]
      omega
    rw [e]
    exact h2.2
def t0 : T3 := (0, 1, 0)
theorem t0_trn : Trn t0 := ⟨by decide, by decide, gg_zero (by decide)⟩
theorem t0_sz : Sz 1 t0 := ⟨by decide, by decide⟩
theorem take_succ_fold (l : List T3) {i : Nat} {t : T3} (h : l[i]? = some t) : (l.take (i + 1)).foldl add t0 = add ((l.take i).foldl add t0) t := by
  rw [List.take_add_one, h, List.foldl_append]
  rfl
include T
theorem ev_none {S : Cf} {ρ : Rho} (hK : S.K = K) : Ev S (tC (.ref aN)) ρ (Eq (.dat (dT t0))) := ev_cst fun G => by
  rw [hK]
  exact .tup (sameT (fun a o e => by cases e) T.n_NONE) (.cons (.int _) (.cons (.int _) (.cons (.int _) .nil)))
theorem c_told_whole : Cal P w K mg base 3 "told_whole" ["turns"] (spI K fx0 (fun i : Bool × List T3 => [.dat (if i.1 then .list (i.2.map dT) else .tuple (i.2.map dT))]) (fun i => i.2.length ≤ 6 ∧ ∀ t ∈ i.2, Trn t ∧ Sz 21 t) (fun i => Eq (.ok (.dat (dT (i.2.foldl add t0)))))) := by
  have c_told_sum := c_told_sum T
  refine mk_cal T.d_told_whole sc_told_whole (fun _ => rfl) (fun _ _ _ _ _ _ us hl => match us, hl with | [_], _ => rfl) (fun f cdv A outer s H E hr i hp => ?_)
  obtain ⟨b, l⟩ := i
  obtain ⟨hl, hd⟩ := hp
  have hl : l.length ≤ 6 := hl
  have key : ∀ {G : Hp} {d : D} {k : Nat} {x : D} {ρ1 : Rho}, (l.map dT)[k]? = some x → (∃ s, ρ1 = [.dat d, .dat (dT ((l.take k).foldl add t0)), s]) → ∃ js ρ2, Tgt ⟨K, fx0, G, H, E⟩ (gName 2) js x ρ1 ρ2 ∧ ∀ P, (∃ s, [.dat d, .dat (dT ((l.take (k + 1)).foldl add t0)), s] = ρ2.set 1 (.dat (dT ((l.take (k + 1)).foldl add t0)))) ∧
      (P (.nx (ρ2.set 1 (.dat (dT ((l.take (k + 1)).foldl add t0))))) → Xc ⟨K, fx0, G, H, E⟩ (tAsg (tCall (spI K fx0 (fun i : T3 × T3 => [.dat (dT i.1), .dat (dT i.2)]) (fun i => In0 i.1 ∧ In0 i.2 ∧ ∃ n m, n + m < 4000 ∧ Sz n i.1 ∧ Sz m i.2) (fun i => Eq (.ok (.dat (dT (add i.1 i.2)))))) [] E0 (tCons (tVar 1) (tCons (tVar 2) tNil))) (gName 1)) ρ2 P) := by
    rintro G d k x ρ1 hx ⟨s, rfl⟩
    rw [List.getElem?_map] at hx
    obtain ⟨t, ht, rfl⟩ := Option.map_eq_some_iff.mp hx
    refine ⟨[2], _, tg_name, fun P => ⟨⟨_, rfl⟩, fun hP => ?_⟩⟩
    have hm : t ∈ l := List.mem_of_getElem? ht
    have hf := fold_ok (l.take k) t0 1 (fun y hy => hd y (List.mem_of_mem_take hy)) t0_trn.in0 t0_sz
    have hk : (l.take k).length ≤ 6 := by
      rw [List.length_take]
      omega
    rw [take_succ_fold l ht] at hP
    exact xc_asg (ev_callE ((l.take k).foldl add t0, t) (ea_cons (ev_var rfl) (ea_cons (ev_var rfl) ea_nil)) ⟨hf.1, (hd t hm).1.in0, _, 21, by omega, hf.2, (hd t hm).2⟩) hP
  cases b with
  | true =>
    refine ⟨_, (pss_cons (ps_set (i := 1) sc_told_whole.nd rfl (Or.inl rfl) (pe_gref rfl T.k_NONE))
      (pss_cons (ps_for (passes_of rfl) rfl (pi_list (pv 0)) (pg_name (i := 2) sc_told_whole.nd rfl (Or.inl rfl)) (pss_one (ps_set (i := 1) sc_told_whole.nd rfl (Or.inl rfl) (pe_cal c_told_sum (hr.mono (by decide)) rfl (pa_cons (pv 1) (pa_cons (pv 2) pa_nil))))))
      (pss_one (ps_ret (pv 1))))), fun G => ?_⟩
    refine xs_asg (S := ⟨K, fx0, G, H, E⟩) (ev_none T rfl) ?_
    refine xs_for (im_listE (ds := l.map dT) (ev_var rfl)) (fun k ρ => ∃ s, ρ = [.dat (.list (l.map dT)), .dat (dT ((l.take k).foldl add t0)), s]) ⟨_, rfl⟩ (fun k d ρ1 hd' hI => ?_) (fun ρ1 hI => ?_)
    · obtain ⟨js, ρ2, h1, h2⟩ := key (G := G) hd' hI
      obtain ⟨⟨s, es⟩, h3⟩ := h2 _
      exact ⟨js, ρ2, h1, h3 ⟨s, es.symm⟩⟩
    · obtain ⟨s, rfl⟩ := hI
      exact xc_ret (ev_var rfl) (by rw [List.length_map, List.take_length]; rfl)
  | false =>
    refine ⟨_, (pss_cons (ps_set (i := 1) sc_told_whole.nd rfl (Or.inl rfl) (pe_gref rfl T.k_NONE))
      (pss_cons (ps_for (passes_of rfl) rfl (pi_tup (pv 0)) (pg_name (i := 2) sc_told_whole.nd rfl (Or.inl rfl)) (pss_one (ps_set (i := 1) sc_told_whole.nd rfl (Or.inl rfl) (pe_cal c_told_sum (hr.mono (by decide)) rfl (pa_cons (pv 1) (pa_cons (pv 2) pa_nil))))))
      (pss_one (ps_ret (pv 1))))), fun G => ?_⟩
    refine xs_asg (S := ⟨K, fx0, G, H, E⟩) (ev_none T rfl) ?_
    refine xs_for (im_tupE (ds := l.map dT) (ev_var rfl)) (fun k ρ => ∃ s, ρ = [.dat (.tuple (l.map dT)), .dat (dT ((l.take k).foldl add t0)), s]) ⟨_, rfl⟩ (fun k d ρ1 hd' hI => ?_) (fun ρ1 hI => ?_)
    · obtain ⟨js, ρ2, h1, h2⟩ := key (G := G) hd' hI
      obtain ⟨⟨s, es⟩, h3⟩ := h2 _
      exact ⟨js, ρ2, h1, h3 ⟨s, es.symm⟩⟩
    · obtain ⟨s, rfl⟩ := hI
      exact xc_ret (ev_var rfl) (by rw [List.length_map, List.take_length]; rfl)
/-! ### sum_turns -/
omit T in
def rows : D → Option (Bool × List D)
  | .list ds => some (true, ds)
  | .tuple ds => some (false, ds)
  | _ => none
/-- the first that is no turn -/
def fb : Nat → List D → Option Nat
  | _, [] => none
  | k, d :: ds => if isTurn d then fb (k + 1) ds else some k
omit T in
theorem fb_at : ∀ (ds : List D) (k i : Nat) (d : D), (∀ x ∈ ds.take i, isTurn x = true) → ds[i]? = some d → isTurn d = false → fb k ds = some (k + i)
  | [], k, i, d, _, h, _ => by simp at h
  | x :: ds, k, 0, d, _, h, hd => by
    simp only [List.getElem?_cons_zero, Option.some.injEq] at h
    subst h
    unfold fb
    rw [hd]
    rfl
  | x :: ds, k, i + 1, d, ha, h, hd => by
    have hx : isTurn x = true := ha x (by simp)
    unfold fb
    rw [hx, if_pos rfl, fb_at ds (k + 1) i d (fun y hy => ha y (by simp [hy])) (by simpa using h) hd]
    congr 1
    omega
omit T in
theorem fb_none : ∀ (ds : List D) (k : Nat), (∀ x ∈ ds, isTurn x = true) → fb k ds = none
  | [], _, _ => rfl
  | x :: ds, k, h => by
    unfold fb
    rw [h x List.mem_cons_self, if_pos rfl, fb_none ds (k + 1) fun y hy => h y (List.mem_cons_of_mem _ hy)]
def sumR (C3 : Addr) (d : D) : Re := match rows d with
  | none => .ex C3 (.int (-1))
  | some (_, ds) => if 100 < ds.length then .ex C3 (.int (-1)) else match fb 0 ds with
    | some k => .ex C3 (.int (k : Nat))
    | none => .ok (.dat (dT ((ds.map tr).foldl add t0)))
omit T in
theorem all_dT {ds : List D} (h : ∀ x ∈ ds, isTurn x = true) : ds = (ds.map tr).map dT := by
  rw [List.map_map]
  conv => lhs; rw [← List.map_id ds]
  exact List.map_congr_left fun x hx => (isTurn_tr (h x hx)).1
theorem c_sum_turns : Cal P w K mg base 4 "sum_turns" ["turns"] (spI K fx0 (fun d : D => [.dat d]) (fun d => ∀ b ds, rows d = some (b, ds) → (∀ x ∈ ds, isTurn x = true) → ds.length ≤ 100 → ds.length ≤ 6 ∧ ∀ x ∈ ds, Sz 21 (tr x)) (fun d => Eq (sumR C3 d))) := by
  have c_told_whole := c_told_whole T
  have c_is_turn := c_is_turn T
  have c_is_row := c_is_row T
  refine mk_cal T.d_sum_turns sc_sum_turns (fun _ => rfl) (fun _ _ _ _ _ _ us hl => match us, hl with | [_], _ => rfl) (fun f cdv A outer s H E hr d hp => ?_)
  cases hd : rows d with
  | none =>
    refine ⟨_, (pss_cons (ps_if (PW.pt (pw_or (pt_not (pt_val (pe_cal c_is_row (hr.mono (by decide)) rfl (pa_cons (pv 0) pa_nil)))) (pw_or1 (pt_cmpR op_gt (pe_callB call_len_seq (by rfl) T.b_len (by decide +kernel) (pa_cons (pv 0) pa_nil)) (pe_gint rfl T.k_MOST_TURNS) (nomark _))))) (pss_one (ps_err (k := 0) T.e_BadTurns T.ini rfl (hr.mono (by decide)) rfl (takes_of rfl rfl rfl rfl) (pe_un un_neg pe_int))) pss_nil)
      (pss_cons (ps_for (passes_of rfl) rfl (pi_enum (by rfl) T.b_enumerate (pa_cons (pv 0) pa_nil)) (pg_tup (by rfl) (pgs_cons (pg_name (i := 1) sc_sum_turns.nd rfl (Or.inl rfl)) (pgs_cons (pg_name (i := 2) sc_sum_turns.nd rfl (Or.inl rfl)) pgs_nil))) (pss_one (ps_if (pt_not (pt_val (pe_cal c_is_turn (hr.mono (by decide)) rfl (pa_cons (pv 2) pa_nil)))) (pss_one (ps_err (k := 0) T.e_BadTurns T.ini rfl (hr.mono (by decide)) rfl (takes_of rfl rfl rfl rfl) (pv 1))) pss_nil)))
      (pss_one (ps_ret (pe_cal c_told_whole (hr.mono (by decide)) rfl (pa_cons (pv 0) pa_nil)))))), fun G => ?_⟩
    have e : sumR C3 d = .ex C3 (.int (-1)) := by
      unfold sumR
      rw [hd]
    have er : (dList d || dTuple d) = false := by
      revert hd
      cases d <;> simp [rows, dList, dTuple]
    rw [e]
    exact xs_when (S := ⟨K, fx0, G, H, E⟩) (b := true) (et_orT ((et_not (et_B (ev_callE d (ea_cons (ev_var rfl) ea_nil) True.intro))).imp fun b hb => by rw [← hb, er]; rfl)) (fun _ => xc_raise T.e_BadTurns.oex T.e_BadTurns.nv (ev_neg ev_int) rfl) fun z => by cases z
  | some q =>
    obtain ⟨b, ds⟩ := q
    have hq := hp b ds hd
    clear hp
    have e : sumR C3 d = (if 100 < ds.length then .ex C3 (.int (-1)) else match fb 0 ds with
      | some k => .ex C3 (.int (k : Nat))
      | none => .ok (.dat (dT ((ds.map tr).foldl add t0)))) := by
      unfold sumR
      rw [hd]
    cases b with
    | true =>
      obtain rfl : d = .list ds := by
        revert hd
        cases d <;> simp [rows]
      refine ⟨_, (pss_cons (ps_if (PW.pt (pw_or (pt_not (pt_val (pe_cal c_is_row (hr.mono (by decide)) rfl (pa_cons (pv 0) pa_nil)))) (pw_or1 (pt_cmpR op_gt (pe_callB call_len_seq (by rfl) T.b_len (by decide +kernel) (pa_cons (pv 0) pa_nil)) (pe_gint rfl T.k_MOST_TURNS) (nomark _))))) (pss_one (ps_err (k := 0) T.e_BadTurns T.ini rfl (hr.mono (by decide)) rfl (takes_of rfl rfl rfl rfl) (pe_un un_neg pe_int))) pss_nil)
      (pss_cons (ps_for (passes_of rfl) rfl (pi_enum (by rfl) T.b_enumerate (pa_cons (pv 0) pa_nil)) (pg_tup (by rfl) (pgs_cons (pg_name (i := 1) sc_sum_turns.nd rfl (Or.inl rfl)) (pgs_cons (pg_name (i := 2) sc_sum_turns.nd rfl (Or.inl rfl)) pgs_nil))) (pss_one (ps_if (pt_not (pt_val (pe_cal c_is_turn (hr.mono (by decide)) rfl (pa_cons (pv 2) pa_nil)))) (pss_one (ps_err (k := 0) T.e_BadTurns T.ini rfl (hr.mono (by decide)) rfl (takes_of rfl rfl rfl rfl) (pv 1))) pss_nil)))
      (pss_one (ps_ret (pe_cal c_told_whole (hr.mono (by decide)) rfl (pa_cons (pv 0) pa_nil)))))), fun G => ?_⟩
      rw [e]
      refine xs_when (S := ⟨K, fx0, G, H, E⟩) (et_or (et_not (et_B (ev_callE (.list ds) (ea_cons (ev_var rfl) ea_nil) True.intro))) fun _ => et_B (ev_C0 (ev_lenL (ds := ds) (el_of (ev_var rfl))) ev_int)) (fun z => ?_) fun z => ?_
      · have hl : 100 < ds.length := by
          have z' : ((ds.length : Nat) : Int) > 100 := by simpa [dList, dTuple] using z
          omega
        rw [if_pos hl]
        exact xc_raise T.e_BadTurns.oex T.e_BadTurns.nv (ev_neg ev_int) rfl
      · have hl : ¬ 100 < ds.length := by
          have z' : ¬ ((ds.length : Nat) : Int) > 100 := by simpa [dList, dTuple] using z
          omega
        rw [if_neg hl]
        refine xs_for (im_enumL (ds := ds) (ev_var rfl)) (fun k ρ => ∃ s s', ρ = [.dat (.list ds), s, s'] ∧ ∀ x ∈ ds.take k, isTurn x = true) ⟨_, _, rfl, by simp⟩ (fun k d ρ1 hd' hI => ?_) (fun ρ1 hI => ?_)
        · obtain ⟨s1, s2, rfl, ha⟩ := hI
          obtain ⟨x, hx, rfl⟩ := enumD_get hd'
          refine ⟨_, _, tg_two, ?_⟩
          refine xc_if (et_not (et_B (ev_callE x (ea_cons (ev_var rfl) ea_nil) True.intro))) (fun z => ?_) fun z => ?_
          · have hz : isTurn x = false := by simpa using z
            refine xc_raise T.e_BadTurns.oex T.e_BadTurns.nv (ev_var rfl) ?_
            show _ = _
            rw [fb_at ds 0 k x ha hx hz]
          · have hz : isTurn x = true := by simpa using z
            refine xc_next ⟨_, _, rfl, fun y hy => ?_⟩
            rw [List.take_add_one, hx] at hy
            simp at hy
            exact hy.elim (ha y) fun q => q ▸ hz
        · obtain ⟨s1, s2, rfl, ha⟩ := hI
          rw [enumD_length, List.take_length] at ha
          have h6 := hq ha (by omega)
          have ed := all_dT ha
          rw [fb_none ds 0 ha]
          refine xc_ret (ev_callE (true, ds.map tr) (ea_cons (ev_var (by rw [← ed]; rfl)) ea_nil) ⟨by rw [List.length_map]; exact h6.1, fun t ht => ?_⟩) rfl
          obtain ⟨x, hx, rfl⟩ := List.mem_map.mp ht
          exact ⟨(isTurn_tr (ha x hx)).2, h6.2 x hx⟩
    | false =>
      obtain rfl : d = .tuple ds := by
        revert hd
        cases d <;> simp [rows]
      refine ⟨_, (pss_cons (ps_if (PW.pt (pw_or (pt_not (pt_val (pe_cal c_is_row (hr.mono (by decide)) rfl (pa_cons (pv 0) pa_nil)))) (pw_or1 (pt_cmpR op_gt (pe_callB call_len_seq (by rfl) T.b_len (by decide +kernel) (pa_cons (pv 0) pa_nil)) (pe_gint rfl T.k_MOST_TURNS) (nomark _))))) (pss_one (ps_err (k := 0) T.e_BadTurns T.ini rfl (hr.mono (by decide)) rfl (takes_of rfl rfl rfl rfl) (pe_un un_neg pe_int))) pss_nil)
      (pss_cons (ps_for (passes_of rfl) rfl (pi_enumT (by rfl) T.b_enumerate (pa_cons (pv 0) pa_nil)) (pg_tup (by rfl) (pgs_cons (pg_name (i := 1) sc_sum_turns.nd rfl (Or.inl rfl)) (pgs_cons (pg_name (i := 2) sc_sum_turns.nd rfl (Or.inl rfl)) pgs_nil))) (pss_one (ps_if (pt_not (pt_val (pe_cal c_is_turn (hr.mono (by decide)) rfl (pa_cons (pv 2) pa_nil)))) (pss_one (ps_err (k := 0) T.e_BadTurns T.ini rfl (hr.mono (by decide)) rfl (takes_of rfl rfl rfl rfl) (pv 1))) pss_nil)))
      (pss_one (ps_ret (pe_cal c_told_whole (hr.mono (by decide)) rfl (pa_cons (pv 0) pa_nil)))))), fun G => ?_⟩
      rw [e]
      refine xs_when (S := ⟨K, fx0, G, H, E⟩) (et_or (et_not (et_B (ev_callE (.tuple ds) (ea_cons (ev_var rfl) ea_nil) True.intro))) fun _ => et_B (ev_C0 (ev_lenU (ds := ds) (eu_of (ev_var rfl))) ev_int)) (fun z => ?_) fun z => ?_
      · have hl : 100 < ds.length := by
          have z' : ((ds.length : Nat) : Int) > 100 := by simpa [dList, dTuple] using z
          omega
        rw [if_pos hl]
        exact xc_raise T.e_BadTurns.oex T.e_BadTurns.nv (ev_neg ev_int) rfl
      · have hl : ¬ 100 < ds.length := by
          have z' : ¬ ((ds.length : Nat) : Int) > 100 := by simpa [dList, dTuple] using z
          omega
        rw [if_neg hl]
        refine xs_for (im_enumT (ds := ds) (ev_var rfl)) (fun k ρ => ∃ s s', ρ = [.dat (.tuple ds), s, s'] ∧ ∀ x ∈ ds.take k, isTurn x = true) ⟨_, _, rfl, by simp⟩ (fun k d ρ1 hd' hI => ?_) (fun ρ1 hI => ?_)
        · obtain ⟨s1, s2, rfl, ha⟩ := hI
          obtain ⟨x, hx, rfl⟩ := enumD_get hd'
          refine ⟨_, _, tg_two, ?_⟩
          refine xc_if (et_not (et_B (ev_callE x (ea_cons (ev_var rfl) ea_nil) True.intro))) (fun z => ?_) fun z => ?_
          · have hz : isTurn x = false := by simpa using z
            refine xc_raise T.e_BadTurns.oex T.e_BadTurns.nv (ev_var rfl) ?_
            show _ = _
            rw [fb_at ds 0 k x ha hx hz]
          · have hz : isTurn x = true := by simpa using z
            refine xc_next ⟨_, _, rfl, fun y hy => ?_⟩
            rw [List.take_add_one, hx] at hy
            simp at hy
            exact hy.elim (ha y) fun q => q ▸ hz
        · obtain ⟨s1, s2, rfl, ha⟩ := hI
          rw [enumD_length, List.take_length] at ha
          have h6 := hq ha (by omega)
          have ed := all_dT ha
          rw [fb_none ds 0 ha]
          refine xc_ret (ev_callE (false, ds.map tr) (ea_cons (ev_var (by rw [← ed]; rfl)) ea_nil) ⟨by rw [List.length_map]; exact h6.1, fun t ht => ?_⟩) rfl
          obtain ⟨x, hx, rfl⟩ := List.mem_map.mp ht
          exact ⟨(isTurn_tr (ha x hx)).2, h6.2 x hx⟩
end
end K10

set_option Elab.async false
set_option linter.all false
set_option maxRecDepth 100000
set_option maxHeartbeats 4000000
namespace K10
open PySem PySem.Spec PyProof.Rows L2 Dl
section
variable {P : Program} {w : World} {K : PySem.W.Frag} {mg : Str → Option Value} {base : Heap} {C1 C2 C3 fI aN : Addr} (T : Tx P w K mg base C1 C2 C3 fI aN)
/-! ### the law's own reckoning -/
def stepN : Nat → T3 → T3
  | 0, s => s
  | k + 1, s => step (stepN k s)
theorem stepN_nz {s : T3} (h : NZ s) : ∀ k, NZ (stepN k s)
  | 0 => h
  | k + 1 => step_nz (stepN_nz h k)
theorem stepN_sz {n : Nat} {s : T3} (h : Sz n s) : ∀ k, Sz n (stepN k s)
  | 0 => h
  | k + 1 => step_sz (stepN_sz h k)
theorem stepN4 {s : T3} (h : NZ s) : stepN 4 s = rot s := by
  show step (rot s) = rot s
  exact step_in (rot_ok h)
theorem gg_nat (a b : Nat) : gg (a : Int) (b : Int) = ((Nat.gcd a b : Nat) : Int) := by
  unfold gg
  simp
def Pq (p : Int × Int) : Prop := p ≠ (0, 0) ∧ -1000 ≤ p.1 ∧ p.1 ≤ 1000 ∧ -1000 ≤ p.2 ∧ p.2 ≤ 1000
include T
theorem c__law_gcd : Cal P w K mg base 1 "_law_gcd" ["one", "other"] (spI K fx0 (fun i : Int × Int => [.dat (.int i.1), .dat (.int i.2)]) (fun i => 0 ≤ i.1 ∧ 0 ≤ i.2 ∧ i.2.natAbs < 2 ^ 1500) (fun i => Eq (.ok (.dat (.int (gg i.1 i.2)))))) := by
  refine mk_cal T.d__law_gcd sc__law_gcd (fun _ => rfl) (fun _ _ _ _ _ _ us hl => match us, hl with | [_, _], _ => rfl) (fun f cdv A outer s H E hr i hp => ⟨_, (pss_cons (ps_for (passes_of rfl) rfl (pi_range1 (by rfl) T.b_range (pa_cons pe_int pa_nil)) (pg_name (i := 2) sc__law_gcd.nd rfl (Or.inl rfl)) (pss_cons (ps_if (pt_cmpR (op_eqD (u64 hr)) (pv 1) pe_int (nomark _)) (pss_one ps_break) pss_nil)
      (pss_one (ps_par (i := 0) (j := 1) (by rfl) sc__law_gcd.nd rfl rfl (by decide) rfl rfl (pa_cons (pv 1) (pa_cons (pe_op op_mod (pe_callTy call_int1 (by rfl) T.b_int (by decide +kernel) (pa_cons (pv 0) pa_nil)) (pv 1)) pa_nil)) (by rfl)))))
      (pss_one (ps_ret (pv 0)))), fun G => ?_⟩)
  obtain ⟨x, y⟩ := i
  obtain ⟨hx, hy, hz⟩ := hp
  obtain ⟨a, rfl⟩ : ∃ a : Nat, x = a := ⟨x.toNat, (Int.toNat_of_nonneg hx).symm⟩
  obtain ⟨b, rfl⟩ : ∃ b : Nat, y = b := ⟨y.toNat, (Int.toNat_of_nonneg hy).symm⟩
  have hz : b < 2 ^ 1500 := by
    have e : ((b : Nat) : Int).natAbs = b := Int.natAbs_natCast b
    rw [← e]
    exact hz
  have s0 : steps a b + 0 ≤ 3000 := by
    have := steps_le 1500 a b hz
    omega
  rw [show gg ((a : Int), (b : Int)).1 ((a : Int), (b : Int)).2 = _ from gg_nat a b]
  refine xs_for (S := ⟨K, fx0, G, H, E⟩) (im_rng1E (n := 3000) ev_int (by omega)) (fun k ρ => ∃ (c d : Nat) (s : Sl), ρ = [.dat (.int c), .dat (.int d), s] ∧ Nat.gcd c d = Nat.gcd a b ∧ steps c d + k ≤ 3000) ⟨a, b, _, rfl, rfl, s0⟩ (fun k d ρ1 hd hI => ?_) fun ρ1 hI => ?_
  · obtain ⟨c, e, s, rfl, hg, hs⟩ := hI
    refine ⟨_, _, tg_name, ?_⟩
    refine xs_when (et_B (ev_eqI (i := (e : Int)) (j := 0) (ev_var rfl) ev_int)) (fun z => ?_) fun z => ?_
    · have z' : (e : Int) = 0 := of_decide_eq_true z
      have e0 : e = 0 := by omega
      subst e0
      refine xc_break ?_
      exact xc_ret (ev_var rfl) (by rw [← hg, Nat.gcd_zero_right]; rfl)
    · have z' : (e : Int) ≠ 0 := of_decide_eq_false z
      have e0 : e ≠ 0 := by omega
      refine xc_par (ea_cons (ev_var rfl) (ea_cons (ev_IC (i := (c : Int)) (j := (e : Int)) (ev_cb (ea_cons (ev_var rfl) ea_nil) cb_int) (ev_var rfl) (by show (0 : Int) < e; omega)) ea_nil)) ?_
      refine ⟨e, c % e, _, rfl, ?_, ?_⟩
      · rw [← hg, Nat.gcd_comm, ← Nat.gcd_rec, Nat.gcd_comm]
      · rw [steps_succ e0] at hs
        omega
  · obtain ⟨c, e, s, rfl, hg, hs⟩ := hI
    rw [rngD_length] at hs
    have e0 : e = 0 := by
      rcases Nat.eq_zero_or_pos e with h | h
      · exact h
      · rw [steps_succ (by omega)] at hs
        omega
    subst e0
    exact xc_ret (ev_var rfl) (by rw [← hg, Nat.gcd_zero_right]; rfl)
theorem c__law_turn : Cal P w K mg base 2 "_law_turn" ["quarters", "x", "y"] (spI K fx0 (fun s : T3 => [.dat (.int s.1), .dat (.int s.2.1), .dat (.int s.2.2)]) (fun s => NZ s ∧ ∃ n, n ≤ 1500 ∧ Sz n s) (fun s => Eq (.ok (.dat (dT (nrm s)))))) := by
  have c__law_gcd := c__law_gcd T
  refine mk_cal T.d__law_turn sc__law_turn (fun _ => rfl) (fun _ _ _ _ _ _ us hl => match us, hl with | [_, _, _], _ => rfl) (fun f cdv A outer s H E hr i hp => ⟨_, (pss_cons (ps_for (passes_of rfl) rfl (pi_range1 (by rfl) T.b_range (pa_cons pe_int pa_nil)) (pg_name (i := 3) sc__law_turn.nd rfl (Or.inl rfl)) (pss_one (ps_if (PW.pt (pw_or (pt_cmpR op_le (pv 1) pe_int (nomark _)) (pw_or1 (pt_cmpR op_lt (pv 2) pe_int (nomark _))))) (pss_one (ps_par3 (i := 1) (j := 2) (l := 0) (by rfl) sc__law_turn.nd rfl rfl rfl (by decide) (by decide) (by decide) rfl rfl rfl (pa_cons (pv 2) (pa_cons (pe_op op_sub pe_int (pv 1)) (pa_cons (pe_op op_add (pv 0) pe_int) pa_nil))) (by rfl))) pss_nil)))
      (pss_cons (ps_set (i := 4) sc__law_turn.nd rfl (Or.inl rfl) (pe_cal c__law_gcd (hr.mono (by decide)) rfl (pa_cons (pv 1) (pa_cons (pv 2) pa_nil))))
      (pss_one (ps_ret (pe_tup (pa_cons (pv 0) (pa_cons (pe_op op_fdivW (pv 1) (pv 4)) (pa_cons (pe_op op_fdivW (pv 2) (pv 4)) pa_nil)))))))), fun G => ?_⟩)
  obtain ⟨nz, n, hn, sz⟩ := hp
  refine xs_for (S := ⟨K, fx0, G, H, E⟩) (im_rng1E (n := 4) ev_int (by omega)) (fun k ρ => ∃ s, ρ = [.dat (.int (stepN k i).1), .dat (.int (stepN k i).2.1), .dat (.int (stepN k i).2.2), s, .no]) ⟨_, rfl⟩ (fun k d ρ1 hd hI => ?_) fun ρ1 hI => ?_
  · obtain ⟨s, rfl⟩ := hI
    refine ⟨_, _, tg_name, ?_⟩
    have es : stepN (k + 1) i = step (stepN k i) := rfl
    show Xc _ _ _ (LoopP (fun ρ => ∃ s, ρ = [.dat (.int (stepN (k + 1) i).1), .dat (.int (stepN (k + 1) i).2.1), .dat (.int (stepN (k + 1) i).2.2), s, .no]) _)
    rw [es]
    generalize stepN k i = t
    obtain ⟨q, x, y⟩ := t
    refine xc_if (et_or (et_B (ev_C0 (i := x) (j := 0) (ev_var rfl) ev_int)) fun _ => et_B (ev_C0 (i := y) (j := 0) (ev_var rfl) ev_int)) (fun z => ?_) fun z => ?_
    · have ho : x ≤ 0 ∨ y < 0 := by simpa using z
      rw [show step (q, x, y) = (q + 1, y, -x) from if_pos ho]
      refine xc_par3 (ea_cons (ev_var rfl) (ea_cons (ev_I0 (i := 0) (j := x) ev_int (ev_var rfl)) (ea_cons (ev_I0 (i := q) (j := 1) (ev_var rfl) ev_int) ea_nil))) ⟨.dat d, ?_⟩
      rw [Int.zero_sub]
      rfl
    · have ho : ¬ (x ≤ 0 ∨ y < 0) := by
        intro h
        rw [show (decide (x ≤ 0) || decide (y < 0)) = true by simpa using h] at z
        cases z
      rw [show step (q, x, y) = (q, x, y) from if_neg ho]
      exact xc_next ⟨_, rfl⟩
  · obtain ⟨s, rfl⟩ := hI
    rw [rngD_length, stepN4 nz]
    have ok := rot_ok nz
    have sr := rot_sz sz
    have en : nrm i = low (rot i) := rfl
    rw [en]
    revert ok sr
    generalize rot i = t
    obtain ⟨q, x, y⟩ := t
    intro ok sr
    have hx : (0 : Int) < x := ok.1
    have hy : (0 : Int) ≤ y := ok.2
    refine xs_asg (ev_callE (x, y) (ea_cons (ev_var rfl) (ea_cons (ev_var rfl) ea_nil)) ⟨Int.le_of_lt hx, hy, Nat.lt_of_lt_of_le sr.2 (Nat.pow_le_pow_right (by omega) hn)⟩) ?_
    exact xc_retD (ev_tup3 (ev_var rfl) (ev_IC (i := x) (j := gg x y) (ev_var rfl) (ev_var rfl) (divW hx sr.1 (by omega))) (ev_IC (i := y) (j := gg x y) (ev_var rfl) (ev_var rfl) (divW hx sr.1 (by omega)))) rfl
theorem c__law_more : Cal P w K mg base 3 "_law_more" ["one", "other"] (spI K fx0 (fun i : T3 × T3 => [.dat (dT i.1), .dat (dT i.2)]) (fun i => In0 i.1 ∧ In0 i.2 ∧ ∃ n m, n + m < 1500 ∧ Sz n i.1 ∧ Sz m i.2) (fun i => Eq (.ok (.dat (dT (add i.1 i.2)))))) := by
  have c__law_turn := c__law_turn T
  refine mk_cal T.d__law_more sc__law_more (fun _ => rfl) (fun _ _ _ _ _ _ us hl => match us, hl with | [_, _], _ => rfl) (fun f cdv A outer s H E hr i hp => ⟨_, (pss_one (ps_ret (pe_cal c__law_turn (hr.mono (by decide)) rfl (pa_cons (pe_op op_add (pe_ix (r := rIxT K) ix_tup (pv 0) pe_int (fun _ _ => rfl)) (pe_ix (r := rIxT K) ix_tup (pv 1) pe_int (fun _ _ => rfl))) (pa_cons (pe_op op_sub (pe_op op_mulW (pe_ix (r := rIxT K) ix_tup (pv 0) pe_int (fun _ _ => rfl)) (pe_ix (r := rIxT K) ix_tup (pv 1) pe_int (fun _ _ => rfl))) (pe_op op_mulW (pe_ix (r := rIxT K) ix_tup (pv 0) pe_int (fun _ _ => rfl)) (pe_ix (r := rIxT K) ix_tup (pv 1) pe_int (fun _ _ => rfl)))) (pa_cons (pe_op op_add (pe_op op_mulW (pe_ix (r := rIxT K) ix_tup (pv 0) pe_int (fun _ _ => rfl)) (pe_ix (r := rIxT K) ix_tup (pv 1) pe_int (fun _ _ => rfl))) (pe_op op_mulW (pe_ix (r := rIxT K) ix_tup (pv 0) pe_int (fun _ _ => rfl)) (pe_ix (r := rIxT K) ix_tup (pv 1) pe_int (fun _ _ => rfl)))) pa_nil)))))), fun G => ?_⟩)
  obtain ⟨⟨q, x, y⟩, ⟨r, u, v⟩⟩ := i
  obtain ⟨ha, hb, n, m, hn, sa, sb⟩ := hp
  have m1 : CMulW x u := mulW sa.1 sb.1 (by omega) (by omega)
  have m2 : CMulW y v := mulW sa.2 sb.2 (by omega) (by omega)
  have m3 : CMulW x v := mulW sa.1 sb.2 (by omega) (by omega)
  have m4 : CMulW y u := mulW sa.2 sb.1 (by omega) (by omega)
  have ts := two_sz sa.1 sa.2 sb.1 sb.2
  exact xc_ret (S := ⟨K, fx0, G, H, E⟩) (ev_callE (q + r, x * u - y * v, x * v + y * u) (ea_cons (ev_I0 (i := q) (j := r) (ev_ixU (ev_var rfl) ev_int rfl) (ev_ixU (ev_var rfl) ev_int rfl)) (ea_cons (ev_I0 (i := x * u) (j := y * v) (ev_IC (ev_ixU (ev_var rfl) ev_int rfl) (ev_ixU (ev_var rfl) ev_int rfl) m1) (ev_IC (ev_ixU (ev_var rfl) ev_int rfl) (ev_ixU (ev_var rfl) ev_int rfl) m2))
    (ea_cons (ev_I0 (i := x * v) (j := y * u) (ev_IC (ev_ixU (ev_var rfl) ev_int rfl) (ev_ixU (ev_var rfl) ev_int rfl) m3) (ev_IC (ev_ixU (ev_var rfl) ev_int rfl) (ev_ixU (ev_var rfl) ev_int rfl) m4)) ea_nil))) ⟨c_nz ha hb, n + m + 1, by omega, ts⟩) rfl
theorem c__law_less : Cal P w K mg base 3 "_law_less" ["one", "other"] (spI K fx0 (fun t : T3 => [.dat (dT t0), .dat (dT t)]) (fun t => Trn t ∧ Sz 200 t) (fun t => Eq (.ok (.dat (dT (bck t)))))) := by
  have c__law_turn := c__law_turn T
  refine mk_cal T.d__law_less sc__law_less (fun _ => rfl) (fun _ _ _ _ _ _ us hl => match us, hl with | [_, _], _ => rfl) (fun f cdv A outer s H E hr i hp => ⟨_, (pss_cons (ps_if (pt_cmpR (op_eqD (u64 hr)) (pe_ix (r := rIxT K) ix_tup (pv 1) pe_int (fun _ _ => rfl)) pe_int (nomark _)) (pss_one (ps_ret (pe_tup (pa_cons (pe_op op_sub (pe_ix (r := rIxT K) ix_tup (pv 0) pe_int (fun _ _ => rfl)) (pe_ix (r := rIxT K) ix_tup (pv 1) pe_int (fun _ _ => rfl))) (pa_cons (pe_ix (r := rIxT K) ix_tup (pv 0) pe_int (fun _ _ => rfl)) (pa_cons (pe_ix (r := rIxT K) ix_tup (pv 0) pe_int (fun _ _ => rfl)) pa_nil)))))) pss_nil)
      (pss_cons (ps_set (i := 2) sc__law_less.nd rfl (Or.inl rfl) (pe_op op_sub (pe_op op_mulW (pe_ix (r := rIxT K) ix_tup (pv 0) pe_int (fun _ _ => rfl)) (pe_ix (r := rIxT K) ix_tup (pv 1) pe_int (fun _ _ => rfl))) (pe_op op_mulW (pe_ix (r := rIxT K) ix_tup (pv 0) pe_int (fun _ _ => rfl)) (pe_ix (r := rIxT K) ix_tup (pv 1) pe_int (fun _ _ => rfl)))))
      (pss_one (ps_ret (pe_cal c__law_turn (hr.mono (by decide)) rfl (pa_cons (pe_op op_sub (pe_op op_sub (pe_ix (r := rIxT K) ix_tup (pv 0) pe_int (fun _ _ => rfl)) (pe_ix (r := rIxT K) ix_tup (pv 1) pe_int (fun _ _ => rfl))) pe_int) (pa_cons (pv 2) (pa_cons (pe_op op_add (pe_op op_mulW (pe_ix (r := rIxT K) ix_tup (pv 0) pe_int (fun _ _ => rfl)) (pe_ix (r := rIxT K) ix_tup (pv 1) pe_int (fun _ _ => rfl))) (pe_op op_mulW (pe_ix (r := rIxT K) ix_tup (pv 0) pe_int (fun _ _ => rfl)) (pe_ix (r := rIxT K) ix_tup (pv 1) pe_int (fun _ _ => rfl)))) pa_nil)))))))), fun G => ?_⟩)
  obtain ⟨q, x, y⟩ := i
  obtain ⟨ht, sb⟩ := hp
  refine xs_when (S := ⟨K, fx0, G, H, E⟩) (et_B (ev_eqI (i := y) (j := 0) (ev_ixU (ev_var rfl) ev_int rfl) ev_int)) (fun z => ?_) fun z => ?_
  · have z' : y = 0 := of_decide_eq_true z
    refine xs_ret (ev_tup3 (ev_I0 (i := 0) (j := q) (ev_ixU (ev_var rfl) ev_int rfl) (ev_ixU (ev_var rfl) ev_int rfl)) (ev_ixU (ev_var rfl) ev_int rfl) (ev_ixU (ev_var rfl) ev_int rfl)) ?_
    rw [show bck (q, x, y) = (-q, 1, 0) from if_pos z', Int.zero_sub]
    rfl
  · have z' : y ≠ 0 := of_decide_eq_false z
    have sa := t0_sz
    have m1 : CMulW 1 y := mulW sa.1 sb.2 (by omega) (by omega)
    have m2 : CMulW 0 x := mulW sa.2 sb.1 (by omega) (by omega)
    have m3 : CMulW 1 x := mulW sa.1 sb.1 (by omega) (by omega)
    have m4 : CMulW 0 y := mulW sa.2 sb.2 (by omega) (by omega)
    refine xs_asg (ev_I0 (i := 1 * y) (j := 0 * x) (ev_IC (ev_ixU (ev_var rfl) ev_int rfl) (ev_ixU (ev_var rfl) ev_int rfl) m1) (ev_IC (ev_ixU (ev_var rfl) ev_int rfl) (ev_ixU (ev_var rfl) ev_int rfl) m2)) ?_
    refine xc_ret (ev_callE (0 - q - 1, 1 * y - 0 * x, 1 * x + 0 * y) (ea_cons (ev_I0 (i := 0 - q) (j := 1) (ev_I0 (i := 0) (j := q) (ev_ixU (ev_var rfl) ev_int rfl) (ev_ixU (ev_var rfl) ev_int rfl)) ev_int) (ea_cons (ev_var rfl)
      (ea_cons (ev_I0 (i := 1 * x) (j := 0 * y) (ev_IC (ev_ixU (ev_var rfl) ev_int rfl) (ev_ixU (ev_var rfl) ev_int rfl) m3) (ev_IC (ev_ixU (ev_var rfl) ev_int rfl) (ev_ixU (ev_var rfl) ev_int rfl) m4)) ea_nil))) ⟨.inl ?_, 201, by omega, ?_⟩) ?_
    · show 1 * y - 0 * x ≠ 0
      omega
    · have h1 := sb.1
      have h2 := sb.2
      simp only at h1 h2
      refine ⟨?_, ?_⟩
      · show (1 * y - 0 * x).natAbs < 2 ^ 201
        rw [Int.one_mul, Int.zero_mul, Int.sub_zero]
        exact Nat.lt_trans h2 (by decide)
      · show (1 * x + 0 * y).natAbs < 2 ^ 201
        rw [Int.one_mul, Int.zero_mul, Int.add_zero]
        exact Nat.lt_trans h1 (by decide)
    · show _ = _
      rw [show nrm (0 - q - 1, 1 * y - 0 * x, 1 * x + 0 * y) = bck (q, x, y) from bck_law (t := (q, x, y)) ht z']
theorem c__law_point : Cal P w K mg base 3 "_law_point" ["row"] (spZ fun z : RowZ => spI K (rowFx K z) (fun _ : Unit => [.raw (.ref z.r)]) (fun _ => True) (fun _ r => ∃ p, Pq p ∧ r = .ok (.dat (dP p)))) := by
  have c__law_taken := c__law_taken T
  have c__law_pick := c__law_pick T
  refine mk_calZ T.d__law_point sc__law_point (fun _ _ => rfl) (fun _ _ _ _ _ _ us hl => match us, hl with | [_], _ => rfl) (fun z f cdv A outer s H E hr _ hp => ⟨_, (pss_cons (ps_set (i := 1) sc__law_point.nd rfl (Or.inl rfl) (pe_cal c__law_pick (hr.mono (by decide)) rfl (pa_cons (pv 0) (pa_cons (pe_lst (pa_cons pe_int (pa_cons pe_int (pa_cons pe_int pa_nil)))) pa_nil))))
      (pss_cons (ps_set (i := 2) sc__law_point.nd rfl (Or.inl rfl) (pe_tup (pa_cons (pe_op op_sub (pe_cal c__law_taken (hr.mono (by decide)) rfl (pa_cons (pv 0) (pa_cons (pe_op op_add (pe_op op_mul pe_int (pv 1)) pe_int) pa_nil))) (pv 1)) (pa_cons (pe_op op_sub (pe_cal c__law_taken (hr.mono (by decide)) rfl (pa_cons (pv 0) (pa_cons (pe_op op_add (pe_op op_mul pe_int (pv 1)) pe_int) pa_nil))) (pv 1)) pa_nil))))
      (pss_one (ps_ret (pe_ifExp (pt_cmpR (op_neD (u64 hr)) (pv 2) (pe_tup (pa_cons pe_int (pa_cons pe_int pa_nil))) (nomark _)) (pv 2) (pe_tup (pa_cons pe_int (pa_cons pe_int pa_nil)))))))), fun G => ?_⟩)
  refine xs_asgP (S := ⟨K, rowFx K z, G, H, E⟩) (p := fun s => ∃ m : Int, s = .dat (.int m) ∧ (m = 2 ∨ m = 10 ∨ m = 1000)) (ev_callZ (fx := rowFx K) z (ea_cons (ev_varR rfl) (ea_cons (ev_lst (ds := [.int 2, .int 10, .int 1000]) (ea_cons ev_int (ea_cons ev_int (ea_cons ev_int ea_nil))) (by simp)) ea_nil)) fun ss e => ⟨[.int 2, .int 10, .int 1000], e.symm, ⟨by simp, by simp⟩, fun s ⟨d, hd, e⟩ => ?_, fun C d ⟨_, _, e⟩ => by cases e⟩) ?_
  · cases e
    simp at hd
    rcases hd with rfl | rfl | rfl
    · exact ⟨_, rfl, .inl rfl⟩
    · exact ⟨_, rfl, .inr (.inl rfl)⟩
    · exact ⟨_, rfl, .inr (.inr rfl)⟩
  rintro s ⟨m, rfl, hm⟩
  have ht : EvI ⟨K, rowFx K z, G, H, E⟩ (tOp (rI0 fun i j => .int (i - j)) (tCall (spTaken K) [] E0 (tCons (tVar 0) (tCons (tOp (rI0 fun i j => .int (i + j)) (tOp (rI CMul fun i j => .int (i * j)) (tC (.int 2)) (tVar 1)) (tC (.int 1))) tNil))) (tVar 1)) [.raw (.ref z.r), .dat (.int m), .no] (fun i => -1000 ≤ i ∧ i ≤ 1000) :=
    evI_0 (p := fun x => 0 ≤ x ∧ x < 2 * m + 1) (q := fun i => i = m) (ev_taken (ev_varR rfl) (ev_I0 (i := 2 * m) (j := 1) (ev_IC (i := 2) (j := m) ev_int (ev_var rfl) (.inl ⟨by decide, by decide⟩)) ev_int) (by omega) (by omega)) ((ev_var (d := .int m) rfl).toI rfl) fun i j hi hj => by omega
  refine xs_asgP (p := fun s => ∃ ds : List D, s = .dat (.tuple ds) ∧ ∃ x y : Int, ds = [.int x, .int y] ∧ -1000 ≤ x ∧ x ≤ 1000 ∧ -1000 ≤ y ∧ y ≤ 1000) (ev_tupP (ea_consP ht (ea_consP (Pr := Eq []) (P := fun ss => ∃ i, ss = [.dat (.int i)] ∧ (-1000 ≤ i ∧ i ≤ 1000)) ht ea_nil ?_) ?_)) ?_
  · rintro x xs ⟨i, rfl, hi⟩ rfl
    exact ⟨i, rfl, hi⟩
  · rintro x xs ⟨i, rfl, hi⟩ ⟨j, rfl, hj⟩
    exact ⟨[.int i, .int j], rfl, by simp, i, j, rfl, hi.1, hi.2, hj.1, hj.2⟩
  rintro s ⟨_, rfl, x, y, rfl, h1, h2, h3, h4⟩
  refine xc_retP (p := fun s => ∃ p, Pq p ∧ s = .dat (dP p)) (ev_if (et_B (ev_neD (ev_var rfl) (ev_tup2 ev_int ev_int) rfl rfl)) (fun hz => ?_) fun _ => ?_) fun s ⟨p, hp, e⟩ => ⟨p, hp, by rw [e]⟩
  · refine (ev_var (d := dP (x, y)) rfl).imp fun s e => ⟨(x, y), ⟨fun q => ?_, h1, h2, h3, h4⟩, e.symm⟩
    cases q
    exact absurd hz (by decide)
  · exact (ev_tup2 ev_int ev_int).imp fun s e => ⟨(1, 0), ⟨by decide, by decide, by decide, by decide, by decide⟩, e.symm⟩
end
end K10

set_option Elab.async false
set_option linter.all false
set_option maxRecDepth 100000
set_option maxHeartbeats 4000000
namespace K10
open PySem PySem.Spec PyProof.Rows L2 Dl LamX
/-! ### data that is alike -/
theorem eqv_P (a b : Int × Int) : PyData.eqv (dP a) (dP b) = (decide (a.1 = b.1) && decide (a.2 = b.2)) := by
  unfold dP
  simp only [PyData.eqv, PyData.eqvAll, eqv_int, Bool.and_true]
  rfl
theorem eqv_T (a b : T3) : PyData.eqv (dT a) (dT b) = (decide (a.1 = b.1) && (decide (a.2.1 = b.2.1) && decide (a.2.2 = b.2.2))) := by
  unfold dT
  simp only [PyData.eqv, PyData.eqvAll, eqv_int, Bool.and_true]
  rfl
theorem eqv_TT (a : T3) : PyData.eqv (dT a) (dT a) = true := by
  rw [eqv_T]
  simp
theorem eqv_Tn {a b : T3} : PyData.eqv (dT a) (dT b) = decide (a = b) := by
  rw [eqv_T]
  obtain ⟨q, x, y⟩ := a
  obtain ⟨r, u, v⟩ := b
  rw [Bool.eq_iff_iff]
  simp
theorem Pq.pt {p : Int × Int} (h : Pq p) : Pt p := ⟨h.1, by have := h.2; omega, by have := h.2; omega⟩
theorem okP_dP {p : Int × Int} (h : Pq p) : okP (dP p) = true := by
  obtain ⟨x, y⟩ := p
  obtain ⟨h0, h1, h2, h3, h4⟩ := h
  simp only at h1 h2 h3 h4
  have e : PyData.eqv (dP (x, y)) (dP (0, 0)) = false := by
    rw [eqv_P, Bool.eq_false_iff]
    intro z
    simp at z
    exact h0 (by rw [z.1, z.2])
  show (isTupOf 2 (dP (x, y)) && (([PyData.int x, .int y].all (isWithin (-1000) 1000)) && !PyData.eqv (dP (x, y)) (dP (0, 0)))) = true
  rw [e]
  simp [isTupOf, isWithin, dP, h1, h2, h3, h4]
theorem flp_T (t : T3) : FlP 2 (dT t) := ⟨by simp, fun x hx => by
  simp at hx
  rcases hx with rfl | rfl | rfl <;> trivial⟩
theorem shaped_T (t : T3) : SeqAt.shaped (dT t) = true := rfl
theorem fb_turns : ∀ (l : List T3) (k : Nat), (∀ t ∈ l, Trn t) → fb k (l.map dT) = none
  | [], _, _ => rfl
  | t :: l, k, h => by
    rw [List.map_cons]
    unfold fb
    rw [isTurn_dT (h t List.mem_cons_self), if_pos rfl]
    exact fb_turns l (k + 1) fun s hs => h s (List.mem_cons_of_mem _ hs)
theorem tr_map (l : List T3) : (l.map dT).map tr = l := by
  rw [List.map_map]
  exact List.map_id l
theorem sumR_ok {C3 : Addr} {d : D} {b : Bool} {l : List T3} (hr : rows d = some (b, l.map dT)) (hl : l.length ≤ 6) (h : ∀ t ∈ l, Trn t) : sumR C3 d = .ok (.dat (dT (l.foldl add t0))) := by
  unfold sumR
  rw [hr]
  simp only
  rw [if_neg (by rw [List.length_map]; omega), fb_turns l 0 h, tr_map]
theorem fb_odd : ∀ (l : List T3) (k : Nat) (d : D), (∀ t ∈ l, Trn t) → isTurn d = false → fb k (l.map dT ++ [d]) = some (k + l.length)
  | [], k, d, _, hd => by
    show fb k [d] = _
    unfold fb
    rw [hd]
    rfl
  | t :: l, k, d, h, hd => by
    rw [List.map_cons, List.cons_append]
    unfold fb
    rw [isTurn_dT (h t List.mem_cons_self), if_pos rfl, fb_odd l (k + 1) d (fun s hs => h s (List.mem_cons_of_mem _ hs)) hd, List.length_cons]
    congr 1
    omega
/-- one under the other, as the law tells it -/
theorem les_law {a b : T3} : (decide (a.1 < b.1) || (decide (a.1 = b.1) && decide (a.2.2 * b.2.1 < b.2.2 * a.2.1))) = les a b := by
  unfold les
  rw [Int.mul_comm b.2.2 a.2.1]
  by_cases h : a.1 = b.1
  · rw [if_pos h, h]
    simp
  · rw [if_neg h]
    simp [h]
theorem bt_back (a b : Int × Int) : bt b a = (0, (bt a b).2.1, -(bt a b).2.2) := by
  unfold bt
  simp only
  rw [Int.mul_comm b.1 a.1, Int.mul_comm b.2 a.2, Int.mul_comm b.1 a.2, Int.mul_comm b.2 a.1]
  congr 2
  omega
section
variable {P : Program} {w : World} {K : PySem.W.Frag} {mg : Str → Option Value} {base : Heap} {C1 C2 C3 fI aN : Addr} (T : Tx P w K mg base C1 C2 C3 fI aN)
include T
theorem c_ask {N : List Str} {sc : Scope} {fa c Tb : Addr} {A : Around} {s : Shared} {H : Hp} {E : XK} (tb : TabB base mg c Tb) :
    ∃ g, AskOk (cxOf (L2.CX P w) P w K mg base N "law" sc fa (.ref c) A [] s H E) "_law_refused" "ask" ["ask", "e"] g c Tb (TRef K [(C1, "point"), (C2, "turn"), (C3, "turns")]) := by
  refine ask_ok T.d__law_refused sc__law_refused (.inl rfl) tb (by decide) (fun _ _ _ _ _ _ us hl => match us, hl with | [_], _ => rfl) fun g cdg => ?_
  refine ref_gives (by decide) rfl fun s H => ?_
  refine HdsN.cons ⟨rfl, by decide, .inl T.e_BadPoint.gC⟩ (fun a oe cls d pn hz hf => pss_one (ps_ret (pe_tup (pa_cons pe_str (pa_cons (pe_xf T.e_BadPoint.xf T.e_BadPoint.nv hz hf (pv 1)) pa_nil))))) ?_
  refine HdsN.cons ⟨rfl, by decide, .inl T.e_BadTurn.gC⟩ (fun a oe cls d pn hz hf => pss_one (ps_ret (pe_tup (pa_cons pe_str (pa_cons (pe_xf T.e_BadTurn.xf T.e_BadTurn.nv hz hf (pv 1)) pa_nil))))) ?_
  exact HdsN.cons ⟨rfl, by decide, .inl T.e_BadTurns.gC⟩ (fun a oe cls d pn hz hf => pss_one (ps_ret (pe_tup (pa_cons pe_str (pa_cons (pe_xf T.e_BadTurns.xf T.e_BadTurns.nv hz hf (pv 1)) pa_nil))))) .nil
end
end K10

set_option Elab.async false
set_option linter.all false
set_option maxRecDepth 100000
set_option maxHeartbeats 4000000
namespace K10
open PySem PySem.Spec PyProof.Rows L2 Dl LamX
theorem sz_le {n m : Nat} {s : T3} (h : Sz n s) (hm : n ≤ m) : Sz m s := ⟨Nat.lt_of_lt_of_le h.1 (Nat.pow_le_pow_right (by omega) hm), Nat.lt_of_lt_of_le h.2 (Nat.pow_le_pow_right (by omega) hm)⟩
theorem sz_non : Sz 200 (tr .none) := ⟨by decide +kernel, by decide +kernel⟩
theorem sz_t0 : Sz 200 (tr (dT t0)) := ⟨by decide +kernel, by decide +kernel⟩
/-! ### what is refused -/
def badL : List D := [.none, dP (0, 0), dP (1001, 0), .tuple [.int 1], .list [.int 1, .int 0], .tuple [.int 1, .bool true], dP (0, -1001)]
def oddL : List D := [.none, dT (0, 0, 1), dT (0, 2, 2), dT (0, 1, -1), dT (0, 2, 0), .list [.int 0, .int 1, .int 0], .tuple [.int 0, .int 1], .tuple [.int 0, .bool true, .int 0], dT (0, -1, 0)]
def lastL : List D := [.none, .list (List.replicate 101 [dT t0]).flatten, .int 5]
/-- may be shown -/
def ShowOk (d : D) : Prop := isDisp d = true ∧ d.hasDict = false ∧ d.showable = true ∧ d.shown.length ≤ sizeLine ∧ d.depth ≤ 20
theorem ev_show {S : Cf} {ρ : Rho} {te : TE} {d : D} (h : Ev S te ρ (Eq (.dat d))) (o : ShowOk d) : Ev S (tCB (rRepr S.K) (tCons te tNil)) ρ (Eq (.dat (.str d.shown))) := ev_repr h o.1 o.2.1 o.2.2.1 o.2.2.2.1 o.2.2.2.2
theorem bad_ok : ∀ d ∈ badL, okP d = false ∧ ShowOk (.tuple [.str "point", d]) := by
  intro d hd
  simp only [badL, List.mem_cons, List.not_mem_nil, or_false] at hd
  rcases hd with rfl | rfl | rfl | rfl | rfl | rfl | rfl
  all_goals exact ⟨by decide +kernel, by decide +kernel, by decide +kernel, by decide +kernel, by decide +kernel, by decide +kernel⟩
theorem odd_ok : ∀ d ∈ oddL, isTurn d = false ∧ Sz 200 (tr d) ∧ ShowOk (.tuple [.str "turn", d]) := by
  intro d hd
  simp only [oddL, List.mem_cons, List.not_mem_nil, or_false] at hd
  rcases hd with rfl | rfl | rfl | rfl | rfl | rfl | rfl | rfl | rfl
  all_goals exact ⟨by decide +kernel, ⟨by decide +kernel, by decide +kernel⟩, by decide +kernel, by decide +kernel, by decide +kernel, by decide +kernel, by decide +kernel⟩
theorem last_ok {C3 : Addr} : ∀ d ∈ lastL, sumR C3 d = .ex C3 (.int (-1)) ∧ ∀ b ds, rows d = some (b, ds) → 100 < ds.length := by
  intro d hd
  simp only [lastL, List.mem_cons, List.not_mem_nil, or_false] at hd
  rcases hd with rfl | rfl | rfl
  · exact ⟨rfl, fun b ds e => by cases e⟩
  · have hl : (List.replicate 101 [dT t0]).flatten.length = 101 := rfl
    refine ⟨?_, fun b ds e => ?_⟩
    · unfold sumR
      show (if 100 < (List.replicate 101 [dT t0]).flatten.length then _ else _) = _
      rw [if_pos (by rw [hl]; omega)]
    · cases e
      rw [hl]
      omega
  · exact ⟨rfl, fun b ds e => by cases e⟩
section
variable {P : Program} {w : World} {K : PySem.W.Frag} {mg : Str → Option Value} {base : Heap} {C1 C2 C3 fI aN : Addr} (T : Tx P w K mg base C1 C2 C3 fI aN)
include T
theorem law_body {fa c Tb a : Addr} {s : Shared} {H : Hp} {ns : List Int} (tb : TabB base mg c Tb) (hr : Room 6 (callerA.deeper (envOfC "law" (defScope s_law) s.heap.objs.size fa (.ref c)))) (hT : H Tb = some (.tbl #[])) (naT : a ≠ Tb) (hS : SqL K H a (ns.map V.int)) :
    ∃ t, PSs (cxOf (L2.CX P w) P w K mg base ["script", "k", "one", "other", "due", "told", "back", "whole", "ask", "bad", "odd", "row", "turns"] "law" (defScope s_law) fa (.ref c) callerA [] s H (fun _ _ _ => False)) (defBody s_law) t ∧ t { nx := fun _ H' => V.non = .bl true, rt := fun v _ => v = .bl true } (L2.start ["script", "k", "one", "other", "due", "told", "back", "whole", "ask", "bad", "odd", "row", "turns"] [.ref a]) H := by
  have c__law_point := c__law_point T
  have c__law_taken := c__law_taken T
  have c__law_pick := c__law_pick T
  have c__law_turn := c__law_turn T
  have c__law_more := c__law_more T
  have c__law_less := c__law_less T
  have c__law_alike := c__law_alike T 2
  have c_turn_between := c_turn_between T
  have c_add_turns := c_add_turns T
  have c_turn_back := c_turn_back T
  have c_is_less_turn := c_is_less_turn T
  have c_sum_turns := c_sum_turns T
  obtain ⟨f1, _, _, g_add_turns⟩ := T.d_add_turns
  obtain ⟨f2, _, _, g_is_less_turn⟩ := T.d_is_less_turn
  obtain ⟨ga, O⟩ := c_ask T (N := ["script", "k", "one", "other", "due", "told", "back", "whole", "ask", "bad", "odd", "row", "turns"]) (sc := defScope s_law) (fa := fa) (A := callerA) (s := s) (H := H) (E := fun _ _ _ => False) tb
  have hgu : (callerA.deeper (envOfC "law" (defScope s_law) s.heap.objs.size fa (.ref c))).guards = some [] := rfl
  refine ⟨_, (pss_cons (ps_set (i := 11) sc_law.nd rfl (Or.inr rfl) (pe_lst (pa_cons (pv 0) (pa_cons pe_int (pa_cons pe_int (pa_cons pe_int pa_nil))))))
      (pss_cons (ps_set (i := 12) sc_law.nd rfl (Or.inr rfl) (pe_lst pa_nil))
      (pss_cons (ps_for (passes_of rfl) rfl (pi_range1 (by rfl) T.b_range (pa_cons pe_int pa_nil)) (pg_name (i := 1) sc_law.nd rfl (Or.inl rfl)) (pss_cons (ps_par (i := 2) (j := 3) (by rfl) sc_law.nd rfl rfl (by decide) rfl rfl (pa_cons (pe_cal c__law_point (hr.mono (by decide)) rfl (pa_cons (pv 11) pa_nil)) (pa_cons (pe_cal c__law_point (hr.mono (by decide)) rfl (pa_cons (pv 11) pa_nil)) pa_nil)) (by rfl))
      (pss_cons (ps_set (i := 4) sc_law.nd rfl (Or.inl rfl) (pe_cal c__law_turn (hr.mono (by decide)) rfl (pa_cons pe_int (pa_cons (pe_op op_add (pe_op op_mulW (pe_ix (r := rIxT K) ix_tup (pv 2) pe_int (fun _ _ => rfl)) (pe_ix (r := rIxT K) ix_tup (pv 3) pe_int (fun _ _ => rfl))) (pe_op op_mulW (pe_ix (r := rIxT K) ix_tup (pv 2) pe_int (fun _ _ => rfl)) (pe_ix (r := rIxT K) ix_tup (pv 3) pe_int (fun _ _ => rfl)))) (pa_cons (pe_op op_sub (pe_op op_mulW (pe_ix (r := rIxT K) ix_tup (pv 2) pe_int (fun _ _ => rfl)) (pe_ix (r := rIxT K) ix_tup (pv 3) pe_int (fun _ _ => rfl))) (pe_op op_mulW (pe_ix (r := rIxT K) ix_tup (pv 2) pe_int (fun _ _ => rfl)) (pe_ix (r := rIxT K) ix_tup (pv 3) pe_int (fun _ _ => rfl)))) pa_nil)))))
      (pss_cons (ps_set (i := 5) sc_law.nd rfl (Or.inl rfl) (pe_cal c_turn_between (hr.mono (by decide)) rfl (pa_cons (pv 2) (pa_cons (pv 3) pa_nil))))
      (pss_cons (ps_if (PW.pt (pw_or (pt_not (pt_val (pe_cal c__law_alike (hr.mono (by decide)) rfl (pa_cons (pv 5) (pa_cons (pv 4) pa_nil))))) (pw_or1 (pt_not (pt_chain op_le op_lt pe_int (pe_ix (r := rIxT K) ix_tup (pv 5) pe_int (fun _ _ => rfl)) pe_int))))) (pss_one (ps_ret pe_bl)) pss_nil)
      (pss_cons (ps_set (i := 6) sc_law.nd rfl (Or.inl rfl) (pe_cal c_turn_between (hr.mono (by decide)) rfl (pa_cons (pv 3) (pa_cons (pv 2) pa_nil))))
      (pss_cons (ps_if (pt_cmpR (op_neD (u64 hr)) (pe_cal c_add_turns (hr.mono (by decide)) rfl (pa_cons (pv 5) (pa_cons (pv 6) pa_nil))) (pe_ifExp (pt_cmpR (op_eqD (u64 hr)) (pv 5) (pe_tup (pa_cons pe_int (pa_cons pe_int (pa_cons pe_int pa_nil)))) (nomark _)) (pe_tup (pa_cons pe_int (pa_cons pe_int (pa_cons pe_int pa_nil)))) (pe_tup (pa_cons pe_int (pa_cons pe_int (pa_cons pe_int pa_nil))))) (nomark _)) (pss_one (ps_ret pe_bl)) pss_nil)
      (pss_one (ps_expr (pe_bm PySem.F.plainAttrs_list PySem.F.slot_list_append PySem.F.type_list_append mt_append (pv 12) (pa_cons (pe_tup (pa_cons (pe_op op_sub (pe_op op_add (pe_ix (r := rIxT K) ix_tup (pv 5) pe_int (fun _ _ => rfl)) (pe_cal c__law_taken (hr.mono (by decide)) rfl (pa_cons (pv 11) (pa_cons pe_int pa_nil)))) pe_int) (pa_cons (pe_ix (r := rIxT K) ix_tup (pv 5) pe_int (fun _ _ => rfl)) (pa_cons (pe_ix (r := rIxT K) ix_tup (pv 5) pe_int (fun _ _ => rfl)) pa_nil)))) pa_nil)))))))))))
      (pss_cons (ps_for (passes_of rfl) rfl (pi_list (pv 12)) (pg_name (i := 2) sc_law.nd rfl (Or.inl rfl)) (pss_cons (ps_if (PW.pt (pw_or (pt_not (pt_val (pe_cal c__law_alike (hr.mono (by decide)) rfl (pa_cons (pe_cal c_turn_back (hr.mono (by decide)) rfl (pa_cons (pv 2) pa_nil)) (pa_cons (pe_cal c__law_less (hr.mono (by decide)) rfl (pa_cons (pe_tup (pa_cons pe_int (pa_cons pe_int (pa_cons pe_int pa_nil)))) (pa_cons (pv 2) pa_nil))) pa_nil))))) (pw_or1 (pt_cmpR (op_neD (u64 hr)) (pe_cal c_add_turns (hr.mono (by decide)) rfl (pa_cons (pv 2) (pa_cons (pe_cal c_turn_back (hr.mono (by decide)) rfl (pa_cons (pv 2) pa_nil)) pa_nil))) (pe_tup (pa_cons pe_int (pa_cons pe_int (pa_cons pe_int pa_nil)))) (nomark _))))) (pss_one (ps_ret pe_bl)) pss_nil)
      (pss_one (ps_for (passes_of rfl) rfl (pi_list (pv 12)) (pg_name (i := 3) sc_law.nd rfl (Or.inl rfl)) (pss_cons (ps_if (pt_not (pt_val (pe_cal c__law_alike (hr.mono (by decide)) rfl (pa_cons (pe_cal c_add_turns (hr.mono (by decide)) rfl (pa_cons (pv 2) (pa_cons (pv 3) pa_nil))) (pa_cons (pe_cal c__law_more (hr.mono (by decide)) rfl (pa_cons (pv 2) (pa_cons (pv 3) pa_nil))) pa_nil))))) (pss_one (ps_ret pe_bl)) pss_nil)
      (pss_cons (ps_set (i := 4) sc_law.nd rfl (Or.inl rfl) (pe_or (pe_cmpR op_lt (pe_ix (r := rIxT K) ix_tup (pv 2) pe_int (fun _ _ => rfl)) (pe_ix (r := rIxT K) ix_tup (pv 3) pe_int (fun _ _ => rfl)) (nomark _)) (pe_one (pe_and (pe_cmpR (op_eqD (u64 hr)) (pe_ix (r := rIxT K) ix_tup (pv 2) pe_int (fun _ _ => rfl)) (pe_ix (r := rIxT K) ix_tup (pv 3) pe_int (fun _ _ => rfl)) (nomark _)) (pe_one (pe_cmpR op_lt (pe_op op_mulW (pe_ix (r := rIxT K) ix_tup (pv 2) pe_int (fun _ _ => rfl)) (pe_ix (r := rIxT K) ix_tup (pv 3) pe_int (fun _ _ => rfl))) (pe_op op_mulW (pe_ix (r := rIxT K) ix_tup (pv 3) pe_int (fun _ _ => rfl)) (pe_ix (r := rIxT K) ix_tup (pv 2) pe_int (fun _ _ => rfl))) (nomark _)))))))
      (pss_one (ps_if (pt_not (pt_val (pe_cal c__law_alike (hr.mono (by decide)) rfl (pa_cons (pe_cal c_is_less_turn (hr.mono (by decide)) rfl (pa_cons (pv 2) (pa_cons (pv 3) pa_nil))) (pa_cons (pv 4) pa_nil))))) (pss_one (ps_ret pe_bl)) pss_nil))))))))
      (pss_cons (ps_set (i := 7) sc_law.nd rfl (Or.inl rfl) (pe_tup (pa_cons pe_int (pa_cons pe_int (pa_cons pe_int pa_nil)))))
      (pss_cons (ps_for (passes_of rfl) rfl (pi_list (pv 12)) (pg_name (i := 2) sc_law.nd rfl (Or.inl rfl)) (pss_one (ps_set (i := 7) sc_law.nd rfl (Or.inl rfl) (pe_cal c__law_more (hr.mono (by decide)) rfl (pa_cons (pv 7) (pa_cons (pv 2) pa_nil))))))
      (pss_cons (ps_if (PW.pt (pw_or (pt_not (pt_val (pe_cal c__law_alike (hr.mono (by decide)) rfl (pa_cons (pe_cal c_sum_turns (hr.mono (by decide)) rfl (pa_cons (pe_callTy call_tuple_of (by rfl) T.b_tuple (by decide +kernel) (pa_cons (pv 12) pa_nil)) pa_nil)) (pa_cons (pv 7) pa_nil))))) (pw_or (pt_cmpR (op_neD (u64 hr)) (pe_cal c_sum_turns (hr.mono (by decide)) rfl (pa_cons (pe_revL (pv 12)) pa_nil)) (pv 7) (nomark _)) (pw_or1 (pt_cmpR (op_neD (u64 hr)) (pe_cal c_sum_turns (hr.mono (by decide)) rfl (pa_cons (pe_lst pa_nil) pa_nil)) (pe_tup (pa_cons pe_int (pa_cons pe_int (pa_cons pe_int pa_nil)))) (nomark _)))))) (pss_one (ps_ret pe_bl)) pss_nil)
      (pss_cons (ps_set (i := 9) sc_law.nd rfl (Or.inr rfl) (pe_cal c__law_pick (hr.mono (by decide)) rfl (pa_cons (pv 11) (pa_cons (pe_lst (pa_cons pe_non (pa_cons (pe_tup (pa_cons pe_int (pa_cons pe_int pa_nil))) (pa_cons (pe_tup (pa_cons pe_int (pa_cons pe_int pa_nil))) (pa_cons (pe_tup (pa_cons pe_int pa_nil)) (pa_cons (pe_lst (pa_cons pe_int (pa_cons pe_int pa_nil))) (pa_cons (pe_tup (pa_cons pe_int (pa_cons pe_bl pa_nil))) (pa_cons (pe_tup (pa_cons pe_int (pa_cons (pe_un un_neg pe_int) pa_nil))) pa_nil)))))))) pa_nil))))
      (pss_cons (ps_if (pt_cmpR op_ne (pe_callB (cr_repr hgu (u64 hr)) (by rfl) T.b_repr (by decide +kernel) (pa_cons (pe_lam (k := 4) O rfl (hr.mono (by decide)) (lamS_by (sc := defScope s_law) (by decide +kernel)) rfl (fun _ _ _ _ _ => rfl) (fun A2 outer2 s2 H2 E2 f2 c2 hr => (pe_calX c_turn_between (hr.mono (by decide)) rfl (pa_cons (pv 9) (pa_cons pe_non pa_nil)) (takes_of rfl rfl rfl rfl)))) pa_nil)) (pe_callB (cr_repr hgu (u64 hr)) (by rfl) T.b_repr (by decide +kernel) (pa_cons (pe_tup (pa_cons pe_str (pa_cons (pv 9) pa_nil))) pa_nil)) (nomark _)) (pss_one (ps_ret pe_bl)) pss_nil)
      (pss_cons (ps_if (pt_cmpR op_ne (pe_callB (cr_repr hgu (u64 hr)) (by rfl) T.b_repr (by decide +kernel) (pa_cons (pe_lam (k := 4) O rfl (hr.mono (by decide)) (lamS_by (sc := defScope s_law) (by decide +kernel)) rfl (fun _ _ _ _ _ => rfl) (fun A2 outer2 s2 H2 E2 f2 c2 hr => (pe_calX c_turn_between (hr.mono (by decide)) rfl (pa_cons (pe_tup (pa_cons pe_int (pa_cons pe_int pa_nil))) (pa_cons (pv 9) pa_nil)) (takes_of rfl rfl rfl rfl)))) pa_nil)) (pe_callB (cr_repr hgu (u64 hr)) (by rfl) T.b_repr (by decide +kernel) (pa_cons (pe_tup (pa_cons pe_str (pa_cons (pv 9) pa_nil))) pa_nil)) (nomark _)) (pss_one (ps_ret pe_bl)) pss_nil)
      (pss_cons (ps_set (i := 10) sc_law.nd rfl (Or.inr rfl) (pe_cal c__law_pick (hr.mono (by decide)) rfl (pa_cons (pv 11) (pa_cons (pe_lst (pa_cons pe_non (pa_cons (pe_tup (pa_cons pe_int (pa_cons pe_int (pa_cons pe_int pa_nil)))) (pa_cons (pe_tup (pa_cons pe_int (pa_cons pe_int (pa_cons pe_int pa_nil)))) (pa_cons (pe_tup (pa_cons pe_int (pa_cons pe_int (pa_cons (pe_un un_neg pe_int) pa_nil)))) (pa_cons (pe_tup (pa_cons pe_int (pa_cons pe_int (pa_cons pe_int pa_nil)))) (pa_cons (pe_lst (pa_cons pe_int (pa_cons pe_int (pa_cons pe_int pa_nil)))) (pa_cons (pe_tup (pa_cons pe_int (pa_cons pe_int pa_nil))) (pa_cons (pe_tup (pa_cons pe_int (pa_cons pe_bl (pa_cons pe_int pa_nil)))) (pa_cons (pe_tup (pa_cons pe_int (pa_cons (pe_un un_neg pe_int) (pa_cons pe_int pa_nil)))) pa_nil)))))))))) pa_nil))))
      (pss_cons (ps_for (passes_of rfl) rfl (pi_list (pe_lst (pa_cons (pe_gref rfl g_add_turns) (pa_cons (pe_gref rfl g_is_less_turn) pa_nil)))) (pg_name (i := 8) sc_law.nd rfl (Or.inr rfl)) (pss_cons (ps_if (pt_cmpR op_ne (pe_callB (cr_repr hgu (u64 hr)) (by rfl) T.b_repr (by decide +kernel) (pa_cons (pe_lam (k := 4) O rfl (hr.mono (by decide)) (lamS_by (sc := defScope s_law) (by decide +kernel)) rfl (fun _ _ _ _ _ => rfl) (fun A2 outer2 s2 H2 E2 f2 c2 hr => (pe_alt (pe_calL (i := 8) c_add_turns g_add_turns (hr.mono (by decide)) rfl (by first | exact Or.inl rfl | exact Or.inr (Or.inl rfl) | exact Or.inr (Or.inr rfl)) (pa_cons (pv 10) (pa_cons pe_non pa_nil)) (takes_of rfl rfl rfl rfl)) (pe_calL (i := 8) c_is_less_turn g_is_less_turn (hr.mono (by decide)) rfl (by first | exact Or.inl rfl | exact Or.inr (Or.inl rfl) | exact Or.inr (Or.inr rfl)) (pa_cons (pv 10) (pa_cons pe_non pa_nil)) (takes_of rfl rfl rfl rfl))))) pa_nil)) (pe_callB (cr_repr hgu (u64 hr)) (by rfl) T.b_repr (by decide +kernel) (pa_cons (pe_tup (pa_cons pe_str (pa_cons (pv 10) pa_nil))) pa_nil)) (nomark _)) (pss_one (ps_ret pe_bl)) pss_nil)
      (pss_one (ps_if (pt_cmpR op_ne (pe_callB (cr_repr hgu (u64 hr)) (by rfl) T.b_repr (by decide +kernel) (pa_cons (pe_lam (k := 4) O rfl (hr.mono (by decide)) (lamS_by (sc := defScope s_law) (by decide +kernel)) rfl (fun _ _ _ _ _ => rfl) (fun A2 outer2 s2 H2 E2 f2 c2 hr => (pe_alt (pe_calL (i := 8) c_add_turns g_add_turns (hr.mono (by decide)) rfl (by first | exact Or.inl rfl | exact Or.inr (Or.inl rfl) | exact Or.inr (Or.inr rfl)) (pa_cons (pe_tup (pa_cons pe_int (pa_cons pe_int (pa_cons pe_int pa_nil)))) (pa_cons (pv 10) pa_nil)) (takes_of rfl rfl rfl rfl)) (pe_calL (i := 8) c_is_less_turn g_is_less_turn (hr.mono (by decide)) rfl (by first | exact Or.inl rfl | exact Or.inr (Or.inl rfl) | exact Or.inr (Or.inr rfl)) (pa_cons (pe_tup (pa_cons pe_int (pa_cons pe_int (pa_cons pe_int pa_nil)))) (pa_cons (pv 10) pa_nil)) (takes_of rfl rfl rfl rfl))))) pa_nil)) (pe_callB (cr_repr hgu (u64 hr)) (by rfl) T.b_repr (by decide +kernel) (pa_cons (pe_tup (pa_cons pe_str (pa_cons (pv 10) pa_nil))) pa_nil)) (nomark _)) (pss_one (ps_ret pe_bl)) pss_nil))))
      (pss_cons (ps_if (pt_cmpR op_ne (pe_callB (cr_repr hgu (u64 hr)) (by rfl) T.b_repr (by decide +kernel) (pa_cons (pe_lam (k := 4) O rfl (hr.mono (by decide)) (lamS_by (sc := defScope s_law) (by decide +kernel)) rfl (fun _ _ _ _ _ => rfl) (fun A2 outer2 s2 H2 E2 f2 c2 hr => (pe_calX c_turn_back (hr.mono (by decide)) rfl (pa_cons (pv 10) pa_nil) (takes_of rfl rfl rfl rfl)))) pa_nil)) (pe_callB (cr_repr hgu (u64 hr)) (by rfl) T.b_repr (by decide +kernel) (pa_cons (pe_tup (pa_cons pe_str (pa_cons (pv 10) pa_nil))) pa_nil)) (nomark _)) (pss_one (ps_ret pe_bl)) pss_nil)
      (pss_cons (ps_if (pt_cmpR (op_neD (u64 hr)) (pe_lam (k := 4) O rfl (hr.mono (by decide)) (lamS_by (sc := defScope s_law) (by decide +kernel)) rfl (fun _ _ _ _ _ => rfl) (fun A2 outer2 s2 H2 E2 f2 c2 hr => (pe_calX c_sum_turns (hr.mono (by decide)) rfl (pa_cons (pe_op (r := rCatL K) op_catL (pv 12) (pe_lst (pa_cons (pv 10) pa_nil))) pa_nil) (takes_of rfl rfl rfl rfl)))) (pe_tup (pa_cons pe_str (pa_cons pe_int pa_nil))) (nomark _)) (pss_one (ps_ret pe_bl)) pss_nil)
      (pss_one (ps_ret (pe_cmpR (op_eqD (u64 hr)) (pe_lam (k := 4) O rfl (hr.mono (by decide)) (lamS_by (sc := defScope s_law) (by decide +kernel)) rfl (fun _ _ _ _ _ => rfl) (fun A2 outer2 s2 H2 E2 f2 c2 hr => (pe_calX c_sum_turns (hr.mono (by decide)) rfl (pa_cons (pe_cal c__law_pick (hr.mono (by decide)) rfl (pa_cons (pv 11) (pa_cons (pe_lst (pa_cons pe_non (pa_cons (pe_op op_rep (pe_lst (pa_cons (pe_tup (pa_cons pe_int (pa_cons pe_int (pa_cons pe_int pa_nil)))) pa_nil)) pe_int) (pa_cons pe_int pa_nil)))) pa_nil))) pa_nil) (takes_of rfl rfl rfl rfl)))) (pe_tup (pa_cons pe_str (pa_cons (pe_un un_neg pe_int) pa_nil))) (nomark _)))))))))))))))))), ?_⟩
  refine xs_row rfl fun p hp => ?_
  obtain ⟨t, k0⟩ := law_start (q := (cxOf (L2.CX P w) P w K mg base ["script", "k", "one", "other", "due", "told", "back", "whole", "ask", "bad", "odd", "row", "turns"] "law" (defScope s_law) fa (.ref c) callerA [] s H (fun _ _ _ => False)).env.qual ++ "<lambda>") hT hS hp 0 110 (by omega) (by omega) (by omega) 0
  have env0 : Env ⟨K, rowFx K ⟨p, a, Tb, (cxOf (L2.CX P w) P w K mg base ["script", "k", "one", "other", "due", "told", "back", "whole", "ask", "bad", "odd", "row", "turns"] "law" (defScope s_law) fa (.ref c) callerA [] s H (fun _ _ _ => False)).env.qual ++ "<lambda>", ns, t⟩, fun _ => none, upd H p (rowHO a 0 110 0), fun _ _ _ => False⟩ (fun _ => none) (upd H p (rowHO a 0 110 0)) ((L2.start ["script", "k", "one", "other", "due", "told", "back", "whole", "ask", "bad", "odd", "row", "turns"] [.ref a]).set 11 (some (.ref p))) [.raw (.ref a), .no, .no, .no, .no, .no, .no, .no, .no, .no, .no, .raw (.ref p), .no] :=
    (env_start (vs := [.ref a]) (ss := [.raw (.ref a)]) 12 (.cons rfl .nil)).set 11 (s := .raw (.ref p)) rfl
  refine xc_start k0 env0 ?_
  clear env0 k0
  generalize (cxOf (L2.CX P w) P w K mg base ["script", "k", "one", "other", "due", "told", "back", "whole", "ask", "bad", "odd", "row", "turns"] "law" (defScope s_law) fa (.ref c) callerA [] s H (fun _ _ _ => False)).env.qual ++ "<lambda>" = q
  generalize upd H p (rowHO a 0 110 0) = B
  have ev_point : ∀ {ρ : Rho}, ρ[11]? = some (.raw (.ref p)) → Ev ⟨K, rowFx K ⟨p, a, Tb, q, ns, t⟩, fun _ => none, B, fun _ _ _ => False⟩ (tCall (spZ fun z : RowZ => spI K (rowFx K z) (fun _ : Unit => [.raw (.ref z.r)]) (fun _ => True) (fun _ r => ∃ p, Pq p ∧ r = .ok (.dat (dP p)))) [] E0 (tCons (tVar 11) tNil)) ρ (fun s => ∃ p, Pq p ∧ s = .dat (dP p)) := fun {ρ} hρ =>
    ev_callZ (fx := rowFx K) ⟨p, a, Tb, q, ns, t⟩ (ea_cons (ev_varR hρ) ea_nil) fun ss e => ⟨(), e.symm, trivial, fun s ⟨p, hp, e⟩ => ⟨p, hp, Re.ok.inj e⟩, fun C d ⟨_, _, e⟩ => by cases e⟩
  refine xs_asgF ef_nil fun aT ds e => ?_
  subst e
  refine xs_for (im_rng1E (n := 6) ev_int (by omega)) (fun k ρ => ∃ (l : List T3) (s1 s2 s3 s4 s5 s6 : Sl), l.length = k ∧ (∀ t ∈ l, Trn t ∧ Sz 21 t) ∧ ρ = [.raw (.ref a), s1, s2, s3, s4, s5, s6, .no, .no, .no, .no, .raw (.ref p), .own aT (.lst (l.map dT))]) ⟨[], _, _, _, _, _, _, rfl, by simp, rfl⟩ (fun k d ρ1 hd hI => ?_) fun ρ1 hI => ?_
  · obtain ⟨l, s1, s2, s3, s4, s5, s6, hk, hl, rfl⟩ := hI
    have hk6 : k < 6 := by
      have := (List.getElem?_eq_some_iff.mp hd).1
      rw [rngD_length] at this
      exact this
    refine ⟨_, _, tg_name, ?_⟩
    refine xs_parP (ea_two (ev_point rfl) (ev_point rfl)) fun x y hxy => ?_
    obtain ⟨⟨pa, ha, rfl⟩, ⟨pb, hb, rfl⟩⟩ := hxy
    obtain ⟨x, y⟩ := pa
    obtain ⟨u, v⟩ := pb
    have ha' := ha.pt
    have hb' := hb.pt
    have m1 : CMulW x u := mulW ha'.2.1 hb'.2.1 (by omega) (by omega)
    have m2 : CMulW y v := mulW ha'.2.2 hb'.2.2 (by omega) (by omega)
    have m3 : CMulW x v := mulW ha'.2.1 hb'.2.2 (by omega) (by omega)
    have m4 : CMulW y u := mulW ha'.2.2 hb'.2.1 (by omega) (by omega)
    have nz := bt_nz ha.1 hb.1
    have sb := bt_sz ha' hb'
    have nt : Trn (nrm (bt (x, y) (u, v))) := nrm_trn nz
    have ns' : Sz 21 (nrm (bt (x, y) (u, v))) := nrm_sz nz sb
    have sb2 := bt_sz hb' ha'
    have nz2 : NZ (bt (u, v) (x, y)) := bt_nz hb.1 ha.1
    have nt2 : Trn (nrm (bt (u, v) (x, y))) := nrm_trn nz2
    have ns2 : Sz 21 (nrm (bt (u, v) (x, y))) := nrm_sz nz2 sb2
    have tbk := there_back (c := (bt (x, y) (u, v)).2.1) (s := (bt (x, y) (u, v)).2.2) nz
    have e0 : ((0 : Int), (bt (x, y) (u, v)).2.1, (bt (x, y) (u, v)).2.2) = bt (x, y) (u, v) := rfl
    rw [e0, ← bt_back] at tbk
    refine xs_asg (ev_callE (bt (x, y) (u, v)) (ea_cons ev_int (ea_cons (ev_I0 (i := x * u) (j := y * v) (ev_IC (ev_ixU (ev_var rfl) ev_int rfl) (ev_ixU (ev_var rfl) ev_int rfl) m1) (ev_IC (ev_ixU (ev_var rfl) ev_int rfl) (ev_ixU (ev_var rfl) ev_int rfl) m2)) (ea_cons (ev_I0 (i := x * v) (j := y * u) (ev_IC (ev_ixU (ev_var rfl) ev_int rfl) (ev_ixU (ev_var rfl) ev_int rfl) m3) (ev_IC (ev_ixU (ev_var rfl) ev_int rfl) (ev_ixU (ev_var rfl) ev_int rfl) m4)) ea_nil))) ⟨nz, 21, by omega, sb⟩) ?_
    refine xs_asg (ev_callV (dP (x, y), dP (u, v)) (ea_cons (ev_var rfl) (ea_cons (ev_var rfl) ea_nil)) trivial (s := .dat (dT (nrm (bt (x, y) (u, v))))) (by simp only [okP_dP ha, okP_dP hb, if_true]; rfl)) ?_
    generalize nrm (bt (x, y) (u, v)) = tl at nt ns' tbk ⊢
    refine xs_when (b := false) (et_no (et_or (et_not (et_B (ev_callE (dT tl) (ea_cons (ev_var rfl) (ea_cons (ev_var rfl) ea_nil)) (flp_T tl)))) fun _ => et_not (et_test (ev_chain (i := 0) (j := tl.1) (l := 4) ev_int (ev_ixU (ev_var rfl) ev_int rfl) fun _ => ev_int))) ?_) (fun z => by cases z) fun _ => ?_
    · simp [tbk.2.1, tbk.2.2]
    refine xs_asg (ev_callV (dP (u, v), dP (x, y)) (ea_cons (ev_var rfl) (ea_cons (ev_var rfl) ea_nil)) trivial (s := .dat (dT (nrm (bt (u, v) (x, y))))) (by simp only [okP_dP ha, okP_dP hb, if_true]; rfl)) ?_
    generalize nrm (bt (u, v) (x, y)) = tr' at nt2 ns2 tbk ⊢
    refine xs_when (b := false) (et_no (et_test (ev_neD (d := dT (add tl tr')) (d' := dT (if tl = (0, 1, 0) then (0, 1, 0) else (4, 1, 0))) (ev_callV (dT tl, dT tr') (ea_cons (ev_var rfl) (ea_cons (ev_var rfl) ea_nil)) ⟨?_, ?_⟩ (by simp only [isTurn_dT nt, isTurn_dT nt2, if_true]; rfl)) (ev_if (et_test (ev_eqD (d := dT tl) (d' := dT (0, 1, 0)) (ev_var rfl) (ev_tup3 ev_int ev_int ev_int) rfl rfl)) (fun hz => ?_) fun hz => ?_) rfl rfl)) ?_) (fun z => by cases z) fun _ => ?_
    · exact sz_le ns' (by omega)
    · exact sz_le ns2 (by omega)
    · rw [eqv_Tn] at hz
      rw [if_pos (of_decide_eq_true hz)]
      exact ev_tup3 ev_int ev_int ev_int
    · rw [eqv_Tn] at hz
      rw [if_neg (of_decide_eq_false hz)]
      exact ev_tup3 ev_int ev_int ev_int
    · rw [tbk.1, eqv_TT]
      rfl
    refine xc_append (p := fun d => ∃ t : T3, Trn t ∧ Sz 21 t ∧ d = dT t) rfl ((ev_tupP (p := fun ds => ∃ t : T3, Trn t ∧ Sz 21 t ∧ PyData.tuple ds = dT t) (ea_consP (evI_0 (p := fun _ => True) (q := fun _ => True) (s := fun _ => True) (evI_0 (p := fun _ => True) (s := fun _ => True) ((ev_ixU (d := .int tl.1) (ev_var rfl) ev_int rfl).toI trivial) (ev_taken (ev_varR rfl) ev_int (by omega) (by omega)) fun _ _ _ _ => trivial) (ev_int.toI trivial) fun _ _ _ _ => trivial) (ea_cons (ev_ixU (d := .int tl.2.1) (ev_var rfl) ev_int rfl) (ea_cons (ev_ixU (d := .int tl.2.2) (ev_var rfl) ev_int rfl) ea_nil)) ?_)).imp ?_) (by simp; omega) ?_
    · rintro _ _ ⟨i, rfl, _⟩ rfl
      exact ⟨[.int i, .int tl.2.1, .int tl.2.2], rfl, by simp, (i, tl.2.1, tl.2.2), nt, ns', rfl⟩
    · rintro _ ⟨ds, rfl, t, h1, h2, h3⟩
      exact ⟨_, rfl, t, h1, h2, h3⟩
    · rintro d ⟨t, h1, h2, rfl⟩
      refine ⟨l ++ [t], _, _, _, _, _, _, by rw [List.length_append, hk]; rfl, fun r hr => ?_, by rw [List.map_append]; rfl⟩
      rcases List.mem_append.mp hr with h | h
      · exact hl r h
      · rw [List.mem_singleton.mp h]
        exact ⟨h1, h2⟩
  · obtain ⟨l, s1, s2, s3, s4, s5, s6, hk, hl, rfl⟩ := hI
    rw [rngD_length] at hk
    have hal : ∀ t ∈ l, Trn t := fun t ht => (hl t ht).1
    have ha0 : all0 l := fun t ht => (hal t ht).in0
    have hz2 : ∀ t ∈ l, Sz 200 t := fun t ht => sz_le (hl t ht).2 (by omega)
    refine xs_freeze (i := 12) rfl ?_
    refine xs_for (im_listE (ds := l.map dT) (ev_var rfl)) (fun _ ρ => ∃ (s1 s2 s3 s4 s5 s6 : Sl), ρ = [.raw (.ref a), s1, s2, s3, s4, s5, s6, .no, .no, .no, .no, .raw (.ref p), .dat (.list (l.map dT))]) ⟨_, _, _, _, _, _, rfl⟩ (fun i d ρ1 hd hI => ?_) fun ρ1 hI => ?_
    · obtain ⟨s1, s2, s3, s4, s5, s6, rfl⟩ := hI
      obtain ⟨t1, hm1, rfl⟩ := List.mem_map.mp (List.mem_of_getElem? hd)
      have tb1 := bck_trn (hal t1 hm1)
      have sb1 : Sz 200 (bck t1) := bck_sz (by omega) (hz2 t1 hm1)
      refine ⟨_, _, tg_name, ?_⟩
      refine xs_when (b := false) (et_no (et_or (et_not (et_B (ev_callE (dT (bck t1)) (ea_cons (ev_callV (dT t1) (ea_cons (ev_var rfl) ea_nil) trivial (s := .dat (dT (bck t1))) (by simp only [isTurn_dT (hal t1 hm1), if_true]; rfl)) (ea_cons (ev_callE t1 (ea_cons (ev_tup3 ev_int ev_int ev_int) (ea_cons (ev_var rfl) ea_nil)) ⟨hal t1 hm1, hz2 t1 hm1⟩) ea_nil)) (flp_T _)))) fun _ =>
        et_test (ev_neD (d := dT (add t1 (bck t1))) (d' := dT (0, 1, 0)) (ev_callV (dT t1, dT (bck t1)) (ea_cons (ev_var rfl) (ea_cons (ev_callV (dT t1) (ea_cons (ev_var rfl) ea_nil) trivial (s := .dat (dT (bck t1))) (by simp only [isTurn_dT (hal t1 hm1), if_true]; rfl)) ea_nil)) ⟨hz2 t1 hm1, sb1⟩ (by simp only [isTurn_dT (hal t1 hm1), isTurn_dT tb1, if_true]; rfl)) (ev_tup3 ev_int ev_int ev_int) rfl rfl)) ?_) (fun z => by cases z) fun _ => ?_
      · rw [add_bck (hal t1 hm1), eqv_TT]
        rfl
      refine xc_forE (im_listE (ds := l.map dT) (ev_var rfl)) (fun _ ρ => ∃ (s1 s3 s4 s5 s6 : Sl), ρ = [.raw (.ref a), s1, .dat (dT t1), s3, s4, s5, s6, .no, .no, .no, .no, .raw (.ref p), .dat (.list (l.map dT))]) ⟨_, _, _, _, _, rfl⟩ (fun i d ρ1 hd hI => ?_) fun ρ1 hI => ?_
      · obtain ⟨s1, s3, s4, s5, s6, rfl⟩ := hI
        obtain ⟨t2, hm2, rfl⟩ := List.mem_map.mp (List.mem_of_getElem? hd)
        refine ⟨_, _, tg_name, ?_⟩
        have h1 := hal t1 hm1
        have h2 := hal t2 hm2
        have z1 := hz2 t1 hm1
        have z2 := hz2 t2 hm2
        have m1 : CMulW t1.2.2 t2.2.1 := mulW z1.2 z2.1 (by omega) (by omega)
        have m2 : CMulW t2.2.2 t1.2.1 := mulW z2.2 z1.1 (by omega) (by omega)
        refine xs_when (b := false) (et_no (et_not (et_B (ev_callE (dT (add t1 t2)) (ea_cons (ev_callV (dT t1, dT t2) (ea_cons (ev_var rfl) (ea_cons (ev_var rfl) ea_nil)) ⟨z1, z2⟩ (s := .dat (dT (add t1 t2))) (by simp only [isTurn_dT h1, isTurn_dT h2, if_true]; rfl)) (ea_cons (ev_callE (t1, t2) (ea_cons (ev_var rfl) (ea_cons (ev_var rfl) ea_nil)) ⟨h1.in0, h2.in0, 200, 200, by omega, z1, z2⟩) ea_nil)) (flp_T _)))) rfl) (fun z => by cases z) fun _ => ?_
        refine xs_asg ((ev_orV (ev_C0 (i := t1.1) (j := t2.1) (ev_ixU (ev_var rfl) ev_int rfl) (ev_ixU (ev_var rfl) ev_int rfl)) fun _ => ev_andV (ev_eqI (i := t1.1) (j := t2.1) (ev_ixU (ev_var rfl) ev_int rfl) (ev_ixU (ev_var rfl) ev_int rfl)) fun _ =>
          ev_C0 (i := t1.2.2 * t2.2.1) (j := t2.2.2 * t1.2.1) (ev_IC (ev_ixU (ev_var rfl) ev_int rfl) (ev_ixU (ev_var rfl) ev_int rfl) m1) (ev_IC (ev_ixU (ev_var rfl) ev_int rfl) (ev_ixU (ev_var rfl) ev_int rfl) m2)).cast (congrArg (fun b => Sl.dat (.bool b)) les_law)) ?_
        exact xc_if (b := false) (et_no (et_not (et_B (ev_callE (PyData.bool (les t1 t2)) (ea_cons (ev_callV (dT t1, dT t2) (ea_cons (ev_var rfl) (ea_cons (ev_var rfl) ea_nil)) ⟨z1, z2⟩ (s := .dat (.bool (les t1 t2))) (by simp only [isTurn_dT h1, isTurn_dT h2, if_true]; rfl)) (ea_cons (ev_var rfl) ea_nil)) trivial))) rfl) (fun z => by cases z) fun _ => xc_next ⟨_, _, _, _, _, rfl⟩
      · obtain ⟨s1, s3, s4, s5, s6, rfl⟩ := hI
        exact ⟨_, _, _, _, _, _, rfl⟩
    · obtain ⟨s1, s2, s3, s4, s5, s6, rfl⟩ := hI
      refine xs_asg (s := .dat (dT t0)) (ev_tup3 ev_int ev_int ev_int) ?_
      refine xs_for (im_listE (ds := l.map dT) (ev_var rfl)) (fun i ρ => ∃ (s1 s2 s3 s4 s5 s6 : Sl), ρ = [.raw (.ref a), s1, s2, s3, s4, s5, s6, .dat (dT ((l.take i).foldl add t0)), .no, .no, .no, .raw (.ref p), .dat (.list (l.map dT))]) ⟨_, _, _, _, _, _, rfl⟩ (fun i d ρ1 hd hI => ?_) fun ρ1 hI => ?_
      · obtain ⟨s1, s2, s3, s4, s5, s6, rfl⟩ := hI
        rw [List.getElem?_map] at hd
        obtain ⟨t, ht, rfl⟩ := Option.map_eq_some_iff.mp hd
        have hm : t ∈ l := List.mem_of_getElem? ht
        have hf := fold_ok (l.take i) t0 1 (fun y hy => hl y (List.mem_of_mem_take hy)) t0_trn.in0 t0_sz
        have hk' : (l.take i).length ≤ 6 := by
          rw [List.length_take]
          omega
        refine ⟨_, _, tg_name, ?_⟩
        refine xc_asg (ev_callE ((l.take i).foldl add t0, t) (ea_cons (ev_var rfl) (ea_cons (ev_var rfl) ea_nil)) ⟨hf.1, (hal t hm).in0, _, 21, by omega, hf.2, (hl t hm).2⟩) ⟨s1, .dat (dT t), s3, s4, s5, s6, ?_⟩
        rw [take_succ_fold l ht]
        rfl
      · obtain ⟨s1, s2, s3, s4, s5, s6, rfl⟩ := hI
        rw [List.length_map, List.take_length]
        have hpre : ∀ (l' : List T3), (∀ t ∈ l', Trn t ∧ Sz 21 t) → l'.length ≤ 6 → ∀ d b0, rows d = some (b0, l'.map dT) → ∀ b ds, rows d = some (b, ds) → (∀ x ∈ ds, isTurn x = true) → ds.length ≤ 100 → ds.length ≤ 6 ∧ ∀ x ∈ ds, Sz 21 (tr x) := fun l' h6 h7 d b0 e0 b ds e _ _ => by
          rw [e0] at e
          cases e
          refine ⟨by rw [List.length_map]; exact h7, fun x hx => ?_⟩
          obtain ⟨t, ht, rfl⟩ := List.mem_map.mp hx
          exact (h6 t ht).2
        have hlr : ∀ t ∈ l.reverse, Trn t ∧ Sz 21 t := fun t ht => hl t (List.mem_reverse.mp ht)
        have hrev := foldl_rev l t0 ha0 t0_trn.in0
        have evr : Ev ⟨K, rowFx K ⟨p, a, Tb, q, ns, t⟩, fun _ => none, B, fun _ _ _ => False⟩ (tRevL K (tVar 12)) [.raw (.ref a), s1, s2, s3, s4, s5, s6, .dat (dT (l.foldl add t0)), .no, .no, .no, .raw (.ref p), .dat (.list (l.map dT))] (Eq (.dat (.list (l.reverse.map dT)))) := (ef_rev (ds := l.map dT) (el_of (ev_var rfl))).evE.cast (by rw [List.map_reverse])
        refine xs_when (b := false) (et_no (et_or (et_not (et_B (ev_callE (dT (l.foldl add t0)) (ea_cons (ev_callV (.tuple (l.map dT)) (ea_cons (ev_tupL (el_of (ev_var rfl))) ea_nil) (hpre l hl (by omega) _ false rfl) (s := .dat (dT (l.foldl add t0))) (sumR_ok (b := false) rfl (by omega) hal)) (ea_cons (ev_var rfl) ea_nil)) (flp_T _)))) fun _ =>
          et_or (et_test (ev_neD (d := dT (l.foldl add t0)) (d' := dT (l.foldl add t0)) (ev_callV (.list (l.reverse.map dT)) (ea_cons evr ea_nil) (hpre l.reverse hlr (by rw [List.length_reverse]; omega) _ true rfl) (s := .dat (dT (l.foldl add t0))) (by rw [← hrev]; exact sumR_ok (b := true) rfl (by rw [List.length_reverse]; omega) fun t ht => (hlr t ht).1)) (ev_var rfl) rfl rfl)) fun _ =>
          et_test (ev_neD (d := dT t0) (d' := dT t0) (ev_callV (.list []) (ea_cons ev_lst0 ea_nil) (hpre [] (by simp) (by simp) _ true rfl) (s := .dat (dT t0)) (sumR_ok (l := []) (b := true) rfl (by simp) (by simp))) (ev_tup3 ev_int ev_int ev_int) rfl rfl)) ?_) (fun z => by cases z) fun _ => ?_
        · simp only [eqv_TT]
          rfl
        generalize l.foldl add t0 = W
        refine xs_asgP (p := fun s => ∃ d, s = .dat d ∧ d ∈ badL) (ev_callZ (fx := rowFx K) ⟨p, a, Tb, q, ns, t⟩ (ea_cons (ev_varR rfl) (ea_cons (ev_lst (ds := badL) (ea_cons ev_non (ea_cons (ev_tup2 ev_int ev_int) (ea_cons (ev_tup2 ev_int ev_int) (ea_cons (ev_tup1 ev_int) (ea_cons (ev_lst (ds := [.int 1, .int 0]) (ea_cons ev_int (ea_cons ev_int ea_nil)) (by simp)) (ea_cons (ev_tup2 ev_int ev_bl) (ea_cons (ev_tup2 ev_int (ev_neg ev_int)) ea_nil))))))) (by simp [badL])) ea_nil))
          fun ss e => ⟨badL, e.symm, ⟨by simp [badL], by simp [badL]⟩, fun s ⟨d, hd, e⟩ => ⟨d, Re.ok.inj e, hd⟩, fun C d ⟨_, _, e⟩ => by cases e⟩) ?_
        rintro _ ⟨bad, rfl, hbad⟩
        obtain ⟨b1, b2⟩ := bad_ok bad hbad
        refine xs_when (b := false) (et_no (et_test (ev_neS (ev_show (ev_ref T.told1 (evx_callV (bad, .none) (ea_cons (ev_var rfl) (ea_cons ev_non ea_nil)) trivial (C := C1) (d := bad) (by simp only [b1]; rfl))) b2) (ev_show (ev_tup2 ev_str (ev_var rfl)) b2))) (by simp)) (fun z => by cases z) fun _ => ?_
        refine xs_when (b := false) (et_no (et_test (ev_neS (ev_show (ev_ref T.told1 (evx_callV (dP (1, 0), bad) (ea_cons (ev_tup2 ev_int ev_int) (ea_cons (ev_var rfl) ea_nil)) trivial (C := C1) (d := bad) (by simp only [b1, show okP (dP (1, 0)) = true by decide +kernel]; rfl))) b2) (ev_show (ev_tup2 ev_str (ev_var rfl)) b2))) (by simp)) (fun z => by cases z) fun _ => ?_
        refine xs_asgP (p := fun s => ∃ d, s = .dat d ∧ d ∈ oddL) (ev_callZ (fx := rowFx K) ⟨p, a, Tb, q, ns, t⟩ (ea_cons (ev_varR rfl) (ea_cons (ev_lst (ds := oddL) (ea_cons ev_non (ea_cons (ev_tup3 ev_int ev_int ev_int) (ea_cons (ev_tup3 ev_int ev_int ev_int) (ea_cons (ev_tup3 ev_int ev_int (ev_neg ev_int)) (ea_cons (ev_tup3 ev_int ev_int ev_int) (ea_cons (ev_lst (ds := [.int 0, .int 1, .int 0]) (ea_cons ev_int (ea_cons ev_int (ea_cons ev_int ea_nil))) (by simp)) (ea_cons (ev_tup2 ev_int ev_int) (ea_cons (ev_tup3 ev_int ev_bl ev_int) (ea_cons (ev_tup3 ev_int (ev_neg ev_int) ev_int) ea_nil))))))))) (by simp [oddL])) ea_nil))
          fun ss e => ⟨oddL, e.symm, ⟨by simp [oddL], by simp [oddL]⟩, fun s ⟨d, hd, e⟩ => ⟨d, Re.ok.inj e, hd⟩, fun C d ⟨_, _, e⟩ => by cases e⟩) ?_
        rintro _ ⟨odd, rfl, hodd⟩
        obtain ⟨o1, o2, o3⟩ := odd_ok odd hodd
        refine xs_forR (ws := [.ref f1, .ref f2]) (ea_cons ev_raw (ea_cons ev_raw ea_nil)) (by simp) (fun _ ρ => ∃ s8 : Sl, ρ = [.raw (.ref a), s1, s2, s3, s4, s5, s6, .dat (dT W), s8, .dat bad, .dat odd, .raw (.ref p), .dat (.list (l.map dT))]) ⟨_, rfl⟩ (fun i v ρ1 hv hI => ?_) fun ρ1 hI => ?_
        · obtain ⟨s8, rfl⟩ := hI
          have hv' : v = .ref f1 ∨ v = .ref f2 := by
            have := List.mem_of_getElem? hv
            simpa using this
          rcases hv' with rfl | rfl
          · refine xs_when (b := false) (et_no (et_test (ev_neS (ev_show (ev_ref T.told2 (evx_alt1 (evx_callLV (j := 8) (f := f1) (odd, .none) rfl (ea_cons (ev_var rfl) (ea_cons ev_non ea_nil)) ⟨o2, sz_non⟩ (C := C2) (d := odd) (by simp only [o1]; rfl)))) o3) (ev_show (ev_tup2 ev_str (ev_var rfl)) o3))) (by simp)) (fun z => by cases z) fun _ => ?_
            exact xc_if (b := false) (et_no (et_test (ev_neS (ev_show (ev_ref T.told2 (evx_alt1 (evx_callLV (j := 8) (f := f1) (dT t0, odd) rfl (ea_cons (ev_tup3 ev_int ev_int ev_int) (ea_cons (ev_var rfl) ea_nil)) ⟨sz_t0, o2⟩ (C := C2) (d := odd) (by simp only [o1, isTurn_dT t0_trn]; rfl)))) o3) (ev_show (ev_tup2 ev_str (ev_var rfl)) o3))) (by simp)) (fun z => by cases z) fun _ => xc_next ⟨_, rfl⟩
          · refine xs_when (b := false) (et_no (et_test (ev_neS (ev_show (ev_ref T.told2 (evx_alt2 (evx_callLV (j := 8) (f := f2) (odd, .none) rfl (ea_cons (ev_var rfl) (ea_cons ev_non ea_nil)) ⟨o2, sz_non⟩ (C := C2) (d := odd) (by simp only [o1]; rfl)))) o3) (ev_show (ev_tup2 ev_str (ev_var rfl)) o3))) (by simp)) (fun z => by cases z) fun _ => ?_
            exact xc_if (b := false) (et_no (et_test (ev_neS (ev_show (ev_ref T.told2 (evx_alt2 (evx_callLV (j := 8) (f := f2) (dT t0, odd) rfl (ea_cons (ev_tup3 ev_int ev_int ev_int) (ea_cons (ev_var rfl) ea_nil)) ⟨sz_t0, o2⟩ (C := C2) (d := odd) (by simp only [o1, isTurn_dT t0_trn]; rfl)))) o3) (ev_show (ev_tup2 ev_str (ev_var rfl)) o3))) (by simp)) (fun z => by cases z) fun _ => xc_next ⟨_, rfl⟩
        · obtain ⟨s8, rfl⟩ := hI
          refine xs_when (b := false) (et_no (et_test (ev_neS (ev_show (ev_ref T.told2 (evx_callV odd (ea_cons (ev_var rfl) ea_nil) trivial (C := C2) (d := odd) (by simp only [o1]; rfl))) o3) (ev_show (ev_tup2 ev_str (ev_var rfl)) o3))) (by simp)) (fun z => by cases z) fun _ => ?_
          have hsix : sumR C3 (.list (l.map dT ++ [odd])) = .ex C3 (.int 6) := by
            unfold sumR
            show (if 100 < (l.map dT ++ [odd]).length then _ else _) = _
            rw [if_neg (by simp [hk]), fb_odd l 0 odd hal o1, hk]
            rfl
          have evc : Ev ⟨K, rowFx K ⟨p, a, Tb, q, ns, t⟩, fun _ => none, B, fun _ _ _ => False⟩ (tOp (rCatL K) (tVar 12) (tLst (tCons (tVar 10) tNil))) [.raw (.ref a), s1, s2, s3, s4, s5, s6, .dat (dT W), s8, .dat bad, .dat odd, .raw (.ref p), .dat (.list (l.map dT))] (Eq (.dat (.list (l.map dT ++ [odd])))) :=
            (ef_catL (ds := l.map dT) (es := [odd]) (el_of (ev_var rfl)) (el_of (ev_lst (ds := [odd]) (ea_cons (ev_var rfl) ea_nil) (by simp))) (by simp [hk])).evE
          refine xs_when (b := false) (et_no (et_test (ev_neD (d := .tuple [.str "turns", .int 6]) (d' := .tuple [.str "turns", .int 6]) (ev_ref T.told3 (evx_callV (.list (l.map dT ++ [odd])) (ea_cons evc ea_nil) (fun b ds e ht _ => ?_) (C := C3) (d := .int 6) hsix)) (ev_tup2 ev_str ev_int) (by decide +kernel) (by decide +kernel))) (by decide +kernel)) (fun z => by cases z) fun _ => ?_
          · cases e
            have := ht odd (by simp)
            rw [o1] at this
            cases this
          refine xc_retB (ev_eqD (d := .tuple [.str "turns", .int (-1)]) (d' := .tuple [.str "turns", .int (-1)]) (ev_ref T.told3 (evx_callP (Pa := fun ss => ∃ d, ss = [.dat d] ∧ d ∈ lastL) (ea_consP (Pa := fun s => ∃ d, s = .dat d ∧ d ∈ lastL) (ev_callZ (fx := rowFx K) ⟨p, a, Tb, q, ns, t⟩ (ea_cons (ev_varR rfl) (ea_cons (ev_lst (ds := lastL) (ea_cons ev_non (ea_cons (ef_rep (ds := [dT t0]) (n := 101) (ef_lst (ds := [dT t0]) (ea_cons (ev_tup3 ev_int ev_int ev_int) ea_nil) (by simp)) ev_int (by omega) (by simp)).evE (ea_cons ev_int ea_nil))) (by simp [lastL])) ea_nil))
            fun ss e => ⟨lastL, e.symm, ⟨by simp [lastL], by simp [lastL]⟩, fun s ⟨d, hd, e⟩ => ⟨d, Re.ok.inj e, hd⟩, fun C d ⟨_, _, e⟩ => by cases e⟩) ea_nil fun x xs ⟨d, e, hd⟩ e2 => ⟨d, by rw [e, ← e2], hd⟩) fun ss ⟨d, e, hd⟩ => ?_)) (ev_tup2 ev_str (ev_neg ev_int)) (by decide +kernel) (by decide +kernel)) (by decide +kernel)
          obtain ⟨l1, l2⟩ := last_ok (C3 := C3) d hd
          refine ⟨d, e, fun b ds e _ h100 => absurd (l2 b ds e) (by omega), fun s h => ?_, fun C' d' h => ?_⟩
          · rw [l1] at h
            cases h
          · rw [l1] at h
            cases h
            exact ⟨rfl, rfl⟩
end
end K10

set_option Elab.async false
set_option linter.all false
set_option maxRecDepth 100000
set_option maxHeartbeats 4000000
namespace K10
open PySem PySem.Spec PyProof.Rows L2 Dl LamX
theorem all_mk {P : Program} {w : World} {K : PySem.W.Frag} {h : Heap} {mg : Str → Option Value} {fa : Addr} (X : K.In h) (G : h.Ns mainGlobals mg) (hfa : mg "law" = some (.ref fa))
    {f_is_integer : Addr} {oc_is_integer kV_is_integer dc_is_integer pm_is_integer ct_is_integer cd_is_integer : Value} {od_is_integer an_is_integer : Option Addr} {sl_is_integer : Array (Option Value)}
    {f_is_within : Addr} {oc_is_within kV_is_within dc_is_within pm_is_within ct_is_within cd_is_within : Value} {od_is_within an_is_within : Option Addr} {sl_is_within : Array (Option Value)}
    {f_is_row : Addr} {oc_is_row kV_is_row dc_is_row pm_is_row ct_is_row cd_is_row : Value} {od_is_row an_is_row : Option Addr} {sl_is_row : Array (Option Value)}
    {f_is_tuple_of : Addr} {oc_is_tuple_of kV_is_tuple_of dc_is_tuple_of pm_is_tuple_of ct_is_tuple_of cd_is_tuple_of : Value} {od_is_tuple_of an_is_tuple_of : Option Addr} {sl_is_tuple_of : Array (Option Value)}
    {f_is_turn : Addr} {oc_is_turn kV_is_turn dc_is_turn pm_is_turn ct_is_turn cd_is_turn : Value} {od_is_turn an_is_turn : Option Addr} {sl_is_turn : Array (Option Value)}
    {f_as_turn : Addr} {oc_as_turn kV_as_turn dc_as_turn pm_as_turn ct_as_turn cd_as_turn : Value} {od_as_turn an_as_turn : Option Addr} {sl_as_turn : Array (Option Value)}
    {f_told_between : Addr} {oc_told_between kV_told_between dc_told_between pm_told_between ct_told_between cd_told_between : Value} {od_told_between an_told_between : Option Addr} {sl_told_between : Array (Option Value)}
    {f_check_point : Addr} {oc_check_point kV_check_point dc_check_point pm_check_point ct_check_point cd_check_point : Value} {od_check_point an_check_point : Option Addr} {sl_check_point : Array (Option Value)}
    {f_turn_between : Addr} {oc_turn_between kV_turn_between dc_turn_between pm_turn_between ct_turn_between cd_turn_between : Value} {od_turn_between an_turn_between : Option Addr} {sl_turn_between : Array (Option Value)}
    {f_check_turn : Addr} {oc_check_turn kV_check_turn dc_check_turn pm_check_turn ct_check_turn cd_check_turn : Value} {od_check_turn an_check_turn : Option Addr} {sl_check_turn : Array (Option Value)}
    {f_told_sum : Addr} {oc_told_sum kV_told_sum dc_told_sum pm_told_sum ct_told_sum cd_told_sum : Value} {od_told_sum an_told_sum : Option Addr} {sl_told_sum : Array (Option Value)}
    {f_add_turns : Addr} {oc_add_turns kV_add_turns dc_add_turns pm_add_turns ct_add_turns cd_add_turns : Value} {od_add_turns an_add_turns : Option Addr} {sl_add_turns : Array (Option Value)}
    {f_told_back : Addr} {oc_told_back kV_told_back dc_told_back pm_told_back ct_told_back cd_told_back : Value} {od_told_back an_told_back : Option Addr} {sl_told_back : Array (Option Value)}
    {f_turn_back : Addr} {oc_turn_back kV_turn_back dc_turn_back pm_turn_back ct_turn_back cd_turn_back : Value} {od_turn_back an_turn_back : Option Addr} {sl_turn_back : Array (Option Value)}
    {f_told_less : Addr} {oc_told_less kV_told_less dc_told_less pm_told_less ct_told_less cd_told_less : Value} {od_told_less an_told_less : Option Addr} {sl_told_less : Array (Option Value)}
    {f_is_less_turn : Addr} {oc_is_less_turn kV_is_less_turn dc_is_less_turn pm_is_less_turn ct_is_less_turn cd_is_less_turn : Value} {od_is_less_turn an_is_less_turn : Option Addr} {sl_is_less_turn : Array (Option Value)}
    {f_told_whole : Addr} {oc_told_whole kV_told_whole dc_told_whole pm_told_whole ct_told_whole cd_told_whole : Value} {od_told_whole an_told_whole : Option Addr} {sl_told_whole : Array (Option Value)}
    {f_sum_turns : Addr} {oc_sum_turns kV_sum_turns dc_sum_turns pm_sum_turns ct_sum_turns cd_sum_turns : Value} {od_sum_turns an_sum_turns : Option Addr} {sl_sum_turns : Array (Option Value)}
    {f__law_taken : Addr} {oc__law_taken kV__law_taken dc__law_taken pm__law_taken ct__law_taken cd__law_taken : Value} {od__law_taken an__law_taken : Option Addr} {sl__law_taken : Array (Option Value)}
    {f__law_pick : Addr} {oc__law_pick kV__law_pick dc__law_pick pm__law_pick ct__law_pick cd__law_pick : Value} {od__law_pick an__law_pick : Option Addr} {sl__law_pick : Array (Option Value)}
    {f__law_alike : Addr} {oc__law_alike kV__law_alike dc__law_alike pm__law_alike ct__law_alike cd__law_alike : Value} {od__law_alike an__law_alike : Option Addr} {sl__law_alike : Array (Option Value)}
    {f__law_gcd : Addr} {oc__law_gcd kV__law_gcd dc__law_gcd pm__law_gcd ct__law_gcd cd__law_gcd : Value} {od__law_gcd an__law_gcd : Option Addr} {sl__law_gcd : Array (Option Value)}
    {f__law_turn : Addr} {oc__law_turn kV__law_turn dc__law_turn pm__law_turn ct__law_turn cd__law_turn : Value} {od__law_turn an__law_turn : Option Addr} {sl__law_turn : Array (Option Value)}
    {f__law_more : Addr} {oc__law_more kV__law_more dc__law_more pm__law_more ct__law_more cd__law_more : Value} {od__law_more an__law_more : Option Addr} {sl__law_more : Array (Option Value)}
    {f__law_less : Addr} {oc__law_less kV__law_less dc__law_less pm__law_less ct__law_less cd__law_less : Value} {od__law_less an__law_less : Option Addr} {sl__law_less : Array (Option Value)}
    {f__law_point : Addr} {oc__law_point kV__law_point dc__law_point pm__law_point ct__law_point cd__law_point : Value} {od__law_point an__law_point : Option Addr} {sl__law_point : Array (Option Value)}
    {f__law_refused : Addr} {oc__law_refused kV__law_refused dc__law_refused pm__law_refused ct__law_refused cd__law_refused : Value} {od__law_refused an__law_refused : Option Addr} {sl__law_refused : Array (Option Value)}
    {f_law : Addr} {oc_law kV_law dc_law pm_law ct_law : Value} {od_law an_law : Option Addr} {sl_law : Array (Option Value)} {cL TL : Addr}
    {oe18 : Option Addr} {vs18 : Array Value} {sl18 : Array (Option Value)} {x18 : Str} {t18 t7 t10 : Tok} {i7 i10 : Int} {b9 : Bool}
    {t_MOST_PLACE : Tok}
    {t_MOST_TURNS : Tok}
    {aN : Addr} {dd_NONE : Option Addr} {n_NONE : Nat} {sl_NONE : Array (Option Value)} {t0_NONE t1_NONE t2_NONE : Tok}
    {fI TI : Addr} {ocI kVI dcI pmI cdI ctI : Value} {odI anI odT : Option Addr} {slI slT : Array (Option Value)} {ocT : Value} {nT : Nat}
    {C1 N_C1 : Addr} {nm_C1 q_C1 : Str} {bs_C1 bm_C1 sub_C1 : List Value} {sn_C1 : List Str} {ab_C1 : Bool} {col_C1 : Option Bool} {dd_C1 : Option Addr} {m0_C1 m1_C1 m2_C1 m3_C1 m5_C1 : Option Value}
    {C2 N_C2 : Addr} {nm_C2 q_C2 : Str} {bs_C2 bm_C2 sub_C2 : List Value} {sn_C2 : List Str} {ab_C2 : Bool} {col_C2 : Option Bool} {dd_C2 : Option Addr} {m0_C2 m1_C2 m2_C2 m3_C2 m5_C2 : Option Value}
    {C3 N_C3 : Addr} {nm_C3 q_C3 : Str} {bs_C3 bm_C3 sub_C3 : List Value} {sn_C3 : List Str} {ab_C3 : Bool} {col_C3 : Option Bool} {dd_C3 : Option Addr} {m0_C3 m1_C3 m2_C3 m3_C3 m5_C3 : Option Value}
    (a_is_integer : PySem.W.nsIn K mainGlobals "is_integer" = some (some (.ref f_is_integer)))
    (l_is_integer : K.lookup f_is_integer = some ⟨oc_is_integer, od_is_integer, .func (PySem.W.fnOf "is_integer" "is_integer" (defArgs s_is_integer) (defBody s_is_integer) (defScope s_is_integer) .none kV_is_integer dc_is_integer pm_is_integer an_is_integer cd_is_integer ct_is_integer), sl_is_integer⟩)
    (c_is_integer : PySem.W.codeIn K cd_is_integer "is_integer" = true)
    (k_is_integer : PySem.W.keepIn K (.ref f_is_integer) = true)
    (a_is_within : PySem.W.nsIn K mainGlobals "is_within" = some (some (.ref f_is_within)))
    (l_is_within : K.lookup f_is_within = some ⟨oc_is_within, od_is_within, .func (PySem.W.fnOf "is_within" "is_within" (defArgs s_is_within) (defBody s_is_within) (defScope s_is_within) .none kV_is_within dc_is_within pm_is_within an_is_within cd_is_within ct_is_within), sl_is_within⟩)
    (c_is_within : PySem.W.codeIn K cd_is_within "is_within" = true)
    (k_is_within : PySem.W.keepIn K (.ref f_is_within) = true)
    (a_is_row : PySem.W.nsIn K mainGlobals "is_row" = some (some (.ref f_is_row)))
    (l_is_row : K.lookup f_is_row = some ⟨oc_is_row, od_is_row, .func (PySem.W.fnOf "is_row" "is_row" (defArgs s_is_row) (defBody s_is_row) (defScope s_is_row) .none kV_is_row dc_is_row pm_is_row an_is_row cd_is_row ct_is_row), sl_is_row⟩)
    (c_is_row : PySem.W.codeIn K cd_is_row "is_row" = true)
    (k_is_row : PySem.W.keepIn K (.ref f_is_row) = true)
    (a_is_tuple_of : PySem.W.nsIn K mainGlobals "is_tuple_of" = some (some (.ref f_is_tuple_of)))
    (l_is_tuple_of : K.lookup f_is_tuple_of = some ⟨oc_is_tuple_of, od_is_tuple_of, .func (PySem.W.fnOf "is_tuple_of" "is_tuple_of" (defArgs s_is_tuple_of) (defBody s_is_tuple_of) (defScope s_is_tuple_of) .none kV_is_tuple_of dc_is_tuple_of pm_is_tuple_of an_is_tuple_of cd_is_tuple_of ct_is_tuple_of), sl_is_tuple_of⟩)
    (c_is_tuple_of : PySem.W.codeIn K cd_is_tuple_of "is_tuple_of" = true)
    (k_is_tuple_of : PySem.W.keepIn K (.ref f_is_tuple_of) = true)
    (a_is_turn : PySem.W.nsIn K mainGlobals "is_turn" = some (some (.ref f_is_turn)))
    (l_is_turn : K.lookup f_is_turn = some ⟨oc_is_turn, od_is_turn, .func (PySem.W.fnOf "is_turn" "is_turn" (defArgs s_is_turn) (defBody s_is_turn) (defScope s_is_turn) .none kV_is_turn dc_is_turn pm_is_turn an_is_turn cd_is_turn ct_is_turn), sl_is_turn⟩)
    (c_is_turn : PySem.W.codeIn K cd_is_turn "is_turn" = true)
    (k_is_turn : PySem.W.keepIn K (.ref f_is_turn) = true)
    (a_as_turn : PySem.W.nsIn K mainGlobals "as_turn" = some (some (.ref f_as_turn)))
    (l_as_turn : K.lookup f_as_turn = some ⟨oc_as_turn, od_as_turn, .func (PySem.W.fnOf "as_turn" "as_turn" (defArgs s_as_turn) (defBody s_as_turn) (defScope s_as_turn) .none kV_as_turn dc_as_turn pm_as_turn an_as_turn cd_as_turn ct_as_turn), sl_as_turn⟩)
    (c_as_turn : PySem.W.codeIn K cd_as_turn "as_turn" = true)
    (k_as_turn : PySem.W.keepIn K (.ref f_as_turn) = true)
    (a_told_between : PySem.W.nsIn K mainGlobals "told_between" = some (some (.ref f_told_between)))
    (l_told_between : K.lookup f_told_between = some ⟨oc_told_between, od_told_between, .func (PySem.W.fnOf "told_between" "told_between" (defArgs s_told_between) (defBody s_told_between) (defScope s_told_between) .none kV_told_between dc_told_between pm_told_between an_told_between cd_told_between ct_told_between), sl_told_between⟩)
    (c_told_between : PySem.W.codeIn K cd_told_between "told_between" = true)
    (k_told_between : PySem.W.keepIn K (.ref f_told_between) = true)
    (a_check_point : PySem.W.nsIn K mainGlobals "check_point" = some (some (.ref f_check_point)))
    (l_check_point : K.lookup f_check_point = some ⟨oc_check_point, od_check_point, .func (PySem.W.fnOf "check_point" "check_point" (defArgs s_check_point) (defBody s_check_point) (defScope s_check_point) .none kV_check_point dc_check_point pm_check_point an_check_point cd_check_point ct_check_point), sl_check_point⟩)
    (c_check_point : PySem.W.codeIn K cd_check_point "check_point" = true)
    (k_check_point : PySem.W.keepIn K (.ref f_check_point) = true)
    (a_turn_between : PySem.W.nsIn K mainGlobals "turn_between" = some (some (.ref f_turn_between)))
    (l_turn_between : K.lookup f_turn_between = some ⟨oc_turn_between, od_turn_between, .func (PySem.W.fnOf "turn_between" "turn_between" (defArgs s_turn_between) (defBody s_turn_between) (defScope s_turn_between) .none kV_turn_between dc_turn_between pm_turn_between an_turn_between cd_turn_between ct_turn_between), sl_turn_between⟩)
    (c_turn_between : PySem.W.codeIn K cd_turn_between "turn_between" = true)
    (k_turn_between : PySem.W.keepIn K (.ref f_turn_between) = true)
    (a_check_turn : PySem.W.nsIn K mainGlobals "check_turn" = some (some (.ref f_check_turn)))
    (l_check_turn : K.lookup f_check_turn = some ⟨oc_check_turn, od_check_turn, .func (PySem.W.fnOf "check_turn" "check_turn" (defArgs s_check_turn) (defBody s_check_turn) (defScope s_check_turn) .none kV_check_turn dc_check_turn pm_check_turn an_check_turn cd_check_turn ct_check_turn), sl_check_turn⟩)
    (c_check_turn : PySem.W.codeIn K cd_check_turn "check_turn" = true)
    (k_check_turn : PySem.W.keepIn K (.ref f_check_turn) = true)
    (a_told_sum : PySem.W.nsIn K mainGlobals "told_sum" = some (some (.ref f_told_sum)))
    (l_told_sum : K.lookup f_told_sum = some ⟨oc_told_sum, od_told_sum, .func (PySem.W.fnOf "told_sum" "told_sum" (defArgs s_told_sum) (defBody s_told_sum) (defScope s_told_sum) .none kV_told_sum dc_told_sum pm_told_sum an_told_sum cd_told_sum ct_told_sum), sl_told_sum⟩)
    (c_told_sum : PySem.W.codeIn K cd_told_sum "told_sum" = true)
    (k_told_sum : PySem.W.keepIn K (.ref f_told_sum) = true)
    (a_add_turns : PySem.W.nsIn K mainGlobals "add_turns" = some (some (.ref f_add_turns)))
    (l_add_turns : K.lookup f_add_turns = some ⟨oc_add_turns, od_add_turns, .func (PySem.W.fnOf "add_turns" "add_turns" (defArgs s_add_turns) (defBody s_add_turns) (defScope s_add_turns) .none kV_add_turns dc_add_turns pm_add_turns an_add_turns cd_add_turns ct_add_turns), sl_add_turns⟩)
    (c_add_turns : PySem.W.codeIn K cd_add_turns "add_turns" = true)
    (k_add_turns : PySem.W.keepIn K (.ref f_add_turns) = true)
    (a_told_back : PySem.W.nsIn K mainGlobals "told_back" = some (some (.ref f_told_back)))
    (l_told_back : K.lookup f_told_back = some ⟨oc_told_back, od_told_back, .func (PySem.W.fnOf "told_back" "told_back" (defArgs s_told_back) (defBody s_told_back) (defScope s_told_back) .none kV_told_back dc_told_back pm_told_back an_told_back cd_told_back ct_told_back), sl_told_back⟩)
    (c_told_back : PySem.W.codeIn K cd_told_back "told_back" = true)
    (k_told_back : PySem.W.keepIn K (.ref f_told_back) = true)
    (a_turn_back : PySem.W.nsIn K mainGlobals "turn_back" = some (some (.ref f_turn_back)))
    (l_turn_back : K.lookup f_turn_back = some ⟨oc_turn_back, od_turn_back, .func (PySem.W.fnOf "turn_back" "turn_back" (defArgs s_turn_back) (defBody s_turn_back) (defScope s_turn_back) .none kV_turn_back dc_turn_back pm_turn_back an_turn_back cd_turn_back ct_turn_back), sl_turn_back⟩)
    (c_turn_back : PySem.W.codeIn K cd_turn_back "turn_back" = true)
    (k_turn_back : PySem.W.keepIn K (.ref f_turn_back) = true)
    (a_told_less : PySem.W.nsIn K mainGlobals "told_less" = some (some (.ref f_told_less)))
    (l_told_less : K.lookup f_told_less = some ⟨oc_told_less, od_told_less, .func (PySem.W.fnOf "told_less" "told_less" (defArgs s_told_less) (defBody s_told_less) (defScope s_told_less) .none kV_told_less dc_told_less pm_told_less an_told_less cd_told_less ct_told_less), sl_told_less⟩)
    (c_told_less : PySem.W.codeIn K cd_told_less "told_less" = true)
    (k_told_less : PySem.W.keepIn K (.ref f_told_less) = true)
    (a_is_less_turn : PySem.W.nsIn K mainGlobals "is_less_turn" = some (some (.ref f_is_less_turn)))
    (l_is_less_turn : K.lookup f_is_less_turn = some ⟨oc_is_less_turn, od_is_less_turn, .func (PySem.W.fnOf "is_less_turn" "is_less_turn" (defArgs s_is_less_turn) (defBody s_is_less_turn) (defScope s_is_less_turn) .none kV_is_less_turn dc_is_less_turn pm_is_less_turn an_is_less_turn cd_is_less_turn ct_is_less_turn), sl_is_less_turn⟩)
    (c_is_less_turn : PySem.W.codeIn K cd_is_less_turn "is_less_turn" = true)
    (k_is_less_turn : PySem.W.keepIn K (.ref f_is_less_turn) = true)
    (a_told_whole : PySem.W.nsIn K mainGlobals "told_whole" = some (some (.ref f_told_whole)))
    (l_told_whole : K.lookup f_told_whole = some ⟨oc_told_whole, od_told_whole, .func (PySem.W.fnOf "told_whole" "told_whole" (defArgs s_told_whole) (defBody s_told_whole) (defScope s_told_whole) .none kV_told_whole dc_told_whole pm_told_whole an_told_whole cd_told_whole ct_told_whole), sl_told_whole⟩)
    (c_told_whole : PySem.W.codeIn K cd_told_whole "told_whole" = true)
    (k_told_whole : PySem.W.keepIn K (.ref f_told_whole) = true)
    (a_sum_turns : PySem.W.nsIn K mainGlobals "sum_turns" = some (some (.ref f_sum_turns)))
    (l_sum_turns : K.lookup f_sum_turns = some ⟨oc_sum_turns, od_sum_turns, .func (PySem.W.fnOf "sum_turns" "sum_turns" (defArgs s_sum_turns) (defBody s_sum_turns) (defScope s_sum_turns) .none kV_sum_turns dc_sum_turns pm_sum_turns an_sum_turns cd_sum_turns ct_sum_turns), sl_sum_turns⟩)
    (c_sum_turns : PySem.W.codeIn K cd_sum_turns "sum_turns" = true)
    (k_sum_turns : PySem.W.keepIn K (.ref f_sum_turns) = true)
    (a__law_taken : PySem.W.nsIn K mainGlobals "_law_taken" = some (some (.ref f__law_taken)))
    (l__law_taken : K.lookup f__law_taken = some ⟨oc__law_taken, od__law_taken, .func (PySem.W.fnOf "_law_taken" "_law_taken" (defArgs s__law_taken) (defBody s__law_taken) (defScope s__law_taken) .none kV__law_taken dc__law_taken pm__law_taken an__law_taken cd__law_taken ct__law_taken), sl__law_taken⟩)
    (c__law_taken : PySem.W.codeIn K cd__law_taken "_law_taken" = true)
    (k__law_taken : PySem.W.keepIn K (.ref f__law_taken) = true)
    (a__law_pick : PySem.W.nsIn K mainGlobals "_law_pick" = some (some (.ref f__law_pick)))
    (l__law_pick : K.lookup f__law_pick = some ⟨oc__law_pick, od__law_pick, .func (PySem.W.fnOf "_law_pick" "_law_pick" (defArgs s__law_pick) (defBody s__law_pick) (defScope s__law_pick) .none kV__law_pick dc__law_pick pm__law_pick an__law_pick cd__law_pick ct__law_pick), sl__law_pick⟩)
    (c__law_pick : PySem.W.codeIn K cd__law_pick "_law_pick" = true)
    (k__law_pick : PySem.W.keepIn K (.ref f__law_pick) = true)
    (a__law_alike : PySem.W.nsIn K mainGlobals "_law_alike" = some (some (.ref f__law_alike)))
    (l__law_alike : K.lookup f__law_alike = some ⟨oc__law_alike, od__law_alike, .func (PySem.W.fnOf "_law_alike" "_law_alike" (defArgs s__law_alike) (defBody s__law_alike) (defScope s__law_alike) .none kV__law_alike dc__law_alike pm__law_alike an__law_alike cd__law_alike ct__law_alike), sl__law_alike⟩)
    (c__law_alike : PySem.W.codeIn K cd__law_alike "_law_alike" = true)
    (k__law_alike : PySem.W.keepIn K (.ref f__law_alike) = true)
    (a__law_gcd : PySem.W.nsIn K mainGlobals "_law_gcd" = some (some (.ref f__law_gcd)))
    (l__law_gcd : K.lookup f__law_gcd = some ⟨oc__law_gcd, od__law_gcd, .func (PySem.W.fnOf "_law_gcd" "_law_gcd" (defArgs s__law_gcd) (defBody s__law_gcd) (defScope s__law_gcd) .none kV__law_gcd dc__law_gcd pm__law_gcd an__law_gcd cd__law_gcd ct__law_gcd), sl__law_gcd⟩)
    (c__law_gcd : PySem.W.codeIn K cd__law_gcd "_law_gcd" = true)
    (k__law_gcd : PySem.W.keepIn K (.ref f__law_gcd) = true)
    (a__law_turn : PySem.W.nsIn K mainGlobals "_law_turn" = some (some (.ref f__law_turn)))
    (l__law_turn : K.lookup f__law_turn = some ⟨oc__law_turn, od__law_turn, .func (PySem.W.fnOf "_law_turn" "_law_turn" (defArgs s__law_turn) (defBody s__law_turn) (defScope s__law_turn) .none kV__law_turn dc__law_turn pm__law_turn an__law_turn cd__law_turn ct__law_turn), sl__law_turn⟩)
    (c__law_turn : PySem.W.codeIn K cd__law_turn "_law_turn" = true)
    (k__law_turn : PySem.W.keepIn K (.ref f__law_turn) = true)
    (a__law_more : PySem.W.nsIn K mainGlobals "_law_more" = some (some (.ref f__law_more)))
    (l__law_more : K.lookup f__law_more = some ⟨oc__law_more, od__law_more, .func (PySem.W.fnOf "_law_more" "_law_more" (defArgs s__law_more) (defBody s__law_more) (defScope s__law_more) .none kV__law_more dc__law_more pm__law_more an__law_more cd__law_more ct__law_more), sl__law_more⟩)
    (c__law_more : PySem.W.codeIn K cd__law_more "_law_more" = true)
    (k__law_more : PySem.W.keepIn K (.ref f__law_more) = true)
    (a__law_less : PySem.W.nsIn K mainGlobals "_law_less" = some (some (.ref f__law_less)))
    (l__law_less : K.lookup f__law_less = some ⟨oc__law_less, od__law_less, .func (PySem.W.fnOf "_law_less" "_law_less" (defArgs s__law_less) (defBody s__law_less) (defScope s__law_less) .none kV__law_less dc__law_less pm__law_less an__law_less cd__law_less ct__law_less), sl__law_less⟩)
    (c__law_less : PySem.W.codeIn K cd__law_less "_law_less" = true)
    (k__law_less : PySem.W.keepIn K (.ref f__law_less) = true)
    (a__law_point : PySem.W.nsIn K mainGlobals "_law_point" = some (some (.ref f__law_point)))
    (l__law_point : K.lookup f__law_point = some ⟨oc__law_point, od__law_point, .func (PySem.W.fnOf "_law_point" "_law_point" (defArgs s__law_point) (defBody s__law_point) (defScope s__law_point) .none kV__law_point dc__law_point pm__law_point an__law_point cd__law_point ct__law_point), sl__law_point⟩)
    (c__law_point : PySem.W.codeIn K cd__law_point "_law_point" = true)
    (k__law_point : PySem.W.keepIn K (.ref f__law_point) = true)
    (a__law_refused : PySem.W.nsIn K mainGlobals "_law_refused" = some (some (.ref f__law_refused)))
    (l__law_refused : K.lookup f__law_refused = some ⟨oc__law_refused, od__law_refused, .func (PySem.W.fnOf "_law_refused" "_law_refused" (defArgs s__law_refused) (defBody s__law_refused) (defScope s__law_refused) .none kV__law_refused dc__law_refused pm__law_refused an__law_refused cd__law_refused ct__law_refused), sl__law_refused⟩)
    (c__law_refused : PySem.W.codeIn K cd__law_refused "_law_refused" = true)
    (k__law_refused : PySem.W.keepIn K (.ref f__law_refused) = true)
    (a_law : PySem.W.nsIn K mainGlobals "law" = some (some (.ref f_law)))
    (l_law : K.lookup f_law = some ⟨oc_law, od_law, .func (PySem.W.fnOf "law" "law" (defArgs s_law) (defBody s_law) (defScope s_law) .none kV_law dc_law pm_law an_law (.ref cL) ct_law), sl_law⟩)
    (c_law : PySem.W.codeIn K (.ref cL) "law" = true)
    (k_law : PySem.W.keepIn K (.ref f_law) = true)
    (lc : K.lookup cL = some ⟨.type "code", oe18, .fields vs18, sl18⟩)
    (v11 : vs18[11]? = some (.ref TL))
    (v18 : vs18.getD 18 .none = .str x18 t18)
    (v7 : vs18.getD 7 .none = .int i7 t7)
    (v9 : vs18.getD 9 .none = .bool b9)
    (v10 : vs18.getD 10 .none = .int i10 t10)
    (nCT : (cL != TL) = true)
    (noT : K.lookup TL = none)
    (n_isinstance : PySem.W.nsIn K mainGlobals "isinstance" = some none)
    (n_len : PySem.W.nsIn K mainGlobals "len" = some none)
    (n_all : PySem.W.nsIn K mainGlobals "all" = some none)
    (n_enumerate : PySem.W.nsIn K mainGlobals "enumerate" = some none)
    (n_range : PySem.W.nsIn K mainGlobals "range" = some none)
    (n_int : PySem.W.nsIn K mainGlobals "int" = some none)
    (n_bool : PySem.W.nsIn K mainGlobals "bool" = some none)
    (n_str : PySem.W.nsIn K mainGlobals "str" = some none)
    (n_list : PySem.W.nsIn K mainGlobals "list" = some none)
    (n_tuple : PySem.W.nsIn K mainGlobals "tuple" = some none)
    (n_dict : PySem.W.nsIn K mainGlobals "dict" = some none)
    (n_repr : PySem.W.nsIn K mainGlobals "repr" = some none)
    (i_gcd : PySem.W.nsIn K mainGlobals "gcd" = some (some (.builtin "math.gcd")))
    (i_MOST_PLACE : PySem.W.nsIn K mainGlobals "MOST_PLACE" = some (some (.int 1000 t_MOST_PLACE)))
    (i_MOST_TURNS : PySem.W.nsIn K mainGlobals "MOST_TURNS" = some (some (.int 100 t_MOST_TURNS)))
    (i_NONE : PySem.W.nsIn K mainGlobals "NONE" = some (some (.ref aN)))
    (l_NONE : K.lookup aN = some ⟨.type "tuple", dd_NONE, .seq #[.int 0 t0_NONE, .int 1 t1_NONE, .int 0 t2_NONE] n_NONE, sl_NONE⟩)
    (x_C1 : PySem.W.nsIn K mainGlobals "BadPoint" = some (some (.ref C1)))
    (xl_C1 : K.lookup C1 = some (excClassObj nm_C1 q_C1 C1 N_C1 bs_C1 bm_C1 true sn_C1 sub_C1 ab_C1 col_C1 dd_C1 m0_C1 m1_C1 m2_C1 m3_C1 m5_C1 "ValueError.__new__"))
    (xr_C1 : PySem.HandSPX.refsVE bm_C1 = true)
    (xs_C1 : PySem.W.findIn K (.ref C1) "__setattr__" = some (some (.builtin "object.__setattr__")))
    (xe_C1 : PySem.W.subIn K (.ref C1) (.type "BaseException") = some true)
    (xt_C1 : PySem.W.typeIn K (.ref C1) = some (.type "type"))
    (xk_C1 : PySem.W.keepIn K (.ref C1) = true)
    (xv_C1 : PySem.W.findIn K (.ref C1) "value" = some none)
    (xi_C1 : PySem.W.findIn K (.ref C1) "__init__" = some (some (.ref fI)))
    (tI : PySem.W.typeIn K (.ref fI) = some (.type "function"))
    (xa_C1 : PySem.W.findIn K (.ref C1) "__getattribute__" = some (some (.builtin "BaseException.__getattribute__")))
    (xg_C1 : PySem.W.findIn K (.ref C1) "__getattr__" = some none)
    (xh_C1 : PySem.W.hasDictIn K C1 = true)
    (xc_C1 : PySem.W.isClsIn K C1 = true)
    (xx_C1_C1 : PySem.W.subIn K (.ref C1) (.ref C1) = some true)
    (x_C2 : PySem.W.nsIn K mainGlobals "BadTurn" = some (some (.ref C2)))
    (xl_C2 : K.lookup C2 = some (excClassObj nm_C2 q_C2 C2 N_C2 bs_C2 bm_C2 true sn_C2 sub_C2 ab_C2 col_C2 dd_C2 m0_C2 m1_C2 m2_C2 m3_C2 m5_C2 "ValueError.__new__"))
    (xr_C2 : PySem.HandSPX.refsVE bm_C2 = true)
    (xs_C2 : PySem.W.findIn K (.ref C2) "__setattr__" = some (some (.builtin "object.__setattr__")))
    (xe_C2 : PySem.W.subIn K (.ref C2) (.type "BaseException") = some true)
    (xt_C2 : PySem.W.typeIn K (.ref C2) = some (.type "type"))
    (xk_C2 : PySem.W.keepIn K (.ref C2) = true)
    (xv_C2 : PySem.W.findIn K (.ref C2) "value" = some none)
    (xi_C2 : PySem.W.findIn K (.ref C2) "__init__" = some (some (.ref fI)))
    (xa_C2 : PySem.W.findIn K (.ref C2) "__getattribute__" = some (some (.builtin "BaseException.__getattribute__")))
    (xg_C2 : PySem.W.findIn K (.ref C2) "__getattr__" = some none)
    (xh_C2 : PySem.W.hasDictIn K C2 = true)
    (xc_C2 : PySem.W.isClsIn K C2 = true)
    (xx_C2_C1 : PySem.W.subIn K (.ref C2) (.ref C1) = some false)
    (xx_C2_C2 : PySem.W.subIn K (.ref C2) (.ref C2) = some true)
    (x_C3 : PySem.W.nsIn K mainGlobals "BadTurns" = some (some (.ref C3)))
    (xl_C3 : K.lookup C3 = some (excClassObj nm_C3 q_C3 C3 N_C3 bs_C3 bm_C3 true sn_C3 sub_C3 ab_C3 col_C3 dd_C3 m0_C3 m1_C3 m2_C3 m3_C3 m5_C3 "ValueError.__new__"))
    (xr_C3 : PySem.HandSPX.refsVE bm_C3 = true)
    (xs_C3 : PySem.W.findIn K (.ref C3) "__setattr__" = some (some (.builtin "object.__setattr__")))
    (xe_C3 : PySem.W.subIn K (.ref C3) (.type "BaseException") = some true)
    (xt_C3 : PySem.W.typeIn K (.ref C3) = some (.type "type"))
    (xk_C3 : PySem.W.keepIn K (.ref C3) = true)
    (xv_C3 : PySem.W.findIn K (.ref C3) "value" = some none)
    (xi_C3 : PySem.W.findIn K (.ref C3) "__init__" = some (some (.ref fI)))
    (xa_C3 : PySem.W.findIn K (.ref C3) "__getattribute__" = some (some (.builtin "BaseException.__getattribute__")))
    (xg_C3 : PySem.W.findIn K (.ref C3) "__getattr__" = some none)
    (xh_C3 : PySem.W.hasDictIn K C3 = true)
    (xc_C3 : PySem.W.isClsIn K C3 = true)
    (xx_C3_C1 : PySem.W.subIn K (.ref C3) (.ref C1) = some false)
    (xx_C3_C2 : PySem.W.subIn K (.ref C3) (.ref C2) = some false)
    (xx_C3_C3 : PySem.W.subIn K (.ref C3) (.ref C3) = some true)
    (lI : K.lookup fI = some ⟨ocI, odI, .func (PySem.W.fnOf "__init__" "SailError.__init__" (defArgs s_SailError___init__) (defBody s_SailError___init__) (defScope s_SailError___init__) (.ref TI) kVI dcI pmI anI cdI ctI), slI⟩)
    (cI : PySem.W.codeIn K cdI "SailError.__init__" = true)
    (kI : PySem.W.keepIn K (.ref fI) = true)
    (lT : K.lookup TI = some ⟨ocT, odT, .seq #[.none] nT, slT⟩) : ∃ c T, LawFn K fa c T ∧ LawRun P w K mg fa c T := by
  have e := hfa.symm.trans (PySem.W.mg_of X G a_law)
  cases e
  have T : ∀ base, Tx P w K mg base C1 C2 C3 fI aN := fun base =>
    { d_is_integer := ⟨f_is_integer, _, fun_mk l_is_integer c_is_integer k_is_integer, PySem.W.mg_of X G a_is_integer⟩,
      d_is_within := ⟨f_is_within, _, fun_mk l_is_within c_is_within k_is_within, PySem.W.mg_of X G a_is_within⟩,
      d_is_row := ⟨f_is_row, _, fun_mk l_is_row c_is_row k_is_row, PySem.W.mg_of X G a_is_row⟩,
      d_is_tuple_of := ⟨f_is_tuple_of, _, fun_mk l_is_tuple_of c_is_tuple_of k_is_tuple_of, PySem.W.mg_of X G a_is_tuple_of⟩,
      d_is_turn := ⟨f_is_turn, _, fun_mk l_is_turn c_is_turn k_is_turn, PySem.W.mg_of X G a_is_turn⟩,
      d_as_turn := ⟨f_as_turn, _, fun_mk l_as_turn c_as_turn k_as_turn, PySem.W.mg_of X G a_as_turn⟩,
      d_told_between := ⟨f_told_between, _, fun_mk l_told_between c_told_between k_told_between, PySem.W.mg_of X G a_told_between⟩,
      d_check_point := ⟨f_check_point, _, fun_mk l_check_point c_check_point k_check_point, PySem.W.mg_of X G a_check_point⟩,
      d_turn_between := ⟨f_turn_between, _, fun_mk l_turn_between c_turn_between k_turn_between, PySem.W.mg_of X G a_turn_between⟩,
      d_check_turn := ⟨f_check_turn, _, fun_mk l_check_turn c_check_turn k_check_turn, PySem.W.mg_of X G a_check_turn⟩,
      d_told_sum := ⟨f_told_sum, _, fun_mk l_told_sum c_told_sum k_told_sum, PySem.W.mg_of X G a_told_sum⟩,
      d_add_turns := ⟨f_add_turns, _, fun_mk l_add_turns c_add_turns k_add_turns, PySem.W.mg_of X G a_add_turns⟩,
      d_told_back := ⟨f_told_back, _, fun_mk l_told_back c_told_back k_told_back, PySem.W.mg_of X G a_told_back⟩,
      d_turn_back := ⟨f_turn_back, _, fun_mk l_turn_back c_turn_back k_turn_back, PySem.W.mg_of X G a_turn_back⟩,
      d_told_less := ⟨f_told_less, _, fun_mk l_told_less c_told_less k_told_less, PySem.W.mg_of X G a_told_less⟩,
      d_is_less_turn := ⟨f_is_less_turn, _, fun_mk l_is_less_turn c_is_less_turn k_is_less_turn, PySem.W.mg_of X G a_is_less_turn⟩,
      d_told_whole := ⟨f_told_whole, _, fun_mk l_told_whole c_told_whole k_told_whole, PySem.W.mg_of X G a_told_whole⟩,
      d_sum_turns := ⟨f_sum_turns, _, fun_mk l_sum_turns c_sum_turns k_sum_turns, PySem.W.mg_of X G a_sum_turns⟩,
      d__law_taken := ⟨f__law_taken, _, fun_mk l__law_taken c__law_taken k__law_taken, PySem.W.mg_of X G a__law_taken⟩,
      d__law_pick := ⟨f__law_pick, _, fun_mk l__law_pick c__law_pick k__law_pick, PySem.W.mg_of X G a__law_pick⟩,
      d__law_alike := ⟨f__law_alike, _, fun_mk l__law_alike c__law_alike k__law_alike, PySem.W.mg_of X G a__law_alike⟩,
      d__law_gcd := ⟨f__law_gcd, _, fun_mk l__law_gcd c__law_gcd k__law_gcd, PySem.W.mg_of X G a__law_gcd⟩,
      d__law_turn := ⟨f__law_turn, _, fun_mk l__law_turn c__law_turn k__law_turn, PySem.W.mg_of X G a__law_turn⟩,
      d__law_more := ⟨f__law_more, _, fun_mk l__law_more c__law_more k__law_more, PySem.W.mg_of X G a__law_more⟩,
      d__law_less := ⟨f__law_less, _, fun_mk l__law_less c__law_less k__law_less, PySem.W.mg_of X G a__law_less⟩,
      d__law_point := ⟨f__law_point, _, fun_mk l__law_point c__law_point k__law_point, PySem.W.mg_of X G a__law_point⟩,
      d__law_refused := ⟨f__law_refused, _, fun_mk l__law_refused c__law_refused k__law_refused, PySem.W.mg_of X G a__law_refused⟩,
      b_isinstance := PySem.W.mg_none_of X G n_isinstance,
      b_len := PySem.W.mg_none_of X G n_len,
      b_all := PySem.W.mg_none_of X G n_all,
      b_enumerate := PySem.W.mg_none_of X G n_enumerate,
      b_range := PySem.W.mg_none_of X G n_range,
      b_int := PySem.W.mg_none_of X G n_int,
      b_bool := PySem.W.mg_none_of X G n_bool,
      b_str := PySem.W.mg_none_of X G n_str,
      b_list := PySem.W.mg_none_of X G n_list,
      b_tuple := PySem.W.mg_none_of X G n_tuple,
      b_dict := PySem.W.mg_none_of X G n_dict,
      b_repr := PySem.W.mg_none_of X G n_repr,
      b_gcd := PySem.W.mg_of X G i_gcd,
      k_MOST_PLACE := ⟨_, PySem.W.mg_of X G i_MOST_PLACE⟩,
      k_MOST_TURNS := ⟨_, PySem.W.mg_of X G i_MOST_TURNS⟩,
      k_NONE := PySem.W.mg_of X G i_NONE,
      n_NONE := tup_K l_NONE (by show 3 ≤ sizeLine; decide) (.cons ⟨t0_NONE, rfl⟩ (.cons ⟨t1_NONE, rfl⟩ (.cons ⟨t2_NONE, rfl⟩ .nil))),
      e_BadPoint := ⟨PySem.W.mg_of X G x_C1, ⟨⟨_, _, _, _, _, _, _, _, _, _, _, _, _, _, _, xl_C1, xr_C1⟩, xs_C1, xe_C1, xt_C1, xk_C1⟩, xv_C1, xi_C1, tI, ⟨xa_C1, xg_C1, xe_C1, xh_C1⟩⟩,
      told1 := ⟨true, exm_of xe_C1 xc_C1 xt_C1 xx_C1_C1, fun _ => ⟨rfl, rfl⟩, fun z => by cases z⟩,
      e_BadTurn := ⟨PySem.W.mg_of X G x_C2, ⟨⟨_, _, _, _, _, _, _, _, _, _, _, _, _, _, _, xl_C2, xr_C2⟩, xs_C2, xe_C2, xt_C2, xk_C2⟩, xv_C2, xi_C2, tI, ⟨xa_C2, xg_C2, xe_C2, xh_C2⟩⟩,
      told2 := ⟨false, exm_of xe_C1 xc_C1 xt_C1 xx_C2_C1, (fun z => by cases z), fun _ => ⟨true, exm_of xe_C2 xc_C2 xt_C2 xx_C2_C2, fun _ => ⟨rfl, rfl⟩, fun z => by cases z⟩⟩,
      e_BadTurns := ⟨PySem.W.mg_of X G x_C3, ⟨⟨_, _, _, _, _, _, _, _, _, _, _, _, _, _, _, xl_C3, xr_C3⟩, xs_C3, xe_C3, xt_C3, xk_C3⟩, xv_C3, xi_C3, tI, ⟨xa_C3, xg_C3, xe_C3, xh_C3⟩⟩,
      told3 := ⟨false, exm_of xe_C1 xc_C1 xt_C1 xx_C3_C1, (fun z => by cases z), fun _ => ⟨false, exm_of xe_C2 xc_C2 xt_C2 xx_C3_C2, (fun z => by cases z), fun _ => ⟨true, exm_of xe_C3 xc_C3 xt_C3 xx_C3_C3, fun _ => ⟨rfl, rfl⟩, fun z => by cases z⟩⟩⟩,
      ini := iniF_mk (st := s_SailError___init__) ⟨⟨_, _, _, _, _, _, _, _, _, _, rfl, lI, cI, .inr ⟨by simp, _, _, [.none], _, rfl, lT, rfl, .cons rfl .nil⟩, .inl rfl⟩, kI⟩ sc_SailError___init__ rfl rfl (fun _ _ _ _ _ _ _ us its h1 h2 => match us, its, h1, h2 with | [_, _], [_], _, _ => ⟨_, rfl, rfl⟩) }
  have F := fun_mk (st := s_law) l_law c_law k_law
  refine ⟨cL, TL, lawFn_mk l_law rfl lc v11 v18 v7 v9 v10 nCT noT, law_run (k := 6) F rfl sc_law (F.binds (ps := ["script"]) fun _ _ _ _ _ _ us hl => match us, hl with | [_], _ => rfl) ⟨rfl, by decide, by decide⟩ fun base s H a ns KB hG tb hr hT naT hS hl hz => ?_⟩
  exact law_body (T base) tb hr hT naT hS
end K10

set_option Elab.async false
set_option linter.all false
open PySem PySem.W PyProof.Rows
set_option maxRecDepth 100000 in
set_option maxHeartbeats 0 in
theorem PySem.Challenge.cw_sailcut_k10_whole_turns_holds : PySem.Challenge.rw_sailcut_k10_whole_turns.Holds := by
  w_on; o_law; k_head; (case hw => w_witness2)
  k_fill
  refine Dl.walk_end rfl rfl (by decide +kernel) (fun w h Y => PySem.W.km_in_of Y) ?F
  case F =>
    intro w mg fa h KX G hmg
    refine' K10.all_mk KX G hmg ?a_is_integer ?l_is_integer ?c_is_integer ?k_is_integer ?a_is_within ?l_is_within ?c_is_within ?k_is_within ?a_is_row ?l_is_row ?c_is_row ?k_is_row ?a_is_tuple_of ?l_is_tuple_of ?c_is_tuple_of ?k_is_tuple_of ?a_is_turn ?l_is_turn ?c_is_turn ?k_is_turn ?a_as_turn ?l_as_turn ?c_as_turn ?k_as_turn ?a_told_between ?l_told_between ?c_told_between ?k_told_between ?a_check_point ?l_check_point ?c_check_point ?k_check_point ?a_turn_between ?l_turn_between ?c_turn_between ?k_turn_between ?a_check_turn ?l_check_turn ?c_check_turn ?k_check_turn ?a_told_sum ?l_told_sum ?c_told_sum ?k_told_sum ?a_add_turns ?l_add_turns ?c_add_turns ?k_add_turns ?a_told_back ?l_told_back ?c_told_back ?k_told_back ?a_turn_back ?l_turn_back ?c_turn_back ?k_turn_back ?a_told_less ?l_told_less ?c_told_less ?k_told_less ?a_is_less_turn ?l_is_less_turn ?c_is_less_turn ?k_is_less_turn ?a_told_whole ?l_told_whole ?c_told_whole ?k_told_whole ?a_sum_turns ?l_sum_turns ?c_sum_turns ?k_sum_turns ?a__law_taken ?l__law_taken ?c__law_taken ?k__law_taken ?a__law_pick ?l__law_pick ?c__law_pick ?k__law_pick ?a__law_alike ?l__law_alike ?c__law_alike ?k__law_alike ?a__law_gcd ?l__law_gcd ?c__law_gcd ?k__law_gcd ?a__law_turn ?l__law_turn ?c__law_turn ?k__law_turn ?a__law_more ?l__law_more ?c__law_more ?k__law_more ?a__law_less ?l__law_less ?c__law_less ?k__law_less ?a__law_point ?l__law_point ?c__law_point ?k__law_point ?a__law_refused ?l__law_refused ?c__law_refused ?k__law_refused ?a_law ?l_law ?c_law ?k_law ?lc ?v11 ?v18 ?v7 ?v9 ?v10 ?nCT ?noT ?n_isinstance ?n_len ?n_all ?n_enumerate ?n_range ?n_int ?n_bool ?n_str ?n_list ?n_tuple ?n_dict ?n_repr ?i_gcd ?i_MOST_PLACE ?i_MOST_TURNS ?i_NONE ?l_NONE ?x_C1 ?xl_C1 ?xr_C1 ?xs_C1 ?xe_C1 ?xt_C1 ?xk_C1 ?xv_C1 ?xi_C1 ?tI ?xa_C1 ?xg_C1 ?xh_C1 ?xc_C1 ?xx_C1_C1 ?x_C2 ?xl_C2 ?xr_C2 ?xs_C2 ?xe_C2 ?xt_C2 ?xk_C2 ?xv_C2 ?xi_C2 ?xa_C2 ?xg_C2 ?xh_C2 ?xc_C2 ?xx_C2_C1 ?xx_C2_C2 ?x_C3 ?xl_C3 ?xr_C3 ?xs_C3 ?xe_C3 ?xt_C3 ?xk_C3 ?xv_C3 ?xi_C3 ?xa_C3 ?xg_C3 ?xh_C3 ?xc_C3 ?xx_C3_C1 ?xx_C3_C2 ?xx_C3_C3 ?lI ?cI ?kI ?lT
    (case a_is_integer => k_is)
    (case l_is_integer => k_is)
    (case c_is_integer => k_is)
    (case k_is_integer => k_is)
    (case a_is_within => k_is)
    (case l_is_within => k_is)
    (case c_is_within => k_is)
    (case k_is_within => k_is)
    (case a_is_row => k_is)
    (case l_is_row => k_is)
    (case c_is_row => k_is)
    (case k_is_row => k_is)
    (case a_is_tuple_of => k_is)
    (case l_is_tuple_of => k_is)
    (case c_is_tuple_of => k_is)
    (case k_is_tuple_of => k_is)
    (case a_is_turn => k_is)
    (case l_is_turn => k_is)
    (case c_is_turn => k_is)
    (case k_is_turn => k_is)
    (case a_as_turn => k_is)
    (case l_as_turn => k_is)
    (case c_as_turn => k_is)
    (case k_as_turn => k_is)
    (case a_told_between => k_is)
    (case l_told_between => k_is)
    (case c_told_between => k_is)
    (case k_told_between => k_is)
    (case a_check_point => k_is)
    (case l_check_point => k_is)
    (case c_check_point => k_is)
    (case k_check_point => k_is)
    (case a_turn_between => k_is)
    (case l_turn_between => k_is)
    (case c_turn_between => k_is)
    (case k_turn_between => k_is)
    (case a_check_turn => k_is)
    (case l_check_turn => k_is)
    (case c_check_turn => k_is)
    (case k_check_turn => k_is)
    (case a_told_sum => k_is)
    (case l_told_sum => k_is)
    (case c_told_sum => k_is)
    (case k_told_sum => k_is)
    (case a_add_turns => k_is)
    (case l_add_turns => k_is)
    (case c_add_turns => k_is)
    (case k_add_turns => k_is)
    (case a_told_back => k_is)
    (case l_told_back => k_is)
    (case c_told_back => k_is)
    (case k_told_back => k_is)
    (case a_turn_back => k_is)
    (case l_turn_back => k_is)
    (case c_turn_back => k_is)
    (case k_turn_back => k_is)
    (case a_told_less => k_is)
    (case l_told_less => k_is)
    (case c_told_less => k_is)
    (case k_told_less => k_is)
    (case a_is_less_turn => k_is)
    (case l_is_less_turn => k_is)
    (case c_is_less_turn => k_is)
    (case k_is_less_turn => k_is)
    (case a_told_whole => k_is)
    (case l_told_whole => k_is)
    (case c_told_whole => k_is)
    (case k_told_whole => k_is)
    (case a_sum_turns => k_is)
    (case l_sum_turns => k_is)
    (case c_sum_turns => k_is)
    (case k_sum_turns => k_is)
    (case a__law_taken => k_is)
    (case l__law_taken => k_is)
    (case c__law_taken => k_is)
    (case k__law_taken => k_is)
    (case a__law_pick => k_is)
    (case l__law_pick => k_is)
    (case c__law_pick => k_is)
    (case k__law_pick => k_is)
    (case a__law_alike => k_is)
    (case l__law_alike => k_is)
    (case c__law_alike => k_is)
    (case k__law_alike => k_is)
    (case a__law_gcd => k_is)
    (case l__law_gcd => k_is)
    (case c__law_gcd => k_is)
    (case k__law_gcd => k_is)
    (case a__law_turn => k_is)
    (case l__law_turn => k_is)
    (case c__law_turn => k_is)
    (case k__law_turn => k_is)
    (case a__law_more => k_is)
    (case l__law_more => k_is)
    (case c__law_more => k_is)
    (case k__law_more => k_is)
    (case a__law_less => k_is)
    (case l__law_less => k_is)
    (case c__law_less => k_is)
    (case k__law_less => k_is)
    (case a__law_point => k_is)
    (case l__law_point => k_is)
    (case c__law_point => k_is)
    (case k__law_point => k_is)
    (case a__law_refused => k_is)
    (case l__law_refused => k_is)
    (case c__law_refused => k_is)
    (case k__law_refused => k_is)
    (case a_law => k_is)
    (case l_law => k_is)
    (case c_law => k_is)
    (case k_law => k_is)
    (case lc => k_is)
    (case v11 => rfl)
    (case v18 => rfl)
    (case v7 => rfl)
    (case v9 => rfl)
    (case v10 => rfl)
    (case nCT => decide)
    (case noT => kernel_rfl)
    (case n_isinstance => k_is)
    (case n_len => k_is)
    (case n_all => k_is)
    (case n_enumerate => k_is)
    (case n_range => k_is)
    (case n_int => k_is)
    (case n_bool => k_is)
    (case n_str => k_is)
    (case n_list => k_is)
    (case n_tuple => k_is)
    (case n_dict => k_is)
    (case n_repr => k_is)
    (case i_gcd => k_is)
    (case i_MOST_PLACE => k_is)
    (case i_MOST_TURNS => k_is)
    (case i_NONE => k_is)
    (case l_NONE => k_is)
    (case x_C1 => k_is)
    (case xl_C1 => k_is)
    (case xr_C1 => decide +kernel)
    (case xs_C1 => k_is)
    (case xe_C1 => k_is)
    (case xt_C1 => k_is)
    (case xk_C1 => k_is)
    (case xv_C1 => k_is)
    (case xi_C1 => k_is)
    (case tI => k_is)
    (case xa_C1 => k_is)
    (case xg_C1 => k_is)
    (case xh_C1 => k_is)
    (case xc_C1 => k_is)
    (case xx_C1_C1 => k_is)
    (case x_C2 => k_is)
    (case xl_C2 => k_is)
    (case xr_C2 => decide +kernel)
    (case xs_C2 => k_is)
    (case xe_C2 => k_is)
    (case xt_C2 => k_is)
    (case xk_C2 => k_is)
    (case xv_C2 => k_is)
    (case xi_C2 => k_is)
    (case xa_C2 => k_is)
    (case xg_C2 => k_is)
    (case xh_C2 => k_is)
    (case xc_C2 => k_is)
    (case xx_C2_C1 => k_is)
    (case xx_C2_C2 => k_is)
    (case x_C3 => k_is)
    (case xl_C3 => k_is)
    (case xr_C3 => decide +kernel)
    (case xs_C3 => k_is)
    (case xe_C3 => k_is)
    (case xt_C3 => k_is)
    (case xk_C3 => k_is)
    (case xv_C3 => k_is)
    (case xi_C3 => k_is)
    (case xa_C3 => k_is)
    (case xg_C3 => k_is)
    (case xh_C3 => k_is)
    (case xc_C3 => k_is)
    (case xx_C3_C1 => k_is)
    (case xx_C3_C2 => k_is)
    (case xx_C3_C3 => k_is)
    (case lI => k_is)
    (case cI => k_is)
    (case kI => k_is)
    (case lT => k_is)
