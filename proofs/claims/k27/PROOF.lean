import PyProof.Rows.All
import Wide.All
import OpenK.AllK
import Wide.FinOn
import HandS.ForMost
import HandS.ForExc
import HandS.Walk
import HandS.Deep
import HandS.Lambda
import HandS.EndTab
import HandS.TryMany
import HandS.ExcInit
import HandS.ExcField
import HandS.IsInst
import HandS.Gcd
import HandS.Wide
import HandS.TupAny
import HandS.CallLocal
import PyProof.ReprReads
import KE.KeyNested
import KE.KDictKeyed
import KE.GoesMore
import KE.KNestM
import HandS.EndOwn
import HandS.Style
import HandS.Defaults
import KE.DataCmp
import KE.DataMinMax
import KE.DatumOrd
import HandS.Star
import HandS.SortKw
import HandS.Dict
import HandS.Iter
import HandS.TupLen
import HandS.Zip
import HandS.More
import KE.SortData
import HandS.TupMul
import HandS.TupLe
import KE.KUnpack
import HandS.Conv
import PySem.Challenge.RW_sailcut_k27_whole_sewing
set_option Elab.async false
set_option linter.all false
set_option maxRecDepth 100000
set_option maxHeartbeats 4000000
/-! Dl: a layer of plain data over the hand layer: what a value stands for, and what a reading gives, told without the heap. -/
namespace Dl
open PySem PySem.Spec PyProof.Rows L2
abbrev D := PyData
def kD : Key → D
  | .inl i => .int i
  | .inr x => .str x
/-! ### dicts whose keys are tuples of ints, nested -/
mutual
/-- the key that the data are -/
def nk : D → NestedKey
  | .int i => .num i
  | .str x => .text x
  | .tuple ds => .tup (nkAll ds)
  | _ => .none
def nkAll : List D → List NestedKey
  | [] => []
  | d :: ds => nk d :: nkAll ds
end
mutual
/-- data that are keys here: ints, tuples of such -/
def okN : D → Bool
  | .int _ => true
  | .tuple ds => okNs ds
  | _ => false
def okNs : List D → Bool
  | [] => true
  | d :: ds => okN d && okNs ds
end
/-- data that are a tuple, and a key -/
def okT : D → Bool
  | .tuple ds => okNs ds && decide ((nkAll ds).length ≤ 1000000) && decide (NestedKey.depthAll (nkAll ds) ≤ 7)
  | _ => false
def entX (w : World) (x : NestedKey × Addr × Value) : DictEntry := ⟨x.1.hash w, .ref x.2.1, x.2.2⟩
def phiX (a : Addr) (xs : List (NestedKey × Addr × Value)) : Heap → Prop := fun h => xs.length ≤ sizeLine ∧ (a == sysModules) = false ∧ ∃ o es ep, h.get? a = some o ∧ o.ExactDict ∧ o.data = .dict es ep ∧ (∀ w, es.toList = xs.map (entX w)) ∧ (xs.map (·.1)).Nodup
/-- the dict at a, its keys tuples -/
def DX (a : Addr) (xs : List (NestedKey × Addr × Value)) : HO := .ext (phiX a xs)
mutual
/-- the value v stands for the data d, as far as G is known -/
inductive R (K : PySem.W.Frag) (G : Hp) : V → D → Prop
  | non : R K G .non .none
  | bl (b : Bool) : R K G (.bl b) (.bool b)
  | int (i : Int) : R K G (.int i) (.int i)
  | str (x : Str) : R K G (.str x) (.str x)
  | lst {a : Addr} {xs : List V} {ds : List D} : SqL K G a xs → RA K G xs ds → R K G (.ref a) (.list ds)
  | tup {a : Addr} {xs : List V} {ds : List D} : SqT K G a xs → RA K G xs ds → R K G (.ref a) (.tuple ds)
  | dic {a : Addr} {o : Obj} {ks : List (Key × V)} {ds : List (D × D)} : G a = some (.frz o (.dK ks)) → RK K G ks ds → R K G (.ref a) (.dict ds)
  | dicN {a : Addr} {o : Obj} {xs : List (NestedKey × Addr × Value)} {ds : List (D × D)} : G a = some (.frz o (DX a xs)) → ds ≠ [] → RN K G xs ds → R K G (.ref a) (.dict ds)
inductive RA (K : PySem.W.Frag) (G : Hp) : List V → List D → Prop
  | nil : RA K G [] []
  | cons {v : V} {vs : List V} {d : D} {ds : List D} : R K G v d → RA K G vs ds → RA K G (v :: vs) (d :: ds)
inductive RK (K : PySem.W.Frag) (G : Hp) : List (Key × V) → List (D × D) → Prop
  | nil : RK K G [] []
  | cons {k : Key} {v : V} {ks : List (Key × V)} {d : D} {ds : List (D × D)} : R K G v d → RK K G ks ds → RK K G ((k, v) :: ks) ((kD k, d) :: ds)
inductive RN (K : PySem.W.Frag) (G : Hp) : List (NestedKey × Addr × Value) → List (D × D) → Prop
  | nil : RN K G [] []
  | cons {k : NestedKey} {b : Addr} {u : Value} {v : V} {xs : List (NestedKey × Addr × Value)} {dk d : D} {ds : List (D × D)} : okT dk = true → k = nk dk → R K G (.ref b) dk → RelV v u → R K G v d → RN K G xs ds → RN K G ((k, b, u) :: xs) ((dk, d) :: ds)
end
section
variable {K : PySem.W.Frag} {G G' H H' : Hp}
theorem sameT {a : Addr} {xs : List V} (e : Same G G') (h : SqT K G a xs) : SqT K G' a xs := by
  rcases h with (h | ⟨o, h⟩) | h
  · exact .inl (.inl (e _ _ h))
  · exact .inl (.inr ⟨o, e _ _ h⟩)
  · exact .inr h
mutual
theorem R.mono (e : Same G G') : ∀ {v : V} {d : D}, R K G v d → R K G' v d
  | _, _, .non => .non
  | _, _, .bl b => .bl b
  | _, _, .int i => .int i
  | _, _, .str x => .str x
  | _, _, .lst h r => .lst (e.seq h) (RA.mono e r)
  | _, _, .tup h r => .tup (sameT e h) (RA.mono e r)
  | _, _, .dic h r => .dic (e _ _ h) (RK.mono e r)
  | _, _, .dicN h n r => .dicN (e _ _ h) n (RN.mono e r)
theorem RA.mono (e : Same G G') : ∀ {vs : List V} {ds : List D}, RA K G vs ds → RA K G' vs ds
  | _, _, .nil => .nil
  | _, _, .cons h r => .cons (R.mono e h) (RA.mono e r)
theorem RK.mono (e : Same G G') : ∀ {ks : List (Key × V)} {ds : List (D × D)}, RK K G ks ds → RK K G' ks ds
  | _, _, .nil => .nil
  | _, _, .cons h r => .cons (R.mono e h) (RK.mono e r)
theorem RN.mono (e : Same G G') : ∀ {xs : List (NestedKey × Addr × Value)} {ds : List (D × D)}, RN K G xs ds → RN K G' xs ds
  | _, _, .nil => .nil
  | _, _, .cons h1 h2 h3 h4 h5 r => .cons h1 h2 (R.mono e h3) h4 (R.mono e h5) (RN.mono e r)
end
theorem RK.length : ∀ {ks : List (Key × V)} {ds : List (D × D)}, RK K G ks ds → ks.length = ds.length
  | _, _, .nil => rfl
  | _, _, .cons _ r => congrArg (· + 1) (RK.length r)
theorem RN.length : ∀ {xs : List (NestedKey × Addr × Value)} {ds : List (D × D)}, RN K G xs ds → xs.length = ds.length
  | _, _, .nil => rfl
  | _, _, .cons _ _ _ _ _ r => congrArg (· + 1) (RN.length r)
theorem RA.length : ∀ {vs : List V} {ds : List D}, RA K G vs ds → vs.length = ds.length
  | _, _, .nil => rfl
  | _, _, .cons _ r => congrArg (· + 1) (RA.length r)
theorem RA.get : ∀ {vs : List V} {ds : List D} {i : Nat} {d : D}, RA K G vs ds → ds[i]? = some d → ∃ v, vs[i]? = some v ∧ R K G v d
  | _, _, _, _, .nil, h => by simp at h
  | _, _, 0, _, .cons q _, h => by
    simp only [List.getElem?_cons_zero, Option.some.injEq] at h
    subst h
    exact ⟨_, rfl, q⟩
  | _, _, i + 1, _, .cons _ r, h => by
    simp only [List.getElem?_cons_succ] at h
    obtain ⟨v, h1, h2⟩ := RA.get r h
    exact ⟨v, by simpa using h1, h2⟩
theorem RA.getV : ∀ {vs : List V} {ds : List D} {i : Nat} {v : V}, RA K G vs ds → vs[i]? = some v → ∃ d, ds[i]? = some d ∧ R K G v d
  | _, _, _, _, .nil, h => by simp at h
  | _, _, 0, _, .cons q _, h => by
    simp only [List.getElem?_cons_zero, Option.some.injEq] at h
    subst h
    exact ⟨_, rfl, q⟩
  | _, _, i + 1, _, .cons _ r, h => by
    simp only [List.getElem?_cons_succ] at h
    obtain ⟨v, h1, h2⟩ := RA.getV r h
    exact ⟨v, by simpa using h1, h2⟩
theorem RA.append : ∀ {vs : List V} {ds : List D} {ws : List V} {es : List D}, RA K G vs ds → RA K G ws es → RA K G (vs ++ ws) (ds ++ es)
  | _, _, _, _, .nil, q => q
  | _, _, _, _, .cons h r, q => .cons h (RA.append r q)
theorem RA.snoc {vs : List V} {ds : List D} {v : V} {d : D} (h : RA K G vs ds) (q : R K G v d) : RA K G (vs ++ [v]) (ds ++ [d]) := h.append (.cons q .nil)
theorem RA.take : ∀ {vs : List V} {ds : List D} (n : Nat), RA K G vs ds → RA K G (vs.take n) (ds.take n)
  | _, _, 0, _ => .nil
  | _, _, _ + 1, .nil => .nil
  | _, _, n + 1, .cons h r => .cons h (RA.take n r)
theorem RA.drop : ∀ {vs : List V} {ds : List D} (n : Nat), RA K G vs ds → RA K G (vs.drop n) (ds.drop n)
  | _, _, 0, r => r
  | _, _, _ + 1, .nil => .nil
  | _, _, n + 1, .cons _ r => RA.drop n r
theorem RA.reverse : ∀ {vs : List V} {ds : List D}, RA K G vs ds → RA K G vs.reverse ds.reverse
  | _, _, .nil => .nil
  | _, _, .cons h r => by
    rw [List.reverse_cons, List.reverse_cons]
    exact (RA.reverse r).snoc h
theorem RA.ints : ∀ {vs : List V} {ns : List Int}, RA K G vs (ns.map PyData.int) → vs = ns.map V.int
  | [], [], _ => rfl
  | _ :: _, n :: ns, h => by
    cases h with
    | cons h1 h2 =>
      cases h1
      rw [RA.ints h2] <;> rfl
theorem RA.of_ints : ∀ ns : List Int, RA K G (ns.map V.int) (ns.map PyData.int)
  | [] => .nil
  | n :: ns => .cons (.int n) (RA.of_ints ns)
theorem RA.bools : ∀ {vs : List V} {bs : List Bool}, RA K G vs (bs.map PyData.bool) → vs = bs.map V.bl
  | [], [], _ => rfl
  | _ :: _, n :: ns, h => by
    cases h with
    | cons h1 h2 =>
      cases h1
      rw [RA.bools h2] <;> rfl
/-- data without a dict -/
theorem noDp_list {ds : List D} (h : PyData.hasDict (.list ds) = false) : PyData.hasDictAll ds = false := by simpa only [PyData.hasDict] using h
theorem noDp_tuple {ds : List D} (h : PyData.hasDict (.tuple ds) = false) : PyData.hasDictAll ds = false := by simpa only [PyData.hasDict] using h
mutual
theorem R.dp : ∀ {v : V} {d : D}, R K G v d → d.hasDict = false → Dp K G v d
  | _, _, .non, _ => .non
  | _, _, .bl b, _ => .bl b
  | _, _, .int i, _ => .int i
  | _, _, .str x, _ => .str x
  | _, _, .lst h r, n => .lst h (RA.dp r (noDp_list n))
  | _, _, .tup h r, n => .tup h (RA.dp r (noDp_tuple n))
  | _, _, .dic _ _, n => by simp only [PyData.hasDict] at n; exact absurd n (by decide)
  | _, _, .dicN _ _ _, n => by simp only [PyData.hasDict] at n; exact absurd n (by decide)
theorem RA.dp : ∀ {vs : List V} {ds : List D}, RA K G vs ds → PyData.hasDictAll ds = false → DpAll K G vs ds
  | _, _, .nil, _ => .nil
  | _, _, .cons h r, n => by
    simp only [PyData.hasDictAll, Bool.or_eq_false_iff] at n
    exact .cons (R.dp h n.1) (RA.dp r n.2)
end
end

/-! ### what may change beside -/
def Fixd : HO → Prop
  | .ext φ => ∃ c q, HO.ext φ = LamX.CodeO c q
  | .frz _ _ => True
  | .tup _ => True
  | .tbl _ => True
  | _ => False
def isTup : HO → Prop
  | .tup _ => True
  | _ => False
/-- vol: the places that calls may write at; inv: what holds of them; mine: what this body itself was handed to write at -/
structure Fx where
  vol : Addr → Prop
  mine : Addr → Prop
  inv : Hp → Prop
  ext : ∀ {H H' : Hp}, (∀ a o, vol a ∨ Fixd o → H a = some o → H' a = some o) → inv H → inv H'
  there : ∀ {H : Hp} {a : Addr}, inv H → vol a → ∃ o, H a = some o ∧ ¬ isTup o
def fx0 : Fx := ⟨fun _ => False, fun _ => False, fun _ => True, fun _ _ => True.intro, fun _ h => h.elim⟩
/-- nothing but one place of one's own -/
def fxM (a : Addr) : Fx := ⟨fun _ => False, fun b => b = a, fun _ => True, fun _ _ => True.intro, fun _ h => h.elim⟩
/-- what a proof of a body stands in: the written part, what may change, what was known and what stood at the entry, the wish of what is raised -/
structure Cf where
  K : PySem.W.Frag
  fx : Fx
  G0 : Hp
  B : Hp
  E : XK
structure Kn (fx : Fx) (G H : Hp) : Prop where
  gh : Same G H
  inv : fx.inv H
  vn : ∀ a, fx.vol a → G a = none
structure Grow (fx : Fx) (G H G' H' : Hp) : Prop where
  gg : Same G G'
  gh : Same G' H'
  hh : ∀ a o, ¬ fx.vol a → H a = some o → H' a = some o
  nn : ∀ a o, H a = some o → ¬ isTup o → G a = none → G' a = none
section
variable {fx : Fx} {G H G1 H1 G2 H2 : Hp}
theorem Kn.fresh (k : Kn fx G H) {p : Addr} (h : H p = none) : ¬ fx.vol p := fun v => by
  obtain ⟨o, e, _⟩ := fx.there k.inv v
  rw [h] at e
  cases e
theorem Kn.freeG (k : Kn fx G H) {p : Addr} (h : H p = none) : G p = none := k.gh.free h
theorem Grow.refl (k : Kn fx G H) : Grow fx G H G H := ⟨Same.refl G, k.gh, fun _ _ _ h => h, fun _ _ _ _ h => h⟩
theorem Kn.grow (k : Kn fx G H) (g : Grow fx G H G1 H1) (i : fx.inv H1) : Kn fx G1 H1 :=
  ⟨g.gh, i, fun a v => by
    obtain ⟨o, e, n⟩ := fx.there k.inv v
    exact g.nn a o e n (k.vn a v)⟩
theorem Grow.trans (g : Grow fx G H G1 H1) (k1 : Kn fx G1 H1) (k2 : Kn fx G2 H2) (g2 : Grow fx G1 H1 G2 H2) : Grow fx G H G2 H2 :=
  ⟨g.gg.trans g2.gg, g2.gh, fun a o v h => g2.hh a o v (g.hh a o v h), fun a o h nt n => by
    by_cases v : fx.vol a
    · exact k2.vn a v
    · exact g2.nn a o (g.hh a o v h) nt (g.nn a o h nt n)⟩
theorem Kn.same (k : Kn fx G H) (e : Same H H1) : Kn fx G H1 := ⟨k.gh.trans e, fx.ext (fun a o _ h => e a o h) k.inv, k.vn⟩
/-- new objects that nothing tells of -/
theorem Grow.same (k : Kn fx G H) (e : Same H H1) : Grow fx G H G H1 := ⟨Same.refl G, k.gh.trans e, fun a o _ h => e a o h, fun _ _ _ _ h => h⟩
theorem same_new {H : Hp} {p : Addr} {o : HO} (h : H p = none) : Same H (upd H p o) := fun a u e => by
  rw [upd_ne (ne_of_none e h)]
  exact e
theorem same_upd2 {G H : Hp} {p : Addr} {o : HO} (e : Same G H) : Same (upd G p o) (upd H p o) := fun a u h => by
  by_cases ha : a = p
  · subst ha
    rw [upd_same] at h ⊢
    exact h
  · rw [upd_ne ha] at h ⊢
    exact e a u h
/-- a new object, known from now on -/
theorem Grow.new (k : Kn fx G H) {p : Addr} (o : HO) (h : H p = none) : Grow fx G H (upd G p o) (upd H p o) :=
  ⟨same_new (k.freeG h), same_upd2 k.gh, fun a u _ e => same_new h a u e, fun a w ha nt n => by
    rw [upd_ne (ne_of_none ha h)]
    exact n⟩
theorem Kn.new (k : Kn fx G H) {p : Addr} (o : HO) (h : H p = none) : Kn fx (upd G p o) (upd H p o) :=
  k.grow (Grow.new k o h) (fx.ext (fun a u _ e => same_new h a u e) k.inv)
/-- what a callee that writes nothing leaves -/
theorem Grow.lift (g : Grow fx0 G H G1 H1) : Grow fx G H G1 H1 := ⟨g.gg, g.gh, fun a o _ h => g.hh a o (fun z => z) h, g.nn⟩
theorem Grow.hs (g : Grow fx0 G H G1 H1) : Same H H1 := fun a o h => g.hh a o (fun z => z) h
theorem Kn.low (k : Kn fx G H) : Kn fx0 G H := ⟨k.gh, True.intro, fun _ v => v.elim⟩
theorem Kn.lift (k : Kn fx G H) (g : Grow fx0 G H G1 H1) : Kn fx G1 H1 := k.grow g.lift (fx.ext (fun a o _ h => g.hs a o h) k.inv)
end

/-! ### what a name holds -/
/-- what a field holds -/
inductive Fv where
  | d (x : D)
  | r (v : V)
  | k (f : Bool) (ds : List (D × D))
abbrev Fs := List (Str × Fv)
inductive Mo where
  | lst (ds : List D)
  | dK (ds : List (D × D))
  | dN (a : Addr) (ds : List (D × D))
  | ins (C dx : Addr) (vf : List (Str × V)) (fs : Fs)
/-- a known dict, f tells its kind: keys ints and texts, or tuples -/
def KnD (K : PySem.W.Frag) (G : Hp) (a : Addr) : Bool → List (D × D) → Prop
  | true, ds => ∃ o ks, G a = some (.frz o (.dK ks)) ∧ RK K G ks ds
  | false, ds => ∃ o xs, G a = some (.frz o (DX a xs)) ∧ RN K G xs ds
theorem KnD.mono {K : PySem.W.Frag} {G G' : Hp} (e : Same G G') {a : Addr} {f : Bool} {ds : List (D × D)} (h : KnD K G a f ds) : KnD K G' a f ds := by
  cases f with
  | true =>
    obtain ⟨o, ks, h1, h2⟩ := h
    exact ⟨o, ks, e _ _ h1, h2.mono e⟩
  | false =>
    obtain ⟨o, xs, h1, h2⟩ := h
    exact ⟨o, xs, e _ _ h1, h2.mono e⟩
/-- nothing told; data; a value; a known dict; an object that never changes; a list that stands still while this body runs; a thing of one's own; a thing of one's own that the slot merely stands for -/
inductive Sl where
  | no
  | dat (d : D)
  | raw (v : V)
  | dic (f : Bool) (ds : List (D × D))
  | ob (o : Option Addr) (C : Addr) (fs : Fs)
  | rd (a : Addr) (vs : List V) (ds : List D)
  | own (a : Addr) (m : Mo)
  | gho (a : Addr) (m : Mo)
abbrev Rho := List Sl
def Sl.named : Sl → Prop
  | .no => False
  | .gho _ _ => False
  | _ => True
def Sl.holds : Sl → Option (Addr × Mo)
  | .own a m => some (a, m)
  | .gho a m => some (a, m)
  | _ => none
def RFv (K : PySem.W.Frag) (G : Hp) (v : V) : Fv → Prop
  | .d x => R K G v x
  | .r w => v = w
  | .k f ds => ∃ a, v = .ref a ∧ KnD K G a f ds
/-- fields -/
inductive FA (K : PySem.W.Frag) (G : Hp) : List (Str × V) → Fs → Prop
  | nil : FA K G [] []
  | cons {f : Str} {v : V} {x : Fv} {vs : List (Str × V)} {fs : Fs} : RFv K G v x → FA K G vs fs → FA K G ((f, v) :: vs) ((f, x) :: fs)
theorem RFv.mono {K : PySem.W.Frag} {G G' : Hp} (e : Same G G') {v : V} {x : Fv} (h : RFv K G v x) : RFv K G' v x := by
  cases x with
  | d x => exact R.mono e h
  | r w => exact h
  | k f ds =>
    obtain ⟨a, e1, e2⟩ := h
    exact ⟨a, e1, e2.mono e⟩
theorem FA.mono {K : PySem.W.Frag} {G G' : Hp} (e : Same G G') : ∀ {vs : List (Str × V)} {ds : Fs}, FA K G vs ds → FA K G' vs ds
  | _, _, .nil => .nil
  | _, _, .cons h r => .cons (h.mono e) (FA.mono e r)
def Mo.isIns : Mo → Prop
  | .ins _ _ _ _ => True
  | _ => False
def MoOk (K : PySem.W.Frag) (G : Hp) : HO → Mo → Prop
  | .lst vs, .lst ds => RA K G vs ds
  | .dK ks, .dK ds => RK K G ks ds
  | .ext φ, .dN a ds => ∃ xs, φ = phiX a xs ∧ RN K G xs ds
  | .ins C dx vs, .ins C' dx' vf ds => (C = C' ∧ dx = dx' ∧ vs = vf) ∧ FA K G vf ds
  | _, _ => False
def RS (K : PySem.W.Frag) (G : Hp) (v : V) : Sl → Prop
  | .dat d => R K G v d
  | .raw w => v = w
  | .dic f ds => ∃ a, v = .ref a ∧ KnD K G a f ds
  | .ob o C fs => ∃ a dx vf, v = .ref a ∧ G a = some (.ins C dx vf) ∧ FA K G vf fs ∧ ∀ b, o = some b → a = b
  | .rd a vs ds => v = .ref a ∧ RA K G vs ds
  | _ => False
inductive RSs (K : PySem.W.Frag) (G : Hp) : List V → List Sl → Prop
  | nil : RSs K G [] []
  | cons {v : V} {vs : List V} {s : Sl} {ss : List Sl} : RS K G v s → RSs K G vs ss → RSs K G (v :: vs) (s :: ss)
def SlOk (S : Cf) (G H : Hp) (o : Option V) : Sl → Prop
  | .no => True
  | .dat d => ∃ v, o = some v ∧ R S.K G v d
  | .raw v => o = some v
  | .dic f ds => ∃ v, o = some v ∧ RS S.K G v (.dic f ds)
  | .ob oa C fs => ∃ v, o = some v ∧ RS S.K G v (.ob oa C fs)
  | .rd a vs ds => ∃ v, o = some v ∧ RS S.K G v (.rd a vs ds)
  | .gho a m => G a = none ∧ (S.B a = none ∨ (S.fx.mine a ∧ m.isIns)) ∧ ¬ S.fx.vol a ∧ ∃ u, H a = some u ∧ MoOk S.K G u m
  | .own a m => o = some (.ref a) ∧ G a = none ∧ (S.B a = none ∨ (S.fx.mine a ∧ m.isIns)) ∧ ¬ S.fx.vol a ∧ ∃ u, H a = some u ∧ MoOk S.K G u m
structure Env (S : Cf) (G H : Hp) (σ : L2.St) (ρ : Rho) : Prop where
  len : σ.length = ρ.length
  at_ : ∀ (i : Nat) (s : Sl), ρ[i]? = some s → ∃ o, σ[i]? = some o ∧ SlOk S G H o s
  dis : ∀ (i j : Nat) (s t : Sl) (a : Addr) (m m' : Mo), ρ[i]? = some s → ρ[j]? = some t → s.holds = some (a, m) → t.holds = some (a, m') → i = j
section
variable {K : PySem.W.Frag} {S : Cf} {G H G' H' : Hp} {σ : L2.St} {ρ : Rho}
theorem MoOk.mono {u : HO} {m : Mo} (e : Same G G') (h : MoOk K G u m) : MoOk K G' u m := by
  cases u <;> cases m <;> first | exact h.elim | exact RA.mono e h | exact RK.mono e h | exact ⟨h.choose, h.choose_spec.1, h.choose_spec.2.mono e⟩ | exact ⟨h.1, FA.mono e h.2⟩
/-- a dict is no code object -/
theorem codeO_dx {c a : Addr} {q : Str} {xs : List (NestedKey × Addr × Value)} (h : HO.ext (phiX a xs) = LamX.CodeO c q) : False := by
  let ob : Obj := { cls := .none, data := .fields #[.none, .str q 0] }
  let hp : Heap := { objs := Array.replicate (c + a + 1) ob }
  have get : ∀ b, b < c + a + 1 → hp.get? b = some ob := fun b hb => by
    unfold Heap.get?
    have e : hp.objs[b]? = some ob := by
      show (Array.replicate (c + a + 1) ob)[b]? = some ob
      rw [Array.getElem?_replicate, if_pos hb]
    rw [e]
  have e2 := HO.ext.inj h
  have e3 := congrFun e2 hp
  have h1 : phiX a xs hp := by
    rw [e3]
    exact ⟨ob, _, 0, get c (Nat.lt_succ_of_le (Nat.le_add_right c a)), rfl, rfl⟩
  obtain ⟨_, _, o, es, ep, h2, _, h3, _⟩ := h1
  rw [get a (Nat.lt_succ_of_le (Nat.le_add_left a c))] at h2
  cases h2
  cases h3
theorem dx_noFix {a : Addr} {xs : List (NestedKey × Addr × Value)} : ¬ Fixd (DX a xs) := fun ⟨_, _, h⟩ => codeO_dx h
theorem MoOk.noFix {u : HO} {m : Mo} (h : MoOk K G u m) : ¬ Fixd u := by
  cases u <;> cases m <;> first | exact h.elim | exact fun z => z | (obtain ⟨xs, e, _⟩ := h; subst e; exact dx_noFix)
theorem MoOk.noTup {u : HO} {m : Mo} (h : MoOk K G u m) : ¬ isTup u := by
  cases u <;> cases m <;> first | exact h.elim | exact fun z => z
theorem RS.mono {v : V} {s : Sl} (e : Same G G') (h : RS K G v s) : RS K G' v s := by
  cases s with
  | dat d => exact R.mono e h
  | raw w => exact h
  | dic f ds =>
    obtain ⟨a, e1, e2⟩ := h
    exact ⟨a, e1, e2.mono e⟩
  | ob o C fs =>
    obtain ⟨a, dx, vf, e1, e2, e3, e4⟩ := h
    exact ⟨a, dx, vf, e1, e _ _ e2, e3.mono e, e4⟩
  | rd a vs ds => exact ⟨h.1, h.2.mono e⟩
  | no => exact h.elim
  | own a m => exact h.elim
  | gho a m => exact h.elim
theorem RSs.mono (e : Same G G') : ∀ {vs : List V} {ss : List Sl}, RSs K G vs ss → RSs K G' vs ss
  | _, _, .nil => .nil
  | _, _, .cons h r => .cons (h.mono e) (RSs.mono e r)
theorem RSs.length : ∀ {vs : List V} {ss : List Sl}, RSs K G vs ss → vs.length = ss.length
  | _, _, .nil => rfl
  | _, _, .cons _ r => congrArg (· + 1) (RSs.length r)
theorem SlOk.grow {o : Option V} {s : Sl} (g : Grow S.fx G H G' H') (h : SlOk S G H o s) : SlOk S G' H' o s := by
  cases s with
  | no => exact True.intro
  | dat d =>
    obtain ⟨v, e, r⟩ := h
    exact ⟨v, e, r.mono g.gg⟩
  | raw w => exact h
  | dic f ds =>
    obtain ⟨v, e, r⟩ := h
    exact ⟨v, e, r.mono g.gg⟩
  | ob oa C fs =>
    obtain ⟨v, e, r⟩ := h
    exact ⟨v, e, r.mono g.gg⟩
  | rd a vs ds =>
    obtain ⟨v, e, r⟩ := h
    exact ⟨v, e, r.mono g.gg⟩
  | own a m =>
    obtain ⟨e, ga, ba, va, u, ha, r⟩ := h
    exact ⟨e, g.nn a u ha r.noTup ga, ba, va, u, g.hh a u va ha, r.mono g.gg⟩
  | gho a m =>
    obtain ⟨ga, ba, va, u, ha, r⟩ := h
    exact ⟨g.nn a u ha r.noTup ga, ba, va, u, g.hh a u va ha, r.mono g.gg⟩
theorem Env.grow (e : Env S G H σ ρ) (g : Grow S.fx G H G' H') : Env S G' H' σ ρ :=
  ⟨e.len, fun i s h => by
    obtain ⟨o, h1, h2⟩ := e.at_ i s h
    exact ⟨o, h1, h2.grow g⟩, e.dis⟩
theorem Env.get (e : Env S G H σ ρ) {i : Nat} {s : Sl} (h : ρ[i]? = some s) (n : s.named := by exact True.intro) : ∃ v, σ[i]? = some (some v) ∧ SlOk S G H (some v) s := by
  obtain ⟨o, h1, h2⟩ := e.at_ i s h
  cases s with
  | no => exact n.elim
  | gho a m => exact n.elim
  | dat d =>
    obtain ⟨v, e', r⟩ := h2
    subst e'
    exact ⟨v, h1, v, rfl, r⟩
  | dic f ds =>
    obtain ⟨v, e', r⟩ := h2
    subst e'
    exact ⟨v, h1, v, rfl, r⟩
  | ob oa C fs =>
    obtain ⟨v, e', r⟩ := h2
    subst e'
    exact ⟨v, h1, v, rfl, r⟩
  | rd a vs ds =>
    obtain ⟨v, e', r⟩ := h2
    subst e'
    exact ⟨v, h1, v, rfl, r⟩
  | raw w =>
    have e' : o = some w := h2
    subst e'
    exact ⟨w, h1, rfl⟩
  | own a m =>
    have e' : o = some (.ref a) := h2.1
    subst e'
    exact ⟨.ref a, h1, h2⟩
theorem set_get {α : Type} {l : List α} {i j : Nat} {x y : α} (h : (l.set i x)[j]? = some y) : (j = i ∧ y = x) ∨ (j ≠ i ∧ l[j]? = some y) := by
  by_cases e : j = i
  · subst e
    refine .inl ⟨rfl, ?_⟩
    have hl : j < l.length := by
      have := (List.getElem?_eq_some_iff.mp h).1
      simpa using this
    rw [List.getElem?_set_self hl] at h
    exact (Option.some.inj h).symm
  · refine .inr ⟨e, ?_⟩
    rwa [List.getElem?_set_ne (Ne.symm e)] at h
/-- a slot is set to what is told of it -/
theorem Env.put (e : Env S G H σ ρ) (i : Nat) (o : Option V) (s : Sl) (h : SlOk S G H o s) (hd : ∀ a m, s.holds = some (a, m) → ∀ j t m', j ≠ i → ρ[j]? = some t → t.holds ≠ some (a, m')) : Env S G H (σ.set i o) (ρ.set i s) := by
  refine ⟨by simp [e.len], fun j t ht => ?_, fun j k s1 s2 a m m' hj hk h1 h2 => ?_⟩
  · rcases set_get ht with ⟨ej, et⟩ | ⟨nj, ht⟩
    · subst ej et
      have hl : j < σ.length := by
        rw [e.len]
        have := (List.getElem?_eq_some_iff.mp ht).1
        simpa using this
      exact ⟨o, by rw [List.getElem?_set_self hl], h⟩
    · obtain ⟨o', h1, h2⟩ := e.at_ j t ht
      exact ⟨o', by rw [List.getElem?_set_ne (Ne.symm nj)]; exact h1, h2⟩
  · rcases set_get hj with ⟨ej, et⟩ | ⟨nj, hj⟩
    · rcases set_get hk with ⟨ek, _⟩ | ⟨nk, hk⟩
      · rw [ej, ek]
      · exact absurd h2 (hd a m (et ▸ h1) k s2 m' nk hk)
    · rcases set_get hk with ⟨ek, et⟩ | ⟨nk, hk⟩
      · exact absurd h1 (hd a m' (et ▸ h2) j s1 m nj hj)
      · exact e.dis j k s1 s2 a m m' hj hk h1 h2
theorem Env.set (e : Env S G H σ ρ) (i : Nat) {v : V} {s : Sl} (h : RS S.K G v s) : Env S G H (σ.set i (some v)) (ρ.set i s) := by
  cases s with
  | no => exact h.elim
  | own a m => exact h.elim
  | gho a m => exact h.elim
  | dat d => exact e.put i _ _ ⟨v, rfl, h⟩ fun a m z => by cases z
  | dic f ds => exact e.put i _ _ ⟨v, rfl, h⟩ fun a m z => by cases z
  | ob oa C fs => exact e.put i _ _ ⟨v, rfl, h⟩ fun a m z => by cases z
  | rd a vs ds => exact e.put i _ _ ⟨v, rfl, h⟩ fun a m z => by cases z
  | raw w => exact e.put i _ _ (congrArg some h) fun a m z => by cases z
theorem Env.unset (e : Env S G H σ ρ) (i : Nat) (o : Option V) : Env S G H (σ.set i o) (ρ.set i .no) := e.put i o .no True.intro fun a m z => by cases z
/-- what is told of one slot is changed, the slots' values are not -/
theorem Env.chg (e : Env S G H σ ρ) (i : Nat) (s : Sl) (h : ∀ o s0, ρ[i]? = some s0 → σ[i]? = some o → SlOk S G H o s0 → SlOk S G H o s)
    (hd : ∀ a m, s.holds = some (a, m) → ∀ j t m', j ≠ i → ρ[j]? = some t → t.holds ≠ some (a, m')) : Env S G H σ (ρ.set i s) := by
  refine ⟨by simp [e.len], fun j t ht => ?_, fun j k s1 s2 a m m' hj hk h1 h2 => ?_⟩
  · rcases set_get ht with ⟨ej, et⟩ | ⟨nj, ht⟩
    · subst ej et
      have hl : j < ρ.length := by
        have := (List.getElem?_eq_some_iff.mp ht).1
        simpa using this
      obtain ⟨o, q1, q2⟩ := e.at_ j ρ[j] (List.getElem?_eq_getElem hl)
      exact ⟨o, q1, h o _ (List.getElem?_eq_getElem hl) q1 q2⟩
    · exact e.at_ j t ht
  · rcases set_get hj with ⟨ej, et⟩ | ⟨nj, hj⟩
    · rcases set_get hk with ⟨ek, _⟩ | ⟨nk, hk⟩
      · rw [ej, ek]
      · exact absurd h2 (hd a m (et ▸ h1) k s2 m' nk hk)
    · rcases set_get hk with ⟨ek, et⟩ | ⟨nk, hk⟩
      · exact absurd h1 (hd a m' (et ▸ h2) j s1 m nj hj)
      · exact e.dis j k s1 s2 a m m' hj hk h1 h2
/-- less is told of a slot -/
theorem Env.forget (e : Env S G H σ ρ) (i : Nat) : Env S G H σ (ρ.set i .no) := e.chg i .no (fun _ _ _ _ _ => True.intro) fun a m z => by cases z
/-- no slot but i holds what slot i holds -/
theorem Env.alone (e : Env S G H σ ρ) {i : Nat} {s : Sl} {a : Addr} {m : Mo} (h : ρ[i]? = some s) (hh : s.holds = some (a, m)) {j : Nat} {t : Sl} {m' : Mo} (nj : j ≠ i) (hj : ρ[j]? = some t) : t.holds ≠ some (a, m') := fun z => nj (e.dis j i t s a m' m hj h z hh)
theorem SlOk.holdsOk {o : Option V} {s : Sl} {a : Addr} {m : Mo} (h : SlOk S G H o s) (hh : s.holds = some (a, m)) : G a = none ∧ (S.B a = none ∨ (S.fx.mine a ∧ m.isIns)) ∧ ¬ S.fx.vol a ∧ ∃ u, H a = some u ∧ MoOk S.K G u m := by
  cases s with
  | own b n =>
    cases hh
    exact h.2
  | gho b n =>
    cases hh
    exact h
  | _ => cases hh
/-- what slot i holds is known from now on, as u (what stood there, or the same locked); no other slot is told anew but slot i -/
theorem Env.know (k : Kn S.fx G H) (e : Env S G H σ ρ) {i : Nat} {s s' : Sl} {a : Addr} {m : Mo} {u u' : HO} (h : ρ[i]? = some s) (hh : s.holds = some (a, m)) (ha : H a = some u) (nf : ¬ Fixd u)
    (hs : ∀ o, σ[i]? = some o → SlOk S G H o s → SlOk S (upd G a u') (upd H a u') o s') (hn : s'.holds = none) :
    Kn S.fx (upd G a u') (upd H a u') ∧ Same G (upd G a u') ∧ Env S (upd G a u') (upd H a u') σ (ρ.set i s') := by
  obtain ⟨o, h1, h2⟩ := e.at_ i s h
  obtain ⟨ga, ba, va, _⟩ := h2.holdsOk hh
  have sg : Same G (upd G a u') := same_new ga
  have hk : ∀ b w, b ≠ a → H b = some w → (upd H a u') b = some w := fun b w q hb => by
    rw [upd_ne q]
    exact hb
  have sh : Same (upd G a u') (upd H a u') := same_upd2 k.gh
  have kn : Kn S.fx (upd G a u') (upd H a u') := ⟨sh, S.fx.ext (fun b w hb hw => hk b w (fun q => by
      rcases hb with hb | hb
      · exact va (q ▸ hb)
      · rw [q, ha] at hw
        cases hw
        exact nf hb) hw) k.inv, fun b vb => by
    have q : b ≠ a := fun q => va (q ▸ vb)
    rw [upd_ne q]
    exact k.vn b vb⟩
  refine ⟨kn, sg, by simp [e.len], fun j t ht => ?_, fun j k' s1 s2 b m1 m2 hj hk' q1 q2 => ?_⟩
  · rcases set_get ht with ⟨ej, et⟩ | ⟨nj, ht⟩
    · subst ej et
      exact ⟨o, h1, hs o h1 h2⟩
    · obtain ⟨o', q1, q2⟩ := e.at_ j t ht
      refine ⟨o', q1, ?_⟩
      have nh : ∀ m', t.holds ≠ some (a, m') := fun m' => e.alone h hh nj ht
      cases t with
      | no => exact True.intro
      | dat d =>
        obtain ⟨v, e', r'⟩ := q2
        exact ⟨v, e', r'.mono sg⟩
      | dic f ds =>
        obtain ⟨v, e', r'⟩ := q2
        exact ⟨v, e', r'.mono sg⟩
      | ob oa C fs =>
        obtain ⟨v, e', r'⟩ := q2
        exact ⟨v, e', r'.mono sg⟩
      | rd c vs ds =>
        obtain ⟨v, e', r'⟩ := q2
        exact ⟨v, e', r'.mono sg⟩
      | raw w => exact q2
      | own b m =>
        obtain ⟨x1, x2, x3, x4, u, x5, x6⟩ := q2
        have q : b ≠ a := fun q => nh m (by rw [q] <;> rfl)
        exact ⟨x1, by rw [upd_ne q]; exact x2, x3, x4, u, hk b u q x5, x6.mono sg⟩
      | gho b m =>
        obtain ⟨x2, x3, x4, u, x5, x6⟩ := q2
        have q : b ≠ a := fun q => nh m (by rw [q] <;> rfl)
        exact ⟨by rw [upd_ne q]; exact x2, x3, x4, u, hk b u q x5, x6.mono sg⟩
  · rcases set_get hj with ⟨_, et⟩ | ⟨nj, hj⟩
    · subst et
      rw [hn] at q1
      cases q1
    · rcases set_get hk' with ⟨_, et⟩ | ⟨nk, hk'⟩
      · subst et
        rw [hn] at q2
        cases q2
      · exact e.dis j k' s1 s2 b m1 m2 hj hk' q1 q2
theorem upd_self {H : Hp} {a : Addr} {u : HO} (h : H a = some u) : upd H a u = H := by
  funext b
  by_cases q : b = a
  · rw [q, upd_same, h]
  · rw [upd_ne q]
/-- a list that was ours is data from now on -/
theorem Env.freeze (k : Kn S.fx G H) (e : Env S G H σ ρ) {i : Nat} {a : Addr} {ds : List D} (h : ρ[i]? = some (.own a (.lst ds))) :
    ∃ u, H a = some u ∧ ¬ isTup u ∧ Kn S.fx (upd G a u) H ∧ Same G (upd G a u) ∧ S.B a = none ∧ G a = none ∧ R S.K (upd G a u) (.ref a) (.list ds) ∧ Env S (upd G a u) H σ (ρ.set i (.dat (.list ds))) := by
  obtain ⟨v, h1, e1, ga, ba', va, u, ha, r⟩ := e.get h
  have ba : S.B a = none := ba'.elim id fun z => z.2.elim
  cases u with
  | lst vs =>
    have rr : R S.K (upd G a (.lst vs)) (.ref a) (.list ds) := .lst (SqL.of upd_same) (RA.mono (same_new ga) r)
    obtain ⟨k2, sg, e2⟩ := Env.know (u' := .lst vs) (s' := .dat (.list ds)) k e h rfl ha (fun z => z) (fun o ho ok => ⟨.ref a, ok.1, rr⟩) rfl
    rw [upd_self ha] at k2 e2
    exact ⟨_, ha, fun z => z, k2, sg, ba, ga, rr, e2⟩
  | _ => exact r.elim
/-- an object of ours never changes from now on -/
theorem Env.freezeO (k : Kn S.fx G H) (e : Env S G H σ ρ) {i : Nat} {a C dx : Addr} {vf : List (Str × V)} {fs : Fs} (h : ρ[i]? = some (.own a (.ins C dx vf fs))) :
    ∃ u, H a = some u ∧ ¬ isTup u ∧ Kn S.fx (upd G a u) H ∧ Same G (upd G a u) ∧ (S.B a = none ∨ S.fx.mine a) ∧ G a = none ∧ Env S (upd G a u) H σ (ρ.set i (.ob (some a) C fs)) := by
  obtain ⟨v, h1, e1, ga, ba, va, u, ha, r⟩ := e.get h
  cases u with
  | ins C' dx' vs =>
    obtain ⟨⟨e1, e2, e3⟩, fa⟩ := r
    cases e1
    cases e2
    cases e3
    obtain ⟨k2, sg, e2⟩ := Env.know (u' := .ins C dx vf) (s' := .ob (some a) C fs) k e h rfl ha (fun z => z) (fun o ho ok => ⟨.ref a, ok.1, a, dx, vf, rfl, upd_same, fa.mono (same_new ga), fun b z => Option.some.inj z⟩) rfl
    rw [upd_self ha] at k2 e2
    exact ⟨_, ha, fun z => z, k2, sg, ba.imp id fun z => z.1, ga, e2⟩
  | _ => exact r.elim
end
end Dl

set_option Elab.async false
set_option linter.all false
set_option maxRecDepth 100000
set_option maxHeartbeats 4000000
/-! Dle: what expressions give, as data. -/
namespace Dl
open PySem PySem.Spec PyProof.Rows L2
def Ev (S : Cf) (te : TE) (ρ : Rho) (P : Sl → Prop) : Prop := ∀ (σ : L2.St) (G H : Hp), Kn S.fx G H → Env S G H σ ρ → ∀ Q : VK,
  (∀ v s G' H', Grow S.fx G H G' H' → Kn S.fx G' H' → P s → RS S.K G' v s → Q v H') → te σ H Q
def EvT (S : Cf) (tt : TT) (ρ : Rho) (P : Bool → Prop) : Prop := ∀ (σ : L2.St) (G H : Hp), Kn S.fx G H → Env S G H σ ρ → ∀ Q : Bool → Hp → Prop,
  (∀ b G' H', Grow S.fx G H G' H' → Kn S.fx G' H' → P b → Q b H') → tt σ H Q
def EvA (S : Cf) (ta : TA) (ρ : Rho) (P : List Sl → Prop) : Prop := ∀ (σ : L2.St) (G H : Hp), Kn S.fx G H → Env S G H σ ρ → ∀ Q : List V → Hp → Prop,
  (∀ vs ss G' H', Grow S.fx G H G' H' → Kn S.fx G' H' → P ss → RSs S.K G' vs ss → Q vs H') → ta σ H Q
/-- a list that may be read: ours, or known -/
def EvL (S : Cf) (te : TE) (ρ : Rho) (ds : List D) : Prop := ∀ (σ : L2.St) (G H : Hp), Kn S.fx G H → Env S G H σ ρ → ∀ Q : VK,
  (∀ a vs G' H', Grow S.fx G H G' H' → Kn S.fx G' H' → (∀ G2 H2, Grow S.fx G' H' G2 H2 → SqL S.K H2 a vs) → RA S.K G' vs ds → Q (.ref a) H') → te σ H Q
def EvU (S : Cf) (te : TE) (ρ : Rho) (ds : List D) : Prop := ∀ (σ : L2.St) (G H : Hp), Kn S.fx G H → Env S G H σ ρ → ∀ Q : VK,
  (∀ a vs G' H', Grow S.fx G H G' H' → Kn S.fx G' H' → (∀ G2 H2, Grow S.fx G' H' G2 H2 → SqT S.K H2 a vs) → RA S.K G' vs ds → Q (.ref a) H') → te σ H Q
/-- an int of which p holds -/
abbrev EvI (S : Cf) (te : TE) (ρ : Rho) (p : Int → Prop) : Prop := Ev S te ρ (fun s => ∃ i, s = .dat (.int i) ∧ p i)
section
variable {S : Cf} {ρ : Rho} {te ta tb tc : TE} {t u : TT} {r : R2}
theorem Ev.imp {P P' : Sl → Prop} (h : Ev S te ρ P) (i : ∀ s, P s → P' s) : Ev S te ρ P' := fun σ G H k e Q q => h σ G H k e Q fun v s G' H' g k' p r => q v s G' H' g k' (i s p) r
theorem EvT.imp {P P' : Bool → Prop} (h : EvT S t ρ P) (i : ∀ s, P s → P' s) : EvT S t ρ P' := fun σ G H k e Q q => h σ G H k e Q fun v G' H' g k' p => q v G' H' g k' (i v p)
theorem EvA.imp {ta : TA} {P P' : List Sl → Prop} (h : EvA S ta ρ P) (i : ∀ s, P s → P' s) : EvA S ta ρ P' := fun σ G H k e Q q => h σ G H k e Q fun v s G' H' g k' p r => q v s G' H' g k' (i s p) r
theorem Ev.cast {s s' : Sl} (h : Ev S te ρ (Eq s)) (e : s = s') : Ev S te ρ (Eq s') := e ▸ h
theorem Ev.toI {i : Int} {p : Int → Prop} (h : Ev S te ρ (Eq (.dat (.int i)))) (hp : p i) : EvI S te ρ p := h.imp fun s e => ⟨i, e.symm, hp⟩
/-! names and constants -/
theorem ev_int {i : Int} : Ev S (tC (.int i)) ρ (Eq (.dat (.int i))) := fun σ G H k e Q q => q _ _ G H (Grow.refl k) k rfl (.int i)
theorem ev_bl {b : Bool} : Ev S (tC (.bl b)) ρ (Eq (.dat (.bool b))) := fun σ G H k e Q q => q _ _ G H (Grow.refl k) k rfl (.bl b)
theorem ev_str {x : Str} : Ev S (tC (.str x)) ρ (Eq (.dat (.str x))) := fun σ G H k e Q q => q _ _ G H (Grow.refl k) k rfl (.str x)
theorem ev_non : Ev S (tC .non) ρ (Eq (.dat .none)) := fun σ G H k e Q q => q _ _ G H (Grow.refl k) k rfl .non
theorem ev_raw {v : V} : Ev S (tC v) ρ (Eq (.raw v)) := fun σ G H k e Q q => q _ _ G H (Grow.refl k) k rfl rfl
/-- a constant of the module -/
theorem ev_cst {v : V} {d : D} (h : ∀ G : Hp, R S.K G v d) : Ev S (tC v) ρ (Eq (.dat d)) := fun σ G H k e Q q => q _ _ G H (Grow.refl k) k rfl (h G)
theorem ev_var {i : Nat} {d : D} (h : ρ[i]? = some (.dat d)) : Ev S (tVar i) ρ (Eq (.dat d)) := fun σ G H k e Q q => by
  obtain ⟨v, h1, v', e', r⟩ := e.get h
  cases e'
  exact ⟨v, h1, q v _ G H (Grow.refl k) k rfl r⟩
theorem ev_varR {i : Nat} {w : V} (h : ρ[i]? = some (.raw w)) : Ev S (tVar i) ρ (Eq (.raw w)) := fun σ G H k e Q q => by
  obtain ⟨v, h1, e'⟩ := e.get h
  exact ⟨v, h1, q v _ G H (Grow.refl k) k rfl (Option.some.inj e')⟩
theorem ev_varO {i : Nat} {a : Addr} {m : Mo} (h : ρ[i]? = some (.own a m)) : Ev S (tVar i) ρ (Eq (.raw (.ref a))) := fun σ G H k e Q q => by
  obtain ⟨v, h1, e', _⟩ := e.get h
  exact ⟨v, h1, q v _ G H (Grow.refl k) k rfl (Option.some.inj e')⟩
/-! lists and tuples that may be read -/
theorem el_of {ds : List D} (h : Ev S te ρ (Eq (.dat (.list ds)))) : EvL S te ρ ds := fun σ G H k e Q q => h σ G H k e Q fun v s G' H' g k' p r => by
  subst p
  cases r with
  | lst hs ra => exact q _ _ G' H' g k' (fun G2 H2 g2 => (g2.gg.trans g2.gh).seq hs) ra
theorem eu_of {ds : List D} (h : Ev S te ρ (Eq (.dat (.tuple ds)))) : EvU S te ρ ds := fun σ G H k e Q q => h σ G H k e Q fun v s G' H' g k' p r => by
  subst p
  cases r with
  | tup hs ra => exact q _ _ G' H' g k' (fun G2 H2 g2 => sameT (g2.gg.trans g2.gh) hs) ra
theorem el_own {i : Nat} {a : Addr} {ds : List D} (h : ρ[i]? = some (.own a (.lst ds))) : EvL S (tVar i) ρ ds := fun σ G H k e Q q => by
  obtain ⟨v, h1, e', ga, ba, va, u, ha, r⟩ := e.get h
  refine ⟨v, h1, ?_⟩
  cases Option.some.inj e'
  cases u with
  | lst vs => exact q a vs G H (Grow.refl k) k (fun G2 H2 g2 => SqL.of (g2.hh a _ va ha)) r
  | _ => exact r.elim
/-! operators by values -/
def OpD (S : Cf) (r : R2) (x y : Sl) (P : Sl → Prop) : Prop := ∀ (G H : Hp) (v w : V), Kn S.fx G H → RS S.K G v x → RS S.K G w y → ∀ Q : VK,
  (∀ z s G' H', Grow S.fx G H G' H' → Kn S.fx G' H' → P s → RS S.K G' z s → Q z H') → r v w H Q
theorem ev_op {Pa Pb P : Sl → Prop} (ha : Ev S ta ρ Pa) (hb : Ev S tb ρ Pb) (ho : ∀ x y, Pa x → Pb y → OpD S r x y P) : Ev S (tOp r ta tb) ρ P := fun σ G H k e Q q =>
  ha σ G H k e _ fun v x G1 H1 g1 k1 p1 r1 => hb σ G1 H1 k1 (e.grow g1) _ fun w y G2 H2 g2 k2 p2 r2 =>
    ho x y p1 p2 G2 H2 v w k2 (r1.mono g2.gg) r2 Q fun z s G3 H3 g3 k3 p3 r3 => q z s G3 H3 ((g1.trans k1 k2 g2).trans k2 k3 g3) k3 p3 r3
theorem ev_op' {x y : Sl} {P : Sl → Prop} (ha : Ev S ta ρ (Eq x)) (hb : Ev S tb ρ (Eq y)) (ho : OpD S r x y P) : Ev S (tOp r ta tb) ρ P := ev_op ha hb fun a b e1 e2 => e1 ▸ e2 ▸ ho
/-- the value alone, the heap as it is -/
theorem opd_here {x y s : Sl} {z : V} (h : ∀ (G H : Hp) (v w : V), Kn S.fx G H → RS S.K G v x → RS S.K G w y → RS S.K G z s ∧ ∀ Q : VK, Q z H → r v w H Q) : OpD S r x y (Eq s) := fun G H v w k rx ry Q q =>
  (h G H v w k rx ry).2 Q (q z s G H (Grow.refl k) k rfl (h G H v w k rx ry).1)
theorem opd_I0 {f : Int → Int → Int} {i j : Int} : OpD S (rI0 fun i j => .int (f i j)) (.dat (.int i)) (.dat (.int j)) (Eq (.dat (.int (f i j)))) := opd_here (z := .int (f i j)) fun G H v w k rx ry => ⟨.int _, fun Q q => by
  cases rx
  cases ry
  exact ⟨i, j, rfl, rfl, q⟩⟩
theorem opd_C0 {f : Int → Int → Bool} {i j : Int} : OpD S (rI0 fun i j => .bl (f i j)) (.dat (.int i)) (.dat (.int j)) (Eq (.dat (.bool (f i j)))) := opd_here (z := .bl (f i j)) fun G H v w k rx ry => ⟨.bl _, fun Q q => by
  cases rx
  cases ry
  exact ⟨i, j, rfl, rfl, q⟩⟩
theorem opd_IC {C : Int → Int → Prop} {f : Int → Int → Int} {i j : Int} (hc : C i j) : OpD S (rI C fun i j => .int (f i j)) (.dat (.int i)) (.dat (.int j)) (Eq (.dat (.int (f i j)))) := opd_here (z := .int (f i j)) fun G H v w k rx ry => ⟨.int _, fun Q q => by
  cases rx
  cases ry
  exact ⟨i, j, rfl, rfl, hc, q⟩⟩
theorem ev_I0 {f : Int → Int → Int} {i j : Int} (ha : Ev S ta ρ (Eq (.dat (.int i)))) (hb : Ev S tb ρ (Eq (.dat (.int j)))) : Ev S (tOp (rI0 fun i j => .int (f i j)) ta tb) ρ (Eq (.dat (.int (f i j)))) := ev_op' ha hb opd_I0
theorem ev_C0 {f : Int → Int → Bool} {i j : Int} (ha : Ev S ta ρ (Eq (.dat (.int i)))) (hb : Ev S tb ρ (Eq (.dat (.int j)))) : Ev S (tOp (rI0 fun i j => .bl (f i j)) ta tb) ρ (Eq (.dat (.bool (f i j)))) := ev_op' ha hb opd_C0
theorem ev_IC {C : Int → Int → Prop} {f : Int → Int → Int} {i j : Int} (ha : Ev S ta ρ (Eq (.dat (.int i)))) (hb : Ev S tb ρ (Eq (.dat (.int j)))) (hc : C i j) : Ev S (tOp (rI C fun i j => .int (f i j)) ta tb) ρ (Eq (.dat (.int (f i j)))) := ev_op' ha hb (opd_IC hc)
theorem evI_0 {f : Int → Int → Int} {p q s : Int → Prop} (ha : EvI S ta ρ p) (hb : EvI S tb ρ q) (h : ∀ i j, p i → q j → s (f i j)) : EvI S (tOp (rI0 fun i j => .int (f i j)) ta tb) ρ s :=
  ev_op ha hb fun x y ⟨i, ex, hi⟩ ⟨j, ey, hj⟩ => by
    subst ex ey
    intro G H v w k rx ry Q q
    exact opd_I0 G H v w k rx ry Q fun z s G' H' g k' e r => q z s G' H' g k' ⟨_, e.symm, h i j hi hj⟩ r
theorem evI_C {C : Int → Int → Prop} {f : Int → Int → Int} {p q s : Int → Prop} (ha : EvI S ta ρ p) (hb : EvI S tb ρ q) (hc : ∀ i j, p i → q j → C i j) (h : ∀ i j, p i → q j → s (f i j)) : EvI S (tOp (rI C fun i j => .int (f i j)) ta tb) ρ s :=
  ev_op ha hb fun x y ⟨i, ex, hi⟩ ⟨j, ey, hj⟩ => by
    subst ex ey
    intro G H v w k rx ry Q q
    exact opd_IC (hc i j hi hj) G H v w k rx ry Q fun z s G' H' g k' e r => q z s G' H' g k' ⟨_, e.symm, h i j hi hj⟩ r
/-- a comparison of ints of which something is known -/
theorem evT_C0 {f : Int → Int → Bool} {p q : Int → Prop} {P : Bool → Prop} (ha : EvI S ta ρ p) (hb : EvI S tb ρ q) (h : ∀ i j, p i → q j → P (f i j)) : Ev S (tOp (rI0 fun i j => .bl (f i j)) ta tb) ρ (fun s => ∃ b, s = .dat (.bool b) ∧ P b) :=
  ev_op ha hb fun x y ⟨i, ex, hi⟩ ⟨j, ey, hj⟩ => by
    subst ex ey
    intro G H v w k rx ry Q q
    exact opd_C0 G H v w k rx ry Q fun z s G' H' g k' e r => q z s G' H' g k' ⟨_, e.symm, h i j hi hj⟩ r
theorem ev_neg {i : Int} (ha : Ev S ta ρ (Eq (.dat (.int i)))) : Ev S (tUn (rU fun i => .int (-i)) ta) ρ (Eq (.dat (.int (-i)))) := fun σ G H k e Q q => ha σ G H k e _ fun v s G1 H1 g1 k1 p1 r1 => by
  subst p1
  cases r1
  exact ⟨i, rfl, q _ _ G1 H1 g1 k1 rfl (.int _)⟩
theorem ev_eqD {d d' : D} (ha : Ev S ta ρ (Eq (.dat d))) (hb : Ev S tb ρ (Eq (.dat d'))) (s1 : SeqAt.shaped d = true) (s2 : SeqAt.shaped d' = true) : Ev S (tOp (rEqD S.K) ta tb) ρ (Eq (.dat (.bool (PyData.eqv d d')))) :=
  ev_op' ha hb (opd_here (z := .bl (PyData.eqv d d')) fun G H v w k rx ry => ⟨.bl _, fun Q q =>
    ⟨d, d', (R.mono k.gh rx).dp (PyData.hasDict_of_canLay _ (SeqAt.canLay_of_shaped s1)), (R.mono k.gh ry).dp (PyData.hasDict_of_canLay _ (SeqAt.canLay_of_shaped s2)), s1, s2, q⟩⟩)
theorem ev_neD {d d' : D} (ha : Ev S ta ρ (Eq (.dat d))) (hb : Ev S tb ρ (Eq (.dat d'))) (s1 : SeqAt.shaped d = true) (s2 : SeqAt.shaped d' = true) : Ev S (tOp (rNeD S.K) ta tb) ρ (Eq (.dat (.bool (!PyData.eqv d d')))) :=
  ev_op' ha hb (opd_here (z := .bl (!PyData.eqv d d')) fun G H v w k rx ry => ⟨.bl _, fun Q q =>
    ⟨d, d', (R.mono k.gh rx).dp (PyData.hasDict_of_canLay _ (SeqAt.canLay_of_shaped s1)), (R.mono k.gh ry).dp (PyData.hasDict_of_canLay _ (SeqAt.canLay_of_shaped s2)), s1, s2, q⟩⟩)
def isNone : D → Bool
  | .none => true
  | _ => false
theorem R.isN {K : PySem.W.Frag} {G : Hp} {v : V} {d : D} (h : R K G v d) : decide (v = .non) = isNone d := by
  cases h <;> simp [isNone]
theorem ev_isN {d : D} (ha : Ev S ta ρ (Eq (.dat d))) : Ev S (tOp (fun x y H Q => y = .non ∧ Q (.bl (decide (x = .non))) H) ta (tC .non)) ρ (Eq (.dat (.bool (isNone d)))) :=
  ev_op' ha ev_non (opd_here (z := .bl (isNone d)) fun G H v w k rx ry => ⟨.bl _, fun Q q => by
    cases ry
    refine ⟨rfl, ?_⟩
    rw [R.isN rx]
    exact q⟩)
theorem ev_notN {d : D} (ha : Ev S ta ρ (Eq (.dat d))) : Ev S (tOp (fun x y H Q => y = .non ∧ Q (.bl (!decide (x = .non))) H) ta (tC .non)) ρ (Eq (.dat (.bool (!isNone d)))) :=
  ev_op' ha ev_non (opd_here (z := .bl (!isNone d)) fun G H v w k rx ry => ⟨.bl _, fun Q q => by
    cases ry
    refine ⟨rfl, ?_⟩
    rw [R.isN rx]
    exact q⟩)
/-! items -/
theorem RA.at {K : PySem.W.Frag} {G : Hp} {vs : List V} {ds : List D} {i : Int} {d : D} (h : RA K G vs ds) (ha : atI ds i = some d) : ∃ v, atI vs i = some v ∧ R K G v d := by
  unfold atI at ha ⊢
  rw [h.length]
  cases e : ixN ds.length i with
  | none =>
    rw [e] at ha
    cases ha
  | some j =>
    rw [e] at ha
    exact h.get ha
theorem ev_ixL {ds : List D} {i : Int} {d : D} (ha : EvL S ta ρ ds) (hb : Ev S tb ρ (Eq (.dat (.int i)))) (hd : atI ds i = some d) : Ev S (tOp (rIxL S.K) ta tb) ρ (Eq (.dat d)) := fun σ G H k e Q q =>
  ha σ G H k e _ fun a vs G1 H1 g1 k1 st ra => hb σ G1 H1 k1 (e.grow g1) _ fun w y G2 H2 g2 k2 p2 r2 => by
    subst p2
    cases r2
    obtain ⟨v, hv, rv⟩ := ra.at hd
    exact ⟨a, vs, i, v, rfl, rfl, st G2 H2 g2, hv, q v _ G2 H2 (g1.trans k1 k2 g2) k2 rfl (rv.mono g2.gg)⟩
theorem ev_ixT {ds : List D} {i : Int} {d : D} (ha : EvU S ta ρ ds) (hb : Ev S tb ρ (Eq (.dat (.int i)))) (hd : atI ds i = some d) : Ev S (tOp (rIxT S.K) ta tb) ρ (Eq (.dat d)) := fun σ G H k e Q q =>
  ha σ G H k e _ fun a vs G1 H1 g1 k1 st ra => hb σ G1 H1 k1 (e.grow g1) _ fun w y G2 H2 g2 k2 p2 r2 => by
    subst p2
    cases r2
    obtain ⟨v, hv, rv⟩ := ra.at hd
    exact ⟨a, vs, i, v, rfl, rfl, st G2 H2 g2, hv, q v _ G2 H2 (g1.trans k1 k2 g2) k2 rfl (rv.mono g2.gg)⟩
/-- at some place within -/
theorem ev_ixLI {ds : List D} {p : Int → Prop} {P : D → Prop} (ha : EvL S ta ρ ds) (hb : EvI S tb ρ p) (hd : ∀ i, p i → ∃ d, atI ds i = some d ∧ P d) : Ev S (tOp (rIxL S.K) ta tb) ρ (fun s => ∃ d, s = .dat d ∧ P d) := fun σ G H k e Q q =>
  ha σ G H k e _ fun a vs G1 H1 g1 k1 st ra => hb σ G1 H1 k1 (e.grow g1) _ fun w y G2 H2 g2 k2 ⟨i, p2, pi⟩ r2 => by
    subst p2
    cases r2
    obtain ⟨d, hd1, hd2⟩ := hd i pi
    obtain ⟨v, hv, rv⟩ := ra.at hd1
    exact ⟨a, vs, i, v, rfl, rfl, st G2 H2 g2, hv, q v _ G2 H2 (g1.trans k1 k2 g2) k2 ⟨d, rfl, hd2⟩ (rv.mono g2.gg)⟩
/-! arguments, displays -/
theorem ea_nil : EvA S tNil ρ (Eq []) := fun σ G H k e Q q => q _ _ G H (Grow.refl k) k rfl .nil
theorem ea_consP {tr : TA} {Pa : Sl → Prop} {Pr P : List Sl → Prop} (ha : Ev S ta ρ Pa) (hr : EvA S tr ρ Pr) (hp : ∀ x xs, Pa x → Pr xs → P (x :: xs)) : EvA S (tCons ta tr) ρ P := fun σ G H k e Q q =>
  ha σ G H k e _ fun v x G1 H1 g1 k1 p1 r1 => hr σ G1 H1 k1 (e.grow g1) _ fun vs xs G2 H2 g2 k2 p2 r2 => q _ _ G2 H2 (g1.trans k1 k2 g2) k2 (hp _ _ p1 p2) (.cons (r1.mono g2.gg) r2)
theorem ea_cons {tr : TA} {x : Sl} {xs : List Sl} (ha : Ev S ta ρ (Eq x)) (hr : EvA S tr ρ (Eq xs)) : EvA S (tCons ta tr) ρ (Eq (x :: xs)) := ea_consP ha hr fun _ _ a b => a ▸ b ▸ rfl
theorem RSs.toRA {K : PySem.W.Frag} {G : Hp} : ∀ {vs : List V} {ds : List D}, RSs K G vs (ds.map Sl.dat) → RA K G vs ds
  | _, [], h => by
    cases h
    exact .nil
  | _, d :: ds, h => by
    cases h with
    | cons h1 h2 => exact .cons h1 (RSs.toRA h2)
theorem sz_ok {n : Nat} (h : n ≤ 1000000) : n ≤ sizeLine := Nat.le_trans h (by decide)
theorem ev_tup {ta : TA} {ds : List D} (h : EvA S ta ρ (Eq (ds.map Sl.dat))) (hl : ds.length ≤ 1000000) : Ev S (tTup ta) ρ (Eq (.dat (.tuple ds))) := fun σ G H k e Q q =>
  h σ G H k e _ fun vs ss G1 H1 g1 k1 p1 r1 => by
    subst p1
    have ra := r1.toRA
    refine ⟨sz_ok (by rw [ra.length]; exact hl), fun p hp => ?_⟩
    have g2 := Grow.new k1 (.tup vs) hp
    have k2 := Kn.new k1 (.tup vs) hp
    exact q _ _ _ _ (g1.trans k1 k2 g2) k2 rfl (.tup (SqT.of upd_same) (ra.mono g2.gg))
theorem ev_lst {ta : TA} {ds : List D} (h : EvA S ta ρ (Eq (ds.map Sl.dat))) (hl : ds.length ≤ 1000000) : Ev S (tLst ta) ρ (Eq (.dat (.list ds))) := fun σ G H k e Q q =>
  h σ G H k e _ fun vs ss G1 H1 g1 k1 p1 r1 => by
    subst p1
    have ra := r1.toRA
    refine ⟨sz_ok (by rw [ra.length]; exact hl), fun p hp => ?_⟩
    have g2 := Grow.new k1 (.lst vs) hp
    have k2 := Kn.new k1 (.lst vs) hp
    exact q _ _ _ _ (g1.trans k1 k2 g2) k2 rfl (.lst (SqL.of upd_same) (ra.mono g2.gg))
theorem ev_tupP {ta : TA} {p : List D → Prop} (h : EvA S ta ρ (fun ss => ∃ ds, ss = ds.map Sl.dat ∧ ds.length ≤ 1000000 ∧ p ds)) : Ev S (tTup ta) ρ (fun s => ∃ ds, s = .dat (.tuple ds) ∧ p ds) := fun σ G H k e Q q =>
  h σ G H k e _ fun vs ss G1 H1 g1 k1 ⟨ds, p1, hl, pd⟩ r1 => by
    subst p1
    have ra := r1.toRA
    refine ⟨sz_ok (by rw [ra.length]; exact hl), fun p hp => ?_⟩
    have g2 := Grow.new k1 (.tup vs) hp
    have k2 := Kn.new k1 (.tup vs) hp
    exact q _ _ _ _ (g1.trans k1 k2 g2) k2 ⟨ds, rfl, pd⟩ (.tup (SqT.of upd_same) (ra.mono g2.gg))
/-! tests -/
theorem et_test {b : Bool} (h : Ev S te ρ (Eq (.dat (.bool b)))) : EvT S (tTest te) ρ (Eq b) := fun σ G H k e Q q => h σ G H k e _ fun v s G1 H1 g1 k1 p1 r1 => by
  subst p1
  cases r1
  exact ⟨b, rfl, q b G1 H1 g1 k1 rfl⟩
theorem et_testP {P : Bool → Prop} (h : Ev S te ρ (fun s => ∃ b, s = .dat (.bool b) ∧ P b)) : EvT S (tTest te) ρ P := fun σ G H k e Q q => h σ G H k e _ fun v s G1 H1 g1 k1 ⟨b, p1, pb⟩ r1 => by
  subst p1
  cases r1
  exact ⟨b, rfl, q b G1 H1 g1 k1 pb⟩
theorem et_B {b : Bool} (h : Ev S te ρ (Eq (.dat (.bool b)))) : EvT S (tB te) ρ (Eq b) := et_test h
theorem et_and {a b : Bool} (h1 : EvT S t ρ (Eq a)) (h2 : a = true → EvT S u ρ (Eq b)) : EvT S (tAnd t u) ρ (Eq (a && b)) := fun σ G H k e Q q => h1 σ G H k e _ fun c G1 H1 g1 k1 p1 => by
  subst p1
  cases a with
  | true => exact h2 rfl σ G1 H1 k1 (e.grow g1) Q fun c G2 H2 g2 k2 p2 => q c G2 H2 (g1.trans k1 k2 g2) k2 p2
  | false => exact q false G1 H1 g1 k1 rfl
theorem et_or {a b : Bool} (h1 : EvT S t ρ (Eq a)) (h2 : a = false → EvT S u ρ (Eq b)) : EvT S (tOr t u) ρ (Eq (a || b)) := fun σ G H k e Q q => h1 σ G H k e _ fun c G1 H1 g1 k1 p1 => by
  subst p1
  cases a with
  | true => exact q true G1 H1 g1 k1 rfl
  | false => exact h2 rfl σ G1 H1 k1 (e.grow g1) Q fun c G2 H2 g2 k2 p2 => q c G2 H2 (g1.trans k1 k2 g2) k2 p2
theorem et_not {a : Bool} (h1 : EvT S t ρ (Eq a)) : EvT S (tNot t) ρ (Eq (!a)) := fun σ G H k e Q q => h1 σ G H k e _ fun c G1 H1 g1 k1 p1 => by
  subst p1
  exact q _ G1 H1 g1 k1 rfl
theorem et_is {a b : Bool} (h : EvT S t ρ (Eq a)) (e : a = b) : EvT S t ρ (Eq b) := e ▸ h
theorem ev_andV {a b : Bool} (h1 : Ev S ta ρ (Eq (.dat (.bool a)))) (h2 : a = true → Ev S tb ρ (Eq (.dat (.bool b)))) : Ev S (tAndV ta tb) ρ (Eq (.dat (.bool (a && b)))) := fun σ G H k e Q q => h1 σ G H k e _ fun c s G1 H1 g1 k1 p1 r1 => by
  subst p1
  cases r1
  refine ⟨a, rfl, ?_⟩
  cases a with
  | true => exact h2 rfl σ G1 H1 k1 (e.grow g1) Q fun v c G2 H2 g2 k2 p2 => q v c G2 H2 (g1.trans k1 k2 g2) k2 p2
  | false => exact q _ _ G1 H1 g1 k1 rfl (.bl false)
theorem ev_orV {a b : Bool} (h1 : Ev S ta ρ (Eq (.dat (.bool a)))) (h2 : a = false → Ev S tb ρ (Eq (.dat (.bool b)))) : Ev S (tOrV ta tb) ρ (Eq (.dat (.bool (a || b)))) := fun σ G H k e Q q => h1 σ G H k e _ fun c s G1 H1 g1 k1 p1 r1 => by
  subst p1
  cases r1
  refine ⟨a, rfl, ?_⟩
  cases a with
  | true => exact q _ _ G1 H1 g1 k1 rfl (.bl true)
  | false => exact h2 rfl σ G1 H1 k1 (e.grow g1) Q fun v c G2 H2 g2 k2 p2 => q v c G2 H2 (g1.trans k1 k2 g2) k2 p2
theorem ev_notV {a : Bool} (h1 : Ev S ta ρ (Eq (.dat (.bool a)))) : Ev S (tNotV ta) ρ (Eq (.dat (.bool (!a)))) := fun σ G H k e Q q => h1 σ G H k e _ fun c s G1 H1 g1 k1 p1 r1 => by
  subst p1
  cases r1
  exact ⟨a, rfl, q _ _ G1 H1 g1 k1 rfl (.bl _)⟩
theorem ev_if {b : Bool} {P : Sl → Prop} (h : EvT S t ρ (Eq b)) (h1 : b = true → Ev S ta ρ P) (h2 : b = false → Ev S tb ρ P) : Ev S (tIf t ta tb) ρ P := fun σ G H k e Q q => h σ G H k e _ fun c G1 H1 g1 k1 p1 => by
  subst p1
  cases b with
  | true => exact h1 rfl σ G1 H1 k1 (e.grow g1) Q fun v c G2 H2 g2 k2 p2 => q v c G2 H2 (g1.trans k1 k2 g2) k2 p2
  | false => exact h2 rfl σ G1 H1 k1 (e.grow g1) Q fun v c G2 H2 g2 k2 p2 => q v c G2 H2 (g1.trans k1 k2 g2) k2 p2
theorem ev_ifP {P : Sl → Prop} {p : Bool → Prop} (h : EvT S t ρ p) (h1 : p true → Ev S ta ρ P) (h2 : p false → Ev S tb ρ P) : Ev S (tIf t ta tb) ρ P := fun σ G H k e Q q => h σ G H k e _ fun c G1 H1 g1 k1 p1 => by
  cases c with
  | true => exact h1 p1 σ G1 H1 k1 (e.grow g1) Q fun v c G2 H2 g2 k2 p2 => q v c G2 H2 (g1.trans k1 k2 g2) k2 p2
  | false => exact h2 p1 σ G1 H1 k1 (e.grow g1) Q fun v c G2 H2 g2 k2 p2 => q v c G2 H2 (g1.trans k1 k2 g2) k2 p2
/-- a < b < c of ints -/
theorem ev_chain {f f' : Int → Int → Bool} {i j l : Int} (ha : Ev S ta ρ (Eq (.dat (.int i)))) (hb : Ev S tb ρ (Eq (.dat (.int j)))) (hc : f i j = true → Ev S tc ρ (Eq (.dat (.int l)))) :
    Ev S (tChain (rI0 fun i j => .bl (f i j)) (rI0 fun i j => .bl (f' i j)) ta tb tc) ρ (Eq (.dat (.bool (f i j && f' j l)))) := fun σ G H k e Q q => ha σ G H k e _ fun v x G1 H1 g1 k1 p1 r1 => hb σ G1 H1 k1 (e.grow g1) _ fun w y G2 H2 g2 k2 p2 r2 => by
  subst p1 p2
  cases r1
  cases r2
  refine ⟨i, j, rfl, rfl, f i j, rfl, ?_⟩
  cases z : f i j with
  | true =>
    rw [z] at q
    exact hc z σ G2 H2 k2 ((e.grow g1).grow g2) _ fun v3 x3 G3 H3 g3 k3 p3 r3 => by
      subst p3
      cases r3
      exact ⟨j, l, rfl, rfl, q _ _ G3 H3 ((g1.trans k1 k2 g2).trans k2 k3 g3) k3 rfl (.bl _)⟩
  | false =>
    rw [z] at q
    exact q _ _ G2 H2 (g1.trans k1 k2 g2) k2 rfl (.bl false)
/-! built-ins by their values -/
def CbD (S : Cf) (r : List V → Hp → VK → Prop) (ss : List Sl) (P : Sl → Prop) : Prop := ∀ (G H : Hp) (vs : List V), Kn S.fx G H → RSs S.K G vs ss → ∀ Q : VK,
  (∀ z s G' H', Grow S.fx G H G' H' → Kn S.fx G' H' → P s → RS S.K G' z s → Q z H') → r vs H Q
theorem ev_cbP {r : List V → Hp → VK → Prop} {ta : TA} {Pa : List Sl → Prop} {P : Sl → Prop} (ha : EvA S ta ρ Pa) (ho : ∀ ss, Pa ss → CbD S r ss P) : Ev S (tCB r ta) ρ P := fun σ G H k e Q q =>
  ha σ G H k e _ fun vs ss G1 H1 g1 k1 p1 r1 => ho ss p1 G1 H1 vs k1 r1 Q fun z s G2 H2 g2 k2 p2 r2 => q z s G2 H2 (g1.trans k1 k2 g2) k2 p2 r2
theorem ev_cb {r : List V → Hp → VK → Prop} {ta : TA} {ss : List Sl} {P : Sl → Prop} (ha : EvA S ta ρ (Eq ss)) (ho : CbD S r ss P) : Ev S (tCB r ta) ρ P := ev_cbP ha fun _ e => e ▸ ho
theorem cb_gcd {i j : Int} : CbD S rGcd [.dat (.int i), .dat (.int j)] (Eq (.dat (.int ((Nat.gcd i.natAbs j.natAbs : Nat) : Int)))) := fun G H vs k r Q q => by
  cases r with
  | cons r1 r =>
    cases r with
    | cons r2 r =>
      cases r
      cases r1
      cases r2
      exact ⟨i, j, rfl, q _ _ G H (Grow.refl k) k rfl (.int _)⟩
theorem cb_int {i : Int} : CbD S (fun xs H Q => (∃ i, xs = [.int i] ∧ Q (.int i) H) ∨ ∃ k, xs = [.bl k] ∧ Q (.int (if k then 1 else 0)) H) [.dat (.int i)] (Eq (.dat (.int i))) := fun G H vs k r Q q => by
  cases r with
  | cons r1 r =>
    cases r
    cases r1
    exact .inl ⟨i, rfl, q _ _ G H (Grow.refl k) k rfl (.int _)⟩
theorem ev_lenL {ds : List D} (ha : EvL S ta ρ ds) : Ev S (tCB (fun xs H Q => ∃ p ys, xs = [.ref p] ∧ (SqL S.K H p ys ∨ SqT S.K H p ys) ∧ Q (.int ys.length) H) (tCons ta tNil)) ρ (Eq (.dat (.int (ds.length : Nat)))) := fun σ G H k e Q q =>
  ha σ G H k e _ fun a vs G1 H1 g1 k1 st ra => ⟨a, vs, rfl, .inl (st _ _ (Grow.refl k1)), by rw [ra.length]; exact q _ _ G1 H1 g1 k1 rfl (.int _)⟩
theorem ev_lenU {ds : List D} (ha : EvU S ta ρ ds) : Ev S (tCB (fun xs H Q => ∃ p ys, xs = [.ref p] ∧ (SqL S.K H p ys ∨ SqT S.K H p ys) ∧ Q (.int ys.length) H) (tCons ta tNil)) ρ (Eq (.dat (.int (ds.length : Nat)))) := fun σ G H k e Q q =>
  ha σ G H k e _ fun a vs G1 H1 g1 k1 st ra => ⟨a, vs, rfl, .inr (st _ _ (Grow.refl k1)), by rw [ra.length]; exact q _ _ G1 H1 g1 k1 rfl (.int _)⟩
/-- tuple(xs), list(xs) -/
theorem ev_tupL {ds : List D} (ha : EvL S ta ρ ds) : Ev S (tCB (fun xs H Q => ∃ p ys, xs = [.ref p] ∧ ((SqL S.K H p ys ∧ ∀ l, H l = none → Q (.ref l) (upd H l (.tup ys))) ∨ (SqT S.K H p ys ∧ Q (.ref p) H))) (tCons ta tNil)) ρ (Eq (.dat (.tuple ds))) := fun σ G H k e Q q =>
  ha σ G H k e _ fun a vs G1 H1 g1 k1 st ra => ⟨a, vs, rfl, .inl ⟨st _ _ (Grow.refl k1), fun l hl => by
    have g2 := Grow.new k1 (.tup vs) hl
    have k2 := Kn.new k1 (.tup vs) hl
    exact q _ _ _ _ (g1.trans k1 k2 g2) k2 rfl (.tup (SqT.of upd_same) (ra.mono g2.gg))⟩⟩
theorem ev_tupT {ds : List D} (ha : Ev S ta ρ (Eq (.dat (.tuple ds)))) : Ev S (tCB (fun xs H Q => ∃ p ys, xs = [.ref p] ∧ ((SqL S.K H p ys ∧ ∀ l, H l = none → Q (.ref l) (upd H l (.tup ys))) ∨ (SqT S.K H p ys ∧ Q (.ref p) H))) (tCons ta tNil)) ρ (Eq (.dat (.tuple ds))) := fun σ G H k e Q q =>
  ha σ G H k e _ fun v s G1 H1 g1 k1 p1 r1 => by
    subst p1
    have r0 := r1
    cases r1 with
    | tup hs ra => exact ⟨_, _, rfl, .inr ⟨sameT k1.gh hs, q _ _ G1 H1 g1 k1 rfl r0⟩⟩
theorem ev_listL {ds : List D} (ha : EvL S ta ρ ds) : Ev S (tCB (fun xs H Q => ∃ p ys, xs = [.ref p] ∧ (SqL S.K H p ys ∨ SqT S.K H p ys) ∧ ∀ l, H l = none → Q (.ref l) (upd H l (.lst ys))) (tCons ta tNil)) ρ (Eq (.dat (.list ds))) := fun σ G H k e Q q =>
  ha σ G H k e _ fun a vs G1 H1 g1 k1 st ra => ⟨a, vs, rfl, .inl (st _ _ (Grow.refl k1)), fun l hl => by
    have g2 := Grow.new k1 (.lst vs) hl
    have k2 := Kn.new k1 (.lst vs) hl
    exact q _ _ _ _ (g1.trans k1 k2 g2) k2 rfl (.lst (SqL.of upd_same) (ra.mono g2.gg))⟩
theorem ev_all {bs : List Bool} (ha : Ev S ta ρ (Eq (.dat (.list (bs.map PyData.bool))))) : Ev S (tCB (rAll S.K) (tCons ta tNil)) ρ (Eq (.dat (.bool (bs.all id)))) := fun σ G H k e Q q =>
  el_of ha σ G H k e _ fun a vs G1 H1 g1 k1 st ra => ⟨a, bs, rfl, by rw [← ra.bools]; exact st _ _ (Grow.refl k1), q _ _ G1 H1 g1 k1 rfl (.bl _)⟩
theorem ev_sum {ns : List Int} (ha : Ev S ta ρ (Eq (.dat (.list (ns.map PyData.int))))) : Ev S (tCB (rSum S.K) (tCons ta tNil)) ρ (Eq (.dat (.int ns.sum))) := fun σ G H k e Q q =>
  el_of ha σ G H k e _ fun a vs G1 H1 g1 k1 st ra => ⟨a, ns, rfl, by rw [← ra.ints]; exact st _ _ (Grow.refl k1), q _ _ G1 H1 g1 k1 rfl (.int _)⟩
/-! isinstance -/
def tyD : D → String
  | .none => "NoneType"
  | .bool _ => "bool"
  | .int _ => "int"
  | .str _ => "str"
  | .list _ => "list"
  | .tuple _ => "tuple"
  | .dict _ => "dict"
/-- .. wider still -/
def TyY (K : PySem.W.Frag) (H : Hp) (x : V) (t : Value) : Prop := TyX K H x t ∨ ∃ (a : Addr) (o : Obj) (xs : List (NestedKey × Addr × Value)), x = .ref a ∧ H a = some (.frz o (DX a xs)) ∧ t = .type "dict"
theorem kit_ofY {X : Cx} {pins : List (Addr × Obj)} {σ : L2.St} {H : Hp} {s : Shared} {x : V} {u t : Value} (I : Inv X pins σ H s) (rx : RelV x u) (ty : TyY X.K H x t) : ∃ P : Heap → Prop, PySem.W.KitX X.K u t P ∧ P s.heap ∧ u ≠ .builtin "__main__.__loader__#opaque" := by
  rcases ty with ty | ⟨a, ob, kvs, rfl, ea, rfl⟩
  · exact kit_of I rx ty
  · cases (show u = Value.ref a from rx)
    obtain ⟨_, ⟨_, _, o, es, ep, h1, h2, _⟩, _⟩ := (show ObjOk X.prog X.w H s.heap a (.frz ob (DX a kvs)) from I.hok a _ ea)
    exact ⟨_, PySem.W.kitx_dict, ⟨o, h1, h2.1⟩, fun z => nomatch z⟩
def rIsY (K : PySem.W.Frag) : List V → Hp → VK → Prop := fun xs H Q => ∃ (x c : V) (t u : Value) (b : Bool), xs = [x, c] ∧ ClsV c u ∧ TyY K H x t ∧ PySem.W.kitOne K t u = some b ∧ Q (.bl b) H
def rIsYT (K : PySem.W.Frag) : List V → Hp → VK → Prop := fun xs H Q => ∃ (x : V) (tp : Addr) (cs : List V) (t : Value) (us : List Value) (b : Bool), xs = [x, .ref tp] ∧ H tp = some (.tup cs) ∧ Paired ClsV cs us ∧ TyY K H x t ∧ PySem.W.kitAny K t us = some b ∧ Q (.bl b) H
theorem call_isY {X : Cx} : CallR X (.builtin "isinstance") (rIsY X.K) := by
  intro pins s σ H xs us Q I r h
  obtain ⟨x, c, t, u, b, rfl, k, ty, e, q⟩ := h
  obtain ⟨u1, u2, rfl, r1, r2⟩ := vals2 r
  have e2 := k.eq r2
  subst e2
  obtain ⟨P, Z, p, hx⟩ := kit_ofY I r1 ty
  exact PySem.W.kia_one Z I.kIn p e hx fun tk => ⟨.bl b, H, I.tok tk, rfl, q⟩
theorem call_isYT {X : Cx} : CallR X (.builtin "isinstance") (rIsYT X.K) := by
  intro pins s σ H xs us Q I r h
  obtain ⟨x, tp, cs, t, ws, b, rfl, hT, k, ty, e, q⟩ := h
  obtain ⟨u1, u2, rfl, r1, r2⟩ := vals2 r
  cases (show u2 = Value.ref tp from r2)
  obtain ⟨P, Z, p, hx⟩ := kit_ofY I r1 ty
  obtain ⟨_, its, rv, o, h1, h2, n, h3⟩ := (show ObjOk X.prog X.w H s.heap tp (.tup cs) from I.hok tp _ hT)
  have e3 := ClsV.all k rv
  subst e3
  obtain ⟨oc, od, dt, sl⟩ := o
  simp only at h2 h3
  subst h2 h3
  exact PySem.W.kia_tup Z I.kIn p h1 e hx fun tk => ⟨.bl b, H, I.tok tk, rfl, q⟩
theorem R.ty {K : PySem.W.Frag} {G : Hp} {v : V} {d : D} (h : R K G v d) : TyY K G v (.type (tyD d)) := by
  cases h with
  | non => exact .inl (.base .non)
  | bl b => exact .inl (.base (.bl b))
  | int i => exact .inl (.base (.int i))
  | str x => exact .inl (.base (.str x))
  | lst hs _ =>
    rcases hs with (h | ⟨o, h⟩) | ⟨o, its, n, hk, hc, _⟩
    · exact .inl (.base (.lst h))
    · exact .inl (.base (.frz h))
    · exact .inl (.kList hk hc)
  | tup hs _ =>
    rcases hs with (h | ⟨o, h⟩) | ⟨o, its, n, hk, hc, _⟩
    · exact .inl (.base (.tup h))
    · exact .inl (.fTuple h)
    · exact .inl (.kTuple hk hc)
  | dic hg _ => exact .inl (.fDict hg)
  | dicN hg _ _ => exact .inr ⟨_, _, _, rfl, hg, rfl⟩
/-- isinstance(x, T) -/
theorem ev_isi {d : D} {T : String} {b : Bool} (ha : Ev S ta ρ (Eq (.dat d))) (h : kitB (tyD d) T = some b) : Ev S (tCB (rIsY S.K) (tCons ta (tCons (tC (.ty T)) tNil))) ρ (Eq (.dat (.bool b))) := fun σ G H k e Q q =>
  ha σ G H k e _ fun v s G1 H1 g1 k1 p1 r1 => by
    subst p1
    exact ⟨v, .ty T, .type (tyD d), .type T, b, rfl, .ty T, (R.mono k1.gh r1).ty, kit_ty h, q _ _ G1 H1 g1 k1 rfl (.bl b)⟩
/-- isinstance(x, (T, U)) -/
theorem ev_isi2 {d : D} {T U : String} {b c : Bool} (ha : Ev S ta ρ (Eq (.dat d))) (h1 : kitB (tyD d) T = some b) (h2 : kitB (tyD d) U = some c) :
    Ev S (tCB (rIsYT S.K) (tCons ta (tCons (tTup (tCons (tC (.ty T)) (tCons (tC (.ty U)) tNil))) tNil))) ρ (Eq (.dat (.bool (b || c)))) := fun σ G H k e Q q =>
  ha σ G H k e _ fun v s G1 H1 g1 k1 p1 r1 => by
    subst p1
    refine ⟨by show 2 ≤ sizeLine; decide, fun p hp => ?_⟩
    have e2 : Same H1 (upd H1 p (.tup [.ty T, .ty U])) := same_new hp
    refine ⟨v, p, [.ty T, .ty U], .type (tyD d), [.type T, .type U], b || c, rfl, upd_same, .cons (.ty T) (.cons (.ty U) .nil), (R.mono (k1.gh.trans e2) r1).ty, ?_, ?_⟩
    · exact kitAny_cons (kit_ty h1) (fun hb => kitAny_cons (b := c) (r := b || c) (kit_ty h2) (fun hc => by rw [hb, hc] <;> exact kitAny_nil) fun hc => by rw [hb, hc] <;> rfl) fun hb => by rw [hb] <;> rfl
    · have g2 : Grow S.fx G1 H1 G1 (upd H1 p (.tup [.ty T, .ty U])) := Grow.same k1 e2
      have k2 := k1.same e2
      exact q _ _ _ _ (g1.trans k1 k2 g2) k2 rfl (.bl _)
end
/-! ### calls of defs -/
inductive Re where
  | ok (s : Sl)
  | ex (C : Addr) (d : D)
/-- the promise of a def: i names the arguments; post i tells the way out -/
def spI (K : PySem.W.Frag) (fx : Fx) {ι : Type} (args : ι → List Sl) (pre : ι → Prop) (post : ι → Re → Prop) : Sp := fun vs H Q E => ∃ (i : ι) (G : Hp), pre i ∧ Kn fx G H ∧ RSs K G vs (args i) ∧
  (∀ v s G' H', Grow fx G H G' H' → Kn fx G' H' → RS K G' v s → post i (.ok s) → Q v H') ∧
  (∀ C d dd v G' H', Grow fx G H G' H' → Kn fx G' H' → H' dd = some (.xd [("value", v)]) → R K G' v d → post i (.ex C d) → E (.ref C) (some dd) H')
section
variable {S : Cf} {ρ : Rho} {ι : Type} {args : ι → List Sl} {pre : ι → Prop} {post : ι → Re → Prop} {ta : TA} {E : XK}
/-- f(..), f writes nothing, nothing is raised -/
theorem ev_call {P : Sl → Prop} (i : ι) (ha : EvA S ta ρ (Eq (args i))) (hp : pre i) (ho : ∀ s, post i (.ok s) → P s) (hx : ∀ C d, ¬ post i (.ex C d)) : Ev S (tCall (spI S.K fx0 args pre post) [] E ta) ρ P := fun σ G H k e Q q =>
  ha σ G H k e _ fun vs ss G1 H1 g1 k1 p1 r1 => by
    subst p1
    rw [List.append_nil]
    refine ⟨i, G1, hp, k1.low, r1, fun v s G2 H2 g2 k2 r2 po => ?_, fun C d dd v G2 H2 _ _ _ _ po => absurd po (hx C d)⟩
    have k2' := k1.lift g2
    exact q v s G2 H2 (g1.trans k1 k2' g2.lift) k2' (ho s po) r2
/-- .. what it gives is told -/
theorem ev_callE {f : ι → Sl} (i : ι) (ha : EvA S ta ρ (Eq (args i))) (hp : pre i) : Ev S (tCall (spI S.K fx0 args pre (fun i => Eq (.ok (f i)))) [] E ta) ρ (Eq (f i)) :=
  ev_call i ha hp (fun s h => Re.ok.inj h) (fun C d h => by cases h)
/-- f(..), f may write where all may -/
theorem ev_callF {P : Sl → Prop} {Pa : List Sl → Prop} (ha : EvA S ta ρ Pa) (h : ∀ ss, Pa ss → ∃ i, ss = args i ∧ pre i ∧ (∀ s, post i (.ok s) → P s) ∧ (∀ C d, ¬ post i (.ex C d))) : Ev S (tCall (spI S.K S.fx args pre post) [] E ta) ρ P := fun σ G H k e Q q =>
  ha σ G H k e _ fun vs ss G1 H1 g1 k1 p1 r1 => by
    obtain ⟨i, e1, hp, ho, hx⟩ := h ss p1
    subst e1
    rw [List.append_nil]
    exact ⟨i, G1, hp, k1, r1, fun v s G2 H2 g2 k2 r2 po => q v s G2 H2 (g1.trans k1 k2 g2) k2 (ho s po) r2, fun C d dd v G2 H2 _ _ _ _ po => absurd po (hx C d)⟩
/-- f(..), f writes nothing, the arguments not told -/
theorem ev_callP {P : Sl → Prop} {Pa : List Sl → Prop} (ha : EvA S ta ρ Pa) (h : ∀ ss, Pa ss → ∃ i, ss = args i ∧ pre i ∧ (∀ s, post i (.ok s) → P s) ∧ (∀ C d, ¬ post i (.ex C d))) : Ev S (tCall (spI S.K fx0 args pre post) [] E ta) ρ P := fun σ G H k e Q q =>
  ha σ G H k e _ fun vs ss G1 H1 g1 k1 p1 r1 => by
    obtain ⟨i, e1, hp, ho, hx⟩ := h ss p1
    subst e1
    rw [List.append_nil]
    refine ⟨i, G1, hp, k1.low, r1, fun v s G2 H2 g2 k2 r2 po => ?_, fun C d dd v G2 H2 _ _ _ _ po => absurd po (hx C d)⟩
    have k2' := k1.lift g2
    exact q v s G2 H2 (g1.trans k1 k2' g2.lift) k2' (ho s po) r2
end
end Dl

set_option Elab.async false
set_option linter.all false
set_option maxRecDepth 100000
set_option maxHeartbeats 4000000
/-! Dls: what statements and whole bodies do, as data. -/
namespace Dl
open PySem PySem.Spec PyProof.Rows L2
inductive Oc where
  | nx (ρ : Rho)
  | rt (ρ : Rho) (s : Sl)
  | bk (ρ : Rho)
  | ct (ρ : Rho)
  | ex (C : Addr) (d : D)
/-- .. but for what is written at of one's own -/
structure GrO (fx : Fx) (G H G' H' : Hp) : Prop where
  gg : Same G G'
  gh : Same G' H'
  hh : ∀ a o, ¬ fx.vol a → ¬ fx.mine a → H a = some o → H' a = some o
  nn : ∀ a o, ¬ fx.mine a → H a = some o → ¬ isTup o → G a = none → G' a = none
def MnOk (fx : Fx) (H : Hp) : Prop := ∀ a, fx.mine a → ¬ fx.vol a ∧ H a ≠ none
structure OkS (S : Cf) (G H : Hp) : Prop where
  kn : Kn S.fx G H
  k0 : Kn S.fx S.G0 S.B
  gr : GrO S.fx S.G0 S.B G H
  mn : MnOk S.fx H
  m0 : MnOk S.fx S.B
theorem GrO.of {fx : Fx} {G H G1 H1 : Hp} (g : Grow fx G H G1 H1) : GrO fx G H G1 H1 := ⟨g.gg, g.gh, fun a o v _ => g.hh a o v, fun a o _ => g.nn a o⟩
theorem GrO.to {fx : Fx} {G H G1 H1 : Hp} (g : GrO fx G H G1 H1) (hm : ∀ a, ¬ fx.mine a) : Grow fx G H G1 H1 := ⟨g.gg, g.gh, fun a o v => g.hh a o v (hm a), fun a o => g.nn a o (hm a)⟩
theorem MnOk.grow {fx : Fx} {G H G1 H1 : Hp} (m : MnOk fx H) (g : Grow fx G H G1 H1) : MnOk fx H1 := fun a h => by
  obtain ⟨v, ha⟩ := m a h
  refine ⟨v, ?_⟩
  cases e : H a with
  | none => exact absurd e ha
  | some o =>
    rw [g.hh a o v e]
    simp
theorem MnOk.none {fx : Fx} {H : Hp} (hm : ∀ a, ¬ fx.mine a) : MnOk fx H := fun a h => absurd h (hm a)
theorem GrO.trans {fx : Fx} {G H G1 H1 G2 H2 : Hp} (g : GrO fx G H G1 H1) (k2 : Kn fx G2 H2) (g2 : Grow fx G1 H1 G2 H2) : GrO fx G H G2 H2 :=
  ⟨g.gg.trans g2.gg, g2.gh, fun a o v m h => g2.hh a o v (g.hh a o v m h), fun a o m h nt n => by
    by_cases v : fx.vol a
    · exact k2.vn a v
    · exact g2.nn a o (g.hh a o v m h) nt (g.nn a o m h nt n)⟩
structure Fin (S : Cf) (P : Oc → Prop) (De : Ends) (G : Hp) : Prop where
  nx : ∀ (σ : L2.St) (G' H' : Hp) (ρ : Rho), OkS S G' H' → Same G G' → Env S G' H' σ ρ → P (.nx ρ) → De.nx σ H'
  bk : ∀ (σ : L2.St) (G' H' : Hp) (ρ : Rho), OkS S G' H' → Same G G' → Env S G' H' σ ρ → P (.bk ρ) → De.bk σ H'
  ct : ∀ (σ : L2.St) (G' H' : Hp) (ρ : Rho), OkS S G' H' → Same G G' → Env S G' H' σ ρ → P (.ct ρ) → De.ct σ H'
  rt : ∀ (σ : L2.St) (v : V) (s : Sl) (G' H' : Hp) (ρ : Rho), OkS S G' H' → Env S G' H' σ ρ → RS S.K G' v s → P (.rt ρ s) → De.rt v H'
  ex : ∀ (C : Addr) (d : D) (dd : Addr) (v : V) (G' H' : Hp), OkS S G' H' → H' dd = some (.xd [("value", v)]) → R S.K G' v d → P (.ex C d) → S.E (.ref C) (some dd) H'
def Xc (S : Cf) (ts : TS) (ρ : Rho) (P : Oc → Prop) : Prop := ∀ (σ : L2.St) (G H : Hp) (De : Ends), OkS S G H → Env S G H σ ρ → Fin S P De G → ts De σ H
/-- what is asked behind the first of two -/
def SeqP (S : Cf) (u : TS) (P : Oc → Prop) : Oc → Prop
  | .nx ρ => Xc S u ρ P
  | .rt ρ s => P (.rt ρ s)
  | .bk ρ => P (.bk ρ)
  | .ct ρ => P (.ct ρ)
  | .ex C d => P (.ex C d)
/-- .. behind a turn -/
def LoopP (N : Rho → Prop) (P : Oc → Prop) : Oc → Prop
  | .nx ρ => N ρ
  | .ct ρ => N ρ
  | .bk ρ => P (.nx ρ)
  | .rt ρ s => P (.rt ρ s)
  | .ex C d => P (.ex C d)
/-- .. behind a body -/
def RetP (post : Re → Prop) : Oc → Prop
  | .nx _ => post (.ok (.dat .none))
  | .rt _ s => post (.ok s)
  | .ex C d => post (.ex C d)
  | _ => False
section
variable {S : Cf} {G H G1 H1 : Hp} {ρ : Rho} {P : Oc → Prop} {t u : TS} {te ta tb : TE} {tt : TT} {g : TG}
theorem OkS.grow (o : OkS S G H) (g : Grow S.fx G H G1 H1) (k : Kn S.fx G1 H1) : OkS S G1 H1 := ⟨k, o.k0, o.gr.trans k g, o.mn.grow g, o.m0⟩
theorem Fin.same {De : Ends} (f : Fin S P De G) (e : Same G G1) : Fin S P De G1 :=
  ⟨fun σ G' H' ρ o s => f.nx σ G' H' ρ o (e.trans s), fun σ G' H' ρ o s => f.bk σ G' H' ρ o (e.trans s), fun σ G' H' ρ o s => f.ct σ G' H' ρ o (e.trans s), f.rt, f.ex⟩
theorem Xc.imp {P' : Oc → Prop} (h : Xc S t ρ P) (i : ∀ o, P o → P' o) : Xc S t ρ P' := fun σ G H De o e f => h σ G H De o e
  ⟨fun σ G' H' ρ o s e p => f.nx σ G' H' ρ o s e (i _ p), fun σ G' H' ρ o s e p => f.bk σ G' H' ρ o s e (i _ p), fun σ G' H' ρ o s e p => f.ct σ G' H' ρ o s e (i _ p), fun σ v s G' H' ρ o e r p => f.rt σ v s G' H' ρ o e r (i _ p),
    fun C d dd v G' H' o h r p => f.ex C d dd v G' H' o h r (i _ p)⟩
theorem xc_seq (h : Xc S t ρ (SeqP S u P)) : Xc S (tSeq t u) ρ P := fun σ G H De o e f => h σ G H { De with nx := u De } o e
  ⟨fun σ' G' H' ρ' o' s e' p => p σ' G' H' De o' e' (f.same s), f.bk, f.ct, f.rt, f.ex⟩
theorem xc_next (h : P (.nx ρ)) : Xc S tNext ρ P := fun σ G H De o e f => f.nx σ G H ρ o (Same.refl G) e h
theorem xc_break (h : P (.bk ρ)) : Xc S tBreak ρ P := fun σ G H De o e f => f.bk σ G H ρ o (Same.refl G) e h
theorem xc_cont (h : P (.ct ρ)) : Xc S tCont ρ P := fun σ G H De o e f => f.ct σ G H ρ o (Same.refl G) e h
theorem xc_never {t : TS} (h : False) : Xc S t ρ P := h.elim
theorem xc_asgP {i : Nat} {p : Sl → Prop} (h : Ev S te ρ p) (hs : ∀ s, p s → P (.nx (ρ.set i s))) : Xc S (tAsg te (gName i)) ρ P := fun σ G H De o e f =>
  h σ G H o.kn e _ fun v s G' H' g k p r => f.nx _ G' H' _ (o.grow g k) g.gg ((e.grow g).set i r) (hs s p)
theorem xc_asg {i : Nat} {s : Sl} (h : Ev S te ρ (Eq s)) (hs : P (.nx (ρ.set i s))) : Xc S (tAsg te (gName i)) ρ P := xc_asgP h fun _ e => e ▸ hs
theorem xc_retP {p : Sl → Prop} (h : Ev S te ρ p) (hs : ∀ s, p s → P (.rt ρ s)) : Xc S (tRet te) ρ P := fun σ G H De o e f => h σ G H o.kn e _ fun v s G' H' g k p r => f.rt σ v s G' H' ρ (o.grow g k) (e.grow g) r (hs s p)
theorem xc_ret {s : Sl} (h : Ev S te ρ (Eq s)) (hs : P (.rt ρ s)) : Xc S (tRet te) ρ P := xc_retP h fun _ e => e ▸ hs
theorem xc_retN (h : P (.rt ρ (.dat .none))) : Xc S tRetN ρ P := fun σ G H De o e f => f.rt σ .non (.dat .none) G H ρ o e .non h
theorem xc_ifP {p : Bool → Prop} (h : EvT S tt ρ p) (h1 : p true → Xc S t ρ P) (h2 : p false → Xc S u ρ P) : Xc S (tIfS tt t u) ρ P := fun σ G H De o e f => h σ G H o.kn e _ fun b G' H' g k p => by
  cases b with
  | true => exact h1 p σ G' H' De (o.grow g k) (e.grow g) (f.same g.gg)
  | false => exact h2 p σ G' H' De (o.grow g k) (e.grow g) (f.same g.gg)
theorem xc_if {b : Bool} (h : EvT S tt ρ (Eq b)) (h1 : b = true → Xc S t ρ P) (h2 : b = false → Xc S u ρ P) : Xc S (tIfS tt t u) ρ P := xc_ifP h h1 h2
theorem xc_dropP {p : Sl → Prop} (h : Ev S te ρ p) (hs : ∀ s, p s → P (.nx ρ)) : Xc S (tDrop te) ρ P := fun σ G H De o e f => h σ G H o.kn e _ fun v s G' H' g k p r => f.nx _ G' H' _ (o.grow g k) g.gg (e.grow g) (hs s p)
/-- x op= e of ints -/
theorem xc_aug {i : Nat} {f : Int → Int → Int} {a b : Int} (hx : ρ[i]? = some (.dat (.int a))) (h : Ev S te ρ (Eq (.dat (.int b)))) (hs : P (.nx (ρ.set i (.dat (.int (f a b)))))) : Xc S (tAug i te (ipI f)) ρ P := fun σ G H De o e fi => by
  obtain ⟨v, h1, v', e', r⟩ := e.get hx
  cases e'
  refine ⟨v, h1, h σ G H o.kn e _ fun w s G' H' g k p r' => ?_⟩
  subst p
  cases r
  cases r'
  exact ⟨a, b, rfl, rfl, fi.nx _ G' H' _ (o.grow g k) g.gg ((e.grow g).set i (s := .dat (.int (f a b))) (.int _)) hs⟩
/-- a, b = e1, e2 -/
theorem xc_par {i j : Nat} {ta : TA} {x y : Sl} (h : EvA S ta ρ (Eq [x, y])) (hs : P (.nx ((ρ.set i x).set j y))) : Xc S (tPar i j ta) ρ P := fun σ G H De o e f => h σ G H o.kn e _ fun vs ss G' H' g k p r => by
  subst p
  cases r with
  | cons r1 r =>
    cases r with
    | cons r2 r =>
      cases r
      exact ⟨_, _, rfl, f.nx _ G' H' _ (o.grow g k) g.gg (((e.grow g).set i r1).set j r2) hs⟩
/-- f(..) as a statement, what is raised leaves -/
theorem xc_callX {ι : Type} {args : ι → List Sl} {pre : ι → Prop} {post : ι → Re → Prop} {ta : TA} (i : ι) (ha : EvA S ta ρ (Eq (args i))) (hp : pre i) (ho : ∀ s, post i (.ok s) → P (.nx ρ)) (hx : ∀ C d, post i (.ex C d) → P (.ex C d)) :
    Xc S (tDrop (tCall (spI S.K fx0 args pre post) [] S.E ta)) ρ P := fun σ G H De o e f => ha σ G H o.kn e _ fun vs ss G1 H1 g1 k1 p1 r1 => by
  subst p1
  rw [List.append_nil]
  have o1 := o.grow g1 k1
  refine ⟨i, G1, hp, k1.low, r1, fun v s G2 H2 g2 k2 r2 po => ?_, fun C d dd v G2 H2 g2 k2 hd r2 po => ?_⟩
  · exact f.nx _ G2 H2 _ (o1.grow g2.lift (k1.lift g2)) (g1.gg.trans g2.gg) ((e.grow g1).grow g2.lift) (ho s po)
  · exact f.ex C d dd v G2 H2 (o1.grow g2.lift (k1.lift g2)) hd r2 (hx C d po)
/-- return f(..), what is raised leaves -/
theorem xc_retX {ι : Type} {args : ι → List Sl} {pre : ι → Prop} {post : ι → Re → Prop} {ta : TA} (i : ι) (ha : EvA S ta ρ (Eq (args i))) (hp : pre i) (ho : ∀ s, post i (.ok s) → P (.rt ρ s)) (hx : ∀ C d, post i (.ex C d) → P (.ex C d)) :
    Xc S (tRet (tCall (spI S.K fx0 args pre post) [] S.E ta)) ρ P := fun σ G H De o e f => ha σ G H o.kn e _ fun vs ss G1 H1 g1 k1 p1 r1 => by
  subst p1
  rw [List.append_nil]
  have o1 := o.grow g1 k1
  refine ⟨i, G1, hp, k1.low, r1, fun v s G2 H2 g2 k2 r2 po => ?_, fun C d dd v G2 H2 g2 k2 hd r2 po => ?_⟩
  · exact f.rt σ v s G2 H2 ρ (o1.grow g2.lift (k1.lift g2)) ((e.grow g1).grow g2.lift) r2 (ho s po)
  · exact f.ex C d dd v G2 H2 (o1.grow g2.lift (k1.lift g2)) hd r2 (hx C d po)
end
/-! ### a list that was just made: ours -/
def EvF (S : Cf) (te : TE) (ρ : Rho) (P : List D → Prop) : Prop := ∀ (σ : L2.St) (G H : Hp), Kn S.fx G H → Env S G H σ ρ → ∀ Q : VK,
  (∀ p vs ds G' H', Grow S.fx G H G' H' → Kn S.fx G' H' → H p = none → G' p = none → H' p = some (.lst vs) → RA S.K G' vs ds → P ds → Q (.ref p) H') → te σ H Q
section
variable {S : Cf} {G H G1 H1 : Hp} {ρ : Rho} {P : Oc → Prop} {t u : TS} {te ta tb : TE} {tt : TT} {g : TG}
theorem EvF.imp {p q : List D → Prop} (h : EvF S te ρ p) (i : ∀ ds, p ds → q ds) : EvF S te ρ q := fun σ G H k e Q f => h σ G H k e Q fun p vs ds G' H' g k' n1 n2 hp r pd => f p vs ds G' H' g k' n1 n2 hp r (i ds pd)
/-- an object of ours is known from now on -/
theorem grow_know (k : Kn S.fx G H) {a : Addr} {u : HO} (g : Grow S.fx G H G1 H1) (k1 : Kn S.fx G1 H1) (hn : H a = none) (n1 : G1 a = none) (ha : H1 a = some u) : Grow S.fx G H (upd G1 a u) H1 ∧ Kn S.fx (upd G1 a u) H1 := by
  have va : ¬ S.fx.vol a := k.fresh hn
  have sh : Same (upd G1 a u) H1 := fun b o hb => by
    by_cases q : b = a
    · subst q
      rw [upd_same] at hb
      rw [ha]
      exact hb
    · rw [upd_ne q] at hb
      exact k1.gh b o hb
  refine ⟨⟨g.gg.trans (same_new n1), sh, g.hh, fun b o hb nt n => ?_⟩, sh, k1.inv, fun b vb => ?_⟩
  · rw [upd_ne (ne_of_none hb hn)]
    exact g.nn b o hb nt n
  · have q : b ≠ a := fun q => va (q ▸ vb)
    rw [upd_ne q]
    exact k1.vn b vb
theorem EvF.ev {p : List D → Prop} (h : EvF S te ρ p) : Ev S te ρ (fun s => ∃ ds, s = .dat (.list ds) ∧ p ds) := fun σ G H k e Q f => h σ G H k e Q fun a vs ds G' H' g k' n1 n2 hp r pd => by
  obtain ⟨g2, k2⟩ := grow_know k g k' n1 n2 hp
  exact f _ _ _ H' g2 k2 ⟨ds, rfl, pd⟩ (.lst (SqL.of upd_same) (r.mono (same_new n2)))
theorem EvF.evE {ds : List D} (h : EvF S te ρ (Eq ds)) : Ev S te ρ (Eq (.dat (.list ds))) := h.ev.imp fun s ⟨ds', e, e'⟩ => e' ▸ e.symm
theorem ef_nil : EvF S (tLst tNil) ρ (Eq []) := fun σ G H k e Q q => ⟨Nat.zero_le _, fun p hp => q p [] [] G _ (Grow.same k (same_new hp)) (k.same (same_new hp)) hp (k.freeG hp) upd_same .nil rfl⟩
theorem ef_lst {ta : TA} {ds : List D} (h : EvA S ta ρ (Eq (ds.map Sl.dat))) (hl : ds.length ≤ 1000000) : EvF S (tLst ta) ρ (Eq ds) := fun σ G H k e Q q =>
  h σ G H k e _ fun vs ss G1 H1 g1 k1 p1 r1 => by
    subst p1
    have ra := r1.toRA
    refine ⟨sz_ok (by rw [ra.length]; exact hl), fun p hp => ?_⟩
    have hn : H p = none := by
      cases z : H p with
      | none => rfl
      | some o =>
        by_cases v : S.fx.vol p
        · exact absurd v (k1.fresh hp)
        · rw [g1.hh p o v z] at hp
          cases hp
    exact q p vs ds G1 _ (g1.trans k1 (k1.same (same_new hp)) (Grow.same k1 (same_new hp))) (k1.same (same_new hp)) hn (k1.freeG hp) upd_same ra rfl
/-- fresh behind is fresh ahead -/
theorem fresh_of (g : Grow S.fx G H G1 H1) (k1 : Kn S.fx G1 H1) {p : Addr} (hp : H1 p = none) : H p = none := by
  cases z : H p with
  | none => rfl
  | some o =>
    by_cases v : S.fx.vol p
    · exact absurd v (k1.fresh hp)
    · rw [g.hh p o v z] at hp
      cases hp
theorem OkS.freshB (o : OkS S G H) {p : Addr} (hp : H p = none) : S.B p = none := by
  cases z : S.B p with
  | none => rfl
  | some u =>
    by_cases v : S.fx.vol p
    · exact absurd v (o.kn.fresh hp)
    · by_cases m : S.fx.mine p
      · exact absurd hp (o.mn p m).2
      · rw [o.gr.hh p u v m z] at hp
        cases hp
/-- no slot holds what is new -/
theorem Env.new_none {σ : L2.St} (e : Env S G H σ ρ) {a b : Addr} {m0 m : Mo} {i j : Nat} {s t : Sl} (hn : H a = none) (hs : s.holds = some (a, m0)) (hb : s.holds = some (b, m)) (hj : ρ[j]? = some t) (m' : Mo) : t.holds ≠ some (b, m') := fun z => by
  rw [hs] at hb
  cases hb
  obtain ⟨o, _, q⟩ := e.at_ j t hj
  obtain ⟨_, _, _, u, hu, _⟩ := q.holdsOk z
  rw [hn] at hu
  cases hu
/-- x = a list just made -/
theorem xc_asgF {i : Nat} {p : List D → Prop} (h : EvF S te ρ p) (hs : ∀ a ds, p ds → P (.nx (ρ.set i (.own a (.lst ds))))) : Xc S (tAsg te (gName i)) ρ P := fun σ G H De o e f =>
  h σ G H o.kn e _ fun a vs ds G' H' g k n1 n2 hp r pd => by
    have o1 := o.grow g k
    refine f.nx _ G' H' _ o1 g.gg ((e.grow g).put i (some (.ref a)) (.own a (.lst ds)) ⟨rfl, n2, .inl (o.freshB n1), o.kn.fresh n1, _, hp, r⟩ fun b m z j t m' nj hj => e.new_none (i := i) (s := .own a (.lst ds)) n1 rfl z hj m') (hs a ds pd)
theorem OkS.know (o : OkS S G H) {a : Addr} {u : HO} (ba : S.B a = none ∨ S.fx.mine a) (kn : Kn S.fx (upd G a u) H) (sg : Same G (upd G a u)) : OkS S (upd G a u) H :=
  ⟨kn, o.k0, ⟨o.gr.gg.trans sg, kn.gh, o.gr.hh, fun b w mb hb nt n => by
    have q : b ≠ a := fun q => by
      rcases ba with ba | ba
      · rw [q, ba] at hb
        cases hb
      · exact mb (q ▸ ba)
    rw [upd_ne q]
    exact o.gr.nn b w mb hb nt n⟩, o.mn, o.m0⟩
/-- x, a list of ours, is data from now on -/
theorem xc_freeze {i : Nat} {a : Addr} {ds : List D} (h : ρ[i]? = some (.own a (.lst ds))) (hs : Xc S t (ρ.set i (.dat (.list ds))) P) : Xc S t ρ P := fun σ G H De o e f => by
  obtain ⟨u, ha, nt, kn, sg, ba, ga, rr, e2⟩ := e.freeze o.kn h
  exact hs σ _ H De (o.know (.inl ba) kn sg) e2 (f.same sg)
/-- an object of ours never changes from now on -/
theorem xc_freezeO {i : Nat} {a C dx : Addr} {vf : List (Str × V)} {fs : Fs} (h : ρ[i]? = some (.own a (.ins C dx vf fs))) (hs : Xc S t (ρ.set i (.ob (some a) C fs)) P) : Xc S t ρ P := fun σ G H De o e f => by
  obtain ⟨u, ha, nt, kn, sg, ba, ga, e2⟩ := e.freezeO o.kn h
  exact hs σ _ H De (o.know ba kn sg) e2 (f.same sg)
theorem xc_forget (i : Nat) (hs : Xc S t (ρ.set i .no) P) : Xc S t ρ P := fun σ G H De o e f => hs σ G H De o (e.forget i) f
/-- a thing of ours is written -/
theorem hold_write {σ : L2.St} (o : OkS S G H) (e : Env S G H σ ρ) {i : Nat} {s s' : Sl} {a : Addr} {m m' : Mo} {u' : HO} (h : ρ[i]? = some s) (hh : s.holds = some (a, m)) (r : MoOk S.K G u' m')
    (hs : ∀ o, SlOk S G H o s → SlOk S G (upd H a u') o s') (hh' : s'.holds = some (a, m')) :
    OkS S G (upd H a u') ∧ Env S G (upd H a u') σ (ρ.set i s') := by
  obtain ⟨ov, h1, ok⟩ := e.at_ i s h
  obtain ⟨ga, ba, va, u, ha, ru⟩ := ok.holdsOk hh
  have nf : ¬ Fixd u := ru.noFix
  have inv' : S.fx.inv (upd H a u') := S.fx.ext (fun b w hb hw => by
    have q : b ≠ a := fun q => by
      rcases hb with hb | hb
      · exact va (q ▸ hb)
      · rw [q, ha] at hw
        cases hw
        exact nf hb
    rw [upd_ne q]
    exact hw) o.kn.inv
  have gh : Same G (upd H a u') := fun b w hb => by
    have q : b ≠ a := fun q => by
      rw [q, ga] at hb
      cases hb
    rw [upd_ne q]
    exact o.kn.gh b w hb
  refine ⟨⟨⟨gh, inv', o.kn.vn⟩, o.k0, ⟨o.gr.gg, gh, fun b w vb mb hb => ?_, o.gr.nn⟩, fun b m => ?_, o.m0⟩, ?_⟩
  · have q : b ≠ a := fun q => by
      rcases ba with ba | ba
      · rw [q, ba] at hb
        cases hb
      · exact mb (q ▸ ba.1)
    rw [upd_ne q]
    exact o.gr.hh b w vb mb hb
  · obtain ⟨x, z⟩ := o.mn b m
    refine ⟨x, ?_⟩
    by_cases q : b = a
    · rw [q, upd_same]
      simp
    · rw [upd_ne q]
      exact z
  · refine ⟨by simp [e.len], fun j t hj => ?_, fun j l s1 s2 b m1 m2 hj hl q1 q2 => ?_⟩
    · rcases set_get hj with ⟨ej, es⟩ | ⟨nj, hj⟩
      · subst ej es
        exact ⟨_, h1, hs _ ok⟩
      · obtain ⟨w, q1, q2⟩ := e.at_ j t hj
        refine ⟨w, q1, ?_⟩
        have nh : ∀ m', t.holds ≠ some (a, m') := fun m' => e.alone h hh nj hj
        cases t with
        | no => exact True.intro
        | dat d => exact q2
        | raw x => exact q2
        | dic f ds => exact q2
        | ob oa C fs => exact q2
        | rd c vs ds => exact q2
        | own b mb =>
          obtain ⟨y1, y2, y3, y4, ub, y5, y6⟩ := q2
          have q : b ≠ a := fun q => nh mb (by rw [q] <;> rfl)
          exact ⟨y1, y2, y3, y4, ub, by rw [upd_ne q]; exact y5, y6⟩
        | gho b mb =>
          obtain ⟨y2, y3, y4, ub, y5, y6⟩ := q2
          have q : b ≠ a := fun q => nh mb (by rw [q] <;> rfl)
          exact ⟨y2, y3, y4, ub, by rw [upd_ne q]; exact y5, y6⟩
    · rcases set_get hj with ⟨ej, es⟩ | ⟨nj, hj⟩
      · rcases set_get hl with ⟨el, _⟩ | ⟨nl, hl⟩
        · rw [ej, el]
        · rw [es, hh'] at q1
          cases q1
          exact absurd q2 (e.alone h hh nl hl)
      · rcases set_get hl with ⟨el, es⟩ | ⟨nl, hl⟩
        · rw [es, hh'] at q2
          cases q2
          exact absurd q1 (e.alone h hh nj hj)
        · exact e.dis j l s1 s2 b m1 m2 hj hl q1 q2
/-- an object of ours is written -/
theorem own_write {σ : L2.St} (o : OkS S G H) (e : Env S G H σ ρ) {i : Nat} {a : Addr} {m m' : Mo} {u' : HO} (h : ρ[i]? = some (.own a m)) (r : MoOk S.K G u' m') (hi : m.isIns → m'.isIns := by exact fun z => z) :
    OkS S G (upd H a u') ∧ Env S G (upd H a u') σ (ρ.set i (.own a m')) :=
  hold_write o e h rfl r (fun ov ok => ⟨ok.1, ok.2.1, ok.2.2.1.imp id fun z => ⟨z.1, hi z.2⟩, ok.2.2.2.1, u', upd_same, r⟩) rfl
theorem gho_write {σ : L2.St} (o : OkS S G H) (e : Env S G H σ ρ) {i : Nat} {a : Addr} {m m' : Mo} {u' : HO} (h : ρ[i]? = some (.gho a m)) (r : MoOk S.K G u' m') (hi : m.isIns → m'.isIns := by exact fun z => z) :
    OkS S G (upd H a u') ∧ Env S G (upd H a u') σ (ρ.set i (.gho a m')) :=
  hold_write o e h rfl r (fun ov ok => ⟨ok.1, ok.2.1.imp id fun z => ⟨z.1, hi z.2⟩, ok.2.2.1, u', upd_same, r⟩) rfl
/-- xs.append(e), xs ours -/
theorem xc_append {i : Nat} {a : Addr} {ds : List D} {p : D → Prop} (hx : ρ[i]? = some (.own a (.lst ds))) (h : Ev S te ρ (fun s => ∃ d, s = .dat d ∧ p d)) (hl : ds.length < 1000000) (hs : ∀ d, p d → P (.nx (ρ.set i (.own a (.lst (ds ++ [d])))))) :
    Xc S (tDrop (tBM S.K "list" rAppend (tVar i) (tCons te tNil))) ρ P := fun σ G H De o e f => by
  obtain ⟨v, h1, e1, ga, ba, va, u, ha, ru⟩ := e.get hx
  cases Option.some.inj e1
  cases u with
  | lst vs =>
    refine ⟨_, h1, .inl ⟨rfl, vs, SqL.of ha⟩, h σ G H o.kn e _ fun w s G1 H1 g1 k1 ⟨d, es, pd⟩ rd => ?_⟩
    subst es
    have o1 := o.grow g1 k1
    have e1 := e.grow g1
    have ra : RA S.K G1 (vs ++ [w]) (ds ++ [d]) := RA.snoc (RA.mono g1.gg ru) rd
    obtain ⟨o2, e2⟩ := own_write (u' := .lst (vs ++ [w])) (m' := .lst (ds ++ [d])) o1 e1 hx ra
    refine ⟨a, vs, w, rfl, rfl, g1.hh a _ va ha, Nat.lt_of_lt_of_le (by rw [RA.length ru]; exact hl) (by decide), ?_⟩
    exact f.nx _ G1 _ _ o2 g1.gg e2 (hs d pd)
  | _ => exact ru.elim
/-- xs.extend(a list just made) -/
theorem xc_extend {i : Nat} {a : Addr} {ds : List D} {p : List D → Prop} (hx : ρ[i]? = some (.own a (.lst ds))) (h : EvF S te ρ p) (hl : ∀ es, p es → ds.length + es.length ≤ 1000000) (hs : ∀ es, p es → P (.nx (ρ.set i (.own a (.lst (ds ++ es)))))) :
    Xc S (tDrop (tBM S.K "list" rExtend (tVar i) (tCons te tNil))) ρ P := fun σ G H De o e f => by
  obtain ⟨v, h1, e1, ga, ba, va, u, ha, ru⟩ := e.get hx
  cases Option.some.inj e1
  cases u with
  | lst vs =>
    refine ⟨_, h1, .inl ⟨rfl, vs, SqL.of ha⟩, h σ G H o.kn e _ fun b ws es G1 H1 g1 k1 n1 n2 hb rw' pe => ?_⟩
    have o1 := o.grow g1 k1
    have e1 := e.grow g1
    have ra : RA S.K G1 (vs ++ ws) (ds ++ es) := RA.append (RA.mono g1.gg ru) rw'
    obtain ⟨o2, e2⟩ := own_write (u' := .lst (vs ++ ws)) (m' := .lst (ds ++ es)) o1 e1 hx ra
    refine ⟨a, b, vs, ws, rfl, rfl, g1.hh a _ va ha, hb, sz_ok (by rw [RA.length ru, rw'.length]; exact hl es pe), ?_⟩
    exact f.nx _ G1 _ _ o2 g1.gg e2 (hs es pe)
  | _ => exact ru.elim
end
/-! ### walks -/
/-- J walks the data ds while what is known stays known -/
def Wk (S : Cf) (J : It) (G : Hp) (ds : List D) : Prop := ∀ (G2 H2 : Hp), Same G G2 → Kn S.fx G2 H2 → J.stop ds.length H2 ∧
  ∀ (i : Nat) (d : D), ds[i]? = some d → J.go i H2 ∧ ∀ x H3, J.yld i H2 x H3 → ∃ G3, Grow S.fx G2 H2 G3 H3 ∧ Kn S.fx G3 H3 ∧ R S.K G3 x d
def Itm (S : Cf) (wi : TI) (ρ : Rho) (P : List D → Prop) : Prop := ∀ (σ : L2.St) (G H : Hp), Kn S.fx G H → Env S G H σ ρ → ∀ Rr : It → Hp → Prop,
  (∀ J ds G' H', Grow S.fx G H G' H' → Kn S.fx G' H' → P ds → Wk S J G' ds → Rr J H') → wi σ H Rr
section
variable {S : Cf} {G H : Hp} {ρ : Rho} {te ta tb : TE}
theorem wk_list {a : Addr} {vs : List V} {ds : List D} (hs : SqL S.K G a vs) (ra : RA S.K G vs ds) : Wk S (Itl S.K a) G ds := fun G2 H2 e k => by
  have hs2 : SqL S.K H2 a vs := (e.trans k.gh).seq hs
  refine ⟨⟨vs, hs2, by rw [ra.length]; exact Nat.le_refl _⟩, fun i d hd => ?_⟩
  obtain ⟨v, hv, rv⟩ := ra.get hd
  exact ⟨⟨vs, v, hs2, hv⟩, fun x H3 ⟨e3, hx⟩ => ⟨G2, by rw [e3]; exact Grow.refl k, by rw [e3]; exact k, by
    have := hx vs hs2
    rw [hv] at this
    cases this
    exact rv.mono e⟩⟩
theorem wk_tup {a : Addr} {vs : List V} {ds : List D} (hs : SqT S.K G a vs) (ra : RA S.K G vs ds) : Wk S (Itt S.K a) G ds := fun G2 H2 e k => by
  have hs2 : SqT S.K H2 a vs := sameT (e.trans k.gh) hs
  refine ⟨⟨vs, hs2, by rw [ra.length]; exact Nat.le_refl _⟩, fun i d hd => ?_⟩
  obtain ⟨v, hv, rv⟩ := ra.get hd
  exact ⟨⟨vs, v, hs2, hv⟩, fun x H3 ⟨e3, hx⟩ => ⟨G2, by rw [e3]; exact Grow.refl k, by rw [e3]; exact k, by
    have := hx vs hs2
    rw [hv] at this
    cases this
    exact rv.mono e⟩⟩
/-- lo, lo + 1, .. -/
def rngD (lo : Int) (n : Nat) : List D := (List.range n).map fun (i : Nat) => PyData.int (lo + (i : Int))
theorem rngD_length (lo : Int) (n : Nat) : (rngD lo n).length = n := by simp [rngD]
theorem rngD_get {lo : Int} {n i : Nat} {d : D} (h : (rngD lo n)[i]? = some d) : i < n ∧ d = .int (lo + (i : Int)) := by
  have hl := (List.getElem?_eq_some_iff.mp h).1
  rw [rngD_length] at hl
  refine ⟨hl, ?_⟩
  simp [rngD, hl] at h
  exact h.symm
theorem wk_range {lo : Int} {n : Nat} : Wk S (Itr lo n) G (rngD lo n) := fun G2 H2 e k => by
  refine ⟨by rw [rngD_length]; exact Nat.le_refl _, fun i d hd => ?_⟩
  obtain ⟨hi, ed⟩ := rngD_get hd
  exact ⟨hi, fun x H3 ⟨e3, hx⟩ => ⟨G2, by rw [e3]; exact Grow.refl k, by rw [e3]; exact k, by rw [hx, ed]; exact .int _⟩⟩
theorem im_list {P : List D → Prop} (h : Ev S te ρ (fun s => ∃ ds, s = .dat (.list ds) ∧ P ds)) : Itm S (iList S.K te) ρ P := fun σ G H k e Rr f => h σ G H k e _ fun v s G' H' g k' ⟨ds, es, pd⟩ r => by
  subst es
  cases r with
  | lst hs ra => exact ⟨_, rfl, ⟨_, k'.gh.seq hs⟩, f _ ds G' H' g k' pd (wk_list hs ra)⟩
theorem im_listE {ds : List D} (h : Ev S te ρ (Eq (.dat (.list ds)))) : Itm S (iList S.K te) ρ (Eq ds) := im_list (h.imp fun s e => ⟨ds, e.symm, rfl⟩)
theorem im_tupE {ds : List D} (h : Ev S te ρ (Eq (.dat (.tuple ds)))) : Itm S (iTup S.K te) ρ (Eq ds) := fun σ G H k e Rr f => h σ G H k e _ fun v s G' H' g k' es r => by
  subst es
  cases r with
  | tup hs ra => exact ⟨_, rfl, ⟨_, sameT k'.gh hs⟩, f _ ds G' H' g k' rfl (wk_tup hs ra)⟩
theorem im_rng1 {P : List D → Prop} (h : EvI S te ρ (fun n => 0 ≤ n ∧ n < 2 ^ 62 ∧ P (rngD 0 n.toNat))) : Itm S (iRng1 (tCons te tNil)) ρ P := fun σ G H k e Rr f => h σ G H k e _ fun v s G' H' g k' ⟨n, es, h1, h2, pd⟩ r => by
  subst es
  cases r
  exact ⟨n, rfl, by omega, h2, f _ _ G' H' g k' pd wk_range⟩
theorem im_rng1E {n : Nat} (h : Ev S te ρ (Eq (.dat (.int (n : Nat))))) (hn : n ≤ 1000000000) : Itm S (iRng1 (tCons te tNil)) ρ (Eq (rngD 0 n)) := im_rng1 (h.toI ⟨by omega, by omega, by rw [Int.toNat_natCast]⟩)
/-- enumerate -/
def enumD (k : Nat) : List D → List D
  | [] => []
  | d :: ds => .tuple [.int (k : Nat), d] :: enumD (k + 1) ds
theorem enumD_length : ∀ (k : Nat) (ds : List D), (enumD k ds).length = ds.length
  | _, [] => rfl
  | k, _ :: ds => congrArg (· + 1) (enumD_length (k + 1) ds)
theorem enumD_get : ∀ {k : Nat} {ds : List D} {i : Nat} {d : D}, (enumD k ds)[i]? = some d → ∃ x, ds[i]? = some x ∧ d = .tuple [.int ((k + i : Nat) : Int), x]
  | k, [], i, d, h => by simp [enumD] at h
  | k, y :: ds, 0, d, h => by
    simp only [enumD, List.getElem?_cons_zero, Option.some.injEq] at h
    exact ⟨y, rfl, by rw [← h]; rfl⟩
  | k, y :: ds, i + 1, d, h => by
    simp only [enumD, List.getElem?_cons_succ] at h
    obtain ⟨x, h1, h2⟩ := enumD_get h
    exact ⟨x, by simpa using h1, by rw [h2, show k + 1 + i = k + (i + 1) by omega]⟩
theorem wk_pair {J : It} {ds : List D} {f : D → D → D} (h : ∀ (G2 H2 : Hp), Same G G2 → Kn S.fx G2 H2 → J.stop ds.length H2 ∧ ∀ (i : Nat) (d : D), ds[i]? = some d → J.go i H2 ∧ ∀ x H3, J.yld i H2 x H3 →
      ∃ (T : Addr) (v w : V) (a b : D), x = .ref T ∧ H2 T = none ∧ H3 = upd H2 T (.tup [v, w]) ∧ R S.K G2 v a ∧ R S.K G2 w b ∧ d = .tuple [a, b]) : Wk S J G ds := fun G2 H2 e k => by
  obtain ⟨h1, h2⟩ := h G2 H2 e k
  refine ⟨h1, fun i d hd => ?_⟩
  obtain ⟨h3, h4⟩ := h2 i d hd
  refine ⟨h3, fun x H3 hy => ?_⟩
  obtain ⟨T, v, w, a, b, ex, hT, eH, rv, rw', ed⟩ := h4 x H3 hy
  subst ex eH ed
  have g3 := Grow.new k (.tup [v, w]) hT
  exact ⟨_, g3, Kn.new k _ hT, .tup (SqT.of upd_same) (.cons (rv.mono g3.gg) (.cons (rw'.mono g3.gg) .nil))⟩
theorem wk_enum {a : Addr} {vs : List V} {ds : List D} (hs : SqL S.K G a vs) (ra : RA S.K G vs ds) : Wk S (Ite S.K a) G (enumD 0 ds) := wk_pair (f := fun a b => .tuple [a, b]) fun G2 H2 e k => by
  have hs2 : SqL S.K H2 a vs := (e.trans k.gh).seq hs
  refine ⟨(walk_enum (K := S.K) (a := a) (xs := vs)).stops H2 hs2 |> fun z => by rw [enumD_length, ← ra.length]; exact z, fun i d hd => ?_⟩
  obtain ⟨x, hx, ed⟩ := enumD_get hd
  obtain ⟨v, hv, rv⟩ := ra.get hx
  have hi : i < vs.length := (List.getElem?_eq_some_iff.mp hv).1
  refine ⟨(walk_enum (K := S.K) (a := a) (xs := vs)).goes i H2 hi hs2, fun y H3 hy => ?_⟩
  obtain ⟨T, p, q, e1, e2, e3, e4, e5⟩ := (walk_enum (K := S.K) (a := a) (xs := vs)).yields i H2 y H3 hi hs2 hy
  have e5 : vs[i]? = some q := e5
  rw [hv] at e5
  cases e5
  cases e4
  exact ⟨T, _, _, .int ((0 + i : Nat) : Int), x, e1, e2, e3, by rw [Nat.zero_add]; exact .int _, rv.mono e, ed⟩
theorem im_enumL {ds : List D} (h : Ev S te ρ (Eq (.dat (.list ds)))) : Itm S (iEnum S.K (tCons te tNil)) ρ (Eq (enumD 0 ds)) := fun σ G H k e Rr f => h σ G H k e _ fun v s G' H' g k' es r => by
  subst es
  cases r with
  | lst hs ra => exact ⟨_, _, rfl, k'.gh.seq hs, f _ _ G' H' g k' rfl (wk_enum hs ra)⟩
end
/-! ### targets -/
structure Diff (js : List Nat) (σ σ' : L2.St) : Prop where
  len : σ'.length = σ.length
  at_ : ∀ i, i ∉ js → σ'[i]? = σ[i]?
def Tgt (S : Cf) (g : TG) (js : List Nat) (d : D) (ρ ρ' : Rho) : Prop := ∀ (σ : L2.St) (G H : Hp) (v : V), Kn S.fx G H → Env S G H σ ρ → R S.K G v d → ∀ Q : L2.St → Hp → Prop, (∀ σ', Diff js σ σ' → Env S G H σ' ρ' → Q σ' H) → g v σ H Q
def Tgts (S : Cf) (g : TGs) (js : List Nat) (ds : List D) (ρ ρ' : Rho) : Prop := ∀ (σ : L2.St) (G H : Hp) (vs : List V), Kn S.fx G H → Env S G H σ ρ → RA S.K G vs ds → ∀ Q : L2.St → Hp → Prop, (∀ σ', Diff js σ σ' → Env S G H σ' ρ' → Q σ' H) → g vs σ H Q
section
variable {S : Cf} {ρ ρ1 ρ2 : Rho} {g : TG} {gs : TGs}
theorem tg_name {j : Nat} {d : D} : Tgt S (gName j) [j] d ρ (ρ.set j (.dat d)) := fun σ G H v k e r Q q => q _ ⟨by simp, fun i hi => by
  have : j ≠ i := fun z => hi (by simp [z])
  rw [List.getElem?_set_ne this]⟩ (e.set j (s := .dat d) r)
theorem tgs_nil : Tgts S gNil [] [] ρ ρ := fun σ G H vs k e r Q q => by
  cases r
  exact ⟨rfl, q σ ⟨rfl, fun _ _ => rfl⟩ e⟩
theorem tgs_cons {js ks : List Nat} {d : D} {ds : List D} (h1 : Tgt S g js d ρ ρ1) (h2 : Tgts S gs ks ds ρ1 ρ2) : Tgts S (gCons g gs) (js ++ ks) (d :: ds) ρ ρ2 := fun σ G H vs k e r Q q => by
  cases r with
  | cons r1 r2 =>
    refine ⟨_, _, rfl, h1 σ G H _ k e r1 _ fun σ1 d1 e1 => h2 σ1 G H _ k e1 r2 Q fun σ2 d2 e2 => q σ2 ⟨d2.len.trans d1.len, fun i hi => ?_⟩ e2⟩
    rw [d2.at_ i fun z => hi (List.mem_append_right _ z), d1.at_ i fun z => hi (List.mem_append_left _ z)]
theorem tg_tup {js : List Nat} {ds : List D} {n : Nat} (h : Tgts S gs js ds ρ ρ1) (hn : ds.length = n := by rfl) : Tgt S (gTup S.K n gs) js (.tuple ds) ρ ρ1 := fun σ G H v k e r Q q => by
  cases r with
  | tup hs ra => exact ⟨_, _, rfl, sameT k.gh hs, by rw [ra.length]; exact hn, h σ G H _ k e ra Q q⟩
/-- two names -/
theorem tg_two {i j : Nat} {a b : D} : Tgt S (gTup S.K 2 (gCons (gName i) (gCons (gName j) gNil))) [i, j] (.tuple [a, b]) ρ ((ρ.set i (.dat a)).set j (.dat b)) := tg_tup (js := [i, j]) (tgs_cons (js := [i]) tg_name (tgs_cons (js := [j]) tg_name tgs_nil))
theorem xc_asgT {te : TE} {P : Oc → Prop} {js : List Nat} {d : D} (h : Ev S te ρ (Eq (.dat d))) (ht : Tgt S g js d ρ ρ1) (hs : P (.nx ρ1)) : Xc S (tAsg te g) ρ P := fun σ G H De o e f =>
  h σ G H o.kn e _ fun v s G' H' g' k es r => by
    subst es
    exact ht σ G' H' v k (e.grow g') r _ fun σ' _ e' => f.nx σ' G' H' ρ1 (o.grow g' k) g'.gg e' hs
/-! ### loops -/
theorem xc_for {wi : TI} {tb : TS} {P : Oc → Prop} {p : List D → Prop} (hi : Itm S wi ρ p) (I : List D → Nat → Rho → Prop) (h0 : ∀ ds, p ds → I ds 0 ρ)
    (hs : ∀ ds i d ρ1, p ds → ds[i]? = some d → I ds i ρ1 → ∃ js ρ2, Tgt S g js d ρ1 ρ2 ∧ Xc S tb ρ2 (LoopP (I ds (i + 1)) P)) (hd : ∀ ds ρ1, p ds → I ds ds.length ρ1 → P (.nx ρ1)) : Xc S (tFor wi g tb) ρ P := fun σ G H De o e f =>
  hi σ G H o.kn e _ fun J ds G1 H1 g1 k1 pd wk => by
    refine ⟨fun i m σ H => m = ds.length - i ∧ i ≤ ds.length ∧ ∃ G ρ', OkS S G H ∧ Same G1 G ∧ Env S G H σ ρ' ∧ I ds i ρ', ⟨_, rfl, Nat.zero_le _, G1, ρ, o.grow g1 k1, Same.refl _, e.grow g1, h0 ds pd⟩, ?_⟩
    rintro i m σ2 H2 ⟨rfl, hi, G2, ρ2, o2, s2, e2, hI⟩
    obtain ⟨w1, w2⟩ := wk G2 H2 s2 o2.kn
    by_cases hlt : i < ds.length
    · obtain ⟨go, yl⟩ := w2 i ds[i] (by simp [hlt])
      refine .inr ⟨go, fun σ' H' => ∃ G ρ', OkS S G H' ∧ Same G1 G ∧ Env S G H' σ' ρ' ∧ I ds (i + 1) ρ', fun σ' H' ⟨G', ρ', q⟩ => ⟨ds.length - (i + 1), by omega, rfl, hlt, G', ρ', q⟩, fun x H3 hy => ?_⟩
      obtain ⟨G3, g3, k3, r3⟩ := yl x H3 hy
      obtain ⟨js, ρ3, tg, xb⟩ := hs ds i ds[i] ρ2 pd (by simp [hlt]) hI
      have o3 := o2.grow g3 k3
      refine tg σ2 G3 H3 x k3 (e2.grow g3) r3 _ fun σ4 _ e4 => xb σ4 G3 H3 _ o3 e4 ?_
      have s3 := s2.trans g3.gg
      exact ⟨fun σ' G' H' ρ' o' s' e' p' => ⟨G', ρ', o', s3.trans s', e', p'⟩, fun σ' G' H' ρ' o' s' e' p' => f.nx σ' G' H' ρ' o' ((g1.gg.trans s3).trans s') e' p', fun σ' G' H' ρ' o' s' e' p' => ⟨G', ρ', o', s3.trans s', e', p'⟩, f.rt, f.ex⟩
    · have e' : i = ds.length := by omega
      subst e'
      exact .inl ⟨w1, f.nx σ2 G2 H2 ρ2 o2 (g1.gg.trans s2) e2 (hd ds ρ2 pd hI)⟩
theorem xc_forE {wi : TI} {tb : TS} {P : Oc → Prop} {ds : List D} (hi : Itm S wi ρ (Eq ds)) (I : Nat → Rho → Prop) (h0 : I 0 ρ)
    (hs : ∀ i d ρ1, ds[i]? = some d → I i ρ1 → ∃ js ρ2, Tgt S g js d ρ1 ρ2 ∧ Xc S tb ρ2 (LoopP (I (i + 1)) P)) (hd : ∀ ρ1, I ds.length ρ1 → P (.nx ρ1)) : Xc S (tFor wi g tb) ρ P :=
  xc_for hi (fun _ => I) (fun _ _ => h0) (fun ds' i d ρ1 e => e ▸ hs i d ρ1) (fun ds' ρ1 e => e ▸ hd ρ1)
theorem xc_while {tt : TT} {tb : TS} {P : Oc → Prop} (I : Nat → Rho → Prop) (m0 : Nat) (h0 : I m0 ρ)
    (hs : ∀ m ρ1, I m ρ1 → EvT S tt ρ1 (fun b => if b = true then Xc S tb ρ1 (LoopP (fun ρ2 => ∃ m', m' < m ∧ I m' ρ2) P) else P (.nx ρ1))) : Xc S (tWhile tt tb) ρ P := fun σ G H De o e f => by
  refine ⟨fun m σ' H' => ∃ G' ρ', OkS S G' H' ∧ Same G G' ∧ Env S G' H' σ' ρ' ∧ I m ρ', ⟨m0, G, ρ, o, Same.refl _, e, h0⟩, ?_⟩
  rintro m σ1 H1 ⟨G1, ρ1, o1, s1, e1, hI⟩
  refine hs m ρ1 hI σ1 G1 H1 o1.kn e1 _ fun b G2 H2 g2 k2 pb => ?_
  have o2 := o1.grow g2 k2
  have e2 := e1.grow g2
  have s2 := s1.trans g2.gg
  cases b with
  | true =>
    rw [if_pos rfl] at pb ⊢
    refine ⟨fun σ' H' => ∃ m', m' < m ∧ ∃ G' ρ', OkS S G' H' ∧ Same G G' ∧ Env S G' H' σ' ρ' ∧ I m' ρ', fun σ' H' ⟨m', hm, q⟩ => ⟨m', hm, q⟩, pb σ1 G2 H2 _ o2 e2 ?_⟩
    exact ⟨fun σ' G' H' ρ' o' s' e' ⟨m', hm, q⟩ => ⟨m', hm, G', ρ', o', s2.trans s', e', q⟩, fun σ' G' H' ρ' o' s' e' p' => f.nx σ' G' H' ρ' o' (s2.trans s') e' p', fun σ' G' H' ρ' o' s' e' ⟨m', hm, q⟩ => ⟨m', hm, G', ρ', o', s2.trans s', e', q⟩, f.rt, f.ex⟩
  | false =>
    rw [if_neg (by decide)] at pb ⊢
    exact f.nx σ1 G2 H2 ρ1 o2 s2 e2 pb
/-! ### comprehensions -/
def wipeR (ρ : Rho) : List Nat → Rho
  | [] => ρ
  | v :: vs => (wipeR ρ vs).set v .no
theorem Env.wipe {G H : Hp} {σ : L2.St} (e : Env S G H σ ρ) : ∀ vs : List Nat, Env S G H (L2.wipe σ vs) (wipeR ρ vs)
  | [] => e
  | v :: vs => (Env.wipe e vs).unset v _
theorem wipe_at (σ : L2.St) : ∀ (vs : List Nat) (i : Nat), (L2.wipe σ vs)[i]? = if i ∈ vs ∧ i < σ.length then some none else σ[i]?
  | [], i => by simp [L2.wipe]
  | v :: vs, i => by
    show ((L2.wipe σ vs).set v none)[i]? = _
    have ih := wipe_at σ vs i
    by_cases e : i = v
    · subst e
      by_cases hl : i < σ.length
      · rw [List.getElem?_set_self (by rw [L2.wipe_length]; exact hl), if_pos ⟨by simp, hl⟩]
      · rw [if_neg (fun z => hl z.2)]
        rw [List.getElem?_eq_none_iff.mpr (by simp [L2.wipe_length]; omega), List.getElem?_eq_none_iff.mpr (by omega)]
    · rw [List.getElem?_set_ne (Ne.symm e), ih]
      simp [e]
theorem wipe_diff {σ σ' : L2.St} {js vs : List Nat} (d : Diff js (L2.wipe σ vs) σ') (h : ∀ j ∈ js, j ∈ vs) : L2.wipe σ' vs = L2.wipe σ vs := by
  apply List.ext_getElem?
  intro i
  have hlen : σ'.length = σ.length := d.len.trans (L2.wipe_length σ vs)
  rw [wipe_at, wipe_at, hlen]
  by_cases hi : i ∈ vs
  · by_cases hl : i < σ.length
    · rw [if_pos ⟨hi, hl⟩, if_pos ⟨hi, hl⟩]
    · rw [if_neg (fun z => hl z.2), if_neg (fun z => hl z.2), List.getElem?_eq_none_iff.mpr (by omega), List.getElem?_eq_none_iff.mpr (by omega)]
  · rw [if_neg (fun z => hi z.1), if_neg (fun z => hi z.1), d.at_ i fun z => hi (h i z), wipe_at, if_neg (fun z => hi z.1)]
/-- [e for x in xs if t] -/
theorem ef_lc {wi : TI} {te : TE} {tt : TT} {vs : List Nat} {p P : List D → Prop} (hi : Itm S wi ρ p) (I : List D → Nat → List D → Prop) (h0 : ∀ ds, p ds → ds.length ≤ 1000000 ∧ I ds 0 [])
    (hs : ∀ ds i d acc, p ds → ds[i]? = some d → acc.length ≤ i → I ds i acc → ∃ js ρ2, (∀ j ∈ js, j ∈ vs) ∧ Tgt S g js d (wipeR ρ vs) ρ2 ∧
      EvT S tt ρ2 (fun b => if b = true then Ev S te ρ2 (fun s => ∃ y, s = .dat y ∧ I ds (i + 1) (acc ++ [y])) else I ds (i + 1) acc)) (hd : ∀ ds acc, p ds → acc.length ≤ ds.length → I ds ds.length acc → P acc) :
    EvF S (tLc wi g tt te vs) ρ P := fun σ G H k e Q q => hi σ G H k e _ fun J ds G1 H1 g1 k1 pd wk Dl hD => by
  obtain ⟨hl, hI0⟩ := h0 ds pd
  have hnD : H Dl = none := fresh_of g1 k1 hD
  have vD : ¬ S.fx.vol Dl := k1.fresh hD
  have e1 := e.grow g1
  -- the state between two turns
  refine ⟨fun i m H2 => m = ds.length - i ∧ i ≤ ds.length ∧ ∃ G2 acc vs', Grow S.fx G1 H1 G2 H2 ∧ Kn S.fx G2 H2 ∧ G2 Dl = none ∧ H2 Dl = some (.lst vs') ∧ RA S.K G2 vs' acc ∧ acc.length ≤ i ∧ I ds i acc,
    ⟨_, rfl, Nat.zero_le _, G1, [], [], Grow.same k1 (same_new hD), k1.same (same_new hD), k1.freeG hD, upd_same, .nil, Nat.le_refl _, hI0⟩, ?_⟩
  rintro i m H2 ⟨rfl, hi, G2, acc, vs', g2, k2, nD, aD, ra, al, hI⟩
  obtain ⟨w1, w2⟩ := wk G2 H2 g2.gg k2
  by_cases hlt : i < ds.length
  · obtain ⟨go, yl⟩ := w2 i ds[i] (by simp [hlt])
    refine .inr ⟨go, fun H' => ∃ G2 acc vs', Grow S.fx G1 H1 G2 H' ∧ Kn S.fx G2 H' ∧ G2 Dl = none ∧ H' Dl = some (.lst vs') ∧ RA S.K G2 vs' acc ∧ acc.length ≤ i + 1 ∧ I ds (i + 1) acc, fun H' h' => ⟨ds.length - (i + 1), by omega, rfl, hlt, h'⟩, fun x H3 hy => ?_⟩
    obtain ⟨G3, g3, k3, r3⟩ := yl x H3 hy
    obtain ⟨js, ρ2, hj, tg, et⟩ := hs ds i ds[i] acc pd (by simp [hlt]) al hI
    have ew : Env S G3 H3 (L2.wipe σ vs) (wipeR ρ vs) := (((e1.grow g2).grow g3)).wipe vs
    refine tg (L2.wipe σ vs) G3 H3 x k3 ew r3 _ fun σ4 df e4 => ⟨wipe_diff df hj, ?_⟩
    refine et σ4 G3 H3 k3 e4 _ fun b G4 H4 g4 k4 pb => ?_
    have g14 : Grow S.fx G1 H1 G4 H4 := ((g2.trans k2 k3 g3).trans k3 k4 g4)
    have nD4 : G4 Dl = none := g4.nn Dl _ (g3.hh Dl _ vD aD) (fun z => z) (g3.nn Dl _ aD (fun z => z) nD)
    have aD4 : H4 Dl = some (.lst vs') := g4.hh Dl _ vD (g3.hh Dl _ vD aD)
    have ra4 : RA S.K G4 vs' acc := ra.mono (g3.gg.trans g4.gg)
    cases b with
    | true =>
      rw [if_pos rfl] at pb ⊢
      refine pb σ4 G4 H4 k4 (e4.grow g4) _ fun y s G5 H5 g5 k5 ⟨d, es, hI'⟩ rd => ?_
      subst es
      have nD5 : G5 Dl = none := g5.nn Dl _ aD4 (fun z => z) nD4
      have aD5 : H5 Dl = some (.lst vs') := g5.hh Dl _ vD aD4
      refine ⟨vs', aD5, Nat.lt_of_lt_of_le (show vs'.length < 1000001 by rw [ra4.length]; omega) (by decide), G5, acc ++ [d], vs' ++ [y], ?_, ?_, nD5, upd_same, RA.snoc (ra4.mono g5.gg) rd, by simp; omega, hI'⟩
      · have g15 := g14.trans k4 k5 g5
        refine ⟨g15.gg, fun b w hb => ?_, fun b w vb hb => ?_, g15.nn⟩
        · have q : b ≠ Dl := fun z => by rw [z, nD5] at hb; cases hb
          rw [upd_ne q]
          exact k5.gh b w hb
        · have q : b ≠ Dl := fun z => by rw [z, hD] at hb; cases hb
          rw [upd_ne q]
          exact g15.hh b w vb hb
      · refine ⟨fun b w hb => ?_, S.fx.ext (fun b w hb hw => ?_) k5.inv, k5.vn⟩
        · have q : b ≠ Dl := fun z => by rw [z, nD5] at hb; cases hb
          rw [upd_ne q]
          exact k5.gh b w hb
        · have q : b ≠ Dl := fun z => by
            rcases hb with hb | hb
            · exact vD (z ▸ hb)
            · rw [z, aD5] at hw
              cases hw
              exact hb
          rw [upd_ne q]
          exact hw
    | false =>
      rw [if_neg (by decide)] at pb ⊢
      exact ⟨G4, acc, vs', g14, k4, nD4, aD4, ra4, by omega, pb⟩
  · have e' : i = ds.length := by omega
    subst e'
    refine .inl ⟨w1, q Dl vs' acc G2 H2 (g1.trans k1 k2 g2) k2 hnD nD aD ra (hd ds acc pd al hI)⟩
/-- each item gives one -/
theorem ef_map {wi : TI} {te : TE} {vs : List Nat} {ds : List D} {f : D → D} (hi : Itm S wi ρ (Eq ds)) (hl : ds.length ≤ 1000000)
    (hs : ∀ d, d ∈ ds → ∃ js ρ2, (∀ j ∈ js, j ∈ vs) ∧ Tgt S g js d (wipeR ρ vs) ρ2 ∧ Ev S te ρ2 (Eq (.dat (f d)))) : EvF S (tLc wi g tYes te vs) ρ (Eq (ds.map f)) := by
  refine ef_lc hi (fun _ i acc => acc = (ds.take i).map f) (fun ds' e => e ▸ ⟨hl, rfl⟩) (fun ds' i d acc e hd al hI => ?_) fun ds' acc e al hI => ?_
  · subst e
    obtain ⟨js, ρ2, h1, h2, h3⟩ := hs d (List.mem_of_getElem? hd)
    refine ⟨js, ρ2, h1, h2, fun σ G H k e Q q => q true G H (Grow.refl k) k ?_⟩
    show if true = true then _ else _
    rw [if_pos rfl]
    refine h3.imp fun s es => ⟨f d, es.symm, ?_⟩
    rw [hI, List.take_add_one, hd]
    simp
  · subst e
    rw [hI, List.take_length]
/-- some items give one -/
theorem ef_filterMap {wi : TI} {te : TE} {tt : TT} {vs : List Nat} {ds : List D} {f : D → Option D} (hi : Itm S wi ρ (Eq ds)) (hl : ds.length ≤ 1000000)
    (hs : ∀ d, d ∈ ds → ∃ js ρ2, (∀ j ∈ js, j ∈ vs) ∧ Tgt S g js d (wipeR ρ vs) ρ2 ∧ EvT S tt ρ2 (Eq (f d).isSome) ∧ ∀ y, f d = some y → Ev S te ρ2 (Eq (.dat y))) : EvF S (tLc wi g tt te vs) ρ (Eq (ds.filterMap f)) := by
  refine ef_lc hi (fun _ i acc => acc = (ds.take i).filterMap f) (fun ds' e => e ▸ ⟨hl, rfl⟩) (fun ds' i d acc e hd al hI => ?_) fun ds' acc e al hI => ?_
  · subst e
    obtain ⟨js, ρ2, h1, h2, h3, h4⟩ := hs d (List.mem_of_getElem? hd)
    refine ⟨js, ρ2, h1, h2, h3.imp fun b eb => ?_⟩
    cases hf : f d with
    | some y =>
      rw [hf] at eb
      subst eb
      rw [if_pos (show (some y).isSome = true from rfl)]
      refine (h4 y hf).imp fun s es => ⟨y, es.symm, ?_⟩
      rw [hI, List.take_add_one, hd]
      simp [hf]
    | none =>
      rw [hf] at eb
      subst eb
      rw [if_neg (show ¬ ((none : Option D).isSome = true) by simp), hI, List.take_add_one, hd]
      simp [hf]
  · subst e
    rw [hI, List.take_length]
end
/-! ### a def -/
section
variable {P : Program} {w : World} {K : PySem.W.Frag} {mg : Str → Option Value} {base : Heap}
theorem env_start {S : Cf} {G H : Hp} : ∀ {vs : List V} {ss : List Sl} (n : Nat), RSs S.K G vs ss → Env S G H (vs.map some ++ List.replicate n none) (ss ++ List.replicate n .no) := fun {vs ss} n r => by
  have hl := r.length
  have key : ∀ {vs : List V} {ss : List Sl} {i : Nat} {s : Sl}, RSs S.K G vs ss → ss[i]? = some s → ∃ v, vs[i]? = some v ∧ RS S.K G v s := by
    intro vs
    induction vs with
    | nil =>
      intro ss i s r h
      cases r
      simp at h
    | cons v vs ih =>
      intro ss i s r h
      cases r with
      | cons r1 r2 =>
        cases i with
        | zero =>
          simp only [List.getElem?_cons_zero, Option.some.injEq] at h
          subst h
          exact ⟨v, rfl, r1⟩
        | succ i =>
          simp only [List.getElem?_cons_succ] at h
          obtain ⟨w, h1, h2⟩ := ih r2 h
          exact ⟨w, by simpa using h1, h2⟩
  have noown : ∀ {i : Nat} {s : Sl} {a : Addr} {m : Mo}, (ss ++ List.replicate n Sl.no)[i]? = some s → s.holds = some (a, m) → False := fun {i s a m} h hh => by
    by_cases hi : i < ss.length
    · rw [List.getElem?_append_left hi] at h
      obtain ⟨v, _, z⟩ := key r h
      cases s with
      | own b m => exact z
      | gho b m => exact z
      | _ => cases hh
    · rw [List.getElem?_append_right (by omega), List.getElem?_replicate] at h
      split at h
      · cases h
        cases hh
      · cases h
  refine ⟨by simp [hl], fun i s h => ?_, fun i j s t a m m' h _ hh _ => (noown h hh).elim⟩
  by_cases hi : i < ss.length
  · rw [List.getElem?_append_left hi] at h
    obtain ⟨v, h1, h2⟩ := key r h
    refine ⟨some v, by rw [List.getElem?_append_left (by simp; omega)]; simp [h1], ?_⟩
    cases s with
    | no => exact True.intro
    | dat d => exact ⟨v, rfl, h2⟩
    | raw x => exact congrArg some h2
    | dic f ds => exact ⟨v, rfl, h2⟩
    | ob oa C fs => exact ⟨v, rfl, h2⟩
    | rd c vs ds => exact ⟨v, rfl, h2⟩
    | own a m => exact h2.elim
    | gho a m => exact h2.elim
  · rw [List.getElem?_append_right (by omega), List.getElem?_replicate] at h
    split at h
    · rename_i hn
      cases h
      refine ⟨none, ?_, True.intro⟩
      rw [List.getElem?_append_right (by simp; omega), List.getElem?_replicate]
      simp only [List.length_map, hl]
      rw [if_pos hn]
    · cases h
theorem fn_ok {ι : Type} {args : ι → List Sl} {pre : ι → Prop} {post : ι → Re → Prop} {fx : Fx} {x qual : Str} {st : Stmt} {f : Addr} {fd : FuncData} {N ps : List Str} {k : Nat} (F : Fun K x qual st f fd) (Sc : FnScope N ps (defScope st)) (hl : ∀ i, pre i → (args i).length = ps.length)
    (hbody : ∀ (cdv : Value) (A : Around) (outer : List PySem.Env) (s : Shared) (H : Hp) (E : XK), Room k (A.deeper (envOfC qual (defScope st) s.heap.objs.size f cdv)) → ∀ (i : ι), pre i →
      ∃ t, PSs (cxOf (L2.CX P w) P w K mg base N qual (defScope st) f cdv A outer s H E) (defBody st) t ∧ ∀ G : Hp, Xc ⟨K, fx, G, H, E⟩ t (args i ++ List.replicate (N.length - ps.length) .no) (RetP (post i)))
    (hm : ∀ a, ¬ fx.mine a := by exact fun _ h => h) : FnOk P w K mg base (L2.CX P w) (k + 1) f fd ps (spI K fx args pre post) := by
  refine F.okX Sc (fun vs H Q E h => ?_) fun cdv A outer s H vs Q E hr h => ?_
  · obtain ⟨i, G, hp, _, r, _⟩ := h
    rw [r.length, hl i hp]
  · obtain ⟨i, G, hp, kn, r, q1, q2⟩ := h
    obtain ⟨t, ht, hx⟩ := hbody cdv A outer s H E hr i hp
    refine ⟨t, ht, ?_⟩
    have hn : vs.length = ps.length := by rw [r.length, hl i hp]
    have ev := env_start (S := ⟨K, fx, G, H, E⟩) (H := H) (N.length - ps.length) r
    unfold L2.start
    rw [hn]
    refine hx G _ G H _ ⟨kn, kn, GrO.of (Grow.refl kn), MnOk.none hm, MnOk.none hm⟩ ev ⟨fun σ G' H' ρ o s e p => ?_, fun σ G' H' ρ o s e p => p.elim, fun σ G' H' ρ o s e p => p.elim, fun σ v s G' H' ρ o _ r p => ?_, fun C d dd v G' H' o hd r p => ?_⟩
    · exact q1 .non (.dat .none) G' H' (o.gr.to hm) o.kn .non p
    · exact q1 v s G' H' (o.gr.to hm) o.kn r p
    · exact q2 C d dd v G' H' (o.gr.to hm) o.kn hd r p
end
end Dl

set_option Elab.async false
set_option linter.all false
set_option maxRecDepth 100000
set_option maxHeartbeats 4000000
/-! Dlt: enumerate over a tuple. -/
namespace Dl
open PySem PySem.Spec PyProof.Rows L2
theorem meets_enumT (l : Addr) (items : Array Value) :
    Meets (Builtin.«enumerate.__new__» ⟨[.type "enumerate", .ref l], []⟩) (fun _ R s => s.heap.IsTuple l items ∧
      R (.ok (.ret (.ref (s.heap.push { cls := .type "tuple_iterator", data := .fields #[.ref l, .int 0 0] }).objs.size)))
        { s with heap := (s.heap.push { cls := .type "tuple_iterator", data := .fields #[.ref l, .int 0 0] }).push { cls := .type "enumerate", data := .fields #[.none, .bool false, .ref s.heap.objs.size, rawInt 0, .none, .none] } }) :=
  .of_wp fun prog w A R s h => by
    obtain ⟨hp, g, d, tk, os⟩ := s
    obtain ⟨hL, h⟩ := h
    have hsub := sub_enumerate
    obtain ⟨o, ho, hc, n, hd⟩ := id hL
    wp_walk using AutoSeq1.wpAny_loadPart' ho
    refine wpAny_stack_any fun st => wpAny_pure ?_
    split
    · rename_i c _ _ _ _ _
      cases (c == Value.type "enumerate")
      · wp_walk using AutoSeq1.wpAny_loadPart' ho, wpAny_pyIter_tuple hL
        exact ⟨_, rfl, h⟩
      · wp_walk using AutoSeq1.wpAny_loadPart' ho, wpAny_pyIter_tuple hL
        exact ⟨_, rfl, h⟩
    · wp_walk using AutoSeq1.wpAny_loadPart' ho, wpAny_pyIter_tuple hL
      exact ⟨_, rfl, h⟩

section
variable {prog : Program} {w : World} {A : Around} {E : Value → Shared → Prop} {s : Shared}
theorem call_enumT {l : Addr} {items : Array Value} {Q : Value → Shared → Prop} (hL : s.heap.IsTuple l items)
    (h : ∀ h', IsEnum h' (s.heap.objs.size + 1) s.heap.objs.size 0 .none → h'.IsTupleIter s.heap.objs.size l 0 → (∀ b o, s.heap.get? b = some o → h'.get? b = some o) → Q (.ref (s.heap.objs.size + 1)) { s with heap := h' }) :
    wpAny (model prog w) A (call (.type "enumerate") [.ref l]) Q E s := by
  refine callType_new F.called_enumerate (by decide) (F.typeCall_enumerate_1 _) (F.newCall_enumerate_1 _) (fun obj => F.args_object_init_2 obj _) F.entry_enumerate_new (meets_enumT l items) ⟨hL, ?_⟩
  have hz : (s.heap.push { cls := .type "tuple_iterator", data := .fields #[.ref l, .int 0 0] }).objs.size = s.heap.objs.size + 1 := Heap.size_push ..
  show _ ∧ _
  rw [hz]
  have he : IsEnum ((s.heap.push { cls := .type "tuple_iterator", data := .fields #[.ref l, .int 0 0] }).push
      { cls := .type "enumerate", data := .fields #[.none, .bool false, .ref s.heap.objs.size, rawInt 0, .none, .none] }) (s.heap.objs.size + 1) s.heap.objs.size 0 .none := by
    have q := Heap.get?_push_size (s.heap.push { cls := .type "tuple_iterator", data := .fields #[.ref l, .int 0 0] })
      (o := { cls := .type "enumerate", data := .fields #[.none, .bool false, .ref s.heap.objs.size, rawInt 0, .none, .none] }) rfl
    rw [hz] at q
    exact q
  exact ⟨⟨_, he, rfl⟩, h _ he ⟨_, Heap.get?_push_of_some _ (Heap.get?_push_size _ rfl), rfl, rfl⟩ fun b o x => Heap.get?_push_of_some _ (Heap.get?_push_of_some _ x)⟩
end
/-- the tuple at a, each item in a new pair with its index -/
def IteT (K : PySem.W.Frag) (a : Addr) : It :=
  ⟨fun i H => ∃ (xs : List V) (x : V), SqT K H a xs ∧ xs[i]? = some x, fun i H v H' => ∃ T x, v = .ref T ∧ H T = none ∧ H' = upd H T (.tup [.int (i : Nat), x]) ∧ ∀ xs, SqT K H a xs → xs[i]? = some x, fun i H => ∃ xs : List V, SqT K H a xs ∧ xs.length ≤ i⟩
theorem turn_enumT {P : Program} {w : World} {K : PySem.W.Frag} {elts : List Expr} {kk : Nat} {tpos : Pos} (a e it : Addr) :
    Turn P w K (.Tuple elts kk tpos) (IteT K a) [e, it] e (fun i h => (∃ old, IsEnum h e it ((i : Nat) : Int) old) ∧ h.IsTupleIter it a i ∧ e ≠ it) where
  mem := by simp
  obj := fun i h st b hb => by
    obtain ⟨⟨old, he⟩, ⟨o, ho, hc, hd⟩, _⟩ := st
    rcases (show b = e ∨ b = it by simpa using hb) with z | z
    · exact ⟨_, z ▸ he, fun v q => by cases q⟩
    · exact ⟨o, z ▸ ho, fun v q => by rw [hd] at q; cases q⟩
  keep := fun i h h' st k => ⟨let ⟨old, he⟩ := st.1; ⟨old, k e (by simp) _ he⟩, st.2.1.at fun o q => k it (by simp) o q, st.2.2⟩
  item := by
    intro X hP hw hK hc i pins s σ H E I hf st hg
    subst hP hw hK
    obtain ⟨⟨old, he⟩, hit, hne⟩ := st
    obtain ⟨xs, x, hq, hx⟩ := hg
    obtain ⟨its, rv, p, hz⟩ := I.tuple hq
    obtain ⟨u, hu, ru⟩ := rv.get hx
    have hp : s.heap.IsTuple a its.toArray := p
    have hel : e < s.heap.objs.size := Heap.lt_size he
    have hil : it < s.heap.objs.size := by
      obtain ⟨_, q, _⟩ := hit
      exact Heap.lt_size q
    have nea : e ≠ a := fun z => by
      obtain ⟨o, ho, hcl, _⟩ := hp
      have he' : s.heap.get? e = _ := he
      rw [z, ho] at he'
      cases he'
      simp at hcl
    have nia : a ≠ it := fun z => by
      obtain ⟨o, ho, hcl, _⟩ := hp
      obtain ⟨o2, ho2, hc2, _⟩ := hit
      rw [z, ho2] at ho
      cases ho
      rw [hc2] at hcl
      simp at hcl
    have hi : i < its.toArray.size := by
      have := (List.getElem?_eq_some_iff.mp hu).1
      simpa using this
    refine wpAny_pyNext_enum_itemD (Draws.tuple (A := X.A.in1) (I.ok.hd hc) it a nia its.toArray) he ⟨hit, hp⟩ hi hne (by simp [hne, nea]) fun y h' tk hy ho st' hT hsz hk => ?_
    obtain ⟨hit', _⟩ := st'
    have ey : y = u := by
      have q : its.toArray[i]? = some u := by simpa using hu
      rw [q] at hy
      exact (Option.some.inj hy).symm
    subst ey
    refine ⟨_, rfl, wpAny_letOwnedTupleGo_enum (s := { s with heap := h', toks := tk + 1 }) ho fun h'' he' sb => ?_⟩
    have hT2 : h''.get? s.heap.objs.size = some { cls := .type "tuple", data := .seq #[.int i tk, y] } := (sb.2 _ (Nat.ne_of_gt hel)).trans hT
    have I1 : Inv X pins σ (upd H s.heap.objs.size (.tup [.int (i : Nat), x])) { s with heap := h'', toks := tk + 1 } :=
      I.turnedNew (ch := [e, it]) (fun b ob hb q => (sb.2 b (fun z => hb (by simp [z]))).trans (hk b ob (fun z => hb (by simp [z])) (fun z => hb (by simp [z])) q)) hf (Nat.le_refl _)
        ⟨by show 2 ≤ sizeLine; decide, [.int i tk, y], .cons ⟨_, rfl⟩ (.cons ru .nil), ⟨_, hT2, rfl, _, rfl⟩⟩
    refine ⟨.ref s.heap.objs.size, _, I1, rfl, ⟨_, x, rfl, I.hok.fresh (Nat.le_refl _), rfl, fun ys hy => by rw [I.tuple_inj hy hq]; exact hx⟩, ⟨⟨y, ?_⟩, hit'.at fun o q => (sb.2 it (Ne.symm hne)).trans q, hne⟩, fun b hb => ?_⟩
    · rw [show ((i + 1 : Nat) : Int) = (i : Int) + 1 by omega]
      exact he'
    · have hb' : b < s.heap.objs.size := by
        rcases (show b = e ∨ b = it by simpa using hb) with z | z
        · exact z ▸ hel
        · exact z ▸ hil
      rw [upd_ne (Nat.ne_of_lt hb')]
      exact (hf b hb).1
  done := by
    intro X hP hw hK hc i pins s σ H E I hf st hg
    subst hP hw hK
    obtain ⟨⟨old, he⟩, hit, hne⟩ := st
    obtain ⟨xs, hq, hx⟩ := hg
    obtain ⟨its, rv, p, hz⟩ := I.tuple hq
    have hp : s.heap.IsTuple a its.toArray := p
    obtain ⟨f0, f1, f2, f3, f4, f5⟩ := hf it (by simp)
    have hl := rv.length
    have nia : a ≠ it := fun z => by
      obtain ⟨o, ho, hcl, _⟩ := hp
      obtain ⟨o2, ho2, hc2, _⟩ := hit
      rw [z, ho2] at ho
      cases ho
      rw [hc2] at hcl
      simp at hcl
    have en : wpAny (model X.prog X.w) X.A (pyNext (.ref e)) (fun r s1 => r = none ∧ Inv X pins σ H s1) E s := by
      unfold pyNext
      refine wpAny_bind (wpAny_attempt (wpAny_callSpecial?_slot (name := Str.ofString "__next__") (show s.TypeIs (.ref e) "enumerate" from ⟨_, he, rfl⟩) F.slot_enumerate_next
        (wpAny_call_entry F.slot_enumerate_next (show s.TypeIs (.ref e) "enumerate" from ⟨_, he, rfl⟩) F.entry_enumerate_next ?_ (F.args_enumerate_next_1 _))))
      show wpAny _ _ (field (.ref e) 2 >>= _) _ _ _
      refine wpAny_bind (wpAny_field he rfl (x := .ref it) rfl ?_)
      refine wpAny_bind (wpAny_nextOf_tuple_end (show X.A.in1.handled = none from I.ok.hd hc) hit hp (by simp; omega) fun h' x he' hx' => ?_)
      obtain ⟨o, ho, hc⟩ := hx'
      refine wpAny_bind (wpAny_isInstance (T := "StopIteration") (b := true) ⟨o, ho, hc⟩ isSubtype_stop ?_)
      exact wpAny_pure ⟨rfl, I.turned (t' := s.toks) (fun b o hb q => he' b o hb q) f0 f1 f3 f4 f5⟩
    exact en
  self := fun A i s Q E st h => wpAny_pyIter_enum st.1.choose_spec h
def iEnumT (K : PySem.W.Frag) (ta : TA) : TI := fun σ H R => ta σ H fun vs H1 => ∃ a xs, vs = [.ref a] ∧ SqT K H1 a xs ∧ R (IteT K a) H1
theorem pi_enumT {X : Cx} {e : Expr} {ta : TA} {p pos tpos : Pos} {elts : List Expr} {kk : Nat} (hg : Gl X "enumerate") (hm : X.mg "enumerate" = none) (ha : PA X [e] ta) (hs : starEach [e] X.env = [(false, eval e X.env)] := by rfl) :
    PI X (.Tuple elts kk tpos) (.Call (.Name "enumerate" p) [e] [] pos) (iEnumT X.K ta) := ⟨fun pins s σ H R I h => by
  refine Call_ (ld_blt I hg hm boot_enumerate (PyProof.Rows.callWith_type1 (thn (ha.run pos pins s σ H _ I h) fun us s1 ⟨vs, H1, I1, r1, a, xs, ex, hq, q⟩ => ?_) hs rfl))
  subst ex
  cases r1 with
  | cons r rr =>
    cases rr
    cases r
    obtain ⟨its, rv, p', hz⟩ := I1.tuple hq
    refine call_enumT (show s1.heap.IsTuple a its.toArray from p') fun h' he hit hk => wpAny_pyIter_enum he ?_
    refine ⟨s1.heap.objs.size + 1, [s1.heap.objs.size + 1, s1.heap.objs.size], _, _, H1, rfl, I1.kept (t' := s1.toks) hk, turn_enumT a (s1.heap.objs.size + 1) s1.heap.objs.size, ⟨⟨.none, he⟩, hit, Nat.succ_ne_self _⟩, fun b hb => ?_, q⟩
    have hle : s1.heap.objs.size ≤ b := by
      rcases (show b = s1.heap.objs.size + 1 ∨ b = s1.heap.objs.size by simpa using hb) with z | z
      · exact z ▸ Nat.le_add_right _ _
      · exact z ▸ Nat.le_refl _
    exact I1.fpOk hle (I1.hok.fresh hle)⟩
section
variable {S : Cf} {ρ : Rho} {te : TE} {G : Hp}
theorem wk_enumT {a : Addr} {vs : List V} {ds : List D} (hs : SqT S.K G a vs) (ra : RA S.K G vs ds) : Wk S (IteT S.K a) G (enumD 0 ds) := wk_pair (f := fun a b => .tuple [a, b]) fun G2 H2 e k => by
  have hs2 : SqT S.K H2 a vs := sameT (e.trans k.gh) hs
  refine ⟨⟨vs, hs2, by rw [enumD_length, ra.length]; exact Nat.le_refl _⟩, fun i d hd => ?_⟩
  obtain ⟨x, hx, ed⟩ := enumD_get hd
  obtain ⟨v, hv, rv⟩ := ra.get hx
  refine ⟨⟨vs, v, hs2, hv⟩, fun y H3 hy => ?_⟩
  obtain ⟨T, q, e1, e2, e3, e5⟩ := hy
  have e5 := e5 vs hs2
  rw [hv] at e5
  cases e5
  exact ⟨T, _, _, .int ((0 + i : Nat) : Int), x, e1, e2, e3, by rw [Nat.zero_add]; exact .int _, rv.mono e, ed⟩
theorem im_enumT {ds : List D} (h : Ev S te ρ (Eq (.dat (.tuple ds)))) : Itm S (iEnumT S.K (tCons te tNil)) ρ (Eq (enumD 0 ds)) := fun σ G H k e Rr f => h σ G H k e _ fun v s G' H' g k' es r => by
  subst es
  cases r with
  | tup hs ra => exact ⟨_, _, rfl, sameT k'.gh hs, f _ _ G' H' g k' rfl (wk_enumT hs ra)⟩
end
end Dl

set_option Elab.async false
set_option linter.all false
set_option maxRecDepth 100000
set_option maxHeartbeats 4000000
/-! Dlx: errors raised and caught, repr, the end of a law that hands lambdas on. -/
namespace Dl
open PySem PySem.Spec PyProof.Rows L2
/-! ### an error with one value -/
/-- __init__(self, value): self.value = value -/
def spIni (K : PySem.W.Frag) : Sp := fun vs H Q _ => ∃ (a C : Addr) (v : V), vs = [.ref a, v] ∧ OexC K C ∧ PySem.W.findIn K (.ref C) "value" = some none ∧ H a = some (exo a C none) ∧
  ∀ dx, H dx = none → dx ≠ a → Q .non (upd (upd H dx (exd dx [("value", v)])) a (exo a C (some dx)))
section
variable {P : Program} {w : World} {K : PySem.W.Frag} {mg : Str → Option Value} {base : Heap}
theorem ini_ok {f : Addr} {fd : FuncData} {x qual : Str} {st : Stmt} {b1 b2 b3 b4 b5 : Pos} (F : Fun K x qual st f fd) (Sc : FnScope ["self", "value"] ["self", "value"] (defScope st)) (hs : (defScope st).names = [(PySem.Str.ofString "self", .local), (PySem.Str.ofString "value", .local)])
    (hb : defBody st = [.Assign [.Attribute (.Name "self" b1) "value" b2] (.Name "value" b3) b4]) : FnOk P w K mg base CX0 1 f fd ["self", "value"] (spIni K) := by
  refine F.ok Sc (fun vs H Q E h => ?_) fun cdv A outer s H vs Q E hr h => ?_
  · obtain ⟨a, C, v, rfl, _⟩ := h
    rfl
  · obtain ⟨a, C, v, rfl, T, nv, ha, k⟩ := h
    have v0 : Vis (cxOf CX0 P w K mg base ["self", "value"] qual (defScope st) f cdv A outer s H E).nox.env.scope "self" := .inl (by show (defScope st).names.lookup _ = _; rw [hs]; decide +kernel)
    have v1 : Vis (cxOf CX0 P w K mg base ["self", "value"] qual (defScope st) f cdv A outer s H E).nox.env.scope "value" := .inl (by show (defScope st).names.lookup _ = _; rw [hs]; decide +kernel)
    refine ⟨_, by rw [hb]; exact pss_one (ps_ost (pe_var (i := 0) rfl v0) (pe_var (i := 1) rfl v1)), ?_⟩
    exact ⟨v, rfl, .ref a, rfl, a, C, rfl, T, nv, .inl ⟨ha, fun dx h1 h2 => k dx h1 h2⟩⟩
end
section
variable {S : Cf} {ρ : Rho} {te : TE} {P : Oc → Prop}
/-- raise X(e) -/
theorem xc_raise {C : Addr} {d : D} (T : OexC S.K C) (nv : PySem.W.findIn S.K (.ref C) "value" = some none) (h : Ev S te ρ (Eq (.dat d))) (hs : P (.ex C d)) :
    Xc S (fun _ σ H => tMkO C (spIni S.K) [] (tCons te tNil) σ H fun cls d H' => S.E cls d H') ρ P := fun σ G H De o e f =>
  h σ G H o.kn e _ fun v s G1 H1 g1 k1 es r => by
    subst es
    refine ⟨by show 1 ≤ 1000; decide, fun a ha => ⟨a, C, v, rfl, T, nv, upd_same, fun dx hdx hne => ⟨rfl, dx, [("value", v)], upd_same, by rw [upd_ne hne, upd_same], ?_, ?_⟩⟩⟩
    · rw [upd_ne hne] at hdx
      exact hdx
    · have hd1 : H1 dx = none := by
        rw [upd_ne hne] at hdx
        exact hdx
      have sm : Same H1 (upd (del (upd (upd (upd H1 a (exo a C none)) dx (exd dx [("value", v)])) a (exo a C (some dx))) a) dx (.xd [("value", v)])) := fun b w hb => by
        have n1 : b ≠ a := ne_of_none hb ha
        have n2 : b ≠ dx := ne_of_none hb hd1
        rw [upd_ne n2, del_ne n1, upd_ne n1, upd_ne n2, upd_ne n1]
        exact hb
      have o1 := o.grow g1 k1
      exact f.ex C d dx v G1 _ (o1.grow (Grow.same k1 sm) (k1.same sm)) upd_same r hs
end
/-! ### repr of data -/
def isDisp : D → Bool
  | .list _ => true
  | .tuple _ => true
  | _ => false
def rRepr (K : PySem.W.Frag) : List V → Hp → VK → Prop := fun xs H Q => ∃ (x : V) (d : D), xs = [x] ∧ R K H x d ∧ isDisp d = true ∧ d.hasDict = false ∧ d.showable = true ∧ d.shown.length ≤ sizeLine ∧ d.depth ≤ 20 ∧ Q (.str d.shown) H
theorem cr_repr {X : Cx} (hg : X.A.guards = some []) (hu : X.A.units + 64 < cLine) : CallR X (.builtin "repr") (rRepr X.K) := by
  intro pins s σ H xs us Q I r h
  obtain ⟨x, d, rfl, rx, dd, nd, sh, sz, dp, q⟩ := h
  obtain ⟨u, rfl, ru⟩ := vals1 r
  obtain ⟨as, rd⟩ := Dp.reads I d x u (rx.dp nd) ru
  obtain ⟨a, rfl⟩ : ∃ a, u = Value.ref a := by
    cases rx with
    | lst _ _ => exact ⟨_, ru⟩
    | tup _ _ => exact ⟨_, ru⟩
    | _ => simp [isDisp] at dd
  exact repr_of_reads' rd sh (PyData.noDict_hsm nd) hg (by omega) (fun _ _ e => e) (fun h' u tk hk => ⟨.str d.shown, H, I.kept hk, ⟨u, rfl⟩, q⟩) sz
section
variable {S : Cf} {ρ : Rho} {te : TE}
theorem ev_repr {d : D} (h : Ev S te ρ (Eq (.dat d))) (dd : isDisp d = true) (nd : d.hasDict = false) (sh : d.showable = true) (sz : d.shown.length ≤ sizeLine) (dp : d.depth ≤ 20) : Ev S (tCB (rRepr S.K) (tCons te tNil)) ρ (Eq (.dat (.str d.shown))) := fun σ G H k e Q q =>
  h σ G H k e _ fun v s G1 H1 g1 k1 es r => by
    subst es
    exact ⟨v, d, rfl, r.mono k1.gh, dd, nd, sh, sz, dp, q _ _ G1 H1 g1 k1 rfl (.str _)⟩
end
/-! ### try with several clauses, each with the same name in slot i -/
def wManyN (K : PySem.W.Frag) (i : Nat) (Wout : WX) (De : Ends) : List (Value × (Addr → Value → Option Addr → TS)) → WX
  | [] => Wout
  | (c, ts) :: r => fun cls d σ H => ∃ b, PySem.W.exmOne K cls c = some b ∧
      (b = true → ∀ a, H a = none → ts a cls d { nx := fun σ' H' => De.nx (σ'.set i none) H', rt := De.rt, bk := fun σ' H' => De.bk (σ'.set i none) H', ct := fun σ' H' => De.ct (σ'.set i none) H' } (σ.set i (some (.ref a))) H) ∧
      (b = false → wManyN K i Wout De r cls d σ H)
/-- told of slots of the right number alone -/
def wLen (n : Nat) (W : WX) : WX := fun cls d σ H => σ.length = n → W cls d σ H
inductive HdsN (X : Cx) (n : Str) : List ExceptHandler → List (Value × (Addr → Value → Option Addr → TS)) → Prop
  | nil : HdsN X n [] []
  | cons {x : Str} {c : Value} {ts : Addr → Value → Option Addr → TS} {b0 : Stmt} {su : List Stmt} {np p' : Pos} {hds : List ExceptHandler} {l : List (Value × (Addr → Value → Option Addr → TS))} (hc : Names X x c)
      (hsu : ∀ (a : Addr) (oe : Obj) (cls : Value) (d : Option Addr) (pn : List (Addr × Obj)), Zc cls d oe → (∃ vs, oe.data = .fields vs) → PSs (X.suite a ((a, oe) :: pn)) (b0 :: su) (ts a cls d)) (r : HdsN X n hds l) :
      HdsN X n (.ExceptHandler (some (.Name x np)) (some n) (b0 :: su) p' :: hds) ((c, ts) :: l)
section
variable {X : Cx} {body : List Stmt} {h0 : ExceptHandler} {hds : List ExceptHandler} {l : List (Value × (Addr → Value → Option Addr → TS))} {pos : Pos} {tb : WX → TS} {Wout : WX} {n : Str} {i : Nat}
theorem ps_try_manyN (hs : X.stack = X.env :: X.outer) (hf : X.env.frame = some X.env.locals) (hN : X.N.Nodup) (hi : X.N[i]? = some n) (hln : X.env.kindOf n = some .local) (tk : Takes X Wout)
    (hb : ∀ (W : WX) (pn : List (Addr × Obj)) (xe : Value → Shared → Prop), Takes (X.tr pn xe) W → PassesOwn (model X.prog X.w) X.A X.env xe → PSs (X.tr pn xe) body (tb W))
    (hh : HdsN X n (h0 :: hds) l) : PS X (.Try body (h0 :: hds) [] [] pos) (fun De σ H => tb (wLen X.N.length (wManyN X.K i Wout De l)) De σ H) := ⟨fun pins s σ H De I h => by
  have ok := I.ok
  have hfr : X.A.frames = some (X.env :: X.outer) := by rw [ok.frames, hs]
  refine wpAny_Try_except (wpAny_mono ((hb (wLen X.N.length (wManyN X.K i Wout De l)) (X.pn ++ pins) (fun e s1 => wpAny (model X.prog X.w) X.A (noteFrame e X.env) (fun _ s2 => wpAny (model X.prog X.w) X.A (setFlight e none) (fun _ s3 =>
    wpAny (model X.prog X.w) X.A (handleBy e X.env (h0 :: hds)) (SP X pins De) X.xe s3) X.xe s2) X.xe s1) (fun u s' xx => ?_) PassesOwn.looking).run [] s σ H De (I.toTry _) h) (fun fl s1 hsp => ?_) fun _ _ he => he)
  · obtain ⟨a, B, sI, pins', σ', H', cls, d, rfl, J', nb, up, sky, na, os, ag, wish0⟩ := xx
    have J : Inv X pins σ' H' sI := J'.ofTry ok
    have wish := wish0 J.len
    rw [hs] at sky
    show wpAny (model X.prog X.w) X.A (noteFrame (.ref a) X.env) _ _ _
    refine Sky.land Zc.steady hfr hf sky fun h3 fl3 up3 => ?_
    have J3 : Inv X pins σ' H' { s' with heap := h3 } := J.landed nb fl3.1 (up.trans up3) os ag
    obtain ⟨oe3, vs3, he3, hz3, hd3⟩ := fl3.there
    have nfr : a ∉ frs (X.env :: X.outer) := fun hm => by
      obtain ⟨_, o', e', hnf⟩ := fl3.2.2.1.mem hm
      rw [he3] at e'
      cases e'
      exact hnf _ hd3
    have nL : a ≠ X.env.locals := fun z => nfr (List.mem_filterMap.mpr ⟨X.env, List.mem_cons_self, by rw [hf, z]⟩)
    have nF : a ∉ X.fs := fun hm => by
      obtain ⟨e, he, q⟩ := List.mem_filterMap.mp hm
      exact nfr (List.mem_filterMap.mpr ⟨e, List.mem_cons_of_mem _ he, q⟩)
    have S3 := J3.suite he3 hd3 na nL nF
    suffices key : ∀ {hds' : List ExceptHandler} {l' : List (Value × (Addr → Value → Option Addr → TS))}, HdsN X n hds' l' → wManyN X.K i Wout De l' cls d σ' H' →
        wpAny (model X.prog X.w) X.A (handleBy (.ref a) X.env hds') (SP X pins De) X.xe { s' with heap := h3 } from key hh wish
    intro hds' l' hk
    induction hk with
    | nil =>
      intro w
      refine wpAny_handleBy_nil ?_
      obtain ⟨k1, k2, k3, oe, vs, T, oT, ts', he, hz, hd, h1, hr⟩ := id fl3
      unfold PySem.passOn
      refine wpAny_bind (wpAny_field he hd h1 ?_)
      rw [if_neg (show ¬ ((Value.ref T == Value.none) = true) by simp)]
      have last : wpAny (model X.prog X.w) X.A (setFlight (.ref a) X.env.frame) (fun _ s4 => wpAny (model X.prog X.w) X.A (throw (.ref a) : Sem Flow) (SP X pins De) X.xe s4) X.xe { s' with heap := h3 } := by
        rw [hf]
        exact HandSPX.setFlight_upZ fl3 fun h4 hh4 up4 => wpAny_throw (tk _ _ ⟨a, B, sI, pins, σ', H', cls, d, rfl, J, nb, (up.trans up3).trans up4, .inr (.inr (by rw [hs]; exact hh4)), na, os, ag, w⟩)
      first
        | exact wpAny_bind (wpAny_pure (wpAny_bind last))
        | exact wpAny_bind last
    | @cons x c ts b0 su np p' hds2 l2 hc hsu r ih =>
      intro w
      obtain ⟨b, hb1, hyes, hno⟩ := w
      refine wpAny_handleBy_cons (codeAny_handlers_test ?_) (by intro q; cases q)
      have LM := PySem.W.exm_one (M := model X.prog X.w) J3.kIn (fun A Q E s k q => wpAny_typeOf_ref (k _ _ he3) (by rw [hz3.1]; exact q)) hb1
      have test : ∀ {Q : Value → Shared → Prop} {E : Value → Shared → Prop}, Q c { s' with heap := h3 } → wpAny (model X.prog X.w) (X.A.mark (some (.ref a))) (eval (.Name x np) X.env) Q E { s' with heap := h3 } := fun {Q E} q => by
        obtain ⟨hg, hdbg, hm | ⟨hm, hv, hnn⟩⟩ := hc
        · exact ld_glob (X := X.suite a ((a, oe3) :: (X.pn ++ pins))) S3 hg hm q hdbg
        · exact ld_blt (X := X.suite a ((a, oe3) :: (X.pn ++ pins))) S3 hg hm hv q hnn hdbg
      refine test (LM.here ?_)
      cases b with
      | false =>
        show wpAny _ X.A (handleBy (.ref a) X.env hds2) _ _ _
        exact ih (hno rfl)
      | true =>
        refine codeAny_handlers_suite_as (HandSPX.lands_againZ fl3 fun h4 fl4 up4 => ?_)
        have J4 : Inv X pins σ' H' { s' with heap := h4 } := J.landed nb fl4.1 ((up.trans up3).trans up4) os ag
        obtain ⟨oe4, vs4, he4, hz4, hd4⟩ := fl4.there
        refine store_ok (X := X.suite a ((a, oe4) :: (X.pn ++ pins))) (v := .ref a) (J4.suite he4 hd4 na nL nF) hN hi (.inl hln) rfl (fun s5 S5 => ?_) (.inr hln)
        refine wpAny_mono ((hsu a oe4 cls d (X.pn ++ pins) hz4 ⟨_, hd4⟩).run [] s5 _ H' _ S5 (hyes rfl a na)) (fun fl s6 hsp => ?_) (fun _ _ z => False.elim z)
        have away : ∀ {σ6 : L2.St} {H6 : Hp} {Q : Shared → Prop}, Inv (X.suite a ((a, oe4) :: (X.pn ++ pins))) [] σ6 H6 s6 → (∀ s7, Inv X pins (σ6.set i none) H6 s7 → Q s7) →
            wpAny (model X.prog X.w) X.A (do bindName X.env n .none; unbindBehindTheSuite X.env n p') (fun _ s7 => Q s7) X.xe s6 := fun S6 hq => gone_ok (S6.unsuite ok) hN hi hln hq
        cases fl with
        | next =>
          obtain ⟨σ6, H6, S6, q6⟩ := hsp
          exact away S6 fun s7 J7 => ⟨_, _, J7, q6⟩
        | brk =>
          obtain ⟨σ6, H6, S6, q6⟩ := hsp
          exact away S6 fun s7 J7 => ⟨_, _, J7, q6⟩
        | cont =>
          obtain ⟨σ6, H6, S6, q6⟩ := hsp
          exact away S6 fun s7 J7 => ⟨_, _, J7, q6⟩
        | ret u =>
          obtain ⟨v6, σ6, H6, S6, r6, q6⟩ := hsp
          exact away S6 fun s7 J7 => ⟨_, _, _, J7, r6, q6⟩
  · cases fl with
    | next =>
      obtain ⟨σ', H', J', q⟩ := hsp
      exact wpAny_execs_nil ⟨σ', H', J'.ofTry ok, q⟩
    | brk =>
      obtain ⟨σ', H', J', q⟩ := hsp
      exact ⟨σ', H', J'.ofTry ok, q⟩
    | cont =>
      obtain ⟨σ', H', J', q⟩ := hsp
      exact ⟨σ', H', J'.ofTry ok, q⟩
    | ret u =>
      obtain ⟨v, σ', H', J', r, q⟩ := hsp
      exact ⟨v, σ', H', J'.ofTry ok, r, q⟩⟩
end
/-! ### a def that asks what it is handed, and tells the error: try: ask() / except X1 as e: return ('w1', e.value) .. / return ('', None) -/
def tsR (C : Addr) (w : Str) : Addr → Value → Option Addr → TS := fun a cls d => tRet (tTup (tCons (tC (.str w)) (tCons (tXf a cls d C "value" (tVar 1)) tNil)))
def hdL (cs : List (Addr × Str)) : List (Value × (Addr → Value → Option Addr → TS)) := cs.map fun p => (.ref p.1, tsR p.1 p.2)
/-- the wish of the one who asks -/
def EchR (K : PySem.W.Frag) (Q : VK) : List (Addr × Str) → XK
  | [] => fun _ _ _ => False
  | (C, w) :: r => fun cls d H' => ∃ b, PySem.W.exmOne K cls (.ref C) = some b ∧
      (b = true → cls = .ref C ∧ ∃ (dd : Addr) (v : V), d = some dd ∧ H' dd = some (.xd [("value", v)]) ∧ ∀ p, H' p = none → Q (.ref p) (upd H' p (.tup [.str w, v]))) ∧ (b = false → EchR K Q r cls d H')
def TRef (K : PySem.W.Frag) (cs : List (Addr × Str)) : (XK → Hp → VK → Prop) → Hp → VK → Prop := fun tl H Q =>
  tl (EchR K Q cs) H (fun _ H' => ∀ p, H' p = none → Q (.ref p) (upd H' p (.tup [.str "", .non])))
theorem ech_many {K : PySem.W.Frag} {Q : VK} {De : Ends} (hrt : De.rt = Q) {cls : Value} {d : Option Addr} {σ : L2.St} {H : Hp} (hl : σ.length = 2) : ∀ {cs : List (Addr × Str)}, EchR K Q cs cls d H → wManyN K 1 (fun _ _ _ _ => False) De (hdL cs) cls d σ H
  | [], h => h
  | (C, w) :: r, h => by
    obtain ⟨b, h1, h2, h3⟩ := h
    refine ⟨b, h1, fun hb a ha => ?_, fun hb => ech_many hrt hl (h3 hb)⟩
    obtain ⟨ec, dd, v, ed, hd, k⟩ := h2 hb
    match σ, hl with
    | [x0, x1], _ =>
      refine ⟨.ref a, rfl, rfl, ec, dd, _, v, ed, hd, rfl, by show 2 ≤ sizeLine; decide, fun p hp => ?_⟩
      have hq := k p hp
      rw [← hrt] at hq
      exact hq
section
open LamX
theorem ref_gives {X : Cx} {x q : Str} {sg : Scope} {g : Addr} {cdg : Value} {h0 : ExceptHandler} {hds : List ExceptHandler} {cs : List (Addr × Str)} {a : Str} {j1 j2 : Nat} {k3 : Nat} {p1 p2 p3 pt q1 q2 q3 q4 : Pos} (nd : (["ask", "e"] : List Str).Nodup)
    (hl : sg.names.lookup (PySem.Str.ofString "e") = some NameKind.local)
    (hh : ∀ (s : Shared) (H : Hp), HdsN (cxOf C8.CX0 X.prog X.w X.K X.mg X.base ["ask", "e"] x sg g cdg X.A X.stack s H C8.E0).nox "e" (h0 :: hds) (hdL cs)) :
    GivesTo X ["ask", "e"] x sg g cdg [.Try [.Expr (.Call (.Name a p1) [] [] p2) p3] (h0 :: hds) [] [] pt, .Return (some (.Tuple [.Constant (.str "") j1 q1, .Constant .none j2 q2] k3 q3)) q4] a q (TRef X.K cs) := by
  intro f c' s H Q tl act hc h
  refine ⟨_, pss_cons (ps_try_manyN (X := (cxOf C8.CX0 X.prog X.w X.K X.mg X.base ["ask", "e"] x sg g cdg X.A X.stack s H C8.E0).nox) (i := 1)
      (tb := fun W De σ H => ∃ Ech : XK, (∀ cls d σ' H', Ech cls d H' → W cls d σ' H') ∧ σ[0]? = some (some (.ref f)) ∧ H c' = some (CodeO c' q) ∧ tl Ech H (fun _ H1 => De.nx σ H1))
      rfl rfl nd rfl hl L2.takes0 (fun W pn xe tk _ => ?_) (hh s H)) (pss_one (ps_ret (pe_tup (pa_cons pe_str (pa_cons pe_non pa_nil))))), ?_⟩
  · refine ⟨fun pins s' σ H' De I h' => ?_⟩
    obtain ⟨Ech, hW, h1, h2, h3⟩ := h'
    exact (pss_one (ps_expr (pos := p3) (act W pn xe Ech p1 p2 tk hW))).run pins s' σ H' De I ⟨h1, h2, h3⟩
  · exact ⟨EchR X.K Q cs, fun cls d σ' H' he hlen => ech_many rfl hlen he, rfl, hc, by
      refine (show tl (EchR X.K Q cs) H (fun _ H1 => (2 : Nat) ≤ sizeLine ∧ ∀ p, H1 p = none → Q (.ref p) (upd H1 p (.tup [.str "", .non]))) from ?_)
      have e : (fun (_ : V) (H1 : Hp) => (2 : Nat) ≤ sizeLine ∧ ∀ p, H1 p = none → Q (.ref p) (upd H1 p (.tup [.str "", .non]))) = fun _ H1 => ∀ p, H1 p = none → Q (.ref p) (upd H1 p (.tup [.str "", .non])) := by
        funext _ H1
        exact propext ⟨fun z => z.2, fun z => ⟨by decide, z⟩⟩
      rw [e]
      exact h⟩
end
end Dl

set_option Elab.async false
set_option linter.all false
set_option maxRecDepth 100000
set_option maxHeartbeats 4000000
/-! Dlam: a lambda handed to the def that asks it, as data; the end of a law. -/
namespace Dl
open PySem PySem.Spec PyProof.Rows L2 LamX
/-- all but the table at P stays -/
def ExtP (P : Addr) (H H1 : Hp) : Prop := ∀ b o, b ≠ P → H b = some o → H1 b = some o
section
variable {X : Cx} {pins : List (Addr × Obj)} {σ : L2.St} {H : Hp} {s : Shared}
/-- a lambda is made; what was tracked stays, but for the one table -/
theorem lam_mk {c P : Addr} {params : Arguments} {body : Expr} {scope : Scope} {pos : Pos} {E : Value → Shared → Prop} {Q : Value → Shared → Prop} (I : Inv X pins σ H s) (TB : TabB X.base X.mg c P) (hcode : X.env.code = .ref c)
    (hT : TabS H P (X.env.qual ++ "<lambda>")) (hdef : defaultsOf params X.env = ([], [])) (hfree : ∀ y ∈ scope.names, y.2 = .free → ∃ c, X.env.cells.lookup y.1 = some c)
    (h : ∀ (f c' : Addr) (pm ctv : Value) (H1 : Hp) (s' : Shared), Inv X pins σ H1 s' → ExtP P H H1 → TabS H1 P (X.env.qual ++ "<lambda>") →
      s'.heap.get? f = some (PySem.W.kla_obj "<lambda>" (X.env.qual ++ "<lambda>") params body scope (cloFrom X.env.cells scope.names []) pm c' ctv) → H1 f = none → f ∉ frs X.stack → H1 c' = some (CodeO c' (X.env.qual ++ "<lambda>")) → Q (.ref f) s') :
    wpAny (model X.prog X.w) X.A (eval (.Lambda params body scope pos) X.env) Q E s := by
  obtain ⟨ps, hP, ht, ha⟩ := hT
  have here : s.heap.get? P = some { cls := .none, data := .fields ps } := I.hok P _ hP
  have bP : s.heap.BuiltinsAt X.mg P := TB.bm.keeps I.bk
  have nofr : ∀ f, s.heap.objs.size ≤ f → f ∉ frs X.stack := fun f hf z => (List.mem_cons.mp (I.stkSub _ z)).elim (fun e => by
    have h1 := I.lt
    rw [← e] at h1
    exact Nat.lt_irrefl _ (Nat.lt_of_lt_of_le h1 hf)) fun e => I.nofs hf e
  refine PySem.W.kla_eval hdef ?_
  cases hc : codeAmong pos ps.toList with
  | some cv =>
    obtain ⟨c', rfl, hco⟩ := ha pos cv hc
    exact PySem.W.kla_makeFunctionHit (mg := X.mg) (c := c) (P := P) (ps := ps) (closure_ok hfree) I.ok.glob (I.mod.glob.keeps I.bk) hcode (TB.code.keeps I.bk) here ht hc bP fun ctv h' tk hx hsz =>
      h h'.objs.size c' _ ctv H _ (I.kept (t' := tk) fun b o e => Heap.get?_push_of_some _ (hx b o e)) (fun _ _ _ e => e) ⟨ps, hP, ht, ha⟩ (Heap.get?_push_size _ rfl) (I.hok.fresh hsz) (nofr _ hsz) hco
  | none =>
    refine PySem.W.kla_makeFunction (mg := X.mg) (c := c) (P := P) (ps := ps) (closure_ok hfree) I.ok.glob (I.mod.glob.keeps I.bk) hcode (TB.code.keeps I.bk) here ht hc TB.gP bP fun c' ctv h' tk hx hge hlt hrec htb => ?_
    obtain ⟨c2, oc, vs, t, e2, hoc, hd, hv⟩ := hrec
    cases e2
    have hsz : s.heap.objs.size ≤ h'.objs.size := Nat.le_of_lt (Nat.lt_of_le_of_lt hge hlt)
    have nC : H c' = none := I.hok.fresh hge
    have nPc : P ≠ c' := ne_of_none hP nC
    have J := inv_table (t' := tk) (more := #[rawInt pos.line, rawInt pos.col, .ref c']) (h' := h'.push (PySem.W.kla_obj "<lambda>" (X.env.qual ++ "<lambda>") params body scope (cloFrom X.env.cells scope.names []) ((X.mg "__name__").getD .none) c' ctv)) I hP
      (fun b o hb e => Heap.get?_push_of_some _ (hx b o hb e)) (Heap.get?_push_of_some _ htb) hge ⟨oc, vs, t, Heap.get?_push_of_some _ hoc, hd, hv⟩
    have hE : ExtP P H (upd (upd H P (.tbl (ps ++ #[rawInt pos.line, rawInt pos.col, .ref c']))) c' (CodeO c' (X.env.qual ++ "<lambda>"))) := fun b o nb e => by
      rw [upd_ne (ne_of_none e nC), upd_ne nb]
      exact e
    have eL : (ps ++ #[rawInt pos.line, rawInt pos.col, .ref c']).toList = ps.toList ++ [rawInt pos.line, rawInt pos.col, .ref c'] := by simp
    refine h h'.objs.size c' _ ctv _ _ J hE ⟨_, by rw [upd_ne nPc, upd_same], by rw [eL]; exact PySem.TriplesOk_snoc _ _ _ _ ht, fun p' cv hcv => ?_⟩ (Heap.get?_push_size _ rfl) ?_ (nofr _ hsz) upd_same
    · rw [eL] at hcv
      rcases among_app _ ht hcv with z | z
      · obtain ⟨c0, e1, e2⟩ := ha p' cv z
        exact ⟨c0, e1, hE _ _ (fun q => codeO_ne ps (Option.some.inj (e2.symm.trans (q ▸ hP)))) e2⟩
      · exact ⟨c', z, upd_same⟩
    · have n1 : h'.objs.size ≠ c' := Nat.ne_of_gt hlt
      have n2 : h'.objs.size ≠ P := Nat.ne_of_gt (Nat.lt_of_lt_of_le (Heap.lt_size here) hsz)
      rw [upd_ne n1, upd_ne n2]
      exact I.hok.fresh hsz
end
def tLamP (P : Addr) (q : Str) (TT : (XK → Hp → VK → Prop) → Hp → VK → Prop) (t : XK → TE) : TE := fun σ H Q => TabS H P q ∧ ∀ H1, ExtP P H H1 → TabS H1 P q → TT (fun E H' Q' => t E σ H' Q') H1 Q
/-- what a law's body knows of the def that asks lambdas, and of its own table -/
structure AskOk (X : Cx) (x a : Str) (Ng : List Str) (g c P : Addr) (TT : (XK → Hp → VK → Prop) → Hp → VK → Prop) : Prop where
  gm : X.mg x = some (.ref g)
  gk : PySem.W.keepIn X.K (.ref g) = true
  fn : ∃ (pg : Arguments) (bg : List Stmt) (sg : Scope) (dV kV doc pm cdv ct oc : Value) (an od : Option Addr) (osl : Array (Option Value)), X.K.lookup g = some ⟨oc, od, .func (PySem.W.fnOf x x pg bg sg dV kV doc pm an cdv ct), osl⟩ ∧ PySem.W.codeIn X.K cdv x = true ∧
    L2.Binds X.K (PySem.W.fnOf x x pg bg sg dV kV doc pm an cdv ct) [a] [] ∧ FnScope Ng [a] sg ∧ Vis sg a ∧ GivesTo X Ng x sg g cdv bg a (X.env.qual ++ "<lambda>") TT
  g0 : Ng[0]? = some a
  tb : TabB X.base X.mg c P
  code : X.env.code = .ref c
  d1 : (x == ("__debug__" : Str)) = false
  d2 : (a == ("__debug__" : Str)) = false
  d3 : (a == ("__classdict__" : Str)) = false
section
variable {X : Cx}
/-- x(lambda: body) -/
theorem pe_lam {TT : (XK → Hp → VK → Prop) → Hp → VK → Prop} {x a : Str} {g c P : Addr} {k : Nat} {Ng : List Str} {params : Arguments} {body : Expr} {scope : Scope} {t : XK → TE} {p lpos pos : Pos} (O : AskOk X x a Ng g c P TT) (hg : Gl X x) (hr : Room (k + 2) X.A) (L : LamS X.env.scope scope) (hdef : defaultsOf params X.env = ([], []))
    (hbind : ∀ (q : Str) (cl : List (Str × Addr)) (pm cv ctv : Value), bindArgs (PySem.W.kla_fn "<lambda>" q params body scope cl pm cv ctv) ⟨[], []⟩ = pure [])
    (hbody : ∀ (A : Around) (outer : List PySem.Env) (s : Shared) (H : Hp) (E : XK) (f c' : Addr), Room k (A.deeper (lamEnv X scope s.heap.objs.size f c')) → PE (lamCx X A outer s H E scope f c') body (t E)) :
    PE X (.Call (.Name x p) [.Lambda params body scope lpos] [] pos) (tLamP P (X.env.qual ++ "<lambda>") TT t) := by
  refine ⟨fun pins s σ H Q I ⟨hT, h⟩ => ?_⟩
  obtain ⟨pg, bg, sg, dV, kV, doc, pm, cdv, ct, oc, an, od, osl, lk, hcg, hb, Sg, hva, hG⟩ := O.fn
  refine wpAny_Call_Name_kw (ld_glob I hg O.gm ?_ O.d1)
  refine PySem.W.callWith_K (h₀ := X.base) I.ok.mod.kin O.gk ?_ (by rfl) (by rfl)
  show wpAny _ _ (spliced ((false, eval (.Lambda params body scope lpos) X.env) :: backTo pos (starEach [] X.env))) _ _ s
  refine Calls.spliced_cons (lam_mk I O.tb O.code hT hdef (L.has I.ok) fun f c' pm' ctv H1 s' J eN T1 hf hfn hfr hco => Calls.spliced_nil ⟨J.kIn, ?_⟩)
  refine wpAny_call (codeAny_mono (run_ofS (CX := C8.CX0) (Q := Q) (E := C8.E0) (N := Ng) (ps := [a]) (us := [.ref f]) (vs := [.ref f]) lk hcg Sg hr J.env0 (hb s' [.ref f] J.kIn rfl) (.cons rfl .nil) rfl fun hr' => ?_) fun r s2 hq => ?_)
  · obtain ⟨t', ht', hq'⟩ := hG f c' s' H1 Q (fun E H' Q' => t E σ H' Q') (fun W pn xe E p1 p2 tk hW => pe_act (i := 0) J L hf hfn hfr (hbind _ _ _ _ _) tk hW hr' (fun A outer s H hr2 => hbody A outer s H E f c' hr2) O.g0 hva O.d2 O.d3) hco (h H1 eN T1)
    exact ⟨t', ht'.nox, hq'⟩
  · cases r with
    | error e => exact (show False from hq).elim
    | ok fl =>
      cases fl with
      | ret u => exact J.after hq
      | next => exact False.elim hq
      | brk => exact False.elim hq
      | cont => exact False.elim hq
end
/-! ### as data -/
/-- what a lambda's body does: a value, or an error -/
def EvX (S : Cf) (t : XK → TE) (ρ : Rho) (Pok : Sl → Prop) (Pex : Addr → D → Prop) : Prop := ∀ (σ : L2.St) (G H : Hp), Kn S.fx G H → Env S G H σ ρ → ∀ (E : XK) (Q : VK),
  (∀ v s G' H', Grow S.fx G H G' H' → Kn S.fx G' H' → Pok s → RS S.K G' v s → Q v H') →
  (∀ C d dd v G' H', Grow S.fx G H G' H' → Kn S.fx G' H' → H' dd = some (.xd [("value", v)]) → R S.K G' v d → Pex C d → E (.ref C) (some dd) H') → t E σ H Q
/-- the word that the clauses tell of the class at C -/
def Told (K : PySem.W.Frag) (C : Addr) (w : Str) : List (Addr × Str) → Prop
  | [] => False
  | (C', w') :: r => ∃ b, PySem.W.exmOne K (.ref C) (.ref C') = some b ∧ (b = true → C = C' ∧ w = w') ∧ (b = false → Told K C w r)
section
variable {S : Cf} {ρ : Rho} {Pok : Sl → Prop} {Pex : Addr → D → Prop} {ι : Type} {args : ι → List Sl} {pre : ι → Prop} {post : ι → Re → Prop} {ta : TA}
theorem evx_callP {Pa : List Sl → Prop} (ha : EvA S ta ρ Pa) (h : ∀ ss, Pa ss → ∃ i, ss = args i ∧ pre i ∧ (∀ s, post i (.ok s) → Pok s) ∧ (∀ C d, post i (.ex C d) → Pex C d)) : EvX S (fun E => tCall (spI S.K fx0 args pre post) [] E ta) ρ Pok Pex := fun σ G H k e E Q q1 q2 =>
  ha σ G H k e _ fun vs ss G1 H1 g1 k1 p1 r1 => by
    obtain ⟨i, e1, hp, ho, hx⟩ := h ss p1
    subst e1
    rw [List.append_nil]
    refine ⟨i, G1, hp, k1.low, r1, fun v s G2 H2 g2 k2 r2 po => ?_, fun C d dd v G2 H2 g2 k2 hd r2 po => ?_⟩
    · exact q1 v s G2 H2 (g1.trans k1 (k1.lift g2) g2.lift) (k1.lift g2) (ho s po) r2
    · exact q2 C d dd v G2 H2 (g1.trans k1 (k1.lift g2) g2.lift) (k1.lift g2) hd r2 (hx C d po)
theorem evx_call (i : ι) (ha : EvA S ta ρ (Eq (args i))) (hp : pre i) (ho : ∀ s, post i (.ok s) → Pok s) (hx : ∀ C d, post i (.ex C d) → Pex C d) : EvX S (fun E => tCall (spI S.K fx0 args pre post) [] E ta) ρ Pok Pex := evx_callP ha fun ss e => ⟨i, e.symm, hp, ho, hx⟩
/-- the def that the j-th slot holds -/
theorem evx_callL {j : Nat} {f : Addr} (i : ι) (hj : ρ[j]? = some (.raw (.ref f))) (ha : EvA S ta ρ (Eq (args i))) (hp : pre i) (ho : ∀ s, post i (.ok s) → Pok s) (hx : ∀ C d, post i (.ex C d) → Pex C d) :
    EvX S (fun E => tCallL j f (spI S.K fx0 args pre post) [] E ta) ρ Pok Pex := fun σ G H k e E Q q1 q2 => by
  obtain ⟨v, h1, e'⟩ := e.get hj
  have e2 : v = .ref f := Option.some.inj e'
  subst e2
  exact ⟨h1, evx_call i ha hp ho hx σ G H k e E Q q1 q2⟩
theorem told_ech {K : PySem.W.Frag} {Q : VK} {C dd : Addr} {v : V} {w : Str} {H : Hp} (hd : H dd = some (.xd [("value", v)])) (q : ∀ p, H p = none → Q (.ref p) (upd H p (.tup [.str w, v]))) : ∀ {cs : List (Addr × Str)}, Told K C w cs → EchR K Q cs (.ref C) (some dd) H
  | [], h => h.elim
  | (C', w') :: r, h => by
    obtain ⟨b, h1, h2, h3⟩ := h
    refine ⟨b, h1, fun hb => ?_, fun hb => told_ech hd q (h3 hb)⟩
    obtain ⟨e1, e2⟩ := h2 hb
    subst e1 e2
    exact ⟨rfl, dd, v, rfl, hd, q⟩
/-- x(lambda: ..), x telling the error -/
theorem ev_lam {P : Addr} {q : Str} {cs : List (Addr × Str)} {t : XK → TE} {Pp : Sl → Prop} (hT : ∀ H, S.fx.inv H → TabS H P q) (hv : S.fx.vol P) (hI : ∀ H H1, S.fx.inv H → ExtP P H H1 → TabS H1 P q → S.fx.inv H1)
    (h : EvX S t ρ Pok Pex) (h1 : ∀ s, Pok s → Pp (.dat (.tuple [.str "", .none]))) (h2 : ∀ C d, Pex C d → ∃ w, Told S.K C w cs ∧ Pp (.dat (.tuple [.str w, d]))) : Ev S (tLamP P q (TRef S.K cs) t) ρ Pp := fun σ G H k e Q qq => by
  refine ⟨hT H k.inv, fun H1 eP T1 => ?_⟩
  have gP : G P = none := k.vn P hv
  have k1 : Kn S.fx G H1 := ⟨fun b o hb => eP b o (fun z => by rw [z, gP] at hb; cases hb) (k.gh b o hb), hI H H1 k.inv eP T1, k.vn⟩
  have g1 : Grow S.fx G H G H1 := ⟨Same.refl G, k1.gh, fun b o nv hb => eP b o (fun z => nv (z ▸ hv)) hb, fun _ _ _ _ n => n⟩
  refine h σ G H1 k1 (e.grow g1) _ _ (fun v s G2 H2 g2 k2 p2 r2 p hp => ?_) fun C d dd v G2 H2 g2 k2 hd r2 p2 => ?_
  · have g3 := Grow.new k2 (.tup [.str "", .non]) hp
    have k3 := Kn.new k2 (.tup [.str "", .non]) hp
    exact qq _ _ _ _ ((g1.trans k1 k2 g2).trans k2 k3 g3) k3 (h1 s p2) (.tup (SqT.of upd_same) (.cons (.str _) (.cons .non .nil)))
  · obtain ⟨w, tw, pw⟩ := h2 C d p2
    refine told_ech hd (fun p hp => ?_) tw
    have g3 := Grow.new k2 (.tup [.str w, v]) hp
    have k3 := Kn.new k2 (.tup [.str w, v]) hp
    exact qq _ _ _ _ ((g1.trans k1 k2 g2).trans k2 k3 g3) k3 pw (.tup (SqT.of upd_same) (.cons (.str _) (.cons (r2.mono g3.gg) .nil)))
end
end Dl

set_option Elab.async false
set_option linter.all false
set_option maxRecDepth 100000
set_option maxHeartbeats 4000000
/-! Dend: the end of a law whose own body makes lambdas; what runs around the law is known (no repr is under way). -/
namespace Dl
open PySem PySem.Spec PyProof.Rows L2 LamX
/-- the law's run, from any abstract heap that holds its own table and the script -/
def LawRun (P : Program) (w : World) (K : PySem.W.Frag) (mg : Str → Option Value) (fa c T : Addr) : Prop :=
  ∀ (base : Heap) (H : Hp) (s : Shared) (a : Addr) (ns : List Int), K.In base → base.Ns mainGlobals mg → TabB base mg c T → Env0 P w K mg base callerA [] s H → H T = some (.tbl #[]) → a ≠ T →
    SqL K H a (ns.map V.int) → ns.length ≤ 63 → (∀ z ∈ ns, Builtin.Int.intBits z ≤ 1048576) →
    codeAny (model P w) callerA (.call (.ref fa) ⟨[.ref a], []⟩) (CR (L2.CX P w) [] P w H s (fun v _ => v = .bl true) (fun _ _ _ => False)) s
theorem law_call1 {P : Program} {w : World} {K : PySem.W.Frag} {mg mb : Str → Option Value} {fa a c T : Addr} {s1 : Shared} {vs : List Value} {ns : List Int} (KX : K.In s1.heap) (hns : s1.heap.Ns mainGlobals mg) (hb : s1.heap.Ns builtinsNs mb)
    (hbb : ∀ x : Str, x ≠ "__name__" → mb x = bootBuiltins x) (hlim : s1.heap.NoLimit) (hg : s1.gens = #[]) (hT : s1.heap.get? T = some { cls := .none, data := .fields #[] }) (nT : K.lookup T = none) (C : PySem.W.CodeHd s1.heap c T)
    (hbm : ∃ (bm : Addr) (ob : Obj), mg "__builtins__" = some (.ref bm) ∧ bm ≠ builtinsNs ∧ s1.heap.get? bm = some ob ∧ ob.cls = .type "module" ∧ ob.dict = some builtinsNs ∧ ob.data = .plain)
    (ha : s1.heap.get? a = some { cls := .type "list", data := .seq vs.toArray }) (hi : IntsAre vs ns) (hl : ns.length ≤ 63) (hz : ∀ z ∈ ns, Builtin.Int.intBits z ≤ 1048576) (F : LawRun P w K mg fa c T) :
    codeAny (model P w) callerA (.call (.ref fa) ⟨[.ref a], []⟩) (fun r s' => r = .ok (.ret (.bool true)) ∧ OldK s1.heap s'.heap ∧ s'.os = s1.os ∧ AllBare s'.gens) s1 := by
  have lenV := hi.length
  have naT : a ≠ T := fun z => by
    rw [z, hT] at ha
    cases ha
  have hl' : ns.length ≤ sizeLine := Nat.le_trans hl (by decide)
  -- what is tracked: the table, and the script where the written part does not hold it
  let fo : HO := .frz { cls := .type "list", data := .seq vs.toArray } (.lst (ns.map V.int))
  let H : Hp := fun b => if b = T then some (.tbl #[]) else if b = a ∧ K.lookup a = none then some fo else none
  have HT : H T = some (.tbl #[]) := if_pos rfl
  have Hne : ∀ b, b ≠ T → b ≠ a → H b = none := fun b h1 h2 => (if_neg h1).trans (if_neg fun z => h2 z.1)
  have Hcases : ∀ b u, H b = some u → (b = T ∧ u = .tbl #[]) ∨ (b = a ∧ K.lookup a = none ∧ u = fo) := fun b u e => by
    by_cases h1 : b = T
    · have e' := (if_pos h1).symm.trans e
      exact .inl ⟨h1, (Option.some.inj e').symm⟩
    · have e1 := (if_neg h1).symm.trans e
      by_cases h2 : b = a ∧ K.lookup a = none
      · have e2 := (if_pos h2).symm.trans e1
        exact .inr ⟨h2.1, h2.2, (Option.some.inj e2).symm⟩
      · have e2 := (if_neg h2).symm.trans e1
        cases e2
  have hS : SqL K H a (ns.map V.int) := by
    cases hk : K.lookup a with
    | none => exact .inl (.inr ⟨_, (if_neg naT).trans (if_pos ⟨rfl, hk⟩)⟩)
    | some o =>
      have e := KX a o hk
      rw [ha] at e
      cases e
      exact .inr ⟨_, vs.toArray, _, hk, rfl, rfl, rfl, by rw [List.size_toArray, lenV]; exact hl', by simpa using vals_ints hi⟩
  have hok : HOk P w H s1.heap := fun b u e => by
    rcases Hcases b u e with ⟨rfl, rfl⟩ | ⟨rfl, _, rfl⟩
    · exact hT
    · exact ⟨ha, by rw [List.length_map]; exact hl', vs, _, vals_ints hi, ha⟩
  -- an object that is neither stays as it is in the base
  have kept : ∀ {b : Addr} {o : Obj}, s1.heap.get? b = some o → (∀ us n, o.data ≠ .seq us n) → o.data ≠ .fields #[] → H b = none := fun {b o} e h1 h2 => Hne b (fun z => by
    rw [z, hT] at e
    cases e
    exact h2 rfl) fun z => by
    rw [z, ha] at e
    cases e
    exact h1 _ _ rfl
  have noD : ∀ {b : Addr} {o : Obj} {es : Array DictEntry} {ep : Nat}, s1.heap.get? b = some o → o.data = .dict es ep → (hidT s1.heap H).get? b = some o := fun {b o es ep} e d => hidT_get e (kept e (fun us n z => by rw [d] at z; cases z) fun z => by rw [d] at z; cases z)
  have nsK : ∀ {b : Addr} {m : Str → Option Value}, s1.heap.Ns b m → (hidT s1.heap H).Ns b m := fun ⟨o, es, ep, e, d, r⟩ => ⟨o, es, ep, noD e d, d, r⟩
  have KB : K.In (hidT s1.heap H) := fun b o e => hidT_get (KX b o e) (by
    cases q : H b with
    | none => rfl
    | some u =>
      rcases Hcases b u q with ⟨rfl, _⟩ | ⟨rfl, hk, _⟩
      · rw [nT] at e
        cases e
      · rw [hk] at e
        cases e)
  have hM : L2.Mod K mg (hidT s1.heap H) := ⟨KB, nsK hns, ⟨mb, nsK hb, hbb⟩, let ⟨mc, h1, h2⟩ := hlim; ⟨mc, nsK h1, h2⟩⟩
  have TB : TabB (hidT s1.heap H) mg c T := by
    refine ⟨?_, ?_, fun z => ?_⟩
    · obtain ⟨o, us, file, tf, flags, tg, inF, text, tt, e1, r1, r2, r3, r⟩ := C
      refine ⟨o, us, file, tf, flags, tg, inF, text, tt, hidT_get e1 (kept e1 (fun x n z => by rw [r2] at z; cases z) fun z => ?_), r1, r2, r3, r⟩
      rw [r2] at z
      cases z
      simp at r3
    · obtain ⟨bm, ob, b1, b2, b3, b4, b5, b6⟩ := hbm
      refine ⟨bm, ob, b1, b2, fun q => ?_, fun q => ?_, hidT_get b3 (kept b3 (fun x n z => by rw [b6] at z; cases z) fun z => by rw [b6] at z; cases z), b4, b5, b6⟩
      · obtain ⟨o, es, ep, e, hd, _⟩ := hns
        rw [q, e] at b3
        cases b3
        rw [hd] at b6
        cases b6
      · rw [q, hT] at b3
        cases b3
        cases b6
    · obtain ⟨o, es, ep, e, hd, _⟩ := hns
      rw [z, hT] at e
      cases e
      cases hd
  have e0 : Env0 P w K mg (hidT s1.heap H) callerA [] s1 H := ⟨rfl, hM, fun b o e => of_hidT e, Nat.le_of_eq (hidT_size _ _), trivial, fun b hb => absurd (show b ∈ ([] : List Addr) from hb) (by simp), hok, .of_eq hg⟩
  refine codeAny_mono (F _ H s1 a ns KB (nsK hns) TB e0 HT naT hS hl hz) fun r s' h => ?_
  cases r with
  | error e =>
    obtain ⟨_, _, _, _, _, _, _, _, _, _, _, _, z⟩ := (show L2.CX P w [] H s1 (fun _ _ _ => False) e s' from h)
    exact z.elim
  | ok fl =>
    cases fl with
    | next => exact False.elim h
    | brk => exact False.elim h
    | cont => exact False.elim h
    | ret u =>
      obtain ⟨v, H', os, bare, un, hok', rv, q⟩ := h
      have qv : v = .bl true := q
      subst qv
      obtain rfl : u = Value.bool true := rv
      have stay : ∀ b o, b ≠ T → s1.heap.get? b = some o → s'.heap.get? b = some o := fun b o nb e => by
        cases q : H b with
        | none => exact un.keep b o e q (fun z => absurd (show b ∈ ([] : List Addr) from z) (by simp)) (by simp)
        | some u =>
          rcases Hcases b u q with ⟨z, _⟩ | ⟨_, _, z⟩
          · exact absurd z nb
          · subst z
            obtain ⟨e1, _⟩ := hok b _ q
            obtain ⟨e2, _⟩ := hok' b _ (un.frzs b _ _ q)
            rw [e] at e1
            cases e1
            exact e2
      obtain ⟨more, hm⟩ := un.tbls T #[] HT
      have grown : s'.heap.get? T = some { cls := .none, data := .fields (#[] ++ more) } := hok' T _ hm
      rw [Array.empty_append] at grown
      refine ⟨rfl, ⟨fun b o e => ?_, fun b o e => ?_⟩, os, bare⟩
      · by_cases z : b = T
        · subst z
          rw [hT] at e
          cases e
          exact .inr (.inl ⟨(C.tab hT).isCodeTable, rfl, #[], more, rfl, by rw [Array.empty_append]; exact grown⟩)
        · exact .inl (stay b o z e)
      · by_cases z : b = T
        · exact ⟨_, z ▸ grown⟩
        · exact ⟨o, stay b o z e⟩
/-- the facts of the law's own function, code and table -/
structure LawFn (K : PySem.W.Frag) (fa c T : Addr) : Prop where
  fn : ∃ (oc : Value) (od : Option Addr) (fd : FuncData) (sl : Array (Option Value)), K.lookup fa = some ⟨oc, od, .func fd, sl⟩ ∧ fd.code = .ref c
  cd : ∃ (e : Value) (dd : Option Addr) (vs : Array Value) (sl : Array (Option Value)), K.lookup c = some ⟨e, dd, .fields vs, sl⟩ ∧ vs[11]? = some (.ref T)
  hd : PySem.W.codeHdIn K c T = true
  no : K.lookup T = none
theorem walk_end {l : PySem.W.OpenLaw} {q : Program} {loose : List Str} {XP : (Str → Option Value) → Heap → Prop} {YP : World → Heap → Prop} {d : DefRec} {K : Params → PySem.W.Frag} (hn : l.most = some 63) (hdf : d.params.defaults = []) (hrec : ((recsOf q).any fun e => e.name == d.name) = true)
    (hY : ∀ (w : World) (h : Heap), YP w h → (K w.params).In h)
    (F : ∀ (w : World) (mg : Str → Option Value) (fa : Addr) (h : Heap), (K w.params).In h → h.Ns mainGlobals mg → mg d.name = some (.ref fa) → ∃ c T, LawFn (K w.params) fa c T ∧ LawRun l.prog w (K w.params) mg fa c T) :
    PySem.W.WalkO q loose XP YP l.row.toRowW d [] (fun f vs => PySem.call f vs) := by
  refine Att.attach_callB hn hdf fun w s₀ s1 mg mb fa o pm cd doc a vs ns G Y ho hd hcd hmg hobj hints hlen hbits hg => ?_
  have KX := hY w _ Y
  obtain ⟨c, T, ⟨⟨oc, od, fd, sl, k1, k2⟩, ⟨e, dd, cvs, csl, k4, k5⟩, k6, k7⟩, run⟩ := F w mg fa _ KX G.T.g hmg
  have hT : s1.heap.get? T = some { cls := .none, data := .fields #[] } := by
    obtain ⟨dL, hm, hn1⟩ := List.any_eq_true.mp hrec
    have hn2 : dL.name = d.name := beq_iff_eq.mp hn1
    obtain ⟨a', o', fd', c', P', h1, h2, h3, h4, h5, ⟨oc2, vc, e1, _, e3, e4⟩, hP⟩ := G.T.tab dL hm
    rw [hn2, hmg] at h1
    cases h1
    rw [KX _ _ k1] at h2
    cases h2
    cases h3
    rw [k2] at h4
    cases h4
    rw [KX _ _ k4] at e1
    cases e1
    cases e3
    rw [k5] at e4
    cases e4
    exact hP
  exact law_call1 KX G.T.g G.T.b G.T.builtins G.T.nolimit hg hT k7 (PySem.W.codeHd_of_K KX k6) G.T.bmain hobj hints hlen hbits run
/-- the run, by the body -/
theorem law_run {P : Program} {w : World} {K : PySem.W.Frag} {mg : Str → Option Value} {fa c T : Addr} {st : Stmt} {fd : FuncData} {N : List Str} {k : Nat} (F : Fun K "law" "law" st fa fd) (hc : fd.code = .ref c) (Sc : FnScope N ["script"] (defScope st)) (hb : Binds K fd ["script"] []) (hr : Room (k + 1) callerA)
    (hbody : ∀ (base : Heap) (s : Shared) (H : Hp) (a : Addr) (ns : List Int), K.In base → base.Ns mainGlobals mg → TabB base mg c T → Room k (callerA.deeper (envOfC "law" (defScope st) s.heap.objs.size fa (.ref c))) → H T = some (.tbl #[]) → a ≠ T → SqL K H a (ns.map V.int) → ns.length ≤ 63 → (∀ z ∈ ns, Builtin.Int.intBits z ≤ 1048576) →
      ∃ t, PSs (cxOf (L2.CX P w) P w K mg base N "law" (defScope st) fa (.ref c) callerA [] s H (fun _ _ _ => False)) (defBody st) t ∧ t { nx := fun _ H' => V.non = .bl true, rt := fun v _ => v = .bl true } (L2.start N [.ref a]) H) : LawRun P w K mg fa c T := by
  intro base H s a ns KB hG TB e0 HT naT hS hl hz
  obtain ⟨oc, od, kV, doc, pm, an, cdv, ct, osl, rfl, lk, hcd⟩ := F.ex
  have hc' : cdv = .ref c := hc
  subst hc'
  refine run_ofS (N := N) (ps := ["script"]) (us := [.ref a]) (vs := [.ref a]) lk hcd Sc hr e0 (hb s [.ref a] (e0.mod.kin.keeps fun b o e => (e0.bs b o e).1) rfl) (.cons rfl .nil) rfl fun hr' => ?_
  exact hbody base s H a ns KB hG TB hr' HT naT hS hl hz
end Dl

set_option Elab.async false
set_option linter.all false
set_option maxRecDepth 100000
set_option maxHeartbeats 4000000
/-! Dlu: short words. -/
namespace Dl
open PySem PySem.Spec PyProof.Rows L2
section
variable {S : Cf} {ρ : Rho} {te ta tb tc td : TE} {x y z u : D}
theorem ev_tup1 (h1 : Ev S ta ρ (Eq (.dat x))) : Ev S (tTup (tCons ta tNil)) ρ (Eq (.dat (.tuple [x]))) := ev_tup (ds := [x]) (ea_cons h1 ea_nil) (by simp)
theorem ev_tup2 (h1 : Ev S ta ρ (Eq (.dat x))) (h2 : Ev S tb ρ (Eq (.dat y))) : Ev S (tTup (tCons ta (tCons tb tNil))) ρ (Eq (.dat (.tuple [x, y]))) := ev_tup (ds := [x, y]) (ea_cons h1 (ea_cons h2 ea_nil)) (by simp)
theorem ev_tup3 (h1 : Ev S ta ρ (Eq (.dat x))) (h2 : Ev S tb ρ (Eq (.dat y))) (h3 : Ev S tc ρ (Eq (.dat z))) : Ev S (tTup (tCons ta (tCons tb (tCons tc tNil)))) ρ (Eq (.dat (.tuple [x, y, z]))) := ev_tup (ds := [x, y, z]) (ea_cons h1 (ea_cons h2 (ea_cons h3 ea_nil))) (by simp)
theorem ev_tup4 (h1 : Ev S ta ρ (Eq (.dat x))) (h2 : Ev S tb ρ (Eq (.dat y))) (h3 : Ev S tc ρ (Eq (.dat z))) (h4 : Ev S td ρ (Eq (.dat u))) : Ev S (tTup (tCons ta (tCons tb (tCons tc (tCons td tNil))))) ρ (Eq (.dat (.tuple [x, y, z, u]))) :=
  ev_tup (ds := [x, y, z, u]) (ea_cons h1 (ea_cons h2 (ea_cons h3 (ea_cons h4 ea_nil)))) (by simp)
theorem ev_lst0 : Ev S (tLst tNil) ρ (Eq (.dat (.list []))) := ev_lst (ds := []) ea_nil (by decide)
theorem ea_datP {tr : TA} {x : D} {ds : List D} (h : Ev S ta ρ (Eq (.dat x))) (hr : EvA S tr ρ (Eq (ds.map Sl.dat))) : EvA S (tCons ta tr) ρ (Eq ((x :: ds).map Sl.dat)) := ea_cons h hr
theorem ea_dat0 : EvA S tNil ρ (Eq (([] : List D).map Sl.dat)) := ea_nil
/-! ints compared by == and != -/
theorem eqv_int (i j : Int) : PyData.eqv (.int i) (.int j) = decide (i = j) := by
  simp only [PyData.eqv]
  rfl
theorem ev_eqI {i j : Int} (h1 : Ev S ta ρ (Eq (.dat (.int i)))) (h2 : Ev S tb ρ (Eq (.dat (.int j)))) : Ev S (tOp (rEqD S.K) ta tb) ρ (Eq (.dat (.bool (decide (i = j))))) := (ev_eqD h1 h2 rfl rfl).cast (by rw [eqv_int])
theorem ev_neI {i j : Int} (h1 : Ev S ta ρ (Eq (.dat (.int i)))) (h2 : Ev S tb ρ (Eq (.dat (.int j)))) : Ev S (tOp (rNeD S.K) ta tb) ρ (Eq (.dat (.bool (!decide (i = j))))) := (ev_neD h1 h2 rfl rfl).cast (by rw [eqv_int])
theorem ev_isB {b b' : Bool} (h : Ev S ta ρ (Eq (.dat (.bool b)))) (e : b = b') : Ev S ta ρ (Eq (.dat (.bool b'))) := e ▸ h
/-! isinstance -/
def dInt : D → Bool
  | .int _ => true
  | .bool _ => true
  | _ => false
def dBool : D → Bool
  | .bool _ => true
  | _ => false
def dStr : D → Bool
  | .str _ => true
  | _ => false
def dList : D → Bool
  | .list _ => true
  | _ => false
def dTuple : D → Bool
  | .tuple _ => true
  | _ => false
def dDict : D → Bool
  | .dict _ => true
  | _ => false
theorem ev_isInt {d : D} (h : Ev S te ρ (Eq (.dat d))) : Ev S (tCB (rIsY S.K) (tCons te (tCons (tC (.ty "int")) tNil))) ρ (Eq (.dat (.bool (dInt d)))) := ev_isi h (by cases d <;> kernel_rfl)
theorem ev_isBool {d : D} (h : Ev S te ρ (Eq (.dat d))) : Ev S (tCB (rIsY S.K) (tCons te (tCons (tC (.ty "bool")) tNil))) ρ (Eq (.dat (.bool (dBool d)))) := ev_isi h (by cases d <;> kernel_rfl)
theorem ev_isStr {d : D} (h : Ev S te ρ (Eq (.dat d))) : Ev S (tCB (rIsY S.K) (tCons te (tCons (tC (.ty "str")) tNil))) ρ (Eq (.dat (.bool (dStr d)))) := ev_isi h (by cases d <;> kernel_rfl)
theorem ev_isList {d : D} (h : Ev S te ρ (Eq (.dat d))) : Ev S (tCB (rIsY S.K) (tCons te (tCons (tC (.ty "list")) tNil))) ρ (Eq (.dat (.bool (dList d)))) := ev_isi h (by cases d <;> kernel_rfl)
theorem ev_isTuple {d : D} (h : Ev S te ρ (Eq (.dat d))) : Ev S (tCB (rIsY S.K) (tCons te (tCons (tC (.ty "tuple")) tNil))) ρ (Eq (.dat (.bool (dTuple d)))) := ev_isi h (by cases d <;> kernel_rfl)
theorem ev_isDict {d : D} (h : Ev S te ρ (Eq (.dat d))) : Ev S (tCB (rIsY S.K) (tCons te (tCons (tC (.ty "dict")) tNil))) ρ (Eq (.dat (.bool (dDict d)))) := ev_isi h (by cases d <;> kernel_rfl)
theorem ev_isTL {d : D} (h : Ev S te ρ (Eq (.dat d))) : Ev S (tCB (rIsYT S.K) (tCons te (tCons (tTup (tCons (tC (.ty "tuple")) (tCons (tC (.ty "list")) tNil))) tNil))) ρ (Eq (.dat (.bool (dTuple d || dList d)))) := ev_isi2 h (by cases d <;> kernel_rfl) (by cases d <;> kernel_rfl)
theorem ev_isLT {d : D} (h : Ev S te ρ (Eq (.dat d))) : Ev S (tCB (rIsYT S.K) (tCons te (tCons (tTup (tCons (tC (.ty "list")) (tCons (tC (.ty "tuple")) tNil))) tNil))) ρ (Eq (.dat (.bool (dList d || dTuple d)))) := ev_isi2 h (by cases d <;> kernel_rfl) (by cases d <;> kernel_rfl)
theorem ev_andF (h : Ev S ta ρ (Eq (.dat (.bool false)))) : Ev S (tAndV ta tb) ρ (Eq (.dat (.bool false))) := ev_andV (a := false) (b := false) h fun z => by cases z
theorem ev_orT (h : Ev S ta ρ (Eq (.dat (.bool true)))) : Ev S (tOrV ta tb) ρ (Eq (.dat (.bool true))) := ev_orV (a := true) (b := true) h fun z => by cases z
theorem et_andF {tt uu : TT} (h : EvT S tt ρ (Eq false)) : EvT S (tAnd tt uu) ρ (Eq false) := et_and (a := false) (b := false) h fun z => by cases z
theorem et_orT {tt uu : TT} (h : EvT S tt ρ (Eq true)) : EvT S (tOr tt uu) ρ (Eq true) := et_or (a := true) (b := true) h fun z => by cases z
/-- all([e for x in xs]) -/
theorem ev_allMap {wi : TI} {g : TG} {vs : List Nat} {ds : List D} {p : D → Bool} (hi : Itm S wi ρ (Eq ds)) (hl : ds.length ≤ 1000000)
    (hs : ∀ d, d ∈ ds → ∃ js ρ2, (∀ j ∈ js, j ∈ vs) ∧ Tgt S g js d (wipeR ρ vs) ρ2 ∧ Ev S te ρ2 (Eq (.dat (.bool (p d))))) : Ev S (tCB (rAll S.K) (tCons (tLc wi g tYes te vs) tNil)) ρ (Eq (.dat (.bool (ds.all p)))) := by
  have h := (ef_map (f := fun d => .bool (p d)) hi hl hs).evE
  have e : ds.map (fun d => PyData.bool (p d)) = (ds.map p).map PyData.bool := by rw [List.map_map]; rfl
  rw [e] at h
  refine (ev_all h).cast ?_
  rw [List.all_map]
  rfl
/-! statements that follow one another -/
variable {P : Oc → Prop} {t w : TS} {g : TG} {tt : TT} {ts us : TS}
theorem xs_asg {i : Nat} {s : Sl} (h : Ev S te ρ (Eq s)) (k : Xc S w (ρ.set i s) P) : Xc S (tSeq (tAsg te (gName i)) w) ρ P := xc_seq (xc_asg h k)
theorem xs_asgP {i : Nat} {p : Sl → Prop} (h : Ev S te ρ p) (k : ∀ s, p s → Xc S w (ρ.set i s) P) : Xc S (tSeq (tAsg te (gName i)) w) ρ P := xc_seq (xc_asgP h k)
theorem xs_asgF {i : Nat} {p : List D → Prop} (h : EvF S te ρ p) (k : ∀ a ds, p ds → Xc S w (ρ.set i (.own a (.lst ds))) P) : Xc S (tSeq (tAsg te (gName i)) w) ρ P := xc_seq (xc_asgF h k)
theorem xs_asgT {js : List Nat} {d : D} {ρ1 : Rho} (h : Ev S te ρ (Eq (.dat d))) (ht : Tgt S g js d ρ ρ1) (k : Xc S w ρ1 P) : Xc S (tSeq (tAsg te g) w) ρ P := xc_seq (xc_asgT h ht k)
theorem xs_par {i j : Nat} {ta : TA} {x y : Sl} (h : EvA S ta ρ (Eq [x, y])) (k : Xc S w ((ρ.set i x).set j y) P) : Xc S (tSeq (tPar i j ta) w) ρ P := xc_seq (xc_par h k)
theorem xs_if {b : Bool} (h : EvT S tt ρ (Eq b)) (h1 : b = true → Xc S ts ρ (SeqP S w P)) (h2 : b = false → Xc S us ρ (SeqP S w P)) : Xc S (tSeq (tIfS tt ts us) w) ρ P := xc_seq (xc_if h h1 h2)
/-- if t: ..(out), then the rest -/
theorem xs_when {b : Bool} (h : EvT S tt ρ (Eq b)) (h1 : b = true → Xc S ts ρ (SeqP S w P)) (h2 : b = false → Xc S w ρ P) : Xc S (tSeq (tIfS tt ts tNext) w) ρ P := xc_seq (xc_if h h1 fun e => xc_next (h2 e))
theorem xs_whenP {p : Bool → Prop} (h : EvT S tt ρ p) (h1 : p true → Xc S ts ρ (SeqP S w P)) (h2 : p false → Xc S w ρ P) : Xc S (tSeq (tIfS tt ts tNext) w) ρ P := xc_seq (xc_ifP h h1 fun e => xc_next (h2 e))
theorem xs_dropP {p : Sl → Prop} (h : Ev S te ρ p) (k : ∀ s, p s → Xc S w ρ P) : Xc S (tSeq (tDrop te) w) ρ P := xc_seq (xc_dropP h k)
theorem xs_ret {s : Sl} (h : Ev S te ρ (Eq s)) (k : P (.rt ρ s)) : Xc S (tRet te) ρ (SeqP S w P) := xc_ret h k
theorem xc_retB {b b' : Bool} (h : Ev S te ρ (Eq (.dat (.bool b)))) (e : b = b') : Xc S (tRet te) ρ (RetP (Eq (.ok (.dat (.bool b'))))) := xc_ret h (e ▸ rfl)
theorem xc_retD {d d' : D} (h : Ev S te ρ (Eq (.dat d))) (e : d = d') : Xc S (tRet te) ρ (RetP (Eq (.ok (.dat d')))) := xc_ret h (e ▸ rfl)
theorem xs_aug {i : Nat} {f : Int → Int → Int} {a b : Int} (hx : ρ[i]? = some (.dat (.int a))) (h : Ev S te ρ (Eq (.dat (.int b)))) (k : Xc S w (ρ.set i (.dat (.int (f a b)))) P) : Xc S (tSeq (tAug i te (ipI f)) w) ρ P := xc_seq (xc_aug hx h k)
theorem xs_callX {ι : Type} {args : ι → List Sl} {pre : ι → Prop} {post : ι → Re → Prop} {ta : TA} (i : ι) (ha : EvA S ta ρ (Eq (args i))) (hp : pre i) (ho : ∀ s, post i (.ok s) → Xc S w ρ P) (hx : ∀ C d, post i (.ex C d) → P (.ex C d)) :
    Xc S (tSeq (tDrop (tCall (spI S.K fx0 args pre post) [] S.E ta)) w) ρ P := xc_seq (xc_callX i ha hp ho hx)
theorem xs_for {wi : TI} {tb : TS} {ds : List D} (hi : Itm S wi ρ (Eq ds)) (I : Nat → Rho → Prop) (h0 : I 0 ρ)
    (hs : ∀ i d ρ1, ds[i]? = some d → I i ρ1 → ∃ js ρ2, Tgt S g js d ρ1 ρ2 ∧ Xc S tb ρ2 (LoopP (I (i + 1)) (SeqP S w P))) (hd : ∀ ρ1, I ds.length ρ1 → Xc S w ρ1 P) : Xc S (tSeq (tFor wi g tb) w) ρ P := xc_seq (xc_forE hi I h0 hs hd)
theorem xs_while {tb : TS} (I : Nat → Rho → Prop) (m0 : Nat) (h0 : I m0 ρ)
    (hs : ∀ m ρ1, I m ρ1 → EvT S tt ρ1 (fun b => if b = true then Xc S tb ρ1 (LoopP (fun ρ2 => ∃ m', m' < m ∧ I m' ρ2) (SeqP S w P)) else Xc S w ρ1 P)) : Xc S (tSeq (tWhile tt tb) w) ρ P := xc_seq (xc_while I m0 h0 hs)
theorem xs_append {i : Nat} {a : Addr} {ds : List D} {p : D → Prop} (hx : ρ[i]? = some (.own a (.lst ds))) (h : Ev S te ρ (fun s => ∃ d, s = .dat d ∧ p d)) (hl : ds.length < 1000000) (k : ∀ d, p d → Xc S w (ρ.set i (.own a (.lst (ds ++ [d])))) P) :
    Xc S (tSeq (tDrop (tBM S.K "list" rAppend (tVar i) (tCons te tNil))) w) ρ P := xc_seq (xc_append hx h hl k)
end
/-! ### defs by name -/
structure Cal (P : Program) (w : World) (K : PySem.W.Frag) (mg : Str → Option Value) (base : Heap) (k : Nat) (x : Str) (ps : List Str) (sp : Sp) : Prop where
  ex : ∃ (f : Addr) (fd : FuncData), FnOk P w K mg base (L2.CX P w) k f fd ps sp ∧ mg x = some (.ref f) ∧ PySem.W.keepIn K (.ref f) = true ∧ Binds K fd ps []
/-- where the text's def stands -/
def Def (K : PySem.W.Frag) (mg : Str → Option Value) (x : Str) (st : Stmt) : Prop := ∃ (f : Addr) (fd : FuncData), Fun K x x st f fd ∧ mg x = some (.ref f)
section
variable {P : Program} {w : World} {K : PySem.W.Frag} {mg : Str → Option Value} {base : Heap}
theorem mk_cal {ι : Type} {args : ι → List Sl} {pre : ι → Prop} {post : ι → Re → Prop} {fx : Fx} {x : Str} {st : Stmt} {N ps : List Str} {k : Nat} (T : Def K mg x st) (Sc : FnScope N ps (defScope st)) (hl : ∀ i, (args i).length = ps.length)
    (hb : ∀ (kV doc pm : Value) (an : Option Addr) (cdv ct : Value) (us : List Value), us.length = ps.length → bindArgs (PySem.W.fnOf x x (defArgs st) (defBody st) (defScope st) .none kV doc pm an cdv ct) ⟨us, []⟩ = pure (ps.zip us))
    (body : ∀ (f : Addr) (cdv : Value) (A : Around) (outer : List PySem.Env) (s : Shared) (H : Hp) (E : XK), Room k (A.deeper (envOfC x (defScope st) s.heap.objs.size f cdv)) → ∀ (i : ι), pre i →
      ∃ t, PSs (cxOf (L2.CX P w) P w K mg base N x (defScope st) f cdv A outer s H E) (defBody st) t ∧ ∀ G : Hp, Xc ⟨K, fx, G, H, E⟩ t (args i ++ List.replicate (N.length - ps.length) .no) (RetP (post i)))
    (hm : ∀ a, ¬ fx.mine a := by exact fun _ h => h) : Cal P w K mg base (k + 1) x ps (spI K fx args pre post) := by
  obtain ⟨f, fd, F, hmg⟩ := T
  exact ⟨f, fd, fn_ok F Sc (fun i _ => hl i) (fun cdv A outer s H E => body f cdv A outer s H E) hm, hmg, F.kp, F.binds hb⟩
variable {X : Cx} {k : Nat} {x : Str} {ps : List Str} {sp : Sp} {p pos : Pos} {e : Expr} {es : List Expr} {t : TA}
theorem pe_cal (C : Cal X.prog X.w X.K X.mg X.base k x ps sp) (hr : Room k X.A) (hg : Gl X x) (ha : PA X (e :: es) t) (hdb : (x == ("__debug__" : Str)) = false := by decide) (he : starEach (e :: es) X.env = (false, eval e X.env) :: starEach es X.env := by rfl)
    (hpl : (backTo pos (starEach es X.env)).any (·.1) = false := by rfl) : PE X (.Call (.Name x p) (e :: es) [] pos) (tCall sp [] E0 t) := by
  obtain ⟨f, fd, F, hm, hk, hb⟩ := C.ex
  exact pe_call F hr hg hm hk hb .nil passL ha hdb he hpl
/-- .. that may raise what leaves this def too -/
theorem pe_calX {E : XK} (C : Cal X.prog X.w X.K X.mg X.base k x ps sp) (hr : Room k X.A) (hg : Gl X x) (ha : PA X (e :: es) t) (tk : Takes X (fun cls d _ H => E cls d H)) (hdb : (x == ("__debug__" : Str)) = false := by decide) (he : starEach (e :: es) X.env = (false, eval e X.env) :: starEach es X.env := by rfl)
    (hpl : (backTo pos (starEach es X.env)).any (·.1) = false := by rfl) : PE X (.Call (.Name x p) (e :: es) [] pos) (tCall sp [] E t) := by
  obtain ⟨f, fd, F, hm, hk, hb⟩ := C.ex
  exact pe_call F hr hg hm hk hb .nil (passes_call tk fun _ _ _ _ h => h) ha hdb he hpl
theorem Cal.mono {j : Nat} (C : Cal P w K mg base j x ps sp) (h : j ≤ k) : Cal P w K mg base k x ps sp := by
  obtain ⟨f, fd, F, r⟩ := C.ex
  exact ⟨f, fd, F.mono h, r⟩
theorem u64 {k : Nat} {A : Around} (r : Room k A) : A.units + 64 < cLine := by
  have := r.un
  omega
theorem u65 {k : Nat} {A : Around} (r : Room k A) : A.units + 65 < cLine := by
  have := r.un
  omega
end
/-! ### constants of the module -/
section
variable {X : Cx} {x : Str} {pos : Pos}
theorem pe_gint {n : Int} (hg : Gl X x) (h : ∃ t, X.mg x = some (.int n t)) (hd : (x == ("__debug__" : Str)) = false := by decide) : PE X (.Name x pos) (tC (.int n)) := by
  obtain ⟨t, h⟩ := h
  exact pe_glob hg h ⟨t, rfl⟩ hd
theorem pe_gstr {n : Str} (hg : Gl X x) (h : ∃ t, X.mg x = some (.str n t)) (hd : (x == ("__debug__" : Str)) = false := by decide) : PE X (.Name x pos) (tC (.str n)) := by
  obtain ⟨t, h⟩ := h
  exact pe_glob hg h ⟨t, rfl⟩ hd
theorem pe_gref {a : Addr} (hg : Gl X x) (h : X.mg x = some (.ref a)) (hd : (x == ("__debug__" : Str)) = false := by decide) : PE X (.Name x pos) (tC (.ref a)) := pe_glob hg h rfl hd
end
/-! ### own errors -/
structure ErrC (K : PySem.W.Frag) (mg : Str → Option Value) (x : Str) (C fI : Addr) : Prop where
  gC : mg x = some (.ref C)
  oex : OexC K C
  nv : PySem.W.findIn K (.ref C) "value" = some none
  iC : PySem.W.findIn K (.ref C) "__init__" = some (some (.ref fI))
  tI : PySem.W.typeIn K (.ref fI) = some (.type "function")
  xf : XfC K C
structure IniF (P : Program) (w : World) (K : PySem.W.Frag) (mg : Str → Option Value) (base : Heap) (fI : Addr) : Prop where
  ex : ∃ fd : FuncData, FnOk P w K mg base CX0 1 fI fd ["self", "value"] (spIni K) ∧ Binds K fd ["self", "value"] []
section
variable {X : Cx} {x : Str} {C fI : Addr} {k : Nat} {e : Expr} {te : TE} {p pos pos' : Pos} {E : XK}
theorem ps_err (T : ErrC X.K X.mg x C fI) (I : IniF X.prog X.w X.K X.mg X.base fI) (hc : X.calm = true) (hr : Room (k + 2) X.A) (hg : Gl X x) (tk : Takes X (fun cls d _ H => E cls d H)) (he : PE X e te) (hdb : (x == ("__debug__" : Str)) = false := by decide)
    (hs : starEach [e] X.env = (false, eval e X.env) :: starEach [] X.env := by rfl) :
    PS X (.Raise (some (.Call (.Name x p) [e] [] pos)) none pos') (fun _ σ H => tMkO C (spIni X.K) [] (tCons te tNil) σ H fun cls d H' => E cls d H') := by
  obtain ⟨fd, F, hb⟩ := I.ex
  exact ps_raise hc tk (pmk_oex T.oex T.iC T.tI F (hr.mono (Nat.le_add_left 2 k)) hb .nil pass0 hg T.gC (pa_cons he pa_nil hs) hdb hs (by rfl))
end
end Dl

set_option Elab.async false
set_option linter.all false
set_option maxRecDepth 100000
set_option maxHeartbeats 4000000
/-! Dlr: the laws' own source of numbers: a row that is written again and again. -/
namespace Dl
open PySem PySem.Spec PyProof.Rows L2 LamX
/-! ### a raw promise of a def -/
section
variable {P : Program} {w : World} {K : PySem.W.Frag} {mg : Str → Option Value} {base : Heap}
theorem mk_calR {sp : Sp} {x : Str} {st : Stmt} {N ps : List Str} {k : Nat} (T : Def K mg x st) (Sc : FnScope N ps (defScope st)) (hl : ∀ vs H Q E, sp vs H Q E → vs.length = ps.length)
    (hb : ∀ (kV doc pm : Value) (an : Option Addr) (cdv ct : Value) (us : List Value), us.length = ps.length → bindArgs (PySem.W.fnOf x x (defArgs st) (defBody st) (defScope st) .none kV doc pm an cdv ct) ⟨us, []⟩ = pure (ps.zip us))
    (body : ∀ (f : Addr) (cdv : Value) (A : Around) (outer : List PySem.Env) (s : Shared) (H : Hp) (E : XK) (vs : List V) (Q : VK), Room k (A.deeper (envOfC x (defScope st) s.heap.objs.size f cdv)) → sp vs H Q E →
      ∃ t, PSs (cxOf (L2.CX P w) P w K mg base N x (defScope st) f cdv A outer s H E) (defBody st) t ∧ t { nx := fun _ H' => Q .non H', rt := Q } (L2.start N vs) H) :
    Cal P w K mg base (k + 1) x ps sp := by
  obtain ⟨f, fd, F, hm⟩ := T
  exact ⟨f, fd, F.okX Sc hl fun cdv A outer s H vs Q E hr h => body f cdv A outer s H E vs Q hr h, hm, F.kp, F.binds hb⟩
/-- a promise for each z -/
def spZ {Z : Type} (sp : Z → Sp) : Sp := fun vs H Q E => ∃ z, sp z vs H Q E
theorem mk_calZ {Z ι : Type} {args : Z → ι → List Sl} {pre : Z → ι → Prop} {post : Z → ι → Re → Prop} {fx : Z → Fx} {x : Str} {st : Stmt} {N ps : List Str} {k : Nat} (T : Def K mg x st) (Sc : FnScope N ps (defScope st)) (hl : ∀ z i, (args z i).length = ps.length)
    (hb : ∀ (kV doc pm : Value) (an : Option Addr) (cdv ct : Value) (us : List Value), us.length = ps.length → bindArgs (PySem.W.fnOf x x (defArgs st) (defBody st) (defScope st) .none kV doc pm an cdv ct) ⟨us, []⟩ = pure (ps.zip us))
    (body : ∀ (z : Z) (f : Addr) (cdv : Value) (A : Around) (outer : List PySem.Env) (s : Shared) (H : Hp) (E : XK), Room k (A.deeper (envOfC x (defScope st) s.heap.objs.size f cdv)) → ∀ (i : ι), pre z i →
      ∃ t, PSs (cxOf (L2.CX P w) P w K mg base N x (defScope st) f cdv A outer s H E) (defBody st) t ∧ ∀ G : Hp, Xc ⟨K, fx z, G, H, E⟩ t (args z i ++ List.replicate (N.length - ps.length) .no) (RetP (post z i)))
    (hm : ∀ z a, ¬ (fx z).mine a := by exact fun _ _ h => h) : Cal P w K mg base (k + 1) x ps (spZ fun z => spI K (fx z) (args z) (pre z) (post z)) := by
  obtain ⟨f, fd, F, hmg⟩ := T
  have h := fun z => fn_ok (base := base) (k := k) F Sc (fun i _ => hl z i) (fun cdv A outer s H E => body z f cdv A outer s H E) (hm z)
  exact ⟨f, fd, ⟨fun vs H Q E ⟨z, q⟩ => (h z).len vs H Q E q, fun A outer s H args us vs Q E hr he hbd hv ⟨z, q⟩ => (h z).run A outer s H args us vs Q E hr he hbd hv q⟩, hmg, F.kp, F.binds hb⟩
end
/-! ### values that change nothing -/
def Gv (te : TE) (σ : L2.St) (H : Hp) (v : V) : Prop := ∀ Q : VK, Q v H → te σ H Q
def Gt (tt : TT) (σ : L2.St) (H : Hp) (b : Bool) : Prop := ∀ Q : Bool → Hp → Prop, Q b H → tt σ H Q
section
variable {K : PySem.W.Frag} {σ : L2.St} {H : Hp} {ta tb te : TE} {i j k : Int} {v : V} {a : Addr} {xs : List V} {n : Nat}
theorem gv_int : Gv (tC (.int k)) σ H (.int k) := fun Q q => q
theorem gv_var (h : σ[n]? = some (some v)) : Gv (tVar n) σ H v := fun Q q => ⟨v, h, q⟩
theorem gv_I0 {f : Int → Int → Int} (ha : Gv ta σ H (.int i)) (hb : Gv tb σ H (.int j)) : Gv (tOp (rI0 fun i j => .int (f i j)) ta tb) σ H (.int (f i j)) := fun Q q => ha _ (hb _ ⟨i, j, rfl, rfl, q⟩)
theorem gv_C0 {f : Int → Int → Bool} (ha : Gv ta σ H (.int i)) (hb : Gv tb σ H (.int j)) : Gv (tOp (rI0 fun i j => .bl (f i j)) ta tb) σ H (.bl (f i j)) := fun Q q => ha _ (hb _ ⟨i, j, rfl, rfl, q⟩)
theorem gv_IC {C : Int → Int → Prop} {f : Int → Int → Int} (ha : Gv ta σ H (.int i)) (hb : Gv tb σ H (.int j)) (hc : C i j) : Gv (tOp (rI C fun i j => .int (f i j)) ta tb) σ H (.int (f i j)) := fun Q q => ha _ (hb _ ⟨i, j, rfl, rfl, hc, q⟩)
theorem gv_ix (ha : Gv ta σ H (.ref a)) (hb : Gv tb σ H (.int i)) (hl : SqL K H a xs) (hv : atI xs i = some v) : Gv (tOp (rIxL K) ta tb) σ H v := fun Q q => ha _ (hb _ ⟨a, xs, i, v, rfl, rfl, hl, hv, q⟩)
theorem gv_toInt (ha : Gv ta σ H (.int i)) : Gv (tCB (fun xs H Q => (∃ i, xs = [.int i] ∧ Q (.int i) H) ∨ ∃ k, xs = [.bl k] ∧ Q (.int (if k then 1 else 0)) H) (tCons ta tNil)) σ H (.int i) := fun Q q => ha _ (.inl ⟨i, rfl, q⟩)
theorem gv_len (ha : Gv ta σ H (.ref a)) (hl : SqL K H a xs) : Gv (tCB (fun xs H Q => ∃ p ys, xs = [.ref p] ∧ (SqL K H p ys ∨ SqT K H p ys) ∧ Q (.int ys.length) H) (tCons ta tNil)) σ H (.int xs.length) := fun Q q => ha _ ⟨a, xs, rfl, .inl hl, q⟩
theorem gt_test {b : Bool} (h : Gv te σ H (.bl b)) : Gt (tTest te) σ H b := fun Q q => h _ ⟨b, rfl, q⟩
variable {De : Ends} {t u w : TS} {tt : TT}
/-- if t: ..(out), then the rest -/
theorem gs_when {b : Bool} (h : Gt tt σ H b) (h1 : b = true → t { De with nx := w De } σ H) (h2 : b = false → w De σ H) : tSeq (tIfS tt t tNext) w De σ H := h _ (by
  cases b with
  | true => exact h1 rfl
  | false => exact h2 rfl)
theorem gs_asg (h : Gv te σ H v) (k : w De (σ.set n (some v)) H) : tSeq (tAsg te (gName n)) w De σ H := h _ k
theorem gs_ret (h : Gv te σ H v) (k : De.rt v H) : tRet te De σ H := h _ k
/-- row[k] = e -/
theorem gs_put {m : Nat} (h : Gv te σ H v) (ho : σ[m]? = some (some (.ref a))) (hl : H a = some (.lst xs)) (hi : ixN xs.length k = some n) (q : w De σ (upd H a (.lst (xs.set n v)))) : tSeq (tAsg te (gSub (tVar m) (tC (.int k)) rSetL)) w De σ H :=
  h _ ⟨.ref a, ho, a, xs, k, n, rfl, rfl, hl, hi, q⟩
theorem gs_put1 {m : Nat} (h : Gv te σ H v) (ho : σ[m]? = some (some (.ref a))) (hl : H a = some (.lst xs)) (hi : ixN xs.length k = some n) (q : De.nx σ (upd H a (.lst (xs.set n v)))) : tAsg te (gSub (tVar m) (tC (.int k)) rSetL) De σ H :=
  h _ ⟨.ref a, ho, a, xs, k, n, rfl, rfl, hl, hi, q⟩
theorem gs_if {b : Bool} (h : Gt tt σ H b) (h1 : b = true → t { De with nx := w De } σ H) (h2 : b = false → u { De with nx := w De } σ H) : tSeq (tIfS tt t u) w De σ H := h _ (by
  cases b with
  | true => exact h1 rfl
  | false => exact h2 rfl)
theorem upd_twice {H : Hp} {p : Addr} {o o' : HO} : upd (upd H p o) p o' = upd H p o' := by
  funext b
  by_cases e : b = p
  · subst e
    rw [upd_same, upd_same]
  · rw [upd_ne e, upd_ne e, upd_ne e]
theorem sq_upd {p : Addr} {o : HO} (h : SqL K H a xs) (n : p ≠ a) : SqL K (upd H p o) a xs := by
  rcases h with (h | ⟨o', h⟩) | h
  · exact .inl (.inl (by rw [upd_ne n.symm]; exact h))
  · exact .inl (.inr ⟨o', by rw [upd_ne n.symm]; exact h⟩)
  · exact .inr h
end
/-! ### the row -/
structure RowZ where
  r : Addr
  sc : Addr
  T : Addr
  q : Str
  vs : List Int
  t : Prop
def ScOk (K : PySem.W.Frag) (z : RowZ) (H : Hp) : Prop := (z.t ∧ H z.sc = some (.lst (z.vs.map V.int))) ∨ (∃ o, H z.sc = some (.frz o (.lst (z.vs.map V.int)))) ∨ (¬ z.t ∧ SqL K (fun _ => none) z.sc (z.vs.map V.int))
def rowHO (sc : Addr) (p m c : Int) : HO := .lst [.ref sc, .int p, .int m, .int c]
def RowAt (z : RowZ) (H : Hp) : Prop := ∃ p m c : Int, 0 ≤ p ∧ 0 ≤ m ∧ m < 2147483648 ∧ H z.r = some (rowHO z.sc p m c)
theorem row_ne {H : Hp} {r sc : Addr} {p m c : Int} {ns : List Int} (h1 : H r = some (rowHO sc p m c)) (h2 : H sc = some (.lst (ns.map V.int))) : r ≠ sc := fun q => by
  rw [q, h2] at h1
  cases ns with
  | nil => cases h1
  | cons n ns => cases h1
theorem row_neF {H : Hp} {r sc : Addr} {p m c : Int} {o : Obj} {u : HO} (h1 : H r = some (rowHO sc p m c)) (h2 : H sc = some (.frz o u)) : r ≠ sc := fun q => by
  rw [q, h2] at h1
  cases h1
theorem ScOk.sq {K : PySem.W.Frag} {z : RowZ} {H : Hp} (h : ScOk K z H) : SqL K H z.sc (z.vs.map V.int) := by
  rcases h with ⟨_, h⟩ | ⟨o, h⟩ | ⟨_, h⟩
  · exact .inl (.inl h)
  · exact .inl (.inr ⟨o, h⟩)
  · exact Same.seq (fun a o e => by cases e) h
theorem tabS_ext {H H' : Hp} {P : Addr} {q : Str} (e : ∀ a o, a = P ∨ Fixd o → H a = some o → H' a = some o) (h : TabS H P q) : TabS H' P q := by
  obtain ⟨ps, h1, h2, h3⟩ := h
  refine ⟨ps, e _ _ (.inl rfl) h1, h2, fun pos cv hc => ?_⟩
  obtain ⟨c, e1, e2⟩ := h3 pos cv hc
  exact ⟨c, e1, e c _ (.inr ⟨c, q, rfl⟩) e2⟩
theorem ScOk.sq' {K : PySem.W.Frag} {z : RowZ} {H : Hp} {p m c : Int} (hr : H z.r = some (rowHO z.sc p m c)) (h : ScOk K z H) (o : HO) : SqL K (upd H z.r o) z.sc (z.vs.map V.int) := by
  rcases h with ⟨_, h⟩ | ⟨o', h⟩ | ⟨_, h⟩
  · exact .inl (.inl (by rw [upd_ne (row_ne hr h).symm]; exact h))
  · exact .inl (.inr ⟨o', by rw [upd_ne (row_neF hr h).symm]; exact h⟩)
  · exact Same.seq (fun a o e => by cases e) h
def rowFx (K : PySem.W.Frag) (z : RowZ) : Fx where
  vol a := a = z.r ∨ a = z.T ∨ (a = z.sc ∧ z.t)
  mine _ := False
  inv H := RowAt z H ∧ ScOk K z H ∧ TabS H z.T z.q
  ext := fun {H H'} e ⟨⟨p, m, c, h1, h2, h3, h4⟩, h5, h6⟩ => ⟨⟨p, m, c, h1, h2, h3, e _ _ (.inl (.inl rfl)) h4⟩, by
    rcases h5 with ⟨t, h⟩ | ⟨o, h⟩ | h
    · exact .inl ⟨t, e _ _ (.inl (.inr (.inr ⟨rfl, t⟩))) h⟩
    · exact .inr (.inl ⟨o, e _ _ (.inr True.intro) h⟩)
    · exact .inr (.inr h), tabS_ext (fun a o q h => e a o (q.elim (fun q => .inl (.inr (.inl q))) .inr) h) h6⟩
  there := fun {H a} ⟨⟨p, m, c, h1, h2, h3, h4⟩, h5, h6⟩ hv => by
    rcases hv with rfl | rfl | ⟨rfl, t⟩
    · exact ⟨_, h4, fun z => z⟩
    · obtain ⟨ps, h, _⟩ := h6
      exact ⟨_, h, fun z => z⟩
    · rcases h5 with ⟨_, h⟩ | ⟨o, h⟩ | h
      · exact ⟨_, h, fun z => z⟩
      · exact ⟨_, h, fun z => z⟩
      · exact absurd t h.1
/-- what row and many give -/
def spTaken (K : PySem.W.Frag) : Sp := fun vs H Q _ => ∃ (r sc : Addr) (ns : List Int) (many p m c : Int), vs = [.ref r, .int many] ∧ 0 < many ∧ many < 1073741824 ∧ 0 ≤ p ∧ 0 ≤ m ∧ m < 2147483648 ∧ H r = some (rowHO sc p m c) ∧ SqL K H sc (ns.map V.int) ∧ (∀ o, SqL K (upd H r o) sc (ns.map V.int)) ∧
  ∀ x p' m' c' : Int, 0 ≤ x → x < many → 0 ≤ p' → 0 ≤ m' → m' < 2147483648 → Q (.int x) (upd H r (rowHO sc p' m' c'))
section
variable {K : PySem.W.Frag} {G0 B : Hp} {E : XK} {z : RowZ} {ρ : Rho} {te ti : TE}
theorem row_new {G H : Hp} (k : Kn (rowFx K z) G H) {p m c : Int} (h1 : 0 ≤ p) (h2 : 0 ≤ m) (h3 : m < 2147483648) : Grow (rowFx K z) G H G (upd H z.r (rowHO z.sc p m c)) ∧ Kn (rowFx K z) G (upd H z.r (rowHO z.sc p m c)) := by
  have hr : G z.r = none := k.vn _ (.inl rfl)
  have hs : Same G (upd H z.r (rowHO z.sc p m c)) := fun a o e => by
    have q : a ≠ z.r := fun q => by rw [q, hr] at e; cases e
    rw [upd_ne q]
    exact k.gh a o e
  obtain ⟨⟨p0, m0, c0, _, _, _, h4⟩, h5, ⟨ps, t1, t2, t3⟩⟩ := k.inv
  have nT : z.T ≠ z.r := fun q => by
    rw [q, h4] at t1
    cases t1
  refine ⟨⟨Same.refl G, hs, fun a o v e => ?_, fun _ _ _ _ h => h⟩, hs, ⟨⟨p, m, c, h1, h2, h3, upd_same⟩, ?_, ⟨ps, ?_, t2, fun pos cv hc => ?_⟩⟩, k.vn⟩
  · have q : a ≠ z.r := fun q => v (.inl q)
    rw [upd_ne q]
    exact e
  · rcases h5 with ⟨t, h⟩ | ⟨o, h⟩ | h
    · exact .inl ⟨t, by rw [upd_ne (row_ne h4 h).symm]; exact h⟩
    · exact .inr (.inl ⟨o, by rw [upd_ne (row_neF h4 h).symm]; exact h⟩)
    · exact .inr (.inr h)
  · rw [upd_ne nT]
    exact t1
  · obtain ⟨c', e1, e2⟩ := t3 pos cv hc
    have q : c' ≠ z.r := fun q => by
      rw [q, h4] at e2
      cases e2
    exact ⟨c', e1, by rw [upd_ne q]; exact e2⟩
/-- _law_taken(row, e) -/
theorem ev_taken {many : Int} {E' : XK} (hi : Ev ⟨K, rowFx K z, G0, B, E⟩ ti ρ (Eq (.raw (.ref z.r)))) (he : Ev ⟨K, rowFx K z, G0, B, E⟩ te ρ (Eq (.dat (.int many)))) (h0 : 0 < many) (h1 : many < 1073741824) :
    Ev ⟨K, rowFx K z, G0, B, E⟩ (tCall (spTaken K) [] E' (tCons ti (tCons te tNil))) ρ (fun s => ∃ x, s = .dat (.int x) ∧ 0 ≤ x ∧ x < many) := fun σ G H k e Q q =>
  hi σ G H k e _ fun v s G1 H1 g1 k1 es r1 => he σ G1 H1 k1 (e.grow g1) _ fun u s2 G2 H2 g2 k2 es2 r2 => by
    subst es es2
    cases r2
    cases (show v = _ from r1)
    obtain ⟨⟨p, m, c, a1, a2, a3, a4⟩, h5, h6⟩ := id k2.inv
    refine ⟨z.r, z.sc, z.vs, many, p, m, c, rfl, h0, h1, a1, a2, a3, a4, h5.sq, h5.sq' a4, fun x p' m' c' x0 x1 p0 m0 m1 => ?_⟩
    obtain ⟨g3, k3⟩ := row_new k2 (c := c') p0 m0 m1
    exact q _ _ G2 _ ((g1.trans k1 k2 g2).trans k2 k3 g3) k3 ⟨x, rfl, x0, x1⟩ (.int x)
/-- a def that may write where all may -/
theorem ev_callZ {Z ι : Type} {fx : Z → Fx} {args : Z → ι → List Sl} {pre : Z → ι → Prop} {post : Z → ι → Re → Prop} {ta : TA} {E' : XK} (y : Z) {P : Sl → Prop} {Pa : List Sl → Prop} (ha : EvA ⟨K, fx y, G0, B, E⟩ ta ρ Pa) (h : ∀ ss, Pa ss → ∃ i, ss = args y i ∧ pre y i ∧ (∀ s, post y i (.ok s) → P s) ∧ (∀ C d, ¬ post y i (.ex C d))) :
    Ev ⟨K, fx y, G0, B, E⟩ (tCall (spZ fun z => spI K (fx z) (args z) (pre z) (post z)) [] E' ta) ρ P := fun σ G H k e Q q =>
  ha σ G H k e _ fun vs ss G1 H1 g1 k1 p1 r1 => by
    obtain ⟨i, e1, hp, ho, hx⟩ := h ss p1
    subst e1
    rw [List.append_nil]
    exact ⟨y, i, G1, hp, k1, r1, fun v s G2 H2 g2 k2 r2 po => q v s G2 H2 (g1.trans k1 k2 g2) k2 (ho s po) r2, fun C d dd v G2 H2 _ _ _ _ po => absurd po (hx C d)⟩
end
section
variable {S : Cf} {ρ : Rho} {P : Oc → Prop} {w : TS} {ta : TA}
/-- a, b, c = e1, e2, e3 -/
theorem xc_par3 {i j l : Nat} {x y z : Sl} (h : EvA S ta ρ (Eq [x, y, z])) (hs : P (.nx (((ρ.set i x).set j y).set l z))) : Xc S (tPar3 i j l ta) ρ P := fun σ G H De o e f => h σ G H o.kn e _ fun vs ss G' H' g k p r => by
  subst p
  cases r with
  | cons r1 r =>
    cases r with
    | cons r2 r =>
      cases r with
      | cons r3 r =>
        cases r
        exact ⟨_, _, _, rfl, f.nx _ G' H' _ (o.grow g k) g.gg ((((e.grow g).set i r1).set j r2).set l r3) hs⟩
theorem xs_par3 {i j l : Nat} {x y z : Sl} (h : EvA S ta ρ (Eq [x, y, z])) (k : Xc S w (((ρ.set i x).set j y).set l z) P) : Xc S (tSeq (tPar3 i j l ta) w) ρ P := xc_seq (xc_par3 h k)
end
end Dl

set_option Elab.async false
set_option linter.all false
set_option maxRecDepth 100000
set_option maxHeartbeats 4000000
/-! Dlv: more of lists; loops over raw values; lambdas over the row. -/
namespace Dl
open PySem PySem.Spec PyProof.Rows L2 LamX
/-! ### xs + ys of any lists -/
def rCatL (K : PySem.W.Frag) : R2 := fun x y H Q => ∃ l b xs zs, x = .ref l ∧ y = .ref b ∧ SqL K H l xs ∧ SqL K H b zs ∧ xs.length + zs.length ≤ sizeLine ∧ ∀ p, H p = none → Q (.ref p) (upd H p (.lst (xs ++ zs)))
theorem op_catL {X : Cx} : OpR X (binaryOp .Add) (rCatL X.K) := by
  intro pins s σ H x y v u Q I rx ry h
  obtain ⟨l, b, xs, zs, rfl, rfl, hH, hB, hz, q⟩ := h
  cases rx
  cases ry
  obtain ⟨its, r, ⟨⟨c1, d1, t1, s1⟩, n, e, ec, ed, et⟩, z⟩ := I.list hH
  obtain ⟨its2, r2, ⟨⟨c2, d2, t2, s2⟩, n2, e2, ec2, ed2, et2⟩, z2⟩ := I.list hB
  simp only at ec ed et ec2 ed2 et2
  subst ec ed et ec2 ed2 et2
  have hsz : its.toArray.size + its2.toArray.size ≤ sizeLine := by
    rw [List.size_toArray, List.size_toArray, ← r.length, ← r2.length]
    exact hz
  refine concat_meets ⟨_, e, rfl⟩ ⟨_, e2, rfl⟩ noFill_list_add seq_list_add PySem.F.slot_list_add PySem.F.entry_list_add (PySem.F.args_list_add_2 _ _) (list_addW l b its.toArray its2.toArray n n2 none none s1 s2 hsz) ⟨e, e2, ?_⟩
  have ea : its.toArray ++ its2.toArray = (its ++ its2).toArray := by simp
  rw [ea]
  exact ⟨.ref _, _, I.lnew (t' := s.toks) (r.append r2) (by rw [List.length_append]; omega), rfl, q _ I.fresh⟩
section
variable {S : Cf} {ρ : Rho} {te ta tb : TE} {P : Oc → Prop} {w : TS}
theorem ef_catL {ds es : List D} (ha : EvL S ta ρ ds) (hb : EvL S tb ρ es) (hl : ds.length + es.length ≤ 1000000) : EvF S (tOp (rCatL S.K) ta tb) ρ (Eq (ds ++ es)) := fun σ G H k e Q q =>
  ha σ G H k e _ fun a vs G1 H1 g1 k1 st1 ra1 => hb σ G1 H1 k1 (e.grow g1) _ fun b ws G2 H2 g2 k2 st2 ra2 =>
    ⟨a, b, vs, ws, rfl, rfl, st1 G2 H2 g2, st2 _ _ (Grow.refl k2), sz_ok (by rw [ra1.length, ra2.length]; exact hl), fun p hp => by
      have g := g1.trans k1 k2 g2
      exact q p _ _ G2 _ (g.trans k2 (k2.same (same_new hp)) (Grow.same k2 (same_new hp))) (k2.same (same_new hp)) (fresh_of g k2 hp) (k2.freeG hp) upd_same ((ra1.mono g2.gg).append ra2) rfl⟩
theorem ef_rev {ds : List D} (ha : EvL S ta ρ ds) : EvF S (tRevL S.K ta) ρ (Eq ds.reverse) := fun σ G H k e Q q =>
  ha σ G H k e _ fun a vs G1 H1 g1 k1 st1 ra1 => ⟨a, vs, rfl, st1 _ _ (Grow.refl k1), fun p hp =>
    q p _ _ G1 _ (g1.trans k1 (k1.same (same_new hp)) (Grow.same k1 (same_new hp))) (k1.same (same_new hp)) (fresh_of g1 k1 hp) (k1.freeG hp) upd_same ra1.reverse rfl⟩
theorem RA.rep {K : PySem.W.Frag} {G : Hp} {vs : List V} {ds : List D} (h : RA K G vs ds) : ∀ n : Nat, RA K G (List.replicate n vs).flatten (List.replicate n ds).flatten
  | 0 => .nil
  | n + 1 => by
    rw [List.replicate_succ, List.replicate_succ, List.flatten_cons, List.flatten_cons]
    exact h.append (RA.rep h n)
/-- a list just made, times n -/
theorem ef_rep {ds : List D} {n : Nat} (ha : EvF S ta ρ (Eq ds)) (hb : Ev S tb ρ (Eq (.dat (.int (n : Nat))))) (hn : n ≤ 1000000) (hl : ds.length * n ≤ 1000000) : EvF S (tOp rRep ta tb) ρ (Eq (List.replicate n ds).flatten) := fun σ G H k e Q q =>
  ha σ G H k e _ fun a vs ds' G1 H1 g1 k1 n0 n1 ha1 ra1 ed => hb σ G1 H1 k1 (e.grow g1) _ fun y s G2 H2 g2 k2 es r2 => by
    subst ed es
    cases r2
    have va : ¬ S.fx.vol a := k.fresh n0
    have ha2 : H2 a = some (.lst vs) := g2.hh a _ va ha1
    refine ⟨a, (n : Nat), vs, rfl, rfl, ha2, by omega, by omega, sz_ok (by rw [Int.toNat_natCast, ra1.length]; exact hl), fun p hp => ?_⟩
    rw [Int.toNat_natCast]
    have g := g1.trans k1 k2 g2
    exact q p _ _ G2 _ (g.trans k2 (k2.same (same_new hp)) (Grow.same k2 (same_new hp))) (k2.same (same_new hp)) (fresh_of g k2 hp) (k2.freeG hp) upd_same ((ra1.mono g2.gg).rep n) rfl
/-- strings that are alike -/
theorem ev_neS {x y : Str} (ha : Ev S ta ρ (Eq (.dat (.str x)))) (hb : Ev S tb ρ (Eq (.dat (.str y)))) : Ev S (tOp rNe ta tb) ρ (Eq (.dat (.bool (!decide (x = y))))) :=
  ev_op' ha hb (opd_here (z := .bl (!decide (x = y))) fun G H v w k rx ry => ⟨.bl _, fun Q q => by
    cases rx
    cases ry
    refine ⟨rfl, ?_⟩
    rw [show decide (V.str x = V.str y) = decide (x = y) by rw [decide_eq_decide]; exact ⟨V.str.inj, congrArg V.str⟩]
    exact q⟩)
theorem ev_eqS {x y : Str} (ha : Ev S ta ρ (Eq (.dat (.str x)))) (hb : Ev S tb ρ (Eq (.dat (.str y)))) : Ev S (tOp rEq ta tb) ρ (Eq (.dat (.bool (decide (x = y))))) :=
  ev_op' ha hb (opd_here (z := .bl (decide (x = y))) fun G H v w k rx ry => ⟨.bl _, fun Q q => by
    cases rx
    cases ry
    refine ⟨rfl, ?_⟩
    rw [show decide (V.str x = V.str y) = decide (x = y) by rw [decide_eq_decide]; exact ⟨V.str.inj, congrArg V.str⟩]
    exact q⟩)
/-- a, b = e1, e2, not told -/
theorem xc_parP {i j : Nat} {ta : TA} {p : Sl → Sl → Prop} (h : EvA S ta ρ (fun ss => ∃ x y, ss = [x, y] ∧ p x y)) (hs : ∀ x y, p x y → P (.nx ((ρ.set i x).set j y))) : Xc S (tPar i j ta) ρ P := fun σ G H De o e f => h σ G H o.kn e _ fun vs ss G' H' g k ⟨x, y, es, pp⟩ r => by
  subst es
  cases r with
  | cons r1 r =>
    cases r with
    | cons r2 r =>
      cases r
      exact ⟨_, _, rfl, f.nx _ G' H' _ (o.grow g k) g.gg (((e.grow g).set i r1).set j r2) (hs x y pp)⟩
theorem xs_parP {i j : Nat} {ta : TA} {p : Sl → Sl → Prop} (h : EvA S ta ρ (fun ss => ∃ x y, ss = [x, y] ∧ p x y)) (k : ∀ x y, p x y → Xc S w ((ρ.set i x).set j y) P) : Xc S (tSeq (tPar i j ta) w) ρ P := xc_seq (xc_parP h k)
theorem ea_two {Pa Pb : Sl → Prop} (ha : Ev S ta ρ Pa) (hb : Ev S tb ρ Pb) : EvA S (tCons ta (tCons tb tNil)) ρ (fun ss => ∃ x y, ss = [x, y] ∧ Pa x ∧ Pb y) :=
  ea_consP ha (ea_consP (P := fun ss => ∃ y, ss = [y] ∧ Pb y) hb ea_nil fun y ys h e => ⟨y, by rw [← e], h⟩) fun x xs h ⟨y, e, hy⟩ => ⟨x, y, by rw [e], h, hy⟩
theorem xs_freeze {i : Nat} {a : Addr} {ds : List D} (h : ρ[i]? = some (.own a (.lst ds))) (hs : Xc S w (ρ.set i (.dat (.list ds))) P) : Xc S w ρ P := xc_freeze h hs
/-! ### for x in [f, g, ..], the values raw -/
theorem RSs.raws {K : PySem.W.Frag} {G : Hp} : ∀ {vs ws : List V}, RSs K G vs (ws.map Sl.raw) → vs = ws
  | _, [], h => by
    cases h
    rfl
  | _, w :: ws, h => by
    cases h with
    | cons h1 h2 => rw [RSs.raws h2, show _ = w from h1]
theorem xc_forR {ta : TA} {tb : TS} {j : Nat} {ws : List V} (hi : EvA S ta ρ (Eq (ws.map Sl.raw))) (hl : ws.length ≤ 1000000) (I : Nat → Rho → Prop) (h0 : I 0 ρ)
    (hs : ∀ i v ρ1, ws[i]? = some v → I i ρ1 → Xc S tb (ρ1.set j (.raw v)) (LoopP (I (i + 1)) P)) (hd : ∀ ρ1, I ws.length ρ1 → P (.nx ρ1)) : Xc S (tFor (iList S.K (tLst ta)) (gName j) tb) ρ P := fun σ G H De o e f =>
  hi σ G H o.kn e _ fun vs ss G0 H0 g0 k0 es rs => by
    subst es
    obtain rfl := rs.raws
    refine ⟨sz_ok hl, fun p hp => ?_⟩
    have g1 := Grow.new k0 (.lst vs) hp
    have k1 := Kn.new k0 (.lst vs) hp
    have o1 := (o.grow g0 k0).grow g1 k1
    have hG : (upd G0 p (.lst vs)) p = some (.lst vs) := upd_same
    refine ⟨p, rfl, ⟨vs, SqL.of upd_same⟩, ?_⟩
    have gg := g0.trans k0 k1 g1
    revert hG o1 gg
    generalize upd G0 p (.lst vs) = G1
    intro o1 hG gg
    refine ⟨fun i m σ H => m = vs.length - i ∧ i ≤ vs.length ∧ ∃ G ρ', OkS S G H ∧ Same G1 G ∧ Env S G H σ ρ' ∧ I i ρ', ⟨_, rfl, Nat.zero_le _, G1, ρ, o1, Same.refl _, e.grow gg, h0⟩, ?_⟩
    rintro i m σ2 H2 ⟨rfl, hi, G2, ρ2, o2, s2, e2, hI⟩
    have hs2 : SqL S.K H2 p vs := SqL.of ((s2.trans o2.kn.gh) _ _ hG)
    by_cases hlt : i < vs.length
    · refine .inr ⟨⟨vs, vs[i], hs2, by simp [hlt]⟩, fun σ' H' => ∃ G ρ', OkS S G H' ∧ Same G1 G ∧ Env S G H' σ' ρ' ∧ I (i + 1) ρ', fun σ' H' ⟨G', ρ', q⟩ => ⟨vs.length - (i + 1), by omega, rfl, hlt, G', ρ', q⟩, fun x H3 hy => ?_⟩
      obtain ⟨eh, hx⟩ := hy
      subst eh
      have hx := hx vs hs2
      refine hs i x ρ2 hx hI _ G2 H3 _ o2 (e2.set j (s := .raw x) rfl) ?_
      exact ⟨fun σ' G' H' ρ' o' s' e' p' => ⟨G', ρ', o', s2.trans s', e', p'⟩, fun σ' G' H' ρ' o' s' e' p' => f.nx σ' G' H' ρ' o' ((gg.gg.trans s2).trans s') e' p', fun σ' G' H' ρ' o' s' e' p' => ⟨G', ρ', o', s2.trans s', e', p'⟩, f.rt, f.ex⟩
    · have e' : i = vs.length := by omega
      subst e'
      exact .inl ⟨⟨vs, hs2, Nat.le_refl _⟩, f.nx σ2 G2 H2 ρ2 o2 (gg.gg.trans s2) e2 (hd ρ2 hI)⟩
theorem xs_forR {ta : TA} {tb : TS} {j : Nat} {ws : List V} (hi : EvA S ta ρ (Eq (ws.map Sl.raw))) (hl : ws.length ≤ 1000000) (I : Nat → Rho → Prop) (h0 : I 0 ρ)
    (hs : ∀ i v ρ1, ws[i]? = some v → I i ρ1 → Xc S tb (ρ1.set j (.raw v)) (LoopP (I (i + 1)) (SeqP S w P))) (hd : ∀ ρ1, I ws.length ρ1 → Xc S w ρ1 P) : Xc S (tSeq (tFor (iList S.K (tLst ta)) (gName j) tb) w) ρ P := xc_seq (xc_forR hi hl I h0 hs hd)
end
/-! ### one of two readings -/
def tAlt (t1 t2 : TE) : TE := fun σ H Q => t1 σ H Q ∨ t2 σ H Q
theorem pe_alt {X : Cx} {e : Expr} {t1 t2 : TE} (h1 : PE X e t1) (h2 : PE X e t2) : PE X e (tAlt t1 t2) := ⟨fun pins s σ H Q I h => h.elim (h1.run pins s σ H Q I) (h2.run pins s σ H Q I)⟩
section
variable {S : Cf} {ρ : Rho} {t1 t2 : XK → TE} {Pok : Sl → Prop} {Pex : Addr → D → Prop}
theorem evx_alt1 (h : EvX S t1 ρ Pok Pex) : EvX S (fun E => tAlt (t1 E) (t2 E)) ρ Pok Pex := fun σ G H k e E Q q1 q2 => .inl (h σ G H k e E Q q1 q2)
theorem evx_alt2 (h : EvX S t2 ρ Pok Pex) : EvX S (fun E => tAlt (t1 E) (t2 E)) ρ Pok Pex := fun σ G H k e E Q q1 q2 => .inr (h σ G H k e E Q q1 q2)
end
/-! ### lambdas over the row -/
section
variable {K : PySem.W.Frag} {G0 B : Hp} {E : XK} {z : RowZ} {ρ : Rho} {C : Addr} {w : Str} {d : D} {cs : List (Addr × Str)} {t : XK → TE}
theorem row_ext {H H1 : Hp} (i : (rowFx K z).inv H) (e : ExtP z.T H H1) (T1 : TabS H1 z.T z.q) : (rowFx K z).inv H1 := by
  obtain ⟨⟨p, m, c, a1, a2, a3, a4⟩, h5, ⟨ps, t1, _, _⟩⟩ := i
  have nr : z.r ≠ z.T := fun q => by
    rw [q, t1] at a4
    cases a4
  refine ⟨⟨p, m, c, a1, a2, a3, e _ _ nr a4⟩, ?_, T1⟩
  rcases h5 with ⟨t, h⟩ | ⟨o, h⟩ | h
  · exact .inl ⟨t, e _ _ (fun q => by rw [q, t1] at h; cases h) h⟩
  · exact .inr (.inl ⟨o, e _ _ (fun q => by rw [q, t1] at h; cases h) h⟩)
  · exact .inr (.inr h)
theorem ev_ref (ht : Told K C w cs) (h : EvX ⟨K, rowFx K z, G0, B, E⟩ t ρ (fun _ => False) (fun C' d' => C' = C ∧ d' = d)) : Ev ⟨K, rowFx K z, G0, B, E⟩ (tLamP z.T z.q (TRef K cs) t) ρ (Eq (.dat (.tuple [.str w, d]))) :=
  ev_lam (fun H i => i.2.2) (.inr (.inl rfl)) (fun H H1 i e T1 => row_ext i e T1) h (fun s hs => hs.elim) fun C' d' ⟨e1, e2⟩ => ⟨w, by rw [e1]; exact ht, by rw [e2]⟩
end
/-! ### a def that a slot holds; the def that asks -/
section
variable {X : Cx} {k i : Nat} {x y : Str} {ps : List Str} {sp : Sp} {p pos : Pos} {e : Expr} {es : List Expr} {t : TA} {E : XK} {f : Addr}
theorem pe_calL (C : Cal X.prog X.w X.K X.mg X.base k x ps sp) (hf : X.mg x = some (.ref f)) (hr : Room k X.A) (hN : X.N[i]? = some y) (hv : Vis X.env.scope y) (ha : PA X (e :: es) t) (tk : Takes X (fun cls d _ H => E cls d H)) (hdb : (y == ("__debug__" : Str)) = false := by decide)
    (hcd : (y == ("__classdict__" : Str)) = false := by decide) (he : starEach (e :: es) X.env = (false, eval e X.env) :: starEach es X.env := by rfl) (hpl : (backTo pos (starEach es X.env)).any (·.1) = false := by rfl) : PE X (.Call (.Name y p) (e :: es) [] pos) (tCallL i f sp [] E t) := by
  obtain ⟨f', fd, F, hm, hk, hb⟩ := C.ex
  rw [hf] at hm
  cases hm
  exact pe_callL F hr hN hv hk hb .nil (passes_call tk fun _ _ _ _ h => h) ha hdb hcd he hpl
end
section
variable {P : Program} {w : World} {K : PySem.W.Frag} {mg : Str → Option Value} {base : Heap} {N : List Str} {sc : Scope} {fa c Tb : Addr} {A : Around} {s : Shared} {H : Hp} {E : XK}
theorem ask_ok {x : Str} {st : Stmt} {cs : List (Addr × Str)} (D : Def K mg x st) (Sg : FnScope ["ask", "e"] ["ask"] (defScope st)) (hv : Vis (defScope st) "ask") (tb : TabB base mg c Tb) (d1 : (x == ("__debug__" : Str)) = false)
    (hb : ∀ (kV doc pm : Value) (an : Option Addr) (cdv ct : Value) (us : List Value), us.length = 1 → bindArgs (PySem.W.fnOf x x (defArgs st) (defBody st) (defScope st) .none kV doc pm an cdv ct) ⟨us, []⟩ = pure ((["ask"] : List Str).zip us))
    (hG : ∀ (g : Addr) (cdg : Value), GivesTo (cxOf (L2.CX P w) P w K mg base N "law" sc fa (.ref c) A [] s H E) ["ask", "e"] x (defScope st) g cdg (defBody st) "ask" ((cxOf (L2.CX P w) P w K mg base N "law" sc fa (.ref c) A [] s H E).env.qual ++ "<lambda>") (TRef K cs)) :
    ∃ g, AskOk (cxOf (L2.CX P w) P w K mg base N "law" sc fa (.ref c) A [] s H E) x "ask" ["ask", "e"] g c Tb (TRef K cs) := by
  obtain ⟨g, fd, F, hm⟩ := D
  have kp := F.kp
  have bd := F.binds (ps := ["ask"]) hb
  obtain ⟨oc, od, kV, doc, pm, an, cdv, ct, osl, rfl, lk, hcd⟩ := F.ex
  exact ⟨g, hm, kp, ⟨_, _, _, _, _, _, _, _, _, _, _, _, _, lk, hcd, bd, Sg, hv, hG g cdv⟩, rfl, tb, rfl, d1, by decide, by decide⟩
end
/-! ### the start of a law -/
section
variable {K : PySem.W.Frag} {H : Hp} {a Tb p : Addr} {q : Str} {ns : List Int}
theorem law_start (hT : H Tb = some (.tbl #[])) (hS : SqL K H a (ns.map V.int)) (hp : H p = none) (b m : Int) (hb : 0 ≤ b) (h0 : 0 ≤ m) (h1 : m < 2147483648) (x : Int) : ∃ t : Prop, Kn (rowFx K ⟨p, a, Tb, q, ns, t⟩) (fun _ => none) (upd H p (rowHO a b m x)) := by
  have hx : ∃ t : Prop, (t ∧ H a = some (.lst (ns.map V.int))) ∨ (∃ o, H a = some (.frz o (.lst (ns.map V.int)))) ∨ (¬ t ∧ SqL K (fun _ => none) a (ns.map V.int)) := by
    rcases hS with (h | ⟨o, h⟩) | h
    · exact ⟨True, .inl ⟨trivial, h⟩⟩
    · exact ⟨False, .inr (.inl ⟨o, h⟩)⟩
    · exact ⟨False, .inr (.inr ⟨id, .inr h⟩)⟩
  obtain ⟨t, ht⟩ := hx
  refine ⟨t, fun a o e => (by cases e), ⟨⟨b, m, x, hb, h0, h1, upd_same⟩, ?_, ⟨#[], ?_, ?_, fun pos cv hc => ?_⟩⟩, fun _ _ => rfl⟩
  · rcases ht with ⟨t, h⟩ | ⟨o, h⟩ | h
    · exact .inl ⟨t, by show upd H p _ a = _; rw [upd_ne (ne_of_none h hp)]; exact h⟩
    · exact .inr (.inl ⟨o, by show upd H p _ a = _; rw [upd_ne (ne_of_none h hp)]; exact h⟩)
    · exact .inr (.inr h)
  · show upd H p _ Tb = _
    rw [upd_ne (ne_of_none hT hp)]
    exact hT
  · trivial
  · cases hc
theorem xs_row {i : Nat} {m : Int} {w : TS} {De : Ends} {σ : L2.St} (h0 : σ[0]? = some (some (.ref a))) (k : ∀ p, H p = none → w De (σ.set i (some (.ref p))) (upd H p (rowHO a 0 m 0))) :
    tSeq (tAsg (tLst (tCons (tVar 0) (tCons (tC (.int 0)) (tCons (tC (.int m)) (tCons (tC (.int 0)) tNil))))) (gName i)) w De σ H := ⟨.ref a, h0, (by show 4 ≤ sizeLine; decide), fun p hp => k p hp⟩
theorem xc_start {fx : Fx} {t : TS} {σ : L2.St} {ρ : Rho} (k : Kn fx (fun _ => none) H) (e : Env ⟨K, fx, fun _ => none, H, fun _ _ _ => False⟩ (fun _ => none) H σ ρ) (h : Xc ⟨K, fx, fun _ => none, H, fun _ _ _ => False⟩ t ρ (RetP (Eq (.ok (.dat (.bool true)))))) (hm : ∀ a, ¬ fx.mine a := by exact fun _ h => h) :
    t { nx := fun _ H' => V.non = .bl true, rt := fun v _ => v = .bl true } σ H := by
  refine h σ _ H _ ⟨k, k, GrO.of (Grow.refl k), MnOk.none hm, MnOk.none hm⟩ e ⟨fun σ G' H' ρ o s e p => ?_, fun σ G' H' ρ o s e p => p.elim, fun σ G' H' ρ o s e p => p.elim, fun σ v s G' H' ρ o _ r p => ?_, fun C d dd v G' H' o hd r p => ?_⟩
  · cases (show Re.ok (.dat (.bool true)) = Re.ok (.dat .none) from p)
  · cases (show Re.ok (.dat (.bool true)) = Re.ok s from p)
    cases (show R K G' v (.bool true) from r)
    rfl
  · cases (show Re.ok (.dat (.bool true)) = Re.ex C d from p)
end
section
variable {S : Cf} {ρ : Rho} {ι : Type} {args : ι → List Sl} {pre : ι → Prop} {ta : TA} {E : XK} {r : ι → Re}
theorem ev_callV {s : Sl} (i : ι) (ha : EvA S ta ρ (Eq (args i))) (hp : pre i) (e : r i = .ok s) : Ev S (tCall (spI S.K fx0 args pre (fun i => Eq (r i))) [] E ta) ρ (Eq s) :=
  ev_call i ha hp (fun s' h => by rw [e] at h; exact Re.ok.inj h) fun C d h => by rw [e] at h; cases h
theorem evx_callV {C : Addr} {d : D} (i : ι) (ha : EvA S ta ρ (Eq (args i))) (hp : pre i) (e : r i = .ex C d) : EvX S (fun E => tCall (spI S.K fx0 args pre (fun i => Eq (r i))) [] E ta) ρ (fun _ => False) (fun C' d' => C' = C ∧ d' = d) :=
  evx_call i ha hp (fun s' h => by rw [e] at h; cases h) fun C' d' h => by
    rw [e] at h
    cases h
    exact ⟨rfl, rfl⟩
theorem evx_callLV {C : Addr} {d : D} {j : Nat} {f : Addr} (i : ι) (hj : ρ[j]? = some (.raw (.ref f))) (ha : EvA S ta ρ (Eq (args i))) (hp : pre i) (e : r i = .ex C d) : EvX S (fun E => tCallL j f (spI S.K fx0 args pre (fun i => Eq (r i))) [] E ta) ρ (fun _ => False) (fun C' d' => C' = C ∧ d' = d) :=
  evx_callL i hj ha hp (fun s' h => by rw [e] at h; cases h) fun C' d' h => by
    rw [e] at h
    cases h
    exact ⟨rfl, rfl⟩
theorem et_no {tt : TT} {b : Bool} (h : EvT S tt ρ (Eq b)) (e : b = false) : EvT S tt ρ (Eq false) := e ▸ h
end
end Dl

set_option Elab.async false
set_option linter.all false
set_option maxRecDepth 100000
set_option maxHeartbeats 4000000
/-! Dini: facts of the written part, put together. -/
namespace Dl
open PySem PySem.Spec PyProof.Rows L2 LamX
section
variable {P : Program} {w : World} {K : PySem.W.Frag} {mg : Str → Option Value} {base : Heap}
/-- __init__(self, value=None): self.value = value -/
theorem iniF_mk {fI : Addr} {fd : FuncData} {q : Str} {st : Stmt} {b1 b2 b3 b4 : Pos} (F : FunD K "__init__" q (defArgs st) (defBody st) (defScope st) [.non] [] fI fd) (Sc : FnScope ["self", "value"] ["self", "value"] (defScope st))
    (hs : (defScope st).names = [(PySem.Str.ofString "self", .local), (PySem.Str.ofString "value", .local)]) (hb : defBody st = [.Assign [.Attribute (.Name "self" b1) "value" b2] (.Name "value" b3) b4])
    (hbind : ∀ (T : Addr) (kV doc pm : Value) (an : Option Addr) (cdv ct : Value) (us its : List Value), us.length = 2 → its.length = 1 →
      ∃ k, bindArgs (PySem.W.fnOf "__init__" q (defArgs st) (defBody st) (defScope st) (.ref T) kV doc pm an cdv ct) ⟨us, []⟩ = seqItems? (.ref T) >>= k ∧ k (some its.toArray) = pure ((["self", "value"] : List Str).zip (us ++ its.drop 1))) : IniF P w K mg base fI := by
  obtain ⟨ds, hv, hB⟩ := F.binds1 (ps := ["self", "value"]) 2 1 (by simp) rfl fun T kV doc pm an cdv ct us its h1 h2 => hbind T kV doc pm an cdv ct us its h1 h2
  cases hv
  refine ⟨fd, F.ok (CX := CX0) Sc (fun vs H Q E h => ?_) fun cdv A outer s H vs Q E hr h => ?_, hB⟩
  · obtain ⟨a, C, v, rfl, _⟩ := h
    rfl
  · obtain ⟨a, C, v, rfl, T, nv, ha, k⟩ := h
    have v0 : Vis (cxOf CX0 P w K mg base ["self", "value"] q (defScope st) fI cdv A outer s H E).env.scope "self" := .inl (by show (defScope st).names.lookup _ = _; rw [hs]; decide +kernel)
    have v1 : Vis (cxOf CX0 P w K mg base ["self", "value"] q (defScope st) fI cdv A outer s H E).env.scope "value" := .inl (by show (defScope st).names.lookup _ = _; rw [hs]; decide +kernel)
    refine ⟨_, by rw [hb]; exact pss_one (ps_ost (pe_var (i := 0) rfl v0) (pe_var (i := 1) rfl v1)), ?_⟩
    exact ⟨v, rfl, .ref a, rfl, a, C, rfl, T, nv, .inl ⟨ha, fun dx h1 h2 => k dx h1 h2⟩⟩
theorem exm_of {cls : Value} {S : Addr} {b : Bool} (h1 : PySem.W.subIn K (.ref S) (.type "BaseException") = some true) (h2 : PySem.W.isClsIn K S = true) (h3 : PySem.W.typeIn K (.ref S) = some (.type "type")) (h4 : PySem.W.subIn K cls (.ref S) = some b) : PySem.W.exmOne K cls (.ref S) = some b := by
  have e1 : (PySem.W.subIn K (.ref S) (.type "BaseException") == some true) = true := by rw [h1] <;> rfl
  have e2 : ((PySem.W.clsIn K S).isSome && PySem.W.typeIn K (.ref S) == some (.type "type")) = true := by
    have h2' : (PySem.W.clsIn K S).isSome = true := h2
    rw [h2', h3] <;> rfl
  show (if (PySem.W.subIn K (.ref S) (.type "BaseException") == some true) = true then (if ((PySem.W.clsIn K S).isSome && PySem.W.typeIn K (.ref S) == some (.type "type")) = true then PySem.W.subIn K cls (.ref S) else none) else none) = some b
  rw [if_pos e1, if_pos e2]
  exact h4
/-- the law's code object -/
theorem lawFn_mk {fa c T : Addr} {oc : Value} {od oe' : Option Addr} {fd : FuncData} {sl sl' : Array (Option Value)} {vs : Array Value} {t18 : Tok} {x18 : Str} {i7 i10 : Int} {t7 t10 : Tok} {b9 : Bool} (l : K.lookup fa = some ⟨oc, od, .func fd, sl⟩) (hc : fd.code = .ref c) (lc : K.lookup c = some ⟨.type "code", oe', .fields vs, sl'⟩)
    (v11 : vs[11]? = some (.ref T)) (v18 : vs.getD 18 .none = .str x18 t18) (v7 : vs.getD 7 .none = .int i7 t7) (v9 : vs.getD 9 .none = .bool b9) (v10 : vs.getD 10 .none = .int i10 t10) (ne : (c != T) = true) (no : K.lookup T = none) : LawFn K fa c T := by
  refine ⟨⟨_, _, _, _, l, hc⟩, ⟨_, _, _, _, lc, v11⟩, ?_, no⟩
  unfold PySem.W.codeHdIn
  rw [lc]
  simp only [v11, v18, v7, v9, v10, ne]
  simp
theorem tup_K {a : Addr} {xs : List V} {its : Array Value} {n : Nat} {dd : Option Addr} {sl : Array (Option Value)} (l : K.lookup a = some ⟨.type "tuple", dd, .seq its n, sl⟩) (hz : its.size ≤ sizeLine) (r : Vals xs its.toList) : SqT K (fun _ => none) a xs := .inr ⟨_, _, _, l, rfl, rfl, hz, r⟩
end
end Dl

set_option Elab.async false
set_option linter.all false
set_option maxRecDepth 100000
set_option maxHeartbeats 4000000
/-! Dlo: objects: their fields; making them; their methods. -/
namespace Dl
open PySem PySem.Spec PyProof.Rows L2 LamX
section
variable {K : PySem.W.Frag} {G G' H H' : Hp}
theorem FA.look {f : Str} {x : Fv} : ∀ {vs : List (Str × V)} {ds : Fs}, FA K G vs ds → ds.lookup f = some x → ∃ v, vs.lookup f = some v ∧ RFv K G v x
  | _, _, .nil, h => by simp at h
  | _, _, .cons (f := g) r rs, h => by
    rw [List.lookup_cons] at h ⊢
    cases q : f == g with
    | true =>
      rw [q] at h
      simp only [Option.some.injEq] at h
      subst h
      exact ⟨_, rfl, r⟩
    | false =>
      rw [q] at h
      exact FA.look rs h
theorem FA.lookN {f : Str} : ∀ {vs : List (Str × V)} {ds : Fs}, FA K G vs ds → ds.lookup f = none → vs.lookup f = none
  | _, _, .nil, _ => rfl
  | _, _, .cons (f := g) r rs, h => by
    rw [List.lookup_cons] at h ⊢
    cases q : f == g with
    | true =>
      rw [q] at h
      cases h
    | false =>
      rw [q] at h
      exact FA.lookN rs h
def putD (f : Str) (v : Fv) : Fs → Fs
  | [] => [(f, v)]
  | (g, x) :: r => if g = f then (g, v) :: r else (g, x) :: putD f v r
theorem FA.put {f : Str} {v : V} {x : Fv} (r : RFv K G v x) : ∀ {vs : List (Str × V)} {ds : Fs}, FA K G vs ds → FA K G (putF f v vs) (putD f x ds)
  | _, _, .nil => .cons r .nil
  | _, _, .cons (f := g) q qs => by
    unfold putF putD
    by_cases z : g = f
    · rw [if_pos z, if_pos z]
      exact .cons r qs
    · rw [if_neg z, if_neg z]
      exact .cons q (FA.put r qs)
/-- a field is told otherwise -/
theorem FA.re {f : Str} {x : Fv} : ∀ {vs : List (Str × V)} {ds : Fs}, FA K G vs ds → (∀ v, vs.lookup f = some v → RFv K G v x) → ds.lookup f ≠ none → FA K G vs (putD f x ds)
  | _, _, .nil, _, n => by simp at n
  | _, _, .cons (f := g) q qs, h, n => by
    unfold putD
    by_cases z : g = f
    · rw [if_pos z]
      subst z
      exact .cons (h _ (by rw [List.lookup_cons]; simp)) qs
    · rw [if_neg z]
      have z' : (f == g) = false := by simpa using fun e => z e.symm
      refine .cons q (FA.re qs (fun v hv => h v (by rw [List.lookup_cons, z']; exact hv)) fun e => n (by rw [List.lookup_cons, z']; exact e))
theorem FA.length : ∀ {vs : List (Str × V)} {ds : Fs}, FA K G vs ds → vs.length = ds.length
  | _, _, .nil => rfl
  | _, _, .cons _ r => congrArg (· + 1) (FA.length r)
end
def Fv.sl : Fv → Sl
  | .d x => .dat x
  | .r v => .raw v
  | .k f ds => .dic f ds
theorem RFv.sl {K : PySem.W.Frag} {G : Hp} {v : V} {x : Fv} (h : RFv K G v x) : RS K G v x.sl := by
  cases x with
  | d x => exact h
  | r w => exact h
  | k f ds => exact h
section
variable {S : Cf} {ρ : Rho} {te ta : TE} {P : Oc → Prop} {w : TS} {i : Nat} {a C dx : Addr} {vf : List (Str × V)} {fs : Fs} {f : Str}
theorem own_ins {G H : Hp} {σ : L2.St} (e : Env S G H σ ρ) (h : ρ[i]? = some (.own a (.ins C dx vf fs))) : σ[i]? = some (some (.ref a)) ∧ G a = none ∧ (S.B a = none ∨ S.fx.mine a) ∧ ¬ S.fx.vol a ∧ H a = some (.ins C dx vf) ∧ FA S.K G vf fs := by
  obtain ⟨v, h1, e1, ga, ba, va, u, ha, r⟩ := e.get h
  cases Option.some.inj e1
  cases u with
  | ins C' dx' vs =>
    obtain ⟨⟨e1, e2, e3⟩, fa⟩ := r
    cases e1
    cases e2
    cases e3
    exact ⟨h1, ga, ba.imp id fun z => z.1, va, ha, fa⟩
  | _ => exact r.elim
/-- x.f, x ours -/
theorem ev_fldX {x : Fv} (h : ρ[i]? = some (.own a (.ins C dx vf fs))) (c : Cls S.K C) (n : NoAttr S.K C f) (l : fs.lookup f = some x) : Ev S (tFld S.K (tVar i) f) ρ (Eq x.sl) := fun σ G H k e Q q => by
  obtain ⟨h1, ga, ba, va, ha, fa⟩ := own_ins e h
  obtain ⟨v, lv, rv⟩ := fa.look l
  exact ⟨_, h1, a, C, dx, vf, v, rfl, ha, c, n, lv, q v _ G H (Grow.refl k) k rfl rv.sl⟩
theorem ev_fld {d : D} (h : ρ[i]? = some (.own a (.ins C dx vf fs))) (c : Cls S.K C) (n : NoAttr S.K C f) (l : fs.lookup f = some (.d d)) : Ev S (tFld S.K (tVar i) f) ρ (Eq (.dat d)) := ev_fldX (x := .d d) h c n l
/-- x.f, x an object that never changes -/
theorem ev_fldKX {x : Fv} {oa : Option Addr} (h : Ev S te ρ (Eq (.ob oa C fs))) (c : Cls S.K C) (n : NoAttr S.K C f) (l : fs.lookup f = some x) : Ev S (tFld S.K te f) ρ (Eq x.sl) := fun σ G H k e Q q =>
  h σ G H k e _ fun v s G1 H1 g1 k1 es r => by
    subst es
    obtain ⟨b, dx, vf, rfl, hb, fa, _⟩ := r
    obtain ⟨u, lu, ru⟩ := fa.look l
    exact ⟨b, C, dx, vf, u, rfl, k1.gh _ _ hb, c, n, lu, q u _ G1 H1 g1 k1 rfl ru.sl⟩
theorem ev_fldK {d : D} {oa : Option Addr} (h : Ev S te ρ (Eq (.ob oa C fs))) (c : Cls S.K C) (n : NoAttr S.K C f) (l : fs.lookup f = some (.d d)) : Ev S (tFld S.K te f) ρ (Eq (.dat d)) := ev_fldKX (x := .d d) h c n l
/-- a name that holds such an object -/
theorem ev_varOb {oa : Option Addr} (h : ρ[i]? = some (.ob oa C fs)) : Ev S (tVar i) ρ (Eq (.ob none C fs)) := fun σ G H k e Q q => by
  obtain ⟨v, h1, v', e', b, dx, vf, e1, e2, e3, _⟩ := e.get h
  cases e'
  exact ⟨v, h1, q v _ G H (Grow.refl k) k rfl ⟨b, dx, vf, e1, e2, e3, fun _ z => by cases z⟩⟩
/-- x.f = e -/
theorem xc_setf {p : D → Prop} (h : ρ[i]? = some (.own a (.ins C dx vf fs))) (he : Ev S te ρ (fun s => ∃ d, s = .dat d ∧ p d)) (c : Cls S.K C) (n : NoAttr S.K C f) (hl : fs.length < 900) (k : ∀ d vf', p d → P (.nx (ρ.set i (.own a (.ins C dx vf' (putD f (.d d) fs)))))) : Xc S (sFld S.K (tVar i) te f) ρ P := fun σ G H De o e fi =>
  he σ G H o.kn e _ fun v s G1 H1 g1 k1 ⟨d, es, pd⟩ rd => by
    subst es
    have o1 := o.grow g1 k1
    have e1 := e.grow g1
    obtain ⟨h1, ga, ba, va, ha, fa⟩ := own_ins e1 h
    obtain ⟨o2, e2⟩ := own_write (u' := .ins C dx (putF f v vf)) (m' := .ins C dx (putF f v vf) (putD f (.d d) fs)) o1 e1 h ⟨⟨rfl, rfl, rfl⟩, fa.put (x := .d d) rd⟩
    exact ⟨_, h1, a, C, dx, vf, rfl, ha, c, n, by rw [fa.length]; omega, fi.nx _ G1 _ _ o2 g1.gg e2 (k d _ pd)⟩
theorem xc_setfE {d : D} (h : ρ[i]? = some (.own a (.ins C dx vf fs))) (he : Ev S te ρ (Eq (.dat d))) (c : Cls S.K C) (n : NoAttr S.K C f) (hl : fs.length < 900) (k : ∀ vf', P (.nx (ρ.set i (.own a (.ins C dx vf' (putD f (.d d) fs)))))) : Xc S (sFld S.K (tVar i) te f) ρ P :=
  xc_setf (p := Eq d) h (he.imp fun s e => ⟨d, e.symm, rfl⟩) c n hl fun d' vf' e => e ▸ k vf'
theorem xs_setfE {d : D} (h : ρ[i]? = some (.own a (.ins C dx vf fs))) (he : Ev S te ρ (Eq (.dat d))) (c : Cls S.K C) (n : NoAttr S.K C f) (hl : fs.length < 900) (k : ∀ vf', Xc S w (ρ.set i (.own a (.ins C dx vf' (putD f (.d d) fs)))) P) : Xc S (tSeq (sFld S.K (tVar i) te f) w) ρ P := xc_seq (xc_setfE h he c n hl k)
end
/-! ### a method's promise -/
def spO (K : PySem.W.Frag) (C : Addr) (ro : Bool) {ι : Type} (args : ι → List Sl) (f0 : ι → Fs) (pre : ι → Prop) (post : ι → Sl → Fs → Prop) : Sp := fun vs H Q _ =>
  ∃ (i : ι) (G : Hp) (a dx : Addr) (vf : List (Str × V)) (ws : List V), vs = .ref a :: ws ∧ pre i ∧ Kn fx0 G H ∧ G a = none ∧ H a = some (.ins C dx vf) ∧ FA K G vf (f0 i) ∧ RSs K G ws (args i) ∧
    ∀ v s G' H' dx' vf' fs', GrO (fxM a) G H G' H' → G' a = none → Kn fx0 G' H' → RS K G' v s → H' a = some (.ins C dx' vf') → (ro = true → dx' = dx ∧ vf' = vf) → FA K G' vf' fs' → post i s fs' → Q v H'
def ObjP (a C dx : Addr) (vf : List (Str × V)) (ro : Bool) (post : Sl → Fs → Prop) : Oc → Prop
  | .nx ρ => ∃ dx' vf' fs', ρ[0]? = some (.own a (.ins C dx' vf' fs')) ∧ (ro = true → dx' = dx ∧ vf' = vf) ∧ post (.dat .none) fs'
  | .rt ρ s => ∃ dx' vf' fs', ρ[0]? = some (.own a (.ins C dx' vf' fs')) ∧ (ro = true → dx' = dx ∧ vf' = vf) ∧ post s fs'
  | _ => False
section
variable {P : Program} {w : World} {K : PySem.W.Frag} {mg : Str → Option Value} {base : Heap}
theorem RSs.noholds {K : PySem.W.Frag} {G : Hp} {t : Sl} {x : Addr × Mo} : ∀ {vs : List V} {ss : List Sl} {j : Nat}, RSs K G vs ss → ss[j]? = some t → t.holds ≠ some x
  | _, _, _, .nil, h => by simp at h
  | _, _, 0, .cons (s := s0) r _, h => by
    simp only [List.getElem?_cons_zero, Option.some.injEq] at h
    rw [← h]
    clear h
    cases s0 with
    | own a m => exact r.elim
    | gho a m => exact r.elim
    | _ => intro z; cases z
  | _, _, j + 1, .cons _ r, h => by
    simp only [List.getElem?_cons_succ] at h
    exact RSs.noholds r h
theorem fn_okO {ι : Type} {C : Addr} {ro : Bool} {args : ι → List Sl} {f0 : ι → Fs} {pre : ι → Prop} {post : ι → Sl → Fs → Prop} {x qual : Str} {st : Stmt} {f : Addr} {fd : FuncData} {N ps : List Str} {k : Nat} (F : Fun K x qual st f fd) (Sc : FnScope N ps (defScope st)) (hl : ∀ i, pre i → (args i).length + 1 = ps.length)
    (hbody : ∀ (cdv : Value) (A : Around) (outer : List PySem.Env) (s : Shared) (H : Hp) (E : XK), Room k (A.deeper (envOfC qual (defScope st) s.heap.objs.size f cdv)) → ∀ (i : ι), pre i →
      ∃ t, PSs (cxOf (L2.CX P w) P w K mg base N qual (defScope st) f cdv A outer s H E) (defBody st) t ∧ ∀ (G : Hp) (a dx : Addr) (vf : List (Str × V)), Xc ⟨K, fxM a, G, H, E⟩ t ((.own a (.ins C dx vf (f0 i)) :: args i) ++ List.replicate (N.length - ps.length) .no) (ObjP a C dx vf ro (post i))) :
    FnOk P w K mg base (L2.CX P w) (k + 1) f fd ps (spO K C ro args f0 pre post) := by
  refine F.okX Sc (fun vs H Q E h => ?_) fun cdv A outer s H vs Q E hr h => ?_
  · obtain ⟨i, G, a, dx, vf, ws, rfl, hp, _, _, _, _, r, _⟩ := h
    rw [List.length_cons, r.length, hl i hp]
  · obtain ⟨i, G, a, dx, vf, ws, rfl, hp, kn, ga, ha, fa, r, q⟩ := h
    obtain ⟨t, ht, hx⟩ := hbody cdv A outer s H E hr i hp
    refine ⟨t, ht, ?_⟩
    have hn : (V.ref a :: ws).length = ps.length := by rw [List.length_cons, r.length, hl i hp]
    have r0 : RSs K G (V.ref a :: ws) (.raw (.ref a) :: args i) := .cons rfl r
    have ev0 := env_start (S := ⟨K, fxM a, G, H, E⟩) (H := H) (N.length - ps.length) r0
    have e1 := ev0.put 0 (some (.ref a)) (.own a (.ins C dx vf (f0 i))) ⟨rfl, ga, .inr ⟨rfl, trivial⟩, fun z => z, _, ha, ⟨rfl, rfl, rfl⟩, fa⟩ (fun b m hb j t m' _ hj z => by
      obtain ⟨o, _, ok⟩ := ev0.at_ j t hj
      by_cases hl : j < (Sl.raw (.ref a) :: args i).length
      · rw [List.getElem?_append_left hl] at hj
        exact RSs.noholds r0 hj z
      · rw [List.getElem?_append_right (by omega), List.getElem?_replicate] at hj
        split at hj
        · cases hj
          cases z
        · cases hj)
    unfold L2.start
    rw [hn]
    have kn' : Kn (fxM a) G H := ⟨kn.gh, trivial, fun b v => v.elim⟩
    have mn : MnOk (fxM a) H := fun b z => by
      cases (show b = a from z)
      exact ⟨fun v => v, by rw [ha]; simp⟩
    refine hx G a dx vf _ G H _ ⟨kn', kn', GrO.of (Grow.refl kn'), mn, mn⟩ e1 ⟨fun σ G' H' ρ o s e p => ?_, fun σ G' H' ρ o s e p => p.elim, fun σ G' H' ρ o s e p => p.elim, fun σ v s G' H' ρ o e r p => ?_, fun C d dd v G' H' o hd r p => p.elim⟩
    · obtain ⟨dx', vf', fs', p0, p1, p2⟩ := p
      obtain ⟨_, ga', _, _, ha', fa'⟩ := own_ins e p0
      exact q .non (.dat .none) G' H' dx' vf' fs' o.gr ga' o.kn.low .non ha' p1 fa' p2
    · obtain ⟨dx', vf', fs', p0, p1, p2⟩ := p
      obtain ⟨_, ga', _, _, ha', fa'⟩ := own_ins e p0
      exact q v s G' H' dx' vf' fs' o.gr ga' o.kn.low r ha' p1 fa' p2
end
/-! ### calls of methods -/
section
variable {S : Cf} {G H G' H' : Hp} {σ : L2.St} {ρ : Rho} {a : Addr}
/-- behind a call that wrote at one's own place a -/
theorem after_own {u0 : HO} (o : OkS S G H) (ba : S.B a = none ∨ S.fx.mine a) (va : ¬ S.fx.vol a) (ha : H a = some u0) (fu : ¬ Fixd u0) (g : GrO (fxM a) G H G' H') (hn : H' a ≠ none) : OkS S G' H' := by
  have hh : ∀ b u, b ≠ a → H b = some u → H' b = some u := fun b u n e => g.hh b u (fun z => z) n e
  have kn : Kn S.fx G' H' := ⟨g.gh, S.fx.ext (fun b u hb e => hh b u (fun q => by
      rcases hb with hb | hb
      · exact va (q ▸ hb)
      · rw [q, ha] at e
        cases e
        exact fu hb) e) o.kn.inv, fun b v => by
    obtain ⟨u, hu, nt⟩ := S.fx.there o.kn.inv v
    exact g.nn b u (fun q => va ((show b = a from q) ▸ v)) hu nt (o.kn.vn b v)⟩
  have nn : ∀ b, H b ≠ none → H' b ≠ none := fun b hb => by
    by_cases q : b = a
    · rw [q]
      exact hn
    · cases e : H b with
      | none => exact absurd e hb
      | some u =>
        rw [hh b u q e]
        simp
  refine ⟨kn, o.k0, ⟨o.gr.gg.trans g.gg, g.gh, fun b u vb mb hb => ?_, fun b u mb hb nt n => ?_⟩, fun b m => ?_, o.m0⟩
  · have q : b ≠ a := fun q => by
      rcases ba with ba | ba
      · rw [q, ba] at hb
        cases hb
      · exact mb (q ▸ ba)
    exact hh b u q (o.gr.hh b u vb mb hb)
  · by_cases v : S.fx.vol b
    · exact kn.vn b v
    · have q : b ≠ a := fun q => by
        rcases ba with ba | ba
        · rw [q, ba] at hb
          cases hb
        · exact mb (q ▸ ba)
      exact g.nn b u q (o.gr.hh b u v mb hb) nt (o.gr.nn b u mb hb nt n)
  · obtain ⟨x, z⟩ := o.mn b m
    exact ⟨x, nn b z⟩
/-- the names that do not own the place -/
theorem env_own (e : Env S G H σ ρ) (no : ∀ (j : Nat) (t : Sl) (m : Mo), ρ[j]? = some t → t.holds ≠ some (a, m)) (g : GrO (fxM a) G H G' H') : Env S G' H' σ ρ := ⟨e.len, fun j s hj => by
  obtain ⟨o, h1, h2⟩ := e.at_ j s hj
  refine ⟨o, h1, ?_⟩
  have nh := fun m => no j s m hj
  cases s with
  | no => exact True.intro
  | dat d =>
    obtain ⟨v, e', r⟩ := h2
    exact ⟨v, e', r.mono g.gg⟩
  | dic f ds =>
    obtain ⟨v, e', r⟩ := h2
    exact ⟨v, e', r.mono g.gg⟩
  | ob oa C fs =>
    obtain ⟨v, e', r⟩ := h2
    exact ⟨v, e', r.mono g.gg⟩
  | rd c vs ds =>
    obtain ⟨v, e', r⟩ := h2
    exact ⟨v, e', r.mono g.gg⟩
  | raw x => exact h2
  | own b m =>
    obtain ⟨x1, x2, x3, x4, u, x5, x6⟩ := h2
    have q : b ≠ a := fun q => nh m (by rw [q] <;> rfl)
    exact ⟨x1, g.nn b u (fun z => q z) x5 x6.noTup x2, x3, x4, u, g.hh b u (fun z => z) q x5, x6.mono g.gg⟩
  | gho b m =>
    obtain ⟨x2, x3, x4, u, x5, x6⟩ := h2
    have q : b ≠ a := fun q => nh m (by rw [q] <;> rfl)
    exact ⟨g.nn b u (fun z => q z) x5 x6.noTup x2, x3, x4, u, g.hh b u (fun z => z) q x5, x6.mono g.gg⟩, e.dis⟩
theorem env_back (e : Env S G H σ ρ) {i : Nat} {m m' : Mo} (h : ρ[i]? = some (.own a m)) (h1 : σ[i]? = some (some (.ref a))) (g : GrO (fxM a) G H G' H') (ok : SlOk S G' H' (some (.ref a)) (.own a m')) : Env S G' H' σ (ρ.set i (.own a m')) := by
  have e0 := e.forget i
  have no : ∀ (j : Nat) (t : Sl) (n : Mo), (ρ.set i Sl.no)[j]? = some t → t.holds ≠ some (a, n) := fun j t n hj => by
    rcases set_get hj with ⟨_, z⟩ | ⟨nj, z⟩
    · subst z
      intro z
      cases z
    · exact e.alone h rfl nj z
  have e1 := env_own e0 no g
  have e2 := e1.put i (some (.ref a)) (.own a m') ok fun b n z j t n' nj hj => by
    cases z
    exact no j t n' hj
  have hi : i < σ.length := (List.getElem?_eq_some_iff.mp h1).1
  have es : σ.set i (some (.ref a)) = σ := by
    apply List.ext_getElem?
    intro j
    by_cases q : j = i
    · subst q
      rw [List.getElem?_set_self hi, h1]
    · rw [List.getElem?_set_ne (Ne.symm q)]
  have er : (ρ.set i Sl.no).set i (.own a m') = ρ.set i (.own a m') := by simp
  rw [es, er] at e2
  exact e2
end
section
variable {S : Cf} {ρ : Rho} {te ta : TE} {tr : TA} {P : Oc → Prop} {w : TS} {j : Nat} {a C dx : Addr} {vf : List (Str × V)} {fs : Fs} {m : Str} {E : XK} {ι : Type} {args : ι → List Sl} {f0 : ι → Fs} {pre : ι → Prop} {post : ι → Sl → Fs → Prop}
/-- x.m(..), the object stays as it is -/
theorem ev_methP {Pok : Sl → Prop} {Pa : List Sl → Prop} (h : ρ[j]? = some (.own a (.ins C dx vf fs))) (lm : fs.lookup m = none) (ha : EvA S tr ρ Pa) (hp : ∀ ss, Pa ss → ∃ i, ss = args i ∧ f0 i = fs ∧ pre i ∧ ∀ s fs', post i s fs' → Pok s) :
    Ev S (tMeth C m (spO S.K C true args f0 pre post) [] E (tVar j) tr) ρ Pok := fun σ G H k e Q q => by
  obtain ⟨h1, ga0, ba0, va, ha0, fa0⟩ := own_ins e h
  refine ⟨_, h1, a, dx, vf, rfl, ha0, fa0.lookN lm, ha σ G H k e _ fun ws ss G1 H1 g1 k1 pa r => ?_⟩
  obtain ⟨i, es, ef, hpi, ho⟩ := hp ss pa
  subst es ef
  obtain ⟨_, ga, ba, va, ha1, fa⟩ := own_ins (e.grow g1) h
  rw [List.append_nil]
  refine ⟨i, G1, a, dx, vf, ws, rfl, hpi, k1.low, ga, ha1, fa, r, fun v s G' H' dx' vf' fs' g ga' kn rv ha' hro fa' po => ?_⟩
  obtain ⟨e1, e2⟩ := hro rfl
  subst e1 e2
  have gr : Grow fx0 G1 H1 G' H' := ⟨g.gg, g.gh, fun b u _ hb => by
    by_cases z : b = a
    · subst z
      rw [ha1] at hb
      cases hb
      exact ha'
    · exact g.hh b u (fun z => z) z hb, fun b u hb nt n => by
    by_cases z : b = a
    · rw [z]
      exact ga'
    · exact g.nn b u z hb nt n⟩
  exact q v s G' H' (g1.trans k1 (k1.lift gr) gr.lift) (k1.lift gr) (ho s fs' po) rv
theorem ev_meth {Pok : Sl → Prop} (i : ι) (h : ρ[j]? = some (.own a (.ins C dx vf fs))) (lm : fs.lookup m = none) (ef : f0 i = fs) (ha : EvA S tr ρ (Eq (args i))) (hp : pre i) (ho : ∀ s fs', post i s fs' → Pok s) : Ev S (tMeth C m (spO S.K C true args f0 pre post) [] E (tVar j) tr) ρ Pok :=
  ev_methP h lm ha fun ss e => ⟨i, e.symm, ef, hp, ho⟩
/-- x.m(..) as a statement, x may be written at -/
theorem xc_meth {ro : Bool} {Pa : List Sl → Prop} (h : ρ[j]? = some (.own a (.ins C dx vf fs))) (lm : fs.lookup m = none) (ha : EvA S tr ρ Pa) (hp : ∀ ss, Pa ss → ∃ i, ss = args i ∧ f0 i = fs ∧ pre i ∧ ∀ s dx' vf' fs', post i s fs' → P (.nx (ρ.set j (.own a (.ins C dx' vf' fs'))))) :
    Xc S (tDrop (tMeth C m (spO S.K C ro args f0 pre post) [] E (tVar j) tr)) ρ P := fun σ G H De o e f => by
  obtain ⟨h1, ga0, ba0, va0, ha0, fa0⟩ := own_ins e h
  refine ⟨_, h1, a, dx, vf, rfl, ha0, fa0.lookN lm, ha σ G H o.kn e _ fun ws ss G1 H1 g1 k1 pa r => ?_⟩
  obtain ⟨i, es, ef, hpi, ho⟩ := hp ss pa
  subst es ef
  have o1 := o.grow g1 k1
  have e1 := e.grow g1
  obtain ⟨_, ga, ba, va, ha1, fa⟩ := own_ins e1 h
  rw [List.append_nil]
  refine ⟨i, G1, a, dx, vf, ws, rfl, hpi, k1.low, ga, ha1, fa, r, fun v s G' H' dx' vf' fs' g ga' kn rv ha' hro fa' po => ?_⟩
  have o2 := after_own o1 ba va ha1 (fun z => z) g (by rw [ha']; simp)
  have e2 := env_back (m' := .ins C dx' vf' fs') e1 h h1 g ⟨rfl, ga', ba.imp id fun z => ⟨z, trivial⟩, va, _, ha', ⟨rfl, rfl, rfl⟩, fa'⟩
  exact f.nx _ G' H' _ o2 (g1.gg.trans g.gg) e2 (ho s dx' vf' fs' po)
/-- x = C(..) -/
theorem xc_make {ro : Bool} {Pa : List Sl → Prop} (ha : EvA S tr ρ Pa) (hp : ∀ ss, Pa ss → ∃ i, ss = args i ∧ f0 i = [] ∧ pre i ∧ ∀ s fs', post i s fs' → s = .dat .none ∧ ∀ a' dx' vf', P (.nx (ρ.set j (.own a' (.ins C dx' vf' fs'))))) :
    Xc S (tAsg (tMake C (spO S.K C ro args f0 pre post) [] E tr) (gName j)) ρ P := fun σ G H De o e f => by
  refine ha σ G H o.kn e _ fun ws ss G1 H1 g1 k1 pa r x dx' hx hd nd => ?_
  obtain ⟨i, es, ef, hpi, ho⟩ := hp ss pa
  subst es
  have o1 := o.grow g1 k1
  have e1 := e.grow g1
  have sm : Same H1 (upd (upd H1 dx' (.own x)) x (.ins C dx' [])) := (same_new hd).trans (same_new (by rw [upd_ne nd.symm]; exact hx))
  have k2 := k1.same sm
  have g2 := Grow.same k1 sm
  have o2 := o1.grow g2 k2
  have e2 := e1.grow g2
  have gx : G1 x = none := k1.freeG hx
  have bx : S.B x = none := o1.freshB hx
  have vx : ¬ S.fx.vol x := k1.fresh hx
  have hx2 : (upd (upd H1 dx' (.own x)) x (.ins C dx' [])) x = some (.ins C dx' []) := upd_same
  rw [List.append_nil]
  refine ⟨i, G1, x, dx', [], ws, rfl, hpi, k2.low, gx, hx2, by rw [ef]; exact .nil, r, fun v s G' H' dx'' vf' fs' g ga' kn rv ha' hro fa' po => ?_⟩
  obtain ⟨es, hk⟩ := ho s fs' po
  subst es
  cases rv
  refine ⟨rfl, ?_⟩
  have o3 := after_own o2 (.inl bx) vx hx2 (fun z => z) g (by rw [ha']; simp)
  have no : ∀ (j' : Nat) (t : Sl) (m' : Mo), ρ[j']? = some t → t.holds ≠ some (x, m') := fun j' t m' z hz => by
    obtain ⟨v, _, ok⟩ := e1.at_ j' t z
    obtain ⟨_, _, _, u, hu, _⟩ := ok.holdsOk hz
    rw [hx] at hu
    cases hu
  have e3 := env_own e2 no g
  have e4 := e3.put j (some (.ref x)) (.own x (.ins C dx'' vf' fs')) ⟨rfl, ga', .inl bx, vx, _, ha', ⟨rfl, rfl, rfl⟩, fa'⟩ fun b n z j' t n' _ hj => by
    cases z
    exact no j' t n' hj
  exact f.nx _ G' H' _ o3 (g1.gg.trans g.gg) e4 (hk x dx'' vf')
end
/-! ### methods by name -/
structure CalM (P : Program) (w : World) (K : PySem.W.Frag) (mg : Str → Option Value) (base : Heap) (k : Nat) (C : Addr) (m : Str) (ps : List Str) (sp : Sp) : Prop where
  ex : ∃ (f : Addr) (fd : FuncData), FnOk P w K mg base (L2.CX P w) k f fd ps sp ∧ Cls K C ∧ Meth K C m f ∧ Binds K fd ps []
/-- where the text's method stands -/
structure DefM (K : PySem.W.Frag) (C : Addr) (m qual : Str) (st : Stmt) : Prop where
  ex : ∃ (f : Addr) (fd : FuncData), Fun K m qual st f fd ∧ Meth K C m f
  cls : Cls K C
/-- the class is called: its __init__ -/
structure CalK (P : Program) (w : World) (K : PySem.W.Frag) (mg : Str → Option Value) (base : Heap) (k : Nat) (x : Str) (C : Addr) (ps : List Str) (sp : Sp) : Prop where
  ex : ∃ (f : Addr) (fd : FuncData), FnOk P w K mg base (L2.CX P w) k f fd ps sp ∧ Mk K C f ∧ mg x = some (.ref C) ∧ Binds K fd ps []
structure DefK (K : PySem.W.Frag) (mg : Str → Option Value) (x : Str) (C : Addr) (qual : Str) (st : Stmt) : Prop where
  ex : ∃ (f : Addr) (fd : FuncData), Fun K "__init__" qual st f fd ∧ Mk K C f
  gC : mg x = some (.ref C)
section
variable {P : Program} {w : World} {K : PySem.W.Frag} {mg : Str → Option Value} {base : Heap} {ι : Type} {C : Addr} {ro : Bool} {args : ι → List Sl} {f0 : ι → Fs} {pre : ι → Prop} {post : ι → Sl → Fs → Prop} {x m qual : Str} {st : Stmt} {N ps : List Str} {k : Nat}
theorem mk_calM (T : DefM K C m qual st) (Sc : FnScope N ps (defScope st)) (hl : ∀ i, pre i → (args i).length + 1 = ps.length)
    (hb : ∀ (kV doc pm : Value) (an : Option Addr) (cdv ct : Value) (us : List Value), us.length = ps.length → bindArgs (PySem.W.fnOf m qual (defArgs st) (defBody st) (defScope st) .none kV doc pm an cdv ct) ⟨us, []⟩ = pure (ps.zip us))
    (body : ∀ (f : Addr) (cdv : Value) (A : Around) (outer : List PySem.Env) (s : Shared) (H : Hp) (E : XK), Room k (A.deeper (envOfC qual (defScope st) s.heap.objs.size f cdv)) → ∀ (i : ι), pre i →
      ∃ t, PSs (cxOf (L2.CX P w) P w K mg base N qual (defScope st) f cdv A outer s H E) (defBody st) t ∧ ∀ (G : Hp) (a dx : Addr) (vf : List (Str × V)), Xc ⟨K, fxM a, G, H, E⟩ t ((.own a (.ins C dx vf (f0 i)) :: args i) ++ List.replicate (N.length - ps.length) .no) (ObjP a C dx vf ro (post i))) :
    CalM P w K mg base (k + 1) C m ps (spO K C ro args f0 pre post) := by
  obtain ⟨⟨f, fd, F, M⟩, c⟩ := T
  exact ⟨f, fd, fn_okO F Sc hl fun cdv A outer s H E => body f cdv A outer s H E, c, M, F.binds hb⟩
theorem mk_calK (T : DefK K mg x C qual st) (Sc : FnScope N ps (defScope st)) (hl : ∀ i, pre i → (args i).length + 1 = ps.length)
    (hb : ∀ (kV doc pm : Value) (an : Option Addr) (cdv ct : Value) (us : List Value), us.length = ps.length → bindArgs (PySem.W.fnOf "__init__" qual (defArgs st) (defBody st) (defScope st) .none kV doc pm an cdv ct) ⟨us, []⟩ = pure (ps.zip us))
    (body : ∀ (f : Addr) (cdv : Value) (A : Around) (outer : List PySem.Env) (s : Shared) (H : Hp) (E : XK), Room k (A.deeper (envOfC qual (defScope st) s.heap.objs.size f cdv)) → ∀ (i : ι), pre i →
      ∃ t, PSs (cxOf (L2.CX P w) P w K mg base N qual (defScope st) f cdv A outer s H E) (defBody st) t ∧ ∀ (G : Hp) (a dx : Addr) (vf : List (Str × V)), Xc ⟨K, fxM a, G, H, E⟩ t ((.own a (.ins C dx vf (f0 i)) :: args i) ++ List.replicate (N.length - ps.length) .no) (ObjP a C dx vf ro (post i))) :
    CalK P w K mg base (k + 1) x C ps (spO K C ro args f0 pre post) := by
  obtain ⟨⟨f, fd, F, M⟩, g⟩ := T
  exact ⟨f, fd, fn_okO F Sc hl fun cdv A outer s H E => body f cdv A outer s H E, M, g, F.binds hb⟩
end
section
variable {X : Cx} {k : Nat} {C : Addr} {x m : Str} {ps : List Str} {sp : Sp} {p pos apos : Pos} {o e : Expr} {es : List Expr} {t : TA} {to : TE}
theorem pe_calM {pl : Sem Bool} (c : CalM X.prog X.w X.K X.mg X.base k C m ps sp) (hr : Room k X.A) (ho : PE X o to) (ha : PA X (e :: es) t)
    (hst : starEach (e :: es) X.env = (false, eval e X.env) :: starEach es X.env := by rfl) (hpl : (backTo pos (starEach es X.env)).any (·.1) = false := by rfl)
    (ht : eval (.Call (.Attribute o m apos) (e :: es) [] pos) X.env = (do
      let ov ← eval o X.env
      standAt apos.atName
      let (f, first) ← holding [ov] (getMethod ov m pl)
      callWith pos f first (backTo pos (starEach (e :: es) X.env)) (backToKw pos (keywordEach [] X.env))) := by rfl) : PE X (.Call (.Attribute o m apos) (e :: es) [] pos) (tMeth C m sp [] E0 to t) := by
  obtain ⟨f, fd, F, cl, M, hb⟩ := c.ex
  exact pe_meth ho cl M F hr hb .nil passL ha hst hpl ht
theorem pe_calK (c : CalK X.prog X.w X.K X.mg X.base k x C ps sp) (hr : Room (k + 1) X.A) (hg : Gl X x) (ha : PA X (e :: es) t) (hdb : (x == ("__debug__" : Str)) = false := by decide) (he : starEach (e :: es) X.env = (false, eval e X.env) :: starEach es X.env := by rfl)
    (hpl : (backTo pos (starEach es X.env)).any (·.1) = false := by rfl) : PE X (.Call (.Name x p) (e :: es) [] pos) (tMake C sp [] E0 t) := by
  obtain ⟨f, fd, F, M, g, hb⟩ := c.ex
  exact pe_make M F hr hg g hb .nil passL ha hdb he hpl
end
end Dl

set_option Elab.async false
set_option linter.all false
set_option maxRecDepth 100000
set_option maxHeartbeats 4000000
/-! Dlq: order of data, least and greatest, stars, parts of lists. -/
namespace Dl
open PySem PySem.Spec PyProof.Rows L2 LamX StX
/-! ### x < y of data -/
def CmpD (d d' : D) : Prop := PySem.W.alike d d' = true ∧ d ≠ .none ∧ d.depth ≤ 60 ∧ d.hasDict = false ∧ d'.hasDict = false
def rLtD (K : PySem.W.Frag) : R2 := fun x y H Q => ∃ d d', Dp K H x d ∧ Dp K H y d' ∧ CmpD d d' ∧ Q (.bl (PySem.W.dataLt d d')) H
theorem op_ltD {X : Cx} (hu : X.A.units + 64 < cLine) : OpR X (compareOp .Lt) (rLtD X.K) := by
  intro pins s σ H x y v u Q I rx ry h
  obtain ⟨d, d', h1, h2, ⟨c1, c2, c3, _, _⟩, q⟩ := h
  obtain ⟨as, r1⟩ := Dp.reads I d x v h1 rx
  obtain ⟨bs, r2⟩ := Dp.reads I d' y u h2 ry
  exact PySem.W.lt_data r1 r2 c1 c2 (by have : min d.depth d'.depth ≤ d.depth := Nat.min_le_left _ _; omega) ⟨.bl _, H, I, rfl, q⟩
section
variable {S : Cf} {ρ : Rho} {te ta tb tc : TE} {P : Oc → Prop} {w : TS}
theorem ev_ltD {d d' : D} (ha : Ev S ta ρ (Eq (.dat d))) (hb : Ev S tb ρ (Eq (.dat d'))) (c : CmpD d d') : Ev S (tOp (rLtD S.K) ta tb) ρ (Eq (.dat (.bool (PySem.W.dataLt d d')))) :=
  ev_op' ha hb (opd_here (z := .bl (PySem.W.dataLt d d')) fun G H v w k rx ry => ⟨.bl _, fun Q q => ⟨d, d', (R.mono k.gh rx).dp c.2.2.2.1, (R.mono k.gh ry).dp c.2.2.2.2, c, q⟩⟩)
/-! ### max of ints -/
def lmax : List Int → Int
  | [] => 0
  | x :: xs => xs.foldl max x
theorem foldl_max : ∀ (xs : List Int) (x : Int), (xs.foldl max x ∈ x :: xs) ∧ ∀ y ∈ x :: xs, y ≤ xs.foldl max x
  | [], x => ⟨by simp, fun y hy => by
    simp at hy
    subst hy
    exact Int.le_refl _⟩
  | z :: xs, x => by
    obtain ⟨h1, h2⟩ := foldl_max xs (max x z)
    refine ⟨?_, fun y hy => ?_⟩
    · show xs.foldl max (max x z) ∈ _
      rcases List.mem_cons.mp h1 with h | h
      · rw [h]
        rcases Int.le_total x z with q | q
        · rw [Int.max_eq_right q]
          simp
        · rw [Int.max_eq_left q]
          simp
      · exact List.mem_cons_of_mem _ (List.mem_cons_of_mem _ h)
    · show y ≤ xs.foldl max (max x z)
      have hm := h2 (max x z) List.mem_cons_self
      rcases List.mem_cons.mp hy with h | h
      · subst h
        have := Int.le_max_left y z
        omega
      · rcases List.mem_cons.mp h with h | h
        · subst h
          have := Int.le_max_right x y
          omega
        · exact h2 y (List.mem_cons_of_mem _ h)
theorem lmax_ok {ns : List Int} (h : ns ≠ []) : lmax ns ∈ ns ∧ ∀ y ∈ ns, y ≤ lmax ns := by
  cases ns with
  | nil => exact absurd rfl h
  | cons x xs => exact foldl_max xs x
theorem ev_max {ns : List Int} (h : ns ≠ []) (ha : Ev S ta ρ (Eq (.dat (.list (ns.map PyData.int))))) : Ev S (tCB (rMax S.K) (tCons ta tNil)) ρ (Eq (.dat (.int (lmax ns)))) := fun σ G H k e Q q =>
  el_of ha σ G H k e _ fun a vs G1 H1 g1 k1 st ra => ⟨a, ns, rfl, by rw [← ra.ints]; exact st _ _ (Grow.refl k1), List.length_pos_iff.mpr h, fun m hm hy => by
    obtain ⟨h1, h2⟩ := lmax_ok h
    have e : m = lmax ns := Int.le_antisymm (h2 m hm) (hy _ h1)
    rw [e]
    exact q _ _ G1 H1 g1 k1 rfl (.int _)⟩
/-! ### stars -/
theorem ea_star {tr : TA} {ds : List D} {xs : List Sl} (h : EvL S te ρ ds) (hr : EvA S tr ρ (Eq xs)) : EvA S (tStar S.K te tr) ρ (Eq (ds.map Sl.dat ++ xs)) := fun σ G H k e Q q =>
  h σ G H k e _ fun a vs G1 H1 g1 k1 st ra => ⟨a, vs, rfl, .inr (st _ _ (Grow.refl k1)), hr σ G1 H1 k1 (e.grow g1) _ fun ws ss G2 H2 g2 k2 es rs => by
    subst es
    refine q _ _ G2 H2 (g1.trans k1 k2 g2) k2 rfl ?_
    have key : ∀ {vs : List V} {ds : List D}, RA S.K G2 vs ds → RSs S.K G2 (vs ++ ws) (ds.map Sl.dat ++ xs) := fun {vs ds} r => by
      induction vs generalizing ds with
      | nil =>
        cases r
        exact rs
      | cons v vs ih =>
        cases r with
        | cons r1 r2 => exact .cons r1 (ih r2)
    exact key (ra.mono g2.gg)⟩
theorem ea_starU {tr : TA} {ds : List D} {xs : List Sl} (h : EvU S te ρ ds) (hr : EvA S tr ρ (Eq xs)) : EvA S (tStar S.K te tr) ρ (Eq (ds.map Sl.dat ++ xs)) := fun σ G H k e Q q =>
  h σ G H k e _ fun a vs G1 H1 g1 k1 st ra => ⟨a, vs, rfl, .inl (st _ _ (Grow.refl k1)), hr σ G1 H1 k1 (e.grow g1) _ fun ws ss G2 H2 g2 k2 es rs => by
    subst es
    refine q _ _ G2 H2 (g1.trans k1 k2 g2) k2 rfl ?_
    have key : ∀ {vs : List V} {ds : List D}, RA S.K G2 vs ds → RSs S.K G2 (vs ++ ws) (ds.map Sl.dat ++ xs) := fun {vs ds} r => by
      induction vs generalizing ds with
      | nil =>
        cases r
        exact rs
      | cons v vs ih =>
        cases r with
        | cons r1 r2 => exact .cons r1 (ih r2)
    exact key (ra.mono g2.gg)⟩
/-! ### parts of lists -/
/-- a bound of a part -/
def EvO (S : Cf) (to : TO) (ρ : Rho) (o : Option Int) : Prop := ∀ (σ : L2.St) (G H : Hp), Kn S.fx G H → Env S G H σ ρ → ∀ Q : Option Int → Hp → Prop,
  (∀ G' H', Grow S.fx G H G' H' → Kn S.fx G' H' → Q o H') → to σ H Q
theorem eo_none : EvO S (fun _ H Q => Q none H) ρ none := fun σ G H k e Q q => q G H (Grow.refl k) k
theorem eo_some {i : Int} (h : Ev S te ρ (Eq (.dat (.int i)))) : EvO S (tPart te) ρ (some i) := fun σ G H k e Q q => h σ G H k e _ fun v s G1 H1 g1 k1 es r => by
  subst es
  cases r
  exact ⟨i, rfl, q G1 H1 g1 k1⟩
def cutD (ds : List D) (lo hi : Option Int) : List D := (ds.drop (HT.sIx ds.length 0 lo)).take (HT.sIx ds.length ds.length hi - HT.sIx ds.length 0 lo)
theorem RA.cut {K : PySem.W.Frag} {G : Hp} {vs : List V} {ds : List D} (h : RA K G vs ds) (lo hi : Option Int) : RA K G (cutV vs lo hi) (cutD ds lo hi) := by
  unfold cutV cutD
  rw [h.length]
  exact (h.drop _).take _
theorem ef_cut {lo hi : Option Int} {tl th : TO} {ds : List D} (h : EvL S te ρ ds) (hl : EvO S tl ρ lo) (hh : EvO S th ρ hi) : EvF S (tSl (rSlL S.K) te tl th) ρ (Eq (cutD ds lo hi)) := fun σ G H k e Q q =>
  h σ G H k e _ fun a vs G1 H1 g1 k1 st ra => hl σ G1 H1 k1 (e.grow g1) _ fun G2 H2 g2 k2 => hh σ G2 H2 k2 ((e.grow g1).grow g2) _ fun G3 H3 g3 k3 =>
    ⟨a, vs, rfl, st G3 H3 (g2.trans k2 k3 g3), fun p hp => by
      have g := (g1.trans k1 k2 g2).trans k2 k3 g3
      exact q p _ _ G3 _ (g.trans k3 (k3.same (same_new hp)) (Grow.same k3 (same_new hp))) (k3.same (same_new hp)) (fresh_of g k3 hp) (k3.freeG hp) upd_same ((ra.mono (g2.gg.trans g3.gg)).cut lo hi) rfl⟩
theorem cut_take (ds : List D) (n : Nat) (h : n ≤ ds.length) : cutD ds none (some (n : Int)) = ds.take n := by
  unfold cutD
  rw [HT.sIx_none, HT.sIx_nat, Nat.sub_zero, Nat.min_eq_left h]
  rfl
theorem cut_drop (ds : List D) (n : Nat) (h : n ≤ ds.length) : cutD ds (some (n : Int)) none = ds.drop n := by
  unfold cutD
  rw [HT.sIx_none, HT.sIx_nat, Nat.min_eq_left h, List.take_of_length_le]
  rw [List.length_drop]
  omega
/-- t + u of tuples -/
theorem ev_catA {ds es : List D} (ha : Ev S ta ρ (Eq (.dat (.tuple ds)))) (hb : Ev S tb ρ (Eq (.dat (.tuple es)))) (hl : ds.length + es.length ≤ 1000000) : Ev S (tOp (rCatA S.K) ta tb) ρ (Eq (.dat (.tuple (ds ++ es)))) :=
  ev_op' ha hb fun G H v w k rx ry Q q => by
    have rx0 := rx
    have ry0 := ry
    cases rx with
    | @tup _ xs _ hs1 r1 =>
      cases ry with
      | @tup _ ys _ hs2 r2 =>
        refine ⟨_, _, _, _, rfl, rfl, sameT k.gh hs1, sameT k.gh hs2, sz_ok (by rw [r1.length, r2.length]; exact hl), fun e => ?_, fun _ e => ?_, fun _ _ p hp => ?_⟩
        · subst e
          cases r1
          exact q _ _ G H (Grow.refl k) k rfl ry0
        · subst e
          cases r2
          exact q _ _ G H (Grow.refl k) k (by rw [List.append_nil]) rx0
        · have g2 := Grow.new k (.tup (xs ++ ys)) hp
          have k2 := Kn.new k (.tup (xs ++ ys)) hp
          exact q _ _ _ _ g2 k2 rfl (.tup (SqT.of upd_same) ((r1.mono g2.gg).append (r2.mono g2.gg)))
end
/-! ### min of data -/
theorem ra_dpAll {K : PySem.W.Frag} {G H : Hp} (e : Same G H) {vs : List V} {ds : List D} (h : RA K G vs ds) (n : PyData.hasDictAll ds = false) : DpAll K H vs ds := (h.mono e).dp n
def MinOk (ds : List D) : Prop := PySem.W.AlikeAll ds ∧ PyData.depthAll ds ≤ 60 ∧ PyData.hasDictAll ds = false
/-- min(xs, default=z) -/
def rMinDf (K : PySem.W.Frag) : List V → List V → Hp → VK → Prop := fun xs zs H Q => ∃ (a : Addr) (vs : List V) (ds : List D) (z : V), xs = [.ref a] ∧ zs = [z] ∧ SqL K H a vs ∧ DpAll K H vs ds ∧ MinOk ds ∧ (ds = [] → Q z H) ∧
  ∀ y ys (i : Nat) v, ds = y :: ys → vs[i]? = some v → ds[i]? = some (PySem.W.minD y ys) → Q v H
theorem vals_at {vs : List V} {us : List Value} (r : Vals vs us) {i : Nat} {u : Value} (h : us[i]? = some u) : ∃ v, vs[i]? = some v ∧ RelV v u := by
  induction r generalizing i with
  | nil => simp at h
  | cons h1 h2 ih =>
    cases i with
    | zero =>
      simp only [List.getElem?_cons_zero, Option.some.injEq] at h
      subst h
      exact ⟨_, rfl, h1⟩
    | succ i =>
      simp only [List.getElem?_cons_succ] at h ⊢
      exact ih h
theorem readsAll_get {h : Heap} : ∀ {us : List Value} {ds : List D} {as : List Addr} {i : Nat} {u : Value}, ReadsAll h us ds as → us[i]? = some u → ∃ d bs, ds[i]? = some d ∧ Reads h u d bs
  | _, _, _, i, u, .nil, e => by simp at e
  | _, _, _, 0, u, .cons r rs, e => by
    simp only [List.getElem?_cons_zero, Option.some.injEq] at e
    subst e
    exact ⟨_, _, rfl, r⟩
  | _, _, _, i + 1, u, .cons r rs, e => by
    simp only [List.getElem?_cons_succ] at e
    obtain ⟨d, bs, e1, e2⟩ := readsAll_get rs e
    exact ⟨d, bs, by simpa using e1, e2⟩
theorem cr_minDf {X : Cx} (hc : X.calm = true) (hu : X.A.units + 64 < cLine) : CallRK X (.builtin "min") ["default"] (rMinDf X.K) := by
  intro pins s σ H xs zs us ws Q I r rz h
  obtain ⟨a, vs, ds, z, rfl, rfl, hs, hd, ⟨m1, m2, m3⟩, q0, q⟩ := h
  obtain ⟨u, rfl, ru⟩ := vals1 r
  obtain ⟨wz, rfl, rwz⟩ := vals1 rz
  cases ru
  obtain ⟨its, rv, pl, hz⟩ := I.list hs
  obtain ⟨as, ra⟩ := Dp.readsAll I ds vs its hd rv
  refine PySem.W.min_list_default (I.ok.hd hc) pl.isList (as := as) (xs := ds) (by simpa using ra) m1 (by omega) (fun e h' tk hk => ⟨z, H, I.kept hk, rwz, q0 e⟩) fun y ys i v h' tk bs e hi hr hk => ?_
  have hi' : its[i]? = some v := by simpa using hi
  obtain ⟨x, hx, rx⟩ := vals_at rv hi'
  obtain ⟨d, cs, hd1, hd2⟩ := readsAll_get ra hi'
  have eq := (PyProof.Rows.reads_det (fun b o e _ => hk b o e) hd2 hr).1
  exact ⟨x, H, I.kept hk, rx, q y ys i x e hx (by rw [hd1, eq])⟩
/-- min(xs) -/
def rMinL (K : PySem.W.Frag) : List V → Hp → VK → Prop := fun xs H Q => ∃ (a : Addr) (vs : List V) (y : D) (ys : List D), xs = [.ref a] ∧ SqL K H a vs ∧ DpAll K H vs (y :: ys) ∧ MinOk (y :: ys) ∧
  ∀ (i : Nat) v, vs[i]? = some v → (y :: ys)[i]? = some (PySem.W.minD y ys) → Q v H
theorem cr_minL {X : Cx} (hc : X.calm = true) (hu : X.A.units + 64 < cLine) : CallR X (.builtin "min") (rMinL X.K) := by
  intro pins s σ H xs us Q I r h
  obtain ⟨a, vs, y, ys, rfl, hs, hd, ⟨m1, m2, m3⟩, q⟩ := h
  obtain ⟨u, rfl, ru⟩ := vals1 r
  cases ru
  obtain ⟨its, rv, pl, hz⟩ := I.list hs
  obtain ⟨as, ra⟩ := Dp.readsAll I (y :: ys) vs its hd rv
  refine PySem.W.min_list_data (I.ok.hd hc) pl.isList (as := as) (x := y) (xs := ys) (by simpa using ra) m1 (by omega) fun i v h' tk bs hi hr hk => ?_
  have hi' : its[i]? = some v := by simpa using hi
  obtain ⟨x, hx, rx⟩ := vals_at rv hi'
  obtain ⟨d, cs, hd1, hd2⟩ := readsAll_get ra hi'
  have eq := (PyProof.Rows.reads_det (fun b o e _ => hk b o e) hd2 hr).1
  exact ⟨x, H, I.kept hk, rx, q i x hx (by rw [hd1, eq])⟩
/-- the least, if there is one -/
def minO : List D → D
  | [] => .none
  | y :: ys => PySem.W.minD y ys
section
variable {S : Cf} {ρ : Rho} {te ta tb tc : TE}
theorem ev_minDf {ds : List D} (ha : EvL S ta ρ ds) (hz : Ev S tb ρ (Eq (.dat .none))) (m : MinOk ds) : Ev S (tCKw (rMinDf S.K) (tCons ta tNil) (tCons tb tNil)) ρ (Eq (.dat (minO ds))) := fun σ G H k e Q q =>
  ha σ G H k e _ fun a vs G1 H1 g1 k1 st ra => hz σ G1 H1 k1 (e.grow g1) _ fun z s G2 H2 g2 k2 es rz => by
    subst es
    have g := g1.trans k1 k2 g2
    refine ⟨a, vs, ds, z, rfl, rfl, st _ _ g2, ra_dpAll (g2.gg.trans g2.gh) ra m.2.2, m, fun e => ?_, fun y ys i v e hv hd => ?_⟩
    · subst e
      exact q z _ G2 H2 g k2 rfl rz
    · subst e
      obtain ⟨d, hd', rd⟩ := (ra.mono g2.gg).getV hv
      rw [hd] at hd'
      cases hd'
      exact q v _ G2 H2 g k2 rfl rd
theorem ev_minL {y : D} {ys : List D} (ha : EvL S ta ρ (y :: ys)) (m : MinOk (y :: ys)) : Ev S (tCB (rMinL S.K) (tCons ta tNil)) ρ (Eq (.dat (PySem.W.minD y ys))) := fun σ G H k e Q q =>
  ha σ G H k e _ fun a vs G1 H1 g1 k1 st ra => by
    refine ⟨a, vs, y, ys, rfl, st _ _ (Grow.refl k1), ra_dpAll k1.gh ra m.2.2, m, fun i v hv hd => ?_⟩
    obtain ⟨d, hd', rd⟩ := ra.getV hv
    rw [hd] at hd'
    cases hd'
    exact q v _ G1 H1 g1 k1 rfl rd
end
/-! ### comprehensions over what stands for a list -/
section
variable {S : Cf} {ρ : Rho} {te : TE} {tt : TT} {wi : TI} {g : TG} {vs : List Nat}
/-- [e for x in xs if t] -/
theorem ef_filterL {α : Type} {l : List α} {dα : α → D} {c : α → Bool} {f : α → D} (hi : Itm S wi ρ (Eq (l.map dα))) (hl : l.length ≤ 1000000)
    (hs : ∀ x, x ∈ l → ∃ js ρ2, (∀ j ∈ js, j ∈ vs) ∧ Tgt S g js (dα x) (wipeR ρ vs) ρ2 ∧ EvT S tt ρ2 (Eq (c x)) ∧ (c x = true → Ev S te ρ2 (Eq (.dat (f x))))) : EvF S (tLc wi g tt te vs) ρ (Eq ((l.filter c).map f)) := by
  refine ef_lc hi (fun _ i acc => acc = ((l.take i).filter c).map f) (fun ds' e => e ▸ ⟨by rw [List.length_map]; exact hl, rfl⟩) (fun ds' i d acc e hd al hI => ?_) fun ds' acc e al hI => ?_
  · subst e
    rw [List.getElem?_map] at hd
    obtain ⟨x, hx, rfl⟩ := Option.map_eq_some_iff.mp hd
    obtain ⟨js, ρ2, h1, h2, h3, h4⟩ := hs x (List.mem_of_getElem? hx)
    refine ⟨js, ρ2, h1, h2, h3.imp fun b eb => ?_⟩
    have et : l.take (i + 1) = l.take i ++ [x] := by
      rw [List.take_add_one, hx]
      rfl
    cases hc : c x with
    | true =>
      rw [hc] at eb
      subst eb
      rw [if_pos rfl]
      refine (h4 hc).imp fun s es => ⟨f x, es.symm, ?_⟩
      rw [hI, et, List.filter_append, List.map_append]
      simp [hc]
    | false =>
      rw [hc] at eb
      subst eb
      rw [if_neg (by decide), hI, et, List.filter_append, List.map_append]
      simp [hc]
  · subst e
    rw [hI, List.length_map, List.take_length]
/-- [e for x in xs] -/
theorem ef_mapL {α : Type} {l : List α} {dα : α → D} {f : α → D} (hi : Itm S wi ρ (Eq (l.map dα))) (hl : l.length ≤ 1000000)
    (hs : ∀ x, x ∈ l → ∃ js ρ2, (∀ j ∈ js, j ∈ vs) ∧ Tgt S g js (dα x) (wipeR ρ vs) ρ2 ∧ Ev S te ρ2 (Eq (.dat (f x)))) : EvF S (tLc wi g tYes te vs) ρ (Eq (l.map f)) := by
  have h := ef_filterL (S := S) (ρ := ρ) (te := te) (tt := tYes) (wi := wi) (g := g) (vs := vs) (c := fun _ => true) (f := f) hi hl fun x hx => by
    obtain ⟨js, ρ2, h1, h2, h3⟩ := hs x hx
    exact ⟨js, ρ2, h1, h2, fun σ G H k e Q q => q true G H (Grow.refl k) k rfl, fun _ => h3⟩
  have e : l.filter (fun _ => true) = l := List.filter_eq_self.mpr fun _ _ => rfl
  rw [e] at h
  exact h
/-- sum([e for x in xs]), max(..) -/
theorem ev_sumL {α : Type} {l : List α} {dα : α → D} {f : α → Int} (hi : Itm S wi ρ (Eq (l.map dα))) (hl : l.length ≤ 1000000)
    (hs : ∀ x, x ∈ l → ∃ js ρ2, (∀ j ∈ js, j ∈ vs) ∧ Tgt S g js (dα x) (wipeR ρ vs) ρ2 ∧ Ev S te ρ2 (Eq (.dat (.int (f x))))) : Ev S (tCB (rSum S.K) (tCons (tLc wi g tYes te vs) tNil)) ρ (Eq (.dat (.int (l.map f).sum))) :=
  ev_sum ((ef_mapL (f := fun x => .int (f x)) hi hl hs).evE.cast (by rw [List.map_map]; rfl))
theorem ev_maxL {α : Type} {l : List α} {dα : α → D} {f : α → Int} (h0 : l ≠ []) (hi : Itm S wi ρ (Eq (l.map dα))) (hl : l.length ≤ 1000000)
    (hs : ∀ x, x ∈ l → ∃ js ρ2, (∀ j ∈ js, j ∈ vs) ∧ Tgt S g js (dα x) (wipeR ρ vs) ρ2 ∧ Ev S te ρ2 (Eq (.dat (.int (f x))))) : Ev S (tCB (rMax S.K) (tCons (tLc wi g tYes te vs) tNil)) ρ (Eq (.dat (.int (lmax (l.map f))))) :=
  ev_max (by simpa using h0) ((ef_mapL (f := fun x => .int (f x)) hi hl hs).evE.cast (by rw [List.map_map]; rfl))
end
theorem ev_ixU {S : Cf} {ρ : Rho} {te tb : TE} {ds : List D} {i : Int} {d : D} (h : Ev S te ρ (Eq (.dat (.tuple ds)))) (hb : Ev S tb ρ (Eq (.dat (.int i)))) (hd : atI ds i = some d) : Ev S (tOp (rIxT S.K) te tb) ρ (Eq (.dat d)) := ev_ixT (eu_of h) hb hd
/-! ### the row's numbers, where less is known -/
section
variable {K : PySem.W.Frag} {G0 B : Hp} {E : XK} {z : RowZ} {ρ : Rho} {te ti : TE}
theorem ev_takenI {q : Int → Prop} {E' : XK} (hi : Ev ⟨K, rowFx K z, G0, B, E⟩ ti ρ (Eq (.raw (.ref z.r)))) (he : EvI ⟨K, rowFx K z, G0, B, E⟩ te ρ q) (hq : ∀ m, q m → 0 < m ∧ m < 1073741824) :
    EvI ⟨K, rowFx K z, G0, B, E⟩ (tCall (spTaken K) [] E' (tCons ti (tCons te tNil))) ρ (fun x => 0 ≤ x ∧ ∃ m, q m ∧ x < m) := fun σ G H k e Q qq =>
  hi σ G H k e _ fun v s G1 H1 g1 k1 es r1 => he σ G1 H1 k1 (e.grow g1) _ fun u s2 G2 H2 g2 k2 ⟨many, es2, hm⟩ r2 => by
    subst es es2
    cases r2
    cases (show v = _ from r1)
    obtain ⟨h0, h1⟩ := hq many hm
    obtain ⟨⟨p, m, c, a1, a2, a3, a4⟩, h5, h6⟩ := id k2.inv
    refine ⟨z.r, z.sc, z.vs, many, p, m, c, rfl, h0, h1, a1, a2, a3, a4, h5.sq, h5.sq' a4, fun x p' m' c' x0 x1 p0 m0 m1 => ?_⟩
    obtain ⟨g3, k3⟩ := row_new k2 (c := c') p0 m0 m1
    exact qq _ _ G2 _ ((g1.trans k1 k2 g2).trans k2 k3 g3) k3 ⟨x, rfl, x0, many, hm, x1⟩ (.int x)
theorem ev_pick {l : List D} {E' : XK} (hi : Ev ⟨K, rowFx K z, G0, B, E⟩ ti ρ (Eq (.raw (.ref z.r)))) (hl : Ev ⟨K, rowFx K z, G0, B, E⟩ te ρ (Eq (.dat (.list l)))) (h0 : l ≠ []) (h1 : l.length < 1073741824) :
    Ev ⟨K, rowFx K z, G0, B, E⟩ (tCall (spZ fun z : RowZ => spI K (rowFx K z) (fun ds : List D => [.raw (.ref z.r), .dat (.list ds)]) (fun ds => ds ≠ [] ∧ ds.length < 1073741824) (fun ds r => ∃ d, d ∈ ds ∧ r = .ok (.dat d))) [] E' (tCons ti (tCons te tNil))) ρ (fun s => ∃ d, s = .dat d ∧ d ∈ l) :=
  ev_callZ (fx := rowFx K) z (ea_cons hi (ea_cons hl ea_nil)) fun ss e => ⟨l, e.symm, ⟨h0, h1⟩, fun s ⟨d, hd, e⟩ => ⟨d, Re.ok.inj e, hd⟩, fun C d ⟨_, _, e⟩ => by cases e⟩
end
/-- ints of which something is known, compared by == -/
theorem ev_eqIP {S : Cf} {ρ : Rho} {ta tb : TE} {p q : Int → Prop} (ha : EvI S ta ρ p) (hb : EvI S tb ρ q) : Ev S (tOp (rEqD S.K) ta tb) ρ (fun s => ∃ b, s = .dat (.bool b) ∧ True) :=
  ev_op ha hb fun x y ⟨i, ex, _⟩ ⟨j, ey, _⟩ => by
    subst ex ey
    intro G H v w k rx ry Q qq
    exact (opd_here (z := .bl (PyData.eqv (.int i) (.int j))) (s := .dat (.bool (PyData.eqv (.int i) (.int j)))) fun G H v w k rx ry => ⟨.bl _, fun Q q => ⟨.int i, .int j, (R.mono k.gh rx).dp rfl, (R.mono k.gh ry).dp rfl, rfl, rfl, q⟩⟩) G H v w k rx ry Q fun z s G' H' g k' e r => qq z s G' H' g k' ⟨_, e.symm, trivial⟩ r
/-! ### rules that tell the written part by its name (inside comprehensions) -/
section
variable {X : Cx} {K : PySem.W.Frag}
theorem pe_fld' {o : Expr} {f : Str} {ta : TE} {pos : Pos} (hK : X.K = K) (he : PE X o ta) (hb : attributeBase o f X.env (eval o X.env) = eval o X.env := by rfl) : PE X (.Attribute o f pos) (tFld K ta f) := by
  subst hK
  exact pe_fld he hb
theorem pa_star' {e : Expr} {es : List Expr} {te : TE} {t : TA} {p : Pos} (hK : X.K = K) (he : PE X e te) (hr : PA X es t) (hs : starEach (.Starred e p :: es) X.env = (true, eval e X.env) :: starEach es X.env := by rfl) : PA X (.Starred e p :: es) (tStar K te t) := by
  subst hK
  exact pa_star he hr hs
theorem pi_list' {tg l : Expr} {tl : TE} (hK : X.K = K) (hl : PE X l tl) : PI X tg l (iList K tl) := by
  subst hK
  exact pi_list hl
theorem pi_tup' {tg l : Expr} {tl : TE} (hK : X.K = K) (hl : PE X l tl) : PI X tg l (iTup K tl) := by
  subst hK
  exact pi_tup hl
theorem pg_tup' {es : List Expr} {k : Nat} {t : TGs} {n : Nat} {pos : Pos} (hK : X.K = K) (hc : X.calm = true) (h : PGs X es t) (hn : (assignEach es X.env).length = n := by rfl) (hst : (assignEach es X.env).findIdx? (·.1) = none := by rfl) : PG X (.Tuple es k pos) (gTup K n t) := by
  subst hK
  exact pg_tup hc h hn hst
end
end Dl

set_option Elab.async false
set_option linter.all false
set_option maxRecDepth 100000
set_option maxHeartbeats 4000000
/-! Dld: dicts as data: of ints and texts, of tuples. -/
namespace Dl
open PySem PySem.Spec PyProof.Rows L2 LamX
/-! ### the data of a dict -/
def gD (ds : List (D × D)) (k : D) : Option D := (ds.find? fun p => decide (nk p.1 = nk k)).map (·.2)
def pD (ds : List (D × D)) (k v : D) : List (D × D) := if (gD ds k).isSome = true then ds.map (fun p => if nk p.1 = nk k then (p.1, v) else p) else ds ++ [(k, v)]
theorem gD_nil {k : D} : gD [] k = none := rfl
theorem gD_pos {p : D × D} {r : List (D × D)} {k : D} (e : nk p.1 = nk k) : gD (p :: r) k = some p.2 := by simp [gD, List.find?_cons, e]
theorem gD_neg {p : D × D} {r : List (D × D)} {k : D} (e : ¬ nk p.1 = nk k) : gD (p :: r) k = gD r k := by simp [gD, List.find?_cons, e]
theorem nk_kD {k j : Key} (h : nk (kD k) = nk (kD j)) : k = j := by
  cases k <;> cases j <;> simp only [kD, nk, NestedKey.num.injEq, NestedKey.text.injEq] at h
  · rw [h]
  · cases h
  · cases h
  · rw [h]
section
variable {K : PySem.W.Frag} {G : Hp}
theorem RK.get {ks : List (Key × V)} {ds : List (D × D)} (h : RK K G ks ds) (k : Key) : (valV ks k = none ∧ gD ds (kD k) = none) ∨ ∃ v d, valV ks k = some v ∧ gD ds (kD k) = some d ∧ R K G v d := by
  induction ks generalizing ds with
  | nil =>
    cases h
    exact .inl ⟨rfl, rfl⟩
  | cons p ks ih =>
    cases h with
    | @cons j v _ d ds r rs =>
      by_cases e : j = k
      · exact .inr ⟨v, d, valV_pos e, gD_pos (by rw [e]), r⟩
      · have e' : ¬ nk (kD j) = nk (kD k) := fun z => e (nk_kD z)
        rw [valV_neg (p := (j, v)) e, gD_neg (p := (kD j, d)) e']
        exact ih rs
theorem RK.repl {ks : List (Key × V)} {ds : List (D × D)} (h : RK K G ks ds) (k : Key) {v : V} {d : D} (r : R K G v d) : RK K G (ks.map fun kv => if kv.1 = k then (kv.1, v) else kv) (ds.map fun p => if nk p.1 = nk (kD k) then (p.1, d) else p) := by
  induction ks generalizing ds with
  | nil =>
    cases h
    exact .nil
  | cons p ks ih =>
    cases h with
    | @cons j v0 _ d0 ds r0 rs =>
      simp only [List.map_cons]
      by_cases e : j = k
      · rw [if_pos e, if_pos (by rw [e])]
        exact .cons r (ih rs)
      · have e' : ¬ nk (kD j) = nk (kD k) := fun z => e (nk_kD z)
        rw [if_neg e, if_neg e']
        exact .cons r0 (ih rs)
theorem RK.snoc {ks : List (Key × V)} {ds : List (D × D)} (h : RK K G ks ds) (k : Key) {v : V} {d : D} (r : R K G v d) : RK K G (ks ++ [(k, v)]) (ds ++ [(kD k, d)]) := by
  induction ks generalizing ds with
  | nil =>
    cases h
    exact .cons r .nil
  | cons p ks ih =>
    cases h with
    | cons r0 rs => exact .cons r0 (ih rs)
theorem RK.put {ks : List (Key × V)} {ds : List (D × D)} (h : RK K G ks ds) (k : Key) {v : V} {d : D} (r : R K G v d) : RK K G (putK ks k v) (pD ds (kD k) d) := by
  unfold putK pD
  rw [valV_any]
  rcases h.get k with ⟨e1, e2⟩ | ⟨w, x, e1, e2, _⟩
  · rw [e1, e2, if_neg (by simp), if_neg (by simp)]
    exact h.snoc k r
  · rw [e1, e2, if_pos (by simp), if_pos (by simp)]
    exact h.repl k r
theorem RN.get {xs : List (NestedKey × Addr × Value)} {ds : List (D × D)} (h : RN K G xs ds) (k : D) : (atKey xs (nk k) = none ∧ gD ds k = none) ∨ ∃ b u v d, atKey xs (nk k) = some (b, u) ∧ gD ds k = some d ∧ RelV v u ∧ R K G v d := by
  induction xs generalizing ds with
  | nil =>
    cases h
    exact .inl ⟨rfl, rfl⟩
  | cons p xs ih =>
    cases h with
    | @cons j b u v _ dk d ds ok e0 rb rv rd rs =>
      by_cases e : nk dk = nk k
      · have e' : j = nk k := e0.trans e
        exact .inr ⟨b, u, v, d, by simp [atKey, List.find?_cons, e'], gD_pos e, rv, rd⟩
      · have e' : ¬ j = nk k := fun z => e (e0.symm.trans z)
        have a : atKey ((j, b, u) :: xs) (nk k) = atKey xs (nk k) := by simp [atKey, List.find?_cons, e']
        rw [a, gD_neg (p := (dk, d)) e]
        exact ih rs
theorem RN.repl {xs : List (NestedKey × Addr × Value)} {ds : List (D × D)} (h : RN K G xs ds) (k : D) {v : V} {u : Value} {d : D} (rv : RelV v u) (r : R K G v d) : RN K G (xs.map (putAt (nk k) u)) (ds.map fun p => if nk p.1 = nk k then (p.1, d) else p) := by
  induction xs generalizing ds with
  | nil =>
    cases h
    exact .nil
  | cons p xs ih =>
    cases h with
    | @cons j b u0 v0 _ dk d0 ds ok e0 rb rv0 rd rs =>
      simp only [List.map_cons]
      unfold putAt
      by_cases e : nk dk = nk k
      · rw [if_pos (show (j, b, u0).1 = nk k from e0.trans e), if_pos e]
        exact .cons ok e0 rb rv r (ih rs)
      · rw [if_neg (show ¬ (j, b, u0).1 = nk k from fun z => e (e0.symm.trans z)), if_neg e]
        exact .cons ok e0 rb rv0 rd (ih rs)
theorem RN.snoc {xs : List (NestedKey × Addr × Value)} {ds : List (D × D)} (h : RN K G xs ds) {k : D} {b : Addr} {v : V} {u : Value} {d : D} (ok : okT k = true) (rb : R K G (.ref b) k) (rv : RelV v u) (r : R K G v d) : RN K G (xs ++ [(nk k, b, u)]) (ds ++ [(k, d)]) := by
  induction xs generalizing ds with
  | nil =>
    cases h
    exact .cons ok rfl rb rv r .nil
  | cons p xs ih =>
    cases h with
    | cons a1 a2 a3 a4 a5 rs => exact .cons a1 a2 a3 a4 a5 (ih rs)
theorem RN.put {xs : List (NestedKey × Addr × Value)} {ds : List (D × D)} (h : RN K G xs ds) {k : D} {b : Addr} {v : V} {u : Value} {d : D} (ok : okT k = true) (rb : R K G (.ref b) k) (rv : RelV v u) (r : R K G v d) : RN K G (storedH xs (nk k) b u) (pD ds k d) := by
  unfold storedH pD
  rcases h.get k with ⟨e1, e2⟩ | ⟨_, _, _, _, e1, e2, _⟩
  · rw [e1, e2, if_neg (by simp), if_neg (by simp)]
    exact h.snoc ok rb rv r
  · rw [e1, e2, if_pos (by simp), if_pos (by simp)]
    exact h.repl k rv r
end
theorem pD_length (ds : List (D × D)) (k v : D) : (pD ds k v).length ≤ ds.length + 1 := by
  unfold pD
  split <;> simp
theorem storedH_length (xs : List (NestedKey × Addr × Value)) (k : NestedKey) (a : Addr) (v : Value) : (storedH xs k a v).length ≤ xs.length + 1 := by
  unfold storedH
  split <;> simp
/-! ### in the heap -/
section
variable {X : Cx} {pins : List (Addr × Obj)} {σ : L2.St} {H : Hp} {s : Shared}
mutual
theorem key_is (I : Inv X pins σ H s) : ∀ (d : D) (v : V) (u : Value), R X.K H v d → okN d = true → RelV v u → NestedIs s.heap (nk d) u
  | .int i, _, _, h, _, r => by
    cases h
    obtain ⟨t, rfl⟩ := r
    unfold nk
    exact .int i t
  | .tuple ds, _, _, h, ok, r => by
    cases h with
    | tup hs ha =>
      cases r
      obtain ⟨its, rv, ⟨o, ho, hc, n, hd⟩, _⟩ := I.tuple hs
      unfold nk
      exact .tup ho hc hd (by simpa using key_isAll I ds _ its ha (by simpa [okN] using ok) rv)
  | .none, _, _, _, ok, _ => by simp [okN] at ok
  | .bool _, _, _, _, ok, _ => by simp [okN] at ok
  | .str _, _, _, _, ok, _ => by simp [okN] at ok
  | .list _, _, _, _, ok, _ => by simp [okN] at ok
  | .dict _, _, _, _, ok, _ => by simp [okN] at ok
theorem key_isAll (I : Inv X pins σ H s) : ∀ (ds : List D) (vs : List V) (us : List Value), RA X.K H vs ds → okNs ds = true → Vals vs us → NestedAll s.heap (nkAll ds) us
  | [], _, _, h, _, r => by
    cases h
    cases r
    unfold nkAll
    exact .nil
  | d :: ds, _, _, h, ok, r => by
    cases h with
    | cons h1 h2 =>
      cases r with
      | cons r1 r2 =>
        simp only [okNs, Bool.and_eq_true] at ok
        unfold nkAll
        exact .cons (key_is I d _ _ h1 ok.1 r1) (key_isAll I ds _ _ h2 ok.2 r2)
end
mutual
theorem hash_ok (w w' : World) : ∀ d : D, okN d = true → (nk d).hash w = (nk d).hash w'
  | .int i, _ => by unfold nk NestedKey.hash; rfl
  | .tuple ds, h => by
    unfold nk NestedKey.hash
    rw [hash_okAll w w' ds (by simpa [okN] using h)]
  | .none, h => by simp [okN] at h
  | .bool _, h => by simp [okN] at h
  | .str _, h => by simp [okN] at h
  | .list _, h => by simp [okN] at h
  | .dict _, h => by simp [okN] at h
theorem hash_okAll (w w' : World) : ∀ ds : List D, okNs ds = true → NestedKey.hashes w (nkAll ds) = NestedKey.hashes w' (nkAll ds)
  | [], _ => by unfold nkAll NestedKey.hashes; rfl
  | d :: ds, h => by
    simp only [okNs, Bool.and_eq_true] at h
    unfold nkAll NestedKey.hashes
    rw [hash_ok w w' d h.1, hash_okAll w w' ds h.2]
end
theorem okT_tup {d : D} (h : okT d = true) : ∃ ds, d = .tuple ds ∧ okNs ds = true ∧ NestedKey.depthAll (nkAll ds) ≤ 7 := by
  cases d with
  | tuple ds =>
    simp only [okT, Bool.and_eq_true, decide_eq_true_eq] at h
    exact ⟨ds, rfl, h.1.1, h.2⟩
  | _ => simp [okT] at h
theorem key_kind (I : Inv X pins σ H s) {d : D} {b : Addr} (h : R X.K H (.ref b) d) (ok : okT d = true) : (nestedKind X.prog X.w).is s.heap (nk d) b := by
  obtain ⟨ds, rfl, o1, o2⟩ := okT_tup ok
  refine ⟨key_is I _ (.ref b) (.ref b) h (by simpa [okN] using o1) rfl, ?_⟩
  unfold nk NestedKey.depth
  omega
theorem dx_rd (I : Inv X pins σ H s) {a : Addr} {xs : List (NestedKey × Addr × Value)} {G : Hp} {ds : List (D × D)} (e : Rd H a (DX a xs)) (sg : Same G H) (r : RN X.K G xs ds) :
    xs.length ≤ sizeLine ∧ (a == sysModules) = false ∧ s.heap.DictOfH (nestedKind X.prog X.w) a xs := by
  obtain ⟨⟨z, hd, o, es, ep, h1, h2, h3, h4, h5⟩, _⟩ := (show ObjOk X.prog X.w H s.heap a (DX a xs) from e.ok I.hok)
  refine ⟨z, hd, o, es, ep, h1, h2, h3, h4 X.w, ?_, h5⟩
  have r' := r.mono sg
  have all : ∀ {l : List (NestedKey × Addr × Value)} {m : List (D × D)}, RN X.K H l m → ∀ x ∈ l, (nestedKind X.prog X.w).is s.heap x.1 x.2.1 := by
    intro l
    induction l with
    | nil =>
      intro m _ x hx
      cases hx
    | cons p l ih =>
      intro m q x hx
      cases q with
      | cons ok e0 rb _ _ rs =>
        rcases List.mem_cons.mp hx with e | hx
        · subst e
          rw [show (_, _, _).1 = _ from rfl, e0]
          exact key_kind I rb ok
        · exact ih rs x hx
  exact all r'
end
/-! ### a dict that may be read: b tells its kind (keys ints and texts; tuples) -/
def DRd (K : PySem.W.Frag) (G H : Hp) (a : Addr) : Bool → List (D × D) → Prop
  | true, ds => ∃ ks, Rd H a (.dK ks) ∧ RK K G ks ds
  | false, ds => ∃ xs, Rd H a (DX a xs) ∧ RN K G xs ds
def KeyD : Bool → D → Prop
  | true, d => ∃ k, d = kD k
  | false, d => okT d = true
theorem kD_R {K : PySem.W.Frag} {G : Hp} {v : V} {k : Key} (h : R K G v (kD k)) : v = kV k := by
  cases k <;> (simp only [kD] at h; cases h; rfl)
theorem okT_R {K : PySem.W.Frag} {G : Hp} {v : V} {d : D} (h : R K G v d) (ok : okT d = true) : ∃ b, v = .ref b := by
  obtain ⟨ds, rfl, _⟩ := okT_tup ok
  cases h
  exact ⟨_, rfl⟩
theorem R.keyRel {K : PySem.W.Frag} {G : Hp} {v : V} {d : D} {w u : Value} (h : R K G v d) (ok : okT d = true) (r : RelV v u) : ∃ b, v = .ref b ∧ u = .ref b := by
  obtain ⟨b, rfl⟩ := okT_R h ok
  exact ⟨b, rfl, r⟩
/-- what the dict at a holds at the key y -/
def XGet (K : PySem.W.Frag) (H : Hp) (a : Addr) (y : V) (Q : Option V → Prop) : Prop := ∃ (G : Hp) (f : Bool) (ds : List (D × D)) (dk : D), Same G H ∧ DRd K G H a f ds ∧ KeyD f dk ∧ R K G y dk ∧
  (gD ds dk = none → Q none) ∧ ∀ d, gD ds dk = some d → ∀ v, R K G v d → Q (some v)
section
variable {X : Cx} {pins : List (Addr × Obj)} {σ : L2.St} {H : Hp} {s : Shared} {a : Addr} {y v : V} {u r : Value} {A : Around} {E : Value → Shared → Prop}
theorem x_type (I : Inv X pins σ H s) {Qo : Option V → Prop} (g : XGet X.K H a y Qo) : s.TypeIs (.ref a) "dict" := by
  obtain ⟨G, f, ds, dk, sg, dr, kd, ry, _, _⟩ := g
  cases f with
  | true =>
    obtain ⟨ks, e, _⟩ := dr
    obtain ⟨_, _, _, _, dd⟩ := dk_rd I.hok e
    exact dd.typeIs
  | false =>
    obtain ⟨xs, e, rr⟩ := dr
    obtain ⟨_, _, dd⟩ := dx_rd I e sg rr
    exact dd.typeIs
theorem x_getItem {Q : Value → Shared → Prop} {Qv : V → Prop} (hu : A.units + 64 < cLine) (I : Inv X pins σ H s) (g : XGet X.K H a y (fun o => ∃ v, o = some v ∧ Qv v)) (ry : RelV y u) (h : ∀ v w' s', Qv v → Inv X pins σ H s' → RelV v w' → Q w' s') :
    wpAny (model X.prog X.w) A (getItem (.ref a) u) Q E s := by
  obtain ⟨G, f, ds, dk, sg, dr, kd, rk, q0, q1⟩ := g
  cases f with
  | true =>
    obtain ⟨ks, e, rr⟩ := dr
    obtain ⟨k, rfl⟩ := kd
    have ey := kD_R rk
    rcases rr.get k with ⟨_, e2⟩ | ⟨w, d, e1, e2, rw'⟩
    · obtain ⟨_, z, _⟩ := q0 e2
      cases z
    · obtain ⟨v, z, qv⟩ := q1 d e2 w rw'
      cases z
      exact d_getItem (by omega) I (.inl ⟨ks, k, e, ey, e1.symm⟩) ry fun w' s' I' r' => h w w' s' qv I' r'
  | false =>
    obtain ⟨xs, e, rr⟩ := dr
    obtain ⟨z1, z2, dd⟩ := dx_rd I e sg rr
    obtain ⟨b, rfl, rfl⟩ := rk.keyRel (w := u) kd ry
    rcases rr.get dk with ⟨_, e2⟩ | ⟨b', u', w, d, e1, e2, rw', rd⟩
    · obtain ⟨_, z, _⟩ := q0 e2
      cases z
    · obtain ⟨v, z, qv⟩ := q1 d e2 w rd
      cases z
      exact wpAny_getItem_heap (knd := nestedKind X.prog X.w) (by show A.units + 1 + 8 < cLine; omega) (key_kind I (rk.mono sg) kd) dd e1 (h w u' _ qv (I.tok _) rw')
theorem x_in {Q : Value → Shared → Prop} {Qb : Bool → Prop} (hu : A.units + 64 < cLine) (I : Inv X pins σ H s) (g : XGet X.K H a y (fun o => Qb o.isSome)) (ry : RelV y u) (h : ∀ b s', Qb b → Inv X pins σ H s' → Q (.bool b) s') :
    wpAny (model X.prog X.w) A (compareOp .In u (.ref a)) Q E s := by
  obtain ⟨G, f, ds, dk, sg, dr, kd, rk, q0, q1⟩ := g
  cases f with
  | true =>
    obtain ⟨ks, e, rr⟩ := dr
    obtain ⟨k, rfl⟩ := kd
    have ey := kD_R rk
    rcases rr.get k with ⟨e1, e2⟩ | ⟨w, d, e1, e2, rw'⟩
    · exact d_in (o := none) (by omega) I (.inl ⟨ks, k, e, ey, e1.symm⟩) ry fun s' I' => h _ s' (q0 e2) I'
    · exact d_in (o := some w) (by omega) I (.inl ⟨ks, k, e, ey, e1.symm⟩) ry fun s' I' => h _ s' (q1 d e2 w rw') I'
  | false =>
    obtain ⟨xs, e, rr⟩ := dr
    obtain ⟨z1, z2, dd⟩ := dx_rd I e sg rr
    obtain ⟨b, rfl, rfl⟩ := rk.keyRel (w := u) kd ry
    refine wpAny_in_heap (knd := nestedKind X.prog X.w) (by show A.units + 1 + 8 < cLine; omega) (key_kind I (rk.mono sg) kd) z2 dd ?_
    rcases rr.get dk with ⟨e1, e2⟩ | ⟨b', u', w, d, e1, e2, rw', rd⟩
    · rw [e1]
      exact h _ _ (q0 e2) (I.tok _)
    · rw [e1]
      exact h _ _ (q1 d e2 w rd) (I.tok _)
theorem x_notIn {Q : Value → Shared → Prop} {Qb : Bool → Prop} (hu : A.units + 64 < cLine) (I : Inv X pins σ H s) (g : XGet X.K H a y (fun o => Qb (!o.isSome))) (ry : RelV y u) (h : ∀ b s', Qb b → Inv X pins σ H s' → Q (.bool b) s') :
    wpAny (model X.prog X.w) A (compareOp .NotIn u (.ref a)) Q E s := by
  obtain ⟨G, f, ds, dk, sg, dr, kd, rk, q0, q1⟩ := g
  cases f with
  | true =>
    obtain ⟨ks, e, rr⟩ := dr
    obtain ⟨k, rfl⟩ := kd
    have ey := kD_R rk
    rcases rr.get k with ⟨e1, e2⟩ | ⟨w, d, e1, e2, rw'⟩
    · exact d_notIn (o := none) (by omega) I (.inl ⟨ks, k, e, ey, e1.symm⟩) ry fun s' I' => h _ s' (q0 e2) I'
    · exact d_notIn (o := some w) (by omega) I (.inl ⟨ks, k, e, ey, e1.symm⟩) ry fun s' I' => h _ s' (q1 d e2 w rw') I'
  | false =>
    obtain ⟨xs, e, rr⟩ := dr
    obtain ⟨z1, z2, dd⟩ := dx_rd I e sg rr
    obtain ⟨b, rfl, rfl⟩ := rk.keyRel (w := u) kd ry
    refine wpAny_notIn_heap (knd := nestedKind X.prog X.w) (by show A.units + 1 + 8 < cLine; omega) (key_kind I (rk.mono sg) kd) z2 dd ?_
    rcases rr.get dk with ⟨e1, e2⟩ | ⟨b', u', w, d, e1, e2, rw', rd⟩
    · rw [e1]
      exact h _ _ (q0 e2) (I.tok _)
    · rw [e1]
      exact h _ _ (q1 d e2 w rd) (I.tok _)
theorem okT_okN {d : D} (h : okT d = true) : okN d = true := by
  obtain ⟨ds, rfl, h1, _⟩ := okT_tup h
  simpa [okN] using h1
def KeysOk (xs : List (NestedKey × Addr × Value)) : Prop := ∀ x ∈ xs, ∃ d, okT d = true ∧ x.1 = nk d
theorem RN.keysOk {K : PySem.W.Frag} {G : Hp} : ∀ {xs : List (NestedKey × Addr × Value)} {ds : List (D × D)}, RN K G xs ds → KeysOk xs
  | _, _, .nil, x, hx => by cases hx
  | _, _, .cons a1 a2 _ _ _ r, x, hx => by
    rcases List.mem_cons.mp hx with e | hx
    · subst e
      exact ⟨_, a1, a2⟩
    · exact r.keysOk x hx
theorem KeysOk.put {xs : List (NestedKey × Addr × Value)} (h : KeysOk xs) {d : D} (ok : okT d = true) (b : Addr) (u : Value) : KeysOk (storedH xs (nk d) b u) := fun x hx => by
  unfold storedH at hx
  split at hx
  · obtain ⟨y, hy, e⟩ := List.mem_map.mp hx
    obtain ⟨d', o, e'⟩ := h y hy
    refine ⟨d', o, ?_⟩
    subst e
    unfold putAt
    split
    · exact e'
    · exact e'
  · rcases List.mem_append.mp hx with hx | hx
    · exact h x hx
    · have e := List.mem_singleton.mp hx
      subst e
      exact ⟨d, ok, rfl⟩
theorem hash_any {P : Program} {w0 : World} {es : Array DictEntry} {xs : List (NestedKey × Addr × Value)} (h : es.toList = xs.map (entryOfKey (nestedKind P w0))) (k : KeysOk xs) (w : World) : es.toList = xs.map (entX w) := by
  rw [h]
  refine List.map_congr_left fun x hx => ?_
  obtain ⟨d, o, e⟩ := k x hx
  show DictEntry.mk (x.1.hash w0) _ _ = DictEntry.mk (x.1.hash w) _ _
  rw [e, hash_ok w0 w d (okT_okN o)]
/-- a[y] = v: what is behind it -/
def XPut (K : PySem.W.Frag) (H : Hp) (a : Addr) (y v : V) (Q : Hp → Prop) : Prop :=
  (∃ ks k, H a = some (.dK ks) ∧ y = kV k ∧ ks.length < sizeLine ∧ Q (upd H a (.dK (putK ks k v)))) ∨
  ∃ (G : Hp) (xs : List (NestedKey × Addr × Value)) (ds : List (D × D)) (dk : D) (b : Addr), H a = some (DX a xs) ∧ Same G H ∧ RN K G xs ds ∧ y = .ref b ∧ R K G y dk ∧ okT dk = true ∧ xs.length < sizeLine ∧ ∀ u, RelV v u → Q (upd H a (DX a (storedH xs (nk dk) b u)))
theorem x_setItem {Q : Unit → Shared → Prop} {Qh : Hp → Prop} (hu : A.units + 64 < cLine) (I : Inv X pins σ H s) (g : XPut X.K H a y v Qh) (ry : RelV y u) (rv : RelV v r) (h : ∀ H' s', Qh H' → Inv X pins σ H' s' → Q () s') :
    wpAny (model X.prog X.w) A (setItem (.ref a) u r) Q E s := by
  rcases g with ⟨ks, k, e, ey, l, q⟩ | ⟨G, xs, ds, dk, b, e, sg, rr, ey, rk, ok, l, q⟩
  · subst ey
    exact d_setItem (by omega) I (DPut.k e l) ry rv fun s' I' => h _ s' q I'
  · subst ey
    cases (show u = Value.ref b from ry)
    obtain ⟨z1, z2, dd⟩ := dx_rd I (.inl e) sg rr
    refine wpAny_setItem_heap (knd := nestedKind X.prog X.w) (hsz := z1) (by show A.units + 1 + 8 < cLine; omega) (key_kind I (rk.mono sg) ok) dd fun h' dd' hs => h _ _ (q r rv) ?_
    obtain ⟨o, es, ep, hq, h2, h3, h4, _, h5⟩ := dd'
    have hl : (storedH xs (nk dk) b r).length ≤ sizeLine := by
      have := storedH_length xs (nk dk) b r
      omega
    have new : phiX a (storedH xs (nk dk) b r) h' := ⟨hl, z2, o, es, ep, hq, h2, h3, fun w => ?_, h5⟩
    · exact d_write I (by rw [e]; exact True.intro) hs ⟨o, hq⟩ ⟨new, ⟨o, hq⟩, fun h1 h2 p k => by
        obtain ⟨p1, p2, o', es', ep', p3, p4⟩ := p
        exact ⟨p1, p2, o', es', ep', k _ p3, p4⟩⟩
    · exact hash_any h4 (rr.keysOk.put ok b r) w
end
end Dl

set_option Elab.async false
set_option linter.all false
set_option maxRecDepth 100000
set_option maxHeartbeats 4000000
/-! Dlf: dicts in expressions and statements. -/
namespace Dl
open PySem PySem.Spec PyProof.Rows L2 LamX
/-! ### readings -/
def tXGet (K : PySem.W.Frag) (td ty : TE) : TE := fun σ H Q => td σ H fun x H1 => ty σ H1 fun y H2 => ∃ a, x = .ref a ∧ XGet K H2 a y (fun o => ∃ v, o = some v ∧ Q v H2)
def tXIn (K : PySem.W.Frag) (ty td : TE) : TE := fun σ H Q => ty σ H fun y H1 => td σ H1 fun x H2 => ∃ a, x = .ref a ∧ XGet K H2 a y (fun o => Q (.bl o.isSome) H2)
def tXNotIn (K : PySem.W.Frag) (ty td : TE) : TE := fun σ H Q => ty σ H fun y H1 => td σ H1 fun x H2 => ∃ a, x = .ref a ∧ XGet K H2 a y (fun o => Q (.bl (!o.isSome)) H2)
def sXPut (K : PySem.W.Frag) (td ty tv : TE) : TS := fun De σ H => tv σ H fun v H1 => td σ H1 fun x H2 => ty σ H2 fun y H3 => ∃ a, x = .ref a ∧ XPut K H3 a y v (fun H4 => De.nx σ H4)
/-- {}, of either kind -/
def tXNew : TE := fun _ H Q => ∀ p, H p = none → (Q (.ref p) (upd H p (.dK [])) ∨ Q (.ref p) (upd H p (DX p [])))
theorem dx_empty {P : Program} {w : World} {H : Hp} (h : Heap) (hb : sysModules < h.objs.size) : ObjOk P w H (h.push { cls := .type "dict", data := .dict #[] }) h.objs.size (DX h.objs.size []) :=
  ⟨⟨Nat.zero_le _, beq_eq_false_iff_ne.mpr (Ne.symm (Nat.ne_of_lt hb)), _, #[], 0, Heap.get?_push_size _ rfl, ⟨rfl, rfl, rfl⟩, rfl, fun _ => rfl, List.nodup_nil⟩, ⟨_, Heap.get?_push_size _ rfl⟩, fun h1 h2 p k => by
    obtain ⟨p1, p2, o', es', ep', p3, p4⟩ := p
    exact ⟨p1, p2, o', es', ep', k _ p3, p4⟩⟩
section
variable {X : Cx} {K : PySem.W.Frag} {o i value : Expr} {pos pos' : Pos} {td ty tv : TE}
theorem pe_xget (hK : X.K = K) (hu : X.A.units + 64 < cLine) (ho : PE X o td) (hi : PE X i ty) (hs : NoSl i := by exact fun _ _ => rfl) : PE X (.Subscript o i pos) (tXGet K td ty) := by
  subst hK
  refine ⟨fun pins s σ H Q I h => ?_⟩
  refine subD_of PySem.F.slot_dict_getitem.lookup hs (thn (ho.run pins s σ H _ I h) fun u s1 ⟨x, H1, I1, rx, q1⟩ => thn (hi.run pins s1 σ H1 _ I1 q1) fun iv s2 ⟨y, H2, I2, ry, a, ex, g⟩ => ?_)
  subst ex
  obtain rfl : u = Value.ref a := rx
  exact ⟨x_type I2 g, x_getItem hu I2 g ry fun v w' s3 q2 I3 rw' => ⟨v, H2, I3, rw', q2⟩⟩
theorem pc_xin (hK : X.K = K) (hu : X.A.units + 64 < cLine) (hi : PE X i ty) (ho : PE X o td) : PC X .In i o (tXIn K ty td) := by
  subst hK
  refine ⟨fun pins s σ H Q I h => ?_⟩
  refine thn (hi.run pins s σ H _ I h) fun iv s1 ⟨y, H1, I1, ry, q1⟩ => thn (ho.run pins s1 σ H1 _ I1 q1) fun u s2 ⟨x, H2, I2, rx, a, ex, g⟩ => ?_
  subst ex
  obtain rfl : u = Value.ref a := rx
  exact x_in (Qb := fun b => Q (.bl b) H2) hu I2 g ry fun b s3 q2 I3 => ⟨.bl b, H2, I3, rfl, q2⟩
theorem pc_xnotin (hK : X.K = K) (hu : X.A.units + 64 < cLine) (hi : PE X i ty) (ho : PE X o td) : PC X .NotIn i o (tXNotIn K ty td) := by
  subst hK
  refine ⟨fun pins s σ H Q I h => ?_⟩
  refine thn (hi.run pins s σ H _ I h) fun iv s1 ⟨y, H1, I1, ry, q1⟩ => thn (ho.run pins s1 σ H1 _ I1 q1) fun u s2 ⟨x, H2, I2, rx, a, ex, g⟩ => ?_
  subst ex
  obtain rfl : u = Value.ref a := rx
  exact x_notIn (Qb := fun b => Q (.bl b) H2) hu I2 g ry fun b s3 q2 I3 => ⟨.bl b, H2, I3, rfl, q2⟩
theorem ps_xput (hK : X.K = K) (hu : X.A.units + 64 < cLine) (ho : PE X o td) (hi : PE X i ty) (hv : PE X value tv) (hs : swapsWith value (some (.Subscript o i pos')) pos.line X.env = pure false := by rfl) :
    PS X (.Assign [.Subscript o i pos'] value pos) (sXPut K td ty tv) := by
  subst hK
  refine ⟨fun pins s σ H D I h => ?_⟩
  refine wpAny_Assign_Subscript (thn (hv.run pins s σ H _ I h) fun r s1 ⟨v, H1, I1, rv, q1⟩ => thn (ho.run pins s1 σ H1 _ I1 q1) fun u s2 ⟨x, H2, I2, rx, q2⟩ => thn (hi.run pins s2 σ H2 _ I2 q2) fun iv s3 ⟨y, H3, I3, ry, a, ex, g⟩ => ?_) hs
  subst ex
  obtain rfl : u = Value.ref a := rx
  exact x_setItem hu I3 g ry rv fun H4 s4 q3 I4 => ⟨σ, H4, I4, q3⟩
theorem pe_xnew : PE X (.Dict [] [] pos) tXNew := ⟨fun pins s σ H Q I h => by
  rcases h _ (I.hok.fresh (Nat.le_refl _)) with h | h
  · exact wpAny_Dict_empty ⟨.ref s.heap.objs.size, _, I.laid (a := s.heap.objs.size) (o := .dK []) (t' := s.toks) (fun _ _ q => Heap.get?_push_of_some _ q) (Nat.le_refl _) (dk_empty s.heap I.big), rfl, h⟩
  · exact wpAny_Dict_empty ⟨.ref s.heap.objs.size, _, I.laid (a := s.heap.objs.size) (o := DX s.heap.objs.size []) (t' := s.toks) (fun _ _ q => Heap.get?_push_of_some _ q) (Nat.le_refl _) (dx_empty s.heap I.big), rfl, h⟩⟩
/-- a thing that was made is locked for ever -/
def tLkV (t : TE) : TE := fun σ H Q => t σ H fun v H1 => ∃ d u, v = .ref d ∧ H1 d = some u ∧ Mut (some u) ∧ ∀ od, Q v (upd H1 d (.frz od u))
theorem pe_lkV {e : Expr} {t : TE} (h : PE X e t) : PE X e (tLkV t) := ⟨fun pins s σ H Q I hw =>
  thn (h.run pins s σ H _ I hw) fun u s1 ⟨v, H1, I1, rv, d, w, ev, hd, mu, q⟩ => by
    obtain ⟨od, I2⟩ := I1.lock hd mu
    exact ⟨v, _, I2, rv, q od⟩⟩
/-- .. or it stays as it is -/
def tLkO (t : TE) : TE := fun σ H Q => t σ H Q ∨ tLkV t σ H Q
theorem pe_lkO {e : Expr} {t : TE} (h : PE X e t) : PE X e (tLkO t) := ⟨fun pins s σ H Q I hw => hw.elim (h.run pins s σ H Q I) ((pe_lkV h).run pins s σ H Q I)⟩
/-- ahead of what follows a thing may be locked for ever -/
def tLk (t : TS) : TS := fun De σ H => t De σ H ∨ ∃ d u, H d = some u ∧ Mut (some u) ∧ ∀ od, t De σ (upd H d (.frz od u))
theorem pss_lk {sts : List Stmt} {t : TS} (h : PSs X sts t) : PSs X sts (tLk t) := ⟨fun pins s σ H D I hw => by
  rcases hw with hw | ⟨d, u, hd, mu, hw⟩
  · exact h.run pins s σ H D I hw
  · obtain ⟨od, I2⟩ := I.lock hd mu
    exact h.run pins s σ _ D I2 (hw od)⟩
end
/-! ### as data -/
/-- te gives a dict that may be read -/
def EvDc (S : Cf) (te : TE) (ρ : Rho) (f : Bool) (ds : List (D × D)) : Prop := ∀ (σ : L2.St) (G H : Hp), Kn S.fx G H → Env S G H σ ρ → ∀ Q : VK,
  (∀ a G' H', Grow S.fx G H G' H' → Kn S.fx G' H' → (∀ G2 H2, Grow S.fx G' H' G2 H2 → Kn S.fx G2 H2 → DRd S.K G2 H2 a f ds) → Q (.ref a) H') → te σ H Q
theorem KnD.rd {K : PySem.W.Frag} {G H : Hp} {a : Addr} {f : Bool} {ds : List (D × D)} (h : KnD K G a f ds) (e : Same G H) : DRd K G H a f ds := by
  cases f with
  | true =>
    obtain ⟨o, ks, h1, h2⟩ := h
    exact ⟨ks, .inr ⟨o, e _ _ h1⟩, h2⟩
  | false =>
    obtain ⟨o, xs, h1, h2⟩ := h
    exact ⟨xs, .inr ⟨o, e _ _ h1⟩, h2⟩
/-- the dict of one's own: its kind -/
def moD (a : Addr) : Bool → List (D × D) → Mo
  | true, ds => .dK ds
  | false, ds => .dN a ds
theorem moD_ok {K : PySem.W.Frag} {G : Hp} {u : HO} {a : Addr} {f : Bool} {ds : List (D × D)} (h : MoOk K G u (moD a f ds)) : (f = true ∧ ∃ ks, u = .dK ks ∧ RK K G ks ds) ∨ (f = false ∧ ∃ xs, u = DX a xs ∧ RN K G xs ds) := by
  cases f with
  | true =>
    cases u with
    | dK ks => exact .inl ⟨rfl, ks, rfl, h⟩
    | _ => exact h.elim
  | false =>
    cases u with
    | ext φ =>
      obtain ⟨xs, e, r⟩ := h
      exact .inr ⟨rfl, xs, by rw [e]; rfl, r⟩
    | _ => exact h.elim
theorem moD_rd {K : PySem.W.Frag} {G H : Hp} {u : HO} {a : Addr} {f : Bool} {ds : List (D × D)} (h : MoOk K G u (moD a f ds)) (ha : H a = some u) : DRd K G H a f ds := by
  rcases moD_ok h with ⟨rfl, ks, rfl, r⟩ | ⟨rfl, xs, rfl, r⟩
  · exact ⟨ks, .inl ha, r⟩
  · exact ⟨xs, .inl ha, r⟩
section
variable {S : Cf} {ρ : Rho} {te ta tb tc : TE} {P : Oc → Prop} {w : TS} {i j : Nat} {a : Addr} {f : Bool} {ds : List (D × D)}
theorem dc_own (h : ρ[i]? = some (.own a (moD a f ds))) : EvDc S (tVar i) ρ f ds := fun σ G H k e Q q => by
  obtain ⟨v, h1, e1, ga, ba, va, u, ha, r⟩ := e.get h
  cases Option.some.inj e1
  exact ⟨_, h1, q a G H (Grow.refl k) k fun G2 H2 g2 k2 => moD_rd (r.mono g2.gg) (g2.hh a u va ha)⟩
theorem dc_gho (he : Ev S te ρ (Eq (.raw (.ref a)))) (h : ρ[j]? = some (.gho a (moD a f ds))) : EvDc S te ρ f ds := fun σ G H k e Q q => he σ G H k e _ fun v s G1 H1 g1 k1 es r => by
  subst es
  cases (show v = _ from r)
  obtain ⟨o, _, ga, ba, va, u, ha, ru⟩ := (e.grow g1).at_ j _ h
  exact q a G1 H1 g1 k1 fun G2 H2 g2 k2 => moD_rd (ru.mono g2.gg) (g2.hh a u va ha)
theorem dc_of (he : Ev S te ρ (Eq (.dic f ds))) : EvDc S te ρ f ds := fun σ G H k e Q q => he σ G H k e _ fun v s G1 H1 g1 k1 es r => by
  subst es
  obtain ⟨a, rfl, kn⟩ := r
  exact q a G1 H1 g1 k1 fun G2 H2 g2 k2 => (kn.mono g2.gg).rd k2.gh
/-- no key of it is a tuple -/
def flatD (ds : List (D × D)) : Prop := ∀ p ∈ ds, okT p.1 = false
theorem R.dic_inv {K : PySem.W.Frag} {G : Hp} {v : V} (h : R K G v (.dict ds)) (fl : flatD ds) : ∃ a, v = .ref a ∧ KnD K G a true ds := by
  cases h with
  | dic hg r => exact ⟨_, rfl, _, _, hg, r⟩
  | @dicN a o xs _ hg n r =>
    cases r with
    | nil => exact absurd rfl n
    | cons ok _ _ _ _ _ =>
      have := fl _ List.mem_cons_self
      rw [show (_, _).1 = _ from rfl] at this
      simp [ok] at this
theorem ev_dicOf (he : Ev S te ρ (Eq (.dat (.dict ds)))) (fl : flatD ds) : Ev S te ρ (Eq (.dic true ds)) := fun σ G H k e Q q => he σ G H k e _ fun v s G1 H1 g1 k1 es r => by
  subst es
  exact q v _ G1 H1 g1 k1 rfl (R.dic_inv r fl)
theorem KnD.R {K : PySem.W.Frag} {G : Hp} (h : KnD K G a f ds) (n : f = true ∨ ds ≠ []) : R K G (.ref a) (.dict ds) := by
  cases f with
  | true =>
    obtain ⟨o, ks, h1, h2⟩ := h
    exact .dic h1 h2
  | false =>
    obtain ⟨o, xs, h1, h2⟩ := h
    exact .dicN h1 (n.elim (fun z => by cases z) id) h2
theorem ev_datOf (he : Ev S te ρ (Eq (.dic f ds))) (n : f = true ∨ ds ≠ []) : Ev S te ρ (Eq (.dat (.dict ds))) := fun σ G H k e Q q => he σ G H k e _ fun v s G1 H1 g1 k1 es r => by
  subst es
  obtain ⟨a, rfl, kn⟩ := r
  exact q _ _ G1 H1 g1 k1 rfl (kn.R n)
theorem ev_varDic (h : ρ[i]? = some (.dic f ds)) : Ev S (tVar i) ρ (Eq (.dic f ds)) := fun σ G H k e Q q => by
  obtain ⟨v, h1, v', e', r⟩ := e.get h
  cases e'
  exact ⟨v, h1, q v _ G H (Grow.refl k) k rfl r⟩
/-- d[k] -/
theorem ev_xget {dk d : D} (hd : EvDc S te ρ f ds) (hk : Ev S ta ρ (Eq (.dat dk))) (kd : KeyD f dk) (hv : gD ds dk = some d) : Ev S (tXGet S.K te ta) ρ (Eq (.dat d)) := fun σ G H k e Q q =>
  hd σ G H k e _ fun a G1 H1 g1 k1 st => hk σ G1 H1 k1 (e.grow g1) _ fun y s G2 H2 g2 k2 es ry => by
    subst es
    refine ⟨a, rfl, G2, f, ds, dk, k2.gh, st G2 H2 g2 k2, kd, ry, fun z => ?_, fun d' hd' v rv => ?_⟩
    · rw [hv] at z
      cases z
    · rw [hv] at hd'
      cases hd'
      exact ⟨v, rfl, q v _ G2 H2 (g1.trans k1 k2 g2) k2 rfl rv⟩
/-- k in d, k not in d -/
theorem ev_xin {dk : D} (hd : EvDc S te ρ f ds) (hk : Ev S ta ρ (Eq (.dat dk))) (kd : KeyD f dk) : Ev S (tXIn S.K ta te) ρ (Eq (.dat (.bool (gD ds dk).isSome))) := fun σ G H k e Q q =>
  hk σ G H k e _ fun y s G1 H1 g1 k1 es ry => hd σ G1 H1 k1 (e.grow g1) _ fun a G2 H2 g2 k2 st => by
    subst es
    refine ⟨a, rfl, G2, f, ds, dk, k2.gh, st G2 H2 (Grow.refl k2) k2, kd, ry.mono g2.gg, fun z => ?_, fun d' hd' v rv => ?_⟩
    · rw [z] at q
      exact q _ _ G2 H2 (g1.trans k1 k2 g2) k2 rfl (.bl _)
    · rw [hd'] at q
      exact q _ _ G2 H2 (g1.trans k1 k2 g2) k2 rfl (.bl _)
theorem ev_xnotin {dk : D} (hd : EvDc S te ρ f ds) (hk : Ev S ta ρ (Eq (.dat dk))) (kd : KeyD f dk) : Ev S (tXNotIn S.K ta te) ρ (Eq (.dat (.bool (!(gD ds dk).isSome)))) := fun σ G H k e Q q =>
  hk σ G H k e _ fun y s G1 H1 g1 k1 es ry => hd σ G1 H1 k1 (e.grow g1) _ fun a G2 H2 g2 k2 st => by
    subst es
    refine ⟨a, rfl, G2, f, ds, dk, k2.gh, st G2 H2 (Grow.refl k2) k2, kd, ry.mono g2.gg, fun z => ?_, fun d' hd' v rv => ?_⟩
    · rw [z] at q
      exact q _ _ G2 H2 (g1.trans k1 k2 g2) k2 rfl (.bl _)
    · rw [hd'] at q
      exact q _ _ G2 H2 (g1.trans k1 k2 g2) k2 rfl (.bl _)
/-! what was just made -/
def EvQ (S : Cf) (te : TE) (ρ : Rho) (m : Addr → Mo) : Prop := ∀ (σ : L2.St) (G H : Hp), Kn S.fx G H → Env S G H σ ρ → ∀ Q : VK,
  (∀ p u G' H', Grow S.fx G H G' H' → Kn S.fx G' H' → H p = none → G' p = none → H' p = some u → MoOk S.K G' u (m p) → Q (.ref p) H') → te σ H Q
theorem eq_newK : EvQ S tXNew ρ (fun p => moD p true []) := fun σ G H k e Q q p hp => .inl (q p _ G _ (Grow.same k (same_new hp)) (k.same (same_new hp)) hp (k.freeG hp) upd_same .nil)
theorem eq_newN : EvQ S tXNew ρ (fun p => moD p false []) := fun σ G H k e Q q p hp => .inr (q p _ G _ (Grow.same k (same_new hp)) (k.same (same_new hp)) hp (k.freeG hp) upd_same ⟨[], rfl, .nil⟩)
theorem xc_asgQ {m : Addr → Mo} (h : EvQ S te ρ m) (hs : ∀ p, P (.nx (ρ.set i (.own p (m p))))) : Xc S (tAsg te (gName i)) ρ P := fun σ G H De o e fi =>
  h σ G H o.kn e _ fun p u G' H' g k n1 n2 hp r => by
    have o1 := o.grow g k
    exact fi.nx _ G' H' _ o1 g.gg ((e.grow g).put i (some (.ref p)) (.own p (m p)) ⟨rfl, n2, .inl (o.freshB n1), o.kn.fresh n1, _, hp, r⟩ fun b m' z j t m'' nj hj => e.new_none (i := i) (s := .own p (m p)) n1 rfl z hj m'') (hs p)
theorem xs_asgQ {m : Addr → Mo} (h : EvQ S te ρ m) (hs : ∀ p, Xc S w (ρ.set i (.own p (m p))) P) : Xc S (tSeq (tAsg te (gName i)) w) ρ P := xc_seq (xc_asgQ h hs)
/-- x.f = what was just made; slot j stands for it -/
theorem xc_setfQ {m : Addr → Mo} {C dx : Addr} {vf : List (Str × V)} {fs : Fs} {n : Str} (h : ρ[i]? = some (.own a (.ins C dx vf fs))) (hij : j ≠ i) (hj : j < ρ.length) (he : EvQ S te ρ m) (c : Cls S.K C) (na : NoAttr S.K C n) (hl : fs.length < 900)
    (k : ∀ p vf', P (.nx ((ρ.set i (.own a (.ins C dx vf' (putD n (.r (.ref p)) fs)))).set j (.gho p (m p))))) : Xc S (sFld S.K (tVar i) te n) ρ P := fun σ G H De o e fi =>
  he σ G H o.kn e _ fun p u G1 H1 g1 k1 n1 n2 hp r => by
    have o1 := o.grow g1 k1
    have e1 := e.grow g1
    obtain ⟨h1, ga, ba, va, ha, fa⟩ := own_ins e1 h
    obtain ⟨o2, e2⟩ := own_write (u' := .ins C dx (putF n (.ref p) vf)) (m' := .ins C dx (putF n (.ref p) vf) (putD n (.r (.ref p)) fs)) o1 e1 h ⟨⟨rfl, rfl, rfl⟩, fa.put (x := .r (.ref p)) rfl⟩
    have npa : p ≠ a := fun q => by
      obtain ⟨_, _, _, _, ha0, _⟩ := own_ins e h
      rw [← q, n1] at ha0
      cases ha0
    have hp2 : (upd H1 a (.ins C dx (putF n (.ref p) vf))) p = some u := by
      rw [upd_ne npa]
      exact hp
    have e3 := e2.chg j (.gho p (m p)) (fun ov s0 _ _ _ => ⟨n2, .inl (o.freshB n1), o.kn.fresh n1, u, hp2, r⟩) fun b m' z l t m'' nl hlt => by
      rcases set_get hlt with ⟨_, et⟩ | ⟨_, hlt⟩
      · subst et
        intro z2
        cases z
        cases z2
        exact npa rfl
      · exact e.new_none (i := j) (s := .gho p (m p)) n1 rfl z hlt m''
    exact ⟨_, h1, a, C, dx, vf, rfl, ha, c, na, by rw [fa.length]; omega, fi.nx _ G1 _ _ o2 g1.gg e3 (k p _)⟩
theorem xs_setfQ {m : Addr → Mo} {C dx : Addr} {vf : List (Str × V)} {fs : Fs} {n : Str} (h : ρ[i]? = some (.own a (.ins C dx vf fs))) (hij : j ≠ i) (hj : j < ρ.length) (he : EvQ S te ρ m) (c : Cls S.K C) (na : NoAttr S.K C n) (hl : fs.length < 900)
    (k : ∀ p vf', Xc S w ((ρ.set i (.own a (.ins C dx vf' (putD n (.r (.ref p)) fs)))).set j (.gho p (m p))) P) : Xc S (tSeq (sFld S.K (tVar i) te n) w) ρ P := xc_seq (xc_setfQ h hij hj he c na hl k)
/-! d[k] = v -/
theorem x_put {G H : Hp} {y v : V} {dk d : D} {u : HO} {Q : Hp → Prop} (sg : Same G H) (ha : H a = some u) (r : MoOk S.K G u (moD a f ds)) (kd : KeyD f dk) (ry : R S.K G y dk) (rv : R S.K G v d) (hl : ds.length < 1000000)
    (q : ∀ u', MoOk S.K G u' (moD a f (pD ds dk d)) → Q (upd H a u')) : XPut S.K H a y v Q := by
  rcases moD_ok r with ⟨rfl, ks, rfl, rr⟩ | ⟨rfl, xs, rfl, rr⟩
  · obtain ⟨k, rfl⟩ := kd
    exact .inl ⟨ks, k, ha, kD_R ry, Nat.lt_of_lt_of_le (by rw [rr.length]; exact hl) (by decide), q (.dK (putK ks k v)) (rr.put k rv)⟩
  · obtain ⟨b, rfl⟩ := okT_R ry kd
    exact .inr ⟨G, xs, ds, dk, b, ha, sg, rr, rfl, ry, kd, Nat.lt_of_lt_of_le (by rw [rr.length]; exact hl) (by decide), fun u' ru => q (DX a (storedH xs (nk dk) b u')) ⟨_, rfl, rr.put kd ry ru rv⟩⟩
theorem moD_ins {a : Addr} {f : Bool} {ds : List (D × D)} : (moD a f ds).isIns → False := by
  cases f <;> exact fun z => z
theorem xc_xput {dk d : D} (h : ρ[i]? = some (.own a (moD a f ds))) (hv : Ev S tc ρ (Eq (.dat d))) (hk : Ev S ta ρ (Eq (.dat dk))) (kd : KeyD f dk) (hl : ds.length < 1000000) (hs : P (.nx (ρ.set i (.own a (moD a f (pD ds dk d)))))) : Xc S (sXPut S.K (tVar i) ta tc) ρ P := fun σ G H De o e fi =>
  hv σ G H o.kn e _ fun v s G1 H1 g1 k1 es rv => by
    obtain ⟨_, h1, e0, _⟩ := (e.grow g1).get h
    cases Option.some.inj e0
    refine ⟨_, h1, hk σ G1 H1 k1 (e.grow g1) _ fun y s2 G2 H2 g2 k2 es2 ry => ?_⟩
    subst es es2
    have g := g1.trans k1 k2 g2
    obtain ⟨_, _, _, ga, ba, va, u, ha, r⟩ := (e.grow g).get h
    exact ⟨a, rfl, x_put k2.gh ha r kd ry (rv.mono g2.gg) hl fun u' r' => by
      obtain ⟨o2, e2⟩ := own_write (u' := u') (m' := moD a f (pD ds dk d)) (o.grow g k2) (e.grow g) h r' (fun z => absurd z moD_ins)
      exact fi.nx _ G2 _ _ o2 g.gg e2 hs⟩
theorem xs_xput {dk d : D} (h : ρ[i]? = some (.own a (moD a f ds))) (hv : Ev S tc ρ (Eq (.dat d))) (hk : Ev S ta ρ (Eq (.dat dk))) (kd : KeyD f dk) (hl : ds.length < 1000000) (hs : Xc S w (ρ.set i (.own a (moD a f (pD ds dk d)))) P) : Xc S (tSeq (sXPut S.K (tVar i) ta tc) w) ρ P := xc_seq (xc_xput h hv hk kd hl hs)
/-- .. the dict told by an expression, slot j stands for it -/
theorem xc_xputG {dk d : D} (he : Ev S te ρ (Eq (.raw (.ref a)))) (h : ρ[j]? = some (.gho a (moD a f ds))) (hv : Ev S tc ρ (Eq (.dat d))) (hk : Ev S ta ρ (Eq (.dat dk))) (kd : KeyD f dk) (hl : ds.length < 1000000) (hs : P (.nx (ρ.set j (.gho a (moD a f (pD ds dk d)))))) : Xc S (sXPut S.K te ta tc) ρ P := fun σ G H De o e fi =>
  hv σ G H o.kn e _ fun v s G1 H1 g1 k1 es rv => he σ G1 H1 k1 (e.grow g1) _ fun x s0 Ga Ha ga ka es0 rx => hk σ Ga Ha ka ((e.grow g1).grow ga) _ fun y s2 G2 H2 g2 k2 es2 ry => by
    subst es es2 es0
    cases (show x = _ from rx)
    have g := (g1.trans k1 ka ga).trans ka k2 g2
    obtain ⟨_, _, _, ba, va, u, ha, r⟩ := (e.grow g).at_ j _ h
    exact ⟨a, rfl, x_put k2.gh ha r kd ry (rv.mono (ga.gg.trans g2.gg)) hl fun u' r' => by
      obtain ⟨o2, e2⟩ := gho_write (u' := u') (m' := moD a f (pD ds dk d)) (o.grow g k2) (e.grow g) h r' (fun z => absurd z moD_ins)
      exact fi.nx _ G2 _ _ o2 g.gg e2 hs⟩
theorem xs_xputG {dk d : D} (he : Ev S te ρ (Eq (.raw (.ref a)))) (h : ρ[j]? = some (.gho a (moD a f ds))) (hv : Ev S tc ρ (Eq (.dat d))) (hk : Ev S ta ρ (Eq (.dat dk))) (kd : KeyD f dk) (hl : ds.length < 1000000) (hs : Xc S w (ρ.set j (.gho a (moD a f (pD ds dk d)))) P) : Xc S (tSeq (sXPut S.K te ta tc) w) ρ P := xc_seq (xc_xputG he h hv hk kd hl hs)
end
end Dl

set_option Elab.async false
set_option linter.all false
set_option maxRecDepth 100000
set_option maxHeartbeats 4000000
/-! Dlg: dicts known for ever, walked; objects made by their class, which may refuse. -/
namespace Dl
open PySem PySem.Spec PyProof.Rows L2 LamX
theorem moD_mut {K : PySem.W.Frag} {G : Hp} {u : HO} {a : Addr} {f : Bool} {ds : List (D × D)} (h : MoOk K G u (moD a f ds)) : Mut (some u) := by
  rcases moD_ok h with ⟨_, ks, rfl, _⟩ | ⟨_, xs, rfl, _⟩ <;> exact True.intro
theorem moD_kn {K : PySem.W.Frag} {G : Hp} {u : HO} {a : Addr} {f : Bool} {ds : List (D × D)} (h : MoOk K G u (moD a f ds)) (ga : G a = none) (od : Obj) : KnD K (upd G a (.frz od u)) a f ds := by
  have sg : Same G (upd G a (.frz od u)) := same_new ga
  rcases moD_ok h with ⟨rfl, ks, rfl, r⟩ | ⟨rfl, xs, rfl, r⟩
  · exact ⟨od, ks, upd_same, r.mono sg⟩
  · exact ⟨od, xs, upd_same, r.mono sg⟩
section
variable {S : Cf} {ρ : Rho} {te ta tb tc : TE} {P : Oc → Prop} {w t : TS} {i j : Nat} {a : Addr} {f : Bool} {ds : List (D × D)}
theorem xs_nolk (h : Xc S t ρ P) : Xc S (tLk t) ρ P := fun σ G H De o e fi => .inl (h σ G H De o e fi)
theorem OkS.lock {G H : Hp} (o : OkS S G H) {u' : HO} (ba : S.B a = none) (kn : Kn S.fx (upd G a u') (upd H a u')) (sg : Same G (upd G a u')) : OkS S (upd G a u') (upd H a u') :=
  ⟨kn, o.k0, ⟨o.gr.gg.trans sg, kn.gh, fun b w vb mb hb => by
    have q : b ≠ a := fun q => by rw [q, ba] at hb; cases hb
    rw [upd_ne q]
    exact o.gr.hh b w vb mb hb, fun b w mb hb nt n => by
    have q : b ≠ a := fun q => by rw [q, ba] at hb; cases hb
    rw [upd_ne q]
    exact o.gr.nn b w mb hb nt n⟩, fun b m => ⟨(o.mn b m).1, by
    by_cases q : b = a
    · rw [q, upd_same]
      simp
    · rw [upd_ne q]
      exact (o.mn b m).2⟩, o.m0⟩
/-- a dict of ours is known from now on -/
theorem xs_lock (h : ρ[i]? = some (.own a (moD a f ds))) (hs : Xc S t (ρ.set i (.dic f ds)) P) : Xc S (tLk t) ρ P := fun σ G H De o e fi => by
  obtain ⟨v, h1, e1, ga, ba', va, u, ha, r⟩ := e.get h
  have ba : S.B a = none := ba'.elim id fun z => absurd z.2 moD_ins
  refine .inr ⟨a, u, ha, moD_mut r, fun od => ?_⟩
  obtain ⟨k2, sg, e2⟩ := Env.know (u' := .frz od u) (s' := .dic f ds) o.kn e h rfl ha r.noFix (fun o ho ok => ⟨.ref a, ok.1, a, rfl, moD_kn r ga od⟩) rfl
  exact hs σ _ _ De (o.lock ba k2 sg) e2 (fi.same sg)
/-- .. the dict that a field of ours holds -/
theorem xs_lockF {b C dx : Addr} {vf : List (Str × V)} {fs : Fs} {n : Str} (h : ρ[j]? = some (.gho a (moD a f ds))) (hb : ρ[i]? = some (.own b (.ins C dx vf fs))) (hn : fs.lookup n = some (.r (.ref a)))
    (hs : Xc S t ((ρ.set j .no).set i (.own b (.ins C dx vf (putD n (.k f ds) fs)))) P) : Xc S (tLk t) ρ P := fun σ G H De o e fi => by
  obtain ⟨ov, h1, ga, ba', va, u, ha, r⟩ := e.at_ j _ h
  have ba : S.B a = none := ba'.elim id fun z => absurd z.2 moD_ins
  refine .inr ⟨a, u, ha, moD_mut r, fun od => ?_⟩
  obtain ⟨k2, sg, e2⟩ := Env.know (u' := .frz od u) (s' := .no) o.kn e h rfl ha r.noFix (fun o ho ok => True.intro) rfl
  have hij : i ≠ j := fun q => by
    rw [q, h] at hb
    cases hb
  have hb2 : (ρ.set j Sl.no)[i]? = some (.own b (.ins C dx vf fs)) := by
    rw [List.getElem?_set_ne (Ne.symm hij)]
    exact hb
  have kn := moD_kn r ga od
  have e3 := e2.chg i (.own b (.ins C dx vf (putD n (.k f ds) fs))) (fun ov s0 hs0 _ ok => by
    rw [hb2] at hs0
    cases hs0
    obtain ⟨x1, x2, x3, x4, w, x5, x6⟩ := ok
    refine ⟨x1, x2, x3, x4, w, x5, ?_⟩
    cases w with
    | ins C' dx' vs =>
      obtain ⟨⟨z1, z2, z3⟩, fa⟩ := x6
      refine ⟨⟨z1, z2, z3⟩, fa.re (fun v hv => ?_) (by rw [hn]; simp)⟩
      obtain ⟨v', hv', rv⟩ := fa.look hn
      rw [hv'] at hv
      cases hv
      exact ⟨a, rv, kn⟩
    | _ => exact x6.elim) fun c m z l s2 m' nl hl => by
    cases z
    exact e2.alone hb2 rfl nl hl
  exact hs σ _ _ De (o.lock ba k2 sg) e3 (fi.same sg)
/-- what was just made is known at once -/
theorem ev_lkV (h : EvQ S te ρ (fun p => moD p f ds)) : Ev S (tLkV te) ρ (Eq (.dic f ds)) := fun σ G H k e Q q => h σ G H k e _ fun p u G1 H1 g1 k1 n1 n2 hp r => by
  refine ⟨p, u, rfl, hp, moD_mut r, fun od => ?_⟩
  have vp : ¬ S.fx.vol p := k.fresh n1
  have ne : ∀ {b : Addr} {o : HO}, H b = some o → b ≠ p := fun hb => ne_of_none hb n1
  have sh : Same (upd G1 p (.frz od u)) (upd H1 p (.frz od u)) := same_upd2 k1.gh
  have g2 : Grow S.fx G H (upd G1 p (.frz od u)) (upd H1 p (.frz od u)) := ⟨g1.gg.trans (same_new n2), sh, fun b o v hb => by
    rw [upd_ne (ne hb)]
    exact g1.hh b o v hb, fun b o hb nt n => by
    rw [upd_ne (ne hb)]
    exact g1.nn b o hb nt n⟩
  have k2 : Kn S.fx (upd G1 p (.frz od u)) (upd H1 p (.frz od u)) := ⟨sh, S.fx.ext (fun b o hb ho => by
      have q : b ≠ p := fun q => by
        rcases hb with hb | hb
        · exact vp (q ▸ hb)
        · rw [q, hp] at ho
          cases ho
          exact r.noFix hb
      rw [upd_ne q]
      exact ho) k1.inv, fun b vb => by
    have q : b ≠ p := fun q => vp (q ▸ vb)
    rw [upd_ne q]
    exact k1.vn b vb⟩
  exact q _ _ _ _ g2 k2 rfl ⟨p, rfl, moD_kn r n2 od⟩
theorem ev_lkO (h : EvQ S te ρ (fun p => moD p f ds)) : Ev S (tLkO te) ρ (Eq (.dic f ds)) := fun σ G H k e Q q => .inr (ev_lkV h σ G H k e Q q)
theorem eq_lkO {m : Addr → Mo} (h : EvQ S te ρ m) : EvQ S (tLkO te) ρ m := fun σ G H k e Q q => .inl (h σ G H k e Q q)
/-! walks -/
theorem RK.at {K : PySem.W.Frag} {G : Hp} : ∀ {ks : List (Key × V)} {ds : List (D × D)} {i : Nat} {p : D × D}, RK K G ks ds → ds[i]? = some p → ∃ k v, ks[i]? = some (k, v) ∧ p.1 = kD k ∧ R K G v p.2
  | _, _, _, _, .nil, h => by simp at h
  | _, _, 0, _, .cons r _, h => by
    simp only [List.getElem?_cons_zero, Option.some.injEq] at h
    subst h
    exact ⟨_, _, rfl, rfl, r⟩
  | _, _, i + 1, _, .cons _ rs, h => by
    simp only [List.getElem?_cons_succ] at h ⊢
    exact RK.at rs h
theorem R.kV {K : PySem.W.Frag} {G : Hp} (k : Key) : R K G (kV k) (kD k) := by
  cases k with
  | inl i => exact .int i
  | inr x => exact .str x
theorem wk_keys {G : Hp} {o : Obj} {ks : List (Key × V)} (hg : G a = some (.frz o (.dK ks))) (r : RK S.K G ks ds) : Wk S (Itk a o ks) G (ds.map Prod.fst) := fun G2 H2 e k => by
  have h2 : H2 a = some (.frz o (.dK ks)) := k.gh _ _ (e _ _ hg)
  have hl := r.length
  refine ⟨⟨h2, by rw [List.length_map, hl]; exact Nat.le_refl _⟩, fun i d hd => ?_⟩
  rw [List.getElem?_map] at hd
  obtain ⟨p, hp, rfl⟩ := Option.map_eq_some_iff.mp hd
  obtain ⟨q, v, hk, e1, rv⟩ := r.at hp
  refine ⟨⟨h2, (List.getElem?_eq_some_iff.mp hk).1⟩, fun x H3 ⟨e3, q', v', hx, ex⟩ => ?_⟩
  rw [hk] at hx
  cases hx
  exact ⟨G2, by rw [e3]; exact Grow.refl k, by rw [e3]; exact k, by rw [ex, e1]; exact R.kV q⟩
theorem wk_vals {G : Hp} {o : Obj} {ks : List (Key × V)} (hg : G a = some (.frz o (.dK ks))) (r : RK S.K G ks ds) : Wk S (Itd a o ks) G (ds.map Prod.snd) := fun G2 H2 e k => by
  have h2 : H2 a = some (.frz o (.dK ks)) := k.gh _ _ (e _ _ hg)
  have hl := r.length
  refine ⟨⟨h2, by rw [List.length_map, hl]; exact Nat.le_refl _⟩, fun i d hd => ?_⟩
  rw [List.getElem?_map] at hd
  obtain ⟨p, hp, rfl⟩ := Option.map_eq_some_iff.mp hd
  obtain ⟨q, v, hk, e1, rv⟩ := r.at hp
  refine ⟨⟨h2, (List.getElem?_eq_some_iff.mp hk).1⟩, fun x H3 ⟨e3, q', hx⟩ => ?_⟩
  rw [hk] at hx
  cases hx
  exact ⟨G2, by rw [e3]; exact Grow.refl k, by rw [e3]; exact k, rv.mono e⟩
def pairD (p : D × D) : D := .tuple [p.1, p.2]
theorem wk_items {G : Hp} {o : Obj} {ks : List (Key × V)} (hg : G a = some (.frz o (.dK ks))) (r : RK S.K G ks ds) : Wk S (Iti a o ks) G (ds.map pairD) := wk_pair (f := fun a b => .tuple [a, b]) fun G2 H2 e k => by
  have h2 : H2 a = some (.frz o (.dK ks)) := k.gh _ _ (e _ _ hg)
  have hl := r.length
  refine ⟨⟨h2, by rw [List.length_map, hl]; exact Nat.le_refl _⟩, fun i d hd => ?_⟩
  rw [List.getElem?_map] at hd
  obtain ⟨p, hp, rfl⟩ := Option.map_eq_some_iff.mp hd
  obtain ⟨q, v, hk, e1, rv⟩ := r.at hp
  refine ⟨⟨h2, (List.getElem?_eq_some_iff.mp hk).1⟩, fun x H3 ⟨T, k', v', hx, ex, hT, eH⟩ => ?_⟩
  rw [hk] at hx
  cases hx
  exact ⟨T, _, _, p.1, p.2, ex, hT, eH, by rw [e1]; exact R.kV _, rv.mono e, rfl⟩
theorem im_keys (h : Ev S te ρ (Eq (.dic true ds))) : Itm S (iKeys te) ρ (Eq (ds.map Prod.fst)) := fun σ G H k e Rr q => h σ G H k e _ fun v s G1 H1 g1 k1 es r => by
  subst es
  obtain ⟨a, rfl, o, ks, hg, rk⟩ := r
  exact ⟨a, o, rfl, .inl ⟨ks, k1.gh _ _ hg, q _ _ G1 H1 g1 k1 rfl (wk_keys hg rk)⟩⟩
theorem im_vals (h : Ev S te ρ (Eq (.dic true ds))) : Itm S (iVals te) ρ (Eq (ds.map Prod.snd)) := fun σ G H k e Rr q => h σ G H k e _ fun v s G1 H1 g1 k1 es r => by
  subst es
  obtain ⟨a, rfl, o, ks, hg, rk⟩ := r
  exact ⟨a, o, ks, rfl, k1.gh _ _ hg, q _ _ G1 H1 g1 k1 rfl (wk_vals hg rk)⟩
theorem im_items (h : Ev S te ρ (Eq (.dic true ds))) : Itm S (iItems te) ρ (Eq (ds.map pairD)) := fun σ G H k e Rr q => h σ G H k e _ fun v s G1 H1 g1 k1 es r => by
  subst es
  obtain ⟨a, rfl, o, ks, hg, rk⟩ := r
  exact ⟨a, o, ks, rfl, k1.gh _ _ hg, q _ _ G1 H1 g1 k1 rfl (wk_items hg rk)⟩
end
/-! len -/
def rLenX (K : PySem.W.Frag) : List V → Hp → VK → Prop := fun xs H Q => ∃ (a : Addr) (G : Hp) (f : Bool) (ds : List (D × D)), xs = [.ref a] ∧ Same G H ∧ DRd K G H a f ds ∧ Q (.int (ds.length : Nat)) H
theorem cr_lenX {X : Cx} : CallR X (.builtin "len") (rLenX X.K) := by
  intro pins s σ H xs us Q I r h
  obtain ⟨a, G, f, ds, rfl, sg, dr, q⟩ := h
  obtain ⟨u, rfl, ru⟩ := vals1 r
  cases ru
  cases f with
  | true =>
    obtain ⟨ks, e, rr⟩ := dr
    exact d_len I e fun t s' I' => ⟨.int ks.length, H, I', ⟨t, rfl⟩, by rw [rr.length]; exact q⟩
  | false =>
    obtain ⟨xs, e, rr⟩ := dr
    obtain ⟨z1, z2, dd⟩ := dx_rd I e sg rr
    exact call_len_dictH z2 dd (by rw [sizeLine_eq] at z1; omega) ⟨.int xs.length, H, I.tok _, ⟨_, rfl⟩, by rw [rr.length]; exact q⟩
theorem ev_lenX {S : Cf} {ρ : Rho} {te : TE} {f : Bool} {ds : List (D × D)} (h : EvDc S te ρ f ds) : Ev S (tCB (rLenX S.K) (tCons te tNil)) ρ (Eq (.dat (.int (ds.length : Nat)))) := fun σ G H k e Q q =>
  h σ G H k e _ fun a G1 H1 g1 k1 st => ⟨a, G1, f, ds, rfl, k1.gh, st G1 H1 (Grow.refl k1) k1, q _ _ G1 H1 g1 k1 rfl (.int _)⟩
/-! ### objects made by their class -/
inductive ReN where
  | ok (fs : Fs) (g : List (Addr × Mo))
  | ex (C : Addr) (d : D)
/-- things that the maker left, ours still -/
def GhOk (K : PySem.W.Frag) (H G' H' : Hp) (g : List (Addr × Mo)) : Prop := ∀ p ∈ g, H p.1 = none ∧ G' p.1 = none ∧ ∃ u, H' p.1 = some u ∧ MoOk K G' u p.2
def spN (K : PySem.W.Frag) (C : Addr) {ι : Type} (args : ι → List Sl) (pre : ι → Prop) (post : ι → ReN → Prop) : Sp := fun vs H Q E =>
  ∃ (i : ι) (G : Hp) (a dx : Addr) (ws : List V), vs = .ref a :: ws ∧ pre i ∧ Kn fx0 G H ∧ G a = none ∧ H a = some (.ins C dx []) ∧ RSs K G ws (args i) ∧
    (∀ G' H' dx' vf' fs' g, GrO (fxM a) G H G' H' → Kn fx0 G' H' → (G' a = none ∨ G' a = some (.ins C dx' vf')) → H' a = some (.ins C dx' vf') → FA K G' vf' fs' → GhOk K H G' H' g → post i (.ok fs' g) → Q .non H') ∧
    (∀ C' d dd v G' H', GrO (fxM a) G H G' H' → Kn fx0 G' H' → H' dd = some (.xd [("value", v)]) → R K G' v d → post i (.ex C' d) → E (.ref C') (some dd) H')
/-- what is wanted of the maker's body: slot 0 the object -/
def ObjN (a C : Addr) (post : ReN → Prop) : Oc → Prop
  | .nx ρ => ∃ fs' g, ((∃ dx' vf', ρ[0]? = some (.own a (.ins C dx' vf' fs'))) ∨ ρ[0]? = some (.ob (some a) C fs')) ∧ (∀ p ∈ g, ∃ j : Nat, ρ[j]? = some (Sl.gho p.1 p.2)) ∧ post (.ok fs' g)
  | .ex C' d => post (.ex C' d)
  | _ => False
section
variable {P : Program} {w : World} {K : PySem.W.Frag} {mg : Str → Option Value} {base : Heap}
theorem fn_okN {ι : Type} {C : Addr} {args : ι → List Sl} {pre : ι → Prop} {post : ι → ReN → Prop} {x qual : Str} {st : Stmt} {f : Addr} {fd : FuncData} {N ps : List Str} {k : Nat} (F : Fun K x qual st f fd) (Sc : FnScope N ps (defScope st)) (hl : ∀ i, pre i → (args i).length + 1 = ps.length)
    (hg : ∀ i fs g, post i (.ok fs g) → ∀ p ∈ g, ¬ p.2.isIns)
    (hbody : ∀ (cdv : Value) (A : Around) (outer : List PySem.Env) (s : Shared) (H : Hp) (E : XK), Room k (A.deeper (envOfC qual (defScope st) s.heap.objs.size f cdv)) → ∀ (i : ι), pre i →
      ∃ t, PSs (cxOf (L2.CX P w) P w K mg base N qual (defScope st) f cdv A outer s H E) (defBody st) t ∧ ∀ (G : Hp) (a dx : Addr), Xc ⟨K, fxM a, G, H, E⟩ t ((.own a (.ins C dx [] []) :: args i) ++ List.replicate (N.length - ps.length) .no) (ObjN a C (post i))) :
    FnOk P w K mg base (L2.CX P w) (k + 1) f fd ps (spN K C args pre post) := by
  refine F.okX Sc (fun vs H Q E h => ?_) fun cdv A outer s H vs Q E hr h => ?_
  · obtain ⟨i, G, a, dx, ws, rfl, hp, _, _, _, r, _⟩ := h
    rw [List.length_cons, r.length, hl i hp]
  · obtain ⟨i, G, a, dx, ws, rfl, hp, kn, ga, ha, r, q, qx⟩ := h
    obtain ⟨t, ht, hx⟩ := hbody cdv A outer s H E hr i hp
    refine ⟨t, ht, ?_⟩
    have hn : (V.ref a :: ws).length = ps.length := by rw [List.length_cons, r.length, hl i hp]
    have r0 : RSs K G (V.ref a :: ws) (.raw (.ref a) :: args i) := .cons rfl r
    have ev0 := env_start (S := ⟨K, fxM a, G, H, E⟩) (H := H) (N.length - ps.length) r0
    have e1 := ev0.put 0 (some (.ref a)) (.own a (.ins C dx [] [])) ⟨rfl, ga, .inr ⟨rfl, trivial⟩, fun z => z, _, ha, ⟨rfl, rfl, rfl⟩, .nil⟩ (fun b m hb j t m' _ hj z => by
      obtain ⟨o, _, ok⟩ := ev0.at_ j t hj
      by_cases hl : j < (Sl.raw (.ref a) :: args i).length
      · rw [List.getElem?_append_left hl] at hj
        exact RSs.noholds r0 hj z
      · rw [List.getElem?_append_right (by omega), List.getElem?_replicate] at hj
        split at hj
        · cases hj
          cases z
        · cases hj)
    unfold L2.start
    rw [hn]
    have kn' : Kn (fxM a) G H := ⟨kn.gh, trivial, fun b v => v.elim⟩
    have mn : MnOk (fxM a) H := fun b z => by
      cases (show b = a from z)
      exact ⟨fun v => v, by rw [ha]; simp⟩
    refine hx G a dx _ G H _ ⟨kn', kn', GrO.of (Grow.refl kn'), mn, mn⟩ e1 ⟨fun σ G' H' ρ o s e p => ?_, fun σ G' H' ρ o s e p => p.elim, fun σ G' H' ρ o s e p => p.elim, fun σ v s G' H' ρ o e r p => p.elim, fun C' d dd v G' H' o hd r p => qx C' d dd v G' H' o.gr o.kn.low hd r p⟩
    obtain ⟨fs', g, p0, p1, p2⟩ := p
    have gh : GhOk K H G' H' g := fun x hx => by
      obtain ⟨j, hj⟩ := p1 x hx
      obtain ⟨_, _, x1, x2, x3, u, x4, x5⟩ := e.at_ j _ hj
      exact ⟨x2.elim id fun z => absurd z.2 (hg i fs' g p2 x hx), x1, u, x4, x5⟩
    rcases p0 with ⟨dx', vf', p0⟩ | p0
    · obtain ⟨_, ga', _, _, ha', fa'⟩ := own_ins e p0
      exact q G' H' dx' vf' fs' g o.gr o.kn.low (.inl ga') ha' fa' gh p2
    · obtain ⟨v, h1, v', e', b, dx', vf', e1, e2, e3, e4⟩ := e.get p0
      cases e4 a rfl
      exact q G' H' dx' vf' fs' g o.gr o.kn.low (.inr e2) (o.kn.gh _ _ e2) e3 gh p2
theorem mk_calN {ι : Type} {C : Addr} {args : ι → List Sl} {pre : ι → Prop} {post : ι → ReN → Prop} {x qual : Str} {st : Stmt} {N ps : List Str} {k : Nat} (T : DefK K mg x C qual st) (Sc : FnScope N ps (defScope st)) (hl : ∀ i, pre i → (args i).length + 1 = ps.length)
    (hg : ∀ i fs g, post i (.ok fs g) → ∀ p ∈ g, ¬ p.2.isIns)
    (hb : ∀ (kV doc pm : Value) (an : Option Addr) (cdv ct : Value) (us : List Value), us.length = ps.length → bindArgs (PySem.W.fnOf "__init__" qual (defArgs st) (defBody st) (defScope st) .none kV doc pm an cdv ct) ⟨us, []⟩ = pure (ps.zip us))
    (body : ∀ (f : Addr) (cdv : Value) (A : Around) (outer : List PySem.Env) (s : Shared) (H : Hp) (E : XK), Room k (A.deeper (envOfC qual (defScope st) s.heap.objs.size f cdv)) → ∀ (i : ι), pre i →
      ∃ t, PSs (cxOf (L2.CX P w) P w K mg base N qual (defScope st) f cdv A outer s H E) (defBody st) t ∧ ∀ (G : Hp) (a dx : Addr), Xc ⟨K, fxM a, G, H, E⟩ t ((.own a (.ins C dx [] []) :: args i) ++ List.replicate (N.length - ps.length) .no) (ObjN a C (post i))) :
    CalK P w K mg base (k + 1) x C ps (spN K C args pre post) := by
  obtain ⟨⟨f, fd, F, M⟩, g⟩ := T
  exact ⟨f, fd, fn_okN F Sc hl hg fun cdv A outer s H E => body f cdv A outer s H E, M, g, F.binds hb⟩
end
section
variable {X : Cx} {k : Nat} {C : Addr} {x m : Str} {ps : List Str} {sp : Sp} {p pos apos : Pos} {o e : Expr} {es : List Expr} {t : TA} {to : TE}
/-- C(..), which may raise what leaves this def too -/
theorem pe_calKX {E : XK} (c : CalK X.prog X.w X.K X.mg X.base k x C ps sp) (hr : Room (k + 1) X.A) (hg : Gl X x) (ha : PA X (e :: es) t) (tk : Takes X (fun cls d _ H => E cls d H)) (hdb : (x == ("__debug__" : Str)) = false := by decide) (he : starEach (e :: es) X.env = (false, eval e X.env) :: starEach es X.env := by rfl)
    (hpl : (backTo pos (starEach es X.env)).any (·.1) = false := by rfl) : PE X (.Call (.Name x p) (e :: es) [] pos) (tMake C sp [] E t) := by
  obtain ⟨f, fd, F, M, g, hb⟩ := c.ex
  exact pe_make M F hr hg g hb .nil (passes_call tk fun _ _ _ _ h => h) ha hdb he hpl
/-- o.m() -/
theorem pe_calM0 {pl : Sem Bool} (c : CalM X.prog X.w X.K X.mg X.base k C m ps sp) (hr : Room k X.A) (ho : PE X o to)
    (ht : eval (.Call (.Attribute o m apos) [] [] pos) X.env = (do
      let ov ← eval o X.env
      standAt apos.atName
      let (f, first) ← holding [ov] (getMethod ov m pl)
      callWith pos f first (backTo pos (starEach [] X.env)) (backToKw pos (keywordEach [] X.env))) := by rfl) : PE X (.Call (.Attribute o m apos) [] [] pos) (tMeth C m sp [] E0 to tNil) := by
  obtain ⟨f, fd, F, cl, M, hb⟩ := c.ex
  exact pe_meth0 ho cl M F hr hb .nil passL ht
end
section
variable {S : Cf} {ρ : Rho} {te : TE} {tr : TA} {C : Addr} {m : Str} {E : XK} {ι : Type} {args : ι → List Sl} {pre : ι → Prop} {fs : Fs}
/-- behind the maker's call -/
theorem after_make {G1 H1 G' H' : Hp} {x dx : Addr} (k1 : Kn S.fx G1 H1) (hx : H1 x = none) (hd : H1 dx = none) (nd : dx ≠ x) (g : GrO (fxM x) G1 (upd (upd H1 dx (.own x)) x (.ins C dx [])) G' H') (kn : Kn fx0 G' H') : Grow S.fx G1 H1 G' H' ∧ Kn S.fx G' H' := by
  have hh : ∀ b o, H1 b = some o → (upd (upd H1 dx (.own x)) x (.ins C dx [])) b = some o ∧ b ≠ x := fun b o hb => by
    have n1 : b ≠ x := ne_of_none hb hx
    have n2 : b ≠ dx := ne_of_none hb hd
    rw [upd_ne n1, upd_ne n2]
    exact ⟨hb, n1⟩
  have keep : ∀ b o, H1 b = some o → H' b = some o := fun b o hb => g.hh b o (fun z => z) (hh b o hb).2 (hh b o hb).1
  have nn : ∀ b o, H1 b = some o → ¬ isTup o → G1 b = none → G' b = none := fun b o hb nt n => g.nn b o (hh b o hb).2 (hh b o hb).1 nt n
  exact ⟨⟨g.gg, kn.gh, fun b o _ hb => keep b o hb, nn⟩, kn.gh, S.fx.ext (fun b o _ hb => keep b o hb) k1.inv, fun b v => by
    obtain ⟨o, ho, nt⟩ := S.fx.there k1.inv v
    exact nn b o ho nt (k1.vn b v)⟩
theorem evx_make {post : ι → ReN → Prop} {Pok : Sl → Prop} {Pex : Addr → D → Prop} {Pa : List Sl → Prop} (ha : EvA S tr ρ Pa) (h : ∀ ss, Pa ss → ∃ i, ss = args i ∧ pre i ∧ (∀ fs g, post i (.ok fs g) → Pok (.ob none C fs)) ∧ (∀ C' d, post i (.ex C' d) → Pex C' d)) :
    EvX S (fun E => tMake C (spN S.K C args pre post) [] E tr) ρ Pok Pex := fun σ G H k e E Q q1 q2 =>
  ha σ G H k e _ fun vs ss G1 H1 g1 k1 pa r x dx hx hd nd => by
    obtain ⟨i, e1, hp, ho, hxx⟩ := h ss pa
    subst e1
    rw [List.append_nil]
    have sm : Same H1 (upd (upd H1 dx (.own x)) x (.ins C dx [])) := (same_new hd).trans (same_new (by rw [upd_ne nd.symm]; exact hx))
    have gx : G1 x = none := k1.freeG hx
    refine ⟨i, G1, x, dx, vs, rfl, hp, (k1.low).same sm, gx, upd_same, r, fun G' H' dx' vf' fs' g gr kn ga' ha' fa' gh po => ?_, fun C' d dd v G' H' gr kn hdd rv po => ?_⟩
    · refine ⟨rfl, ?_⟩
      obtain ⟨g2, k2⟩ := after_make k1 hx hd nd gr kn
      rcases ga' with ga' | ga'
      · obtain ⟨g3, k3⟩ := grow_know k1 g2 k2 hx ga' ha'
        exact q1 _ _ _ H' (g1.trans k1 k3 g3) k3 (ho fs' g po) ⟨x, dx', vf', rfl, upd_same, fa'.mono (same_new ga'), fun _ z => by cases z⟩
      · exact q1 _ _ G' H' (g1.trans k1 k2 g2) k2 (ho fs' g po) ⟨x, dx', vf', rfl, ga', fa', fun _ z => by cases z⟩
    · obtain ⟨g2, k2⟩ := after_make k1 hx hd nd gr kn
      exact q2 C' d dd v G' H' (g1.trans k1 k2 g2) k2 hdd rv (hxx C' d po)
/-- C(..) that gives an object -/
theorem ev_make {post : ι → ReN → Prop} {Pok : Sl → Prop} {Pa : List Sl → Prop} (ha : EvA S tr ρ Pa) (h : ∀ ss, Pa ss → ∃ i, ss = args i ∧ pre i ∧ (∀ fs g, post i (.ok fs g) → Pok (.ob none C fs)) ∧ (∀ C' d, ¬ post i (.ex C' d))) :
    Ev S (tMake C (spN S.K C args pre post) [] E tr) ρ Pok := fun σ G H k e Q q =>
  evx_make (Pex := fun _ _ => False) ha (fun ss ps => by
    obtain ⟨i, a1, a2, a3, a4⟩ := h ss ps
    exact ⟨i, a1, a2, a3, fun C' d po => absurd po (a4 C' d)⟩) σ G H k e E Q (fun v s G' H' g k' p r => q v s G' H' g k' p r) fun _ _ _ _ _ _ _ _ _ _ z => z.elim
/-- o.m(..), o an object that never changes -/
theorem ev_methK {post : ι → Re → Prop} {P : Sl → Prop} {Pa : List Sl → Prop} {oa : Option Addr} (ho : Ev S te ρ (Eq (.ob oa C fs))) (lm : fs.lookup m = none) (ha : EvA S tr ρ Pa) (h : ∀ ss, Pa ss → ∃ i, .ob none C fs :: ss = args i ∧ pre i ∧ (∀ s, post i (.ok s) → P s) ∧ (∀ C d, ¬ post i (.ex C d))) :
    Ev S (tMeth C m (spI S.K fx0 args pre post) [] E te tr) ρ P := fun σ G H k e Q q =>
  ho σ G H k e _ fun v s G1 H1 g1 k1 es r => by
    subst es
    obtain ⟨a, dx, vf, rfl, hg, fa, _⟩ := r
    refine ⟨a, dx, vf, rfl, k1.gh _ _ hg, fa.lookN lm, ha σ G1 H1 k1 (e.grow g1) _ fun vs ss G2 H2 g2 k2 p2 r2 => ?_⟩
    obtain ⟨i, e1, hp, ho, hx⟩ := h ss p2
    rw [List.append_nil]
    refine ⟨i, G2, hp, k2.low, e1 ▸ .cons ⟨a, dx, vf, rfl, g2.gg _ _ hg, fa.mono g2.gg, fun _ z => by cases z⟩ r2, fun v s G3 H3 g3 k3 r3 po => ?_, fun C d dd v G3 H3 _ _ _ _ po => absurd po (hx C d)⟩
    have k3' := k2.lift g3
    exact q v s G3 H3 ((g1.trans k1 k2 g2).trans k2 k3' g3.lift) k3' (ho s po) r3
/-- .. that may write where all may -/
theorem ev_methKF {post : ι → Re → Prop} {P : Sl → Prop} {Pa : List Sl → Prop} {oa : Option Addr} (ho : Ev S te ρ (Eq (.ob oa C fs))) (lm : fs.lookup m = none) (ha : EvA S tr ρ Pa) (h : ∀ ss, Pa ss → ∃ i, .ob none C fs :: ss = args i ∧ pre i ∧ (∀ s, post i (.ok s) → P s) ∧ (∀ C d, ¬ post i (.ex C d))) :
    Ev S (tMeth C m (spI S.K S.fx args pre post) [] E te tr) ρ P := fun σ G H k e Q q =>
  ho σ G H k e _ fun v s G1 H1 g1 k1 es r => by
    subst es
    obtain ⟨a, dx, vf, rfl, hg, fa, _⟩ := r
    refine ⟨a, dx, vf, rfl, k1.gh _ _ hg, fa.lookN lm, ha σ G1 H1 k1 (e.grow g1) _ fun vs ss G2 H2 g2 k2 p2 r2 => ?_⟩
    obtain ⟨i, e1, hp, ho, hx⟩ := h ss p2
    rw [List.append_nil]
    exact ⟨i, G2, hp, k2, e1 ▸ .cons ⟨a, dx, vf, rfl, g2.gg _ _ hg, fa.mono g2.gg, fun _ z => by cases z⟩ r2, fun v s G3 H3 g3 k3 r3 po => q v s G3 H3 ((g1.trans k1 k2 g2).trans k2 k3 g3) k3 (ho s po) r3, fun C d dd v G3 H3 _ _ _ _ po => absurd po (hx C d)⟩
end
end Dl

set_option Elab.async false
set_option linter.all false
set_option maxRecDepth 100000
set_option maxHeartbeats 4000000
/-! Dlh: x in a list or tuple, zip, parts of tuples, truth, repr of data with dicts, dict(d), displays of dicts. -/
namespace Dl
open PySem PySem.Spec PyProof.Rows L2 LamX RZ
/-! ### x in xs -/
def inD (d : D) (ds : List D) : Bool := ds.any fun z => PyData.eqv z d
def rInS (K : PySem.W.Frag) : R2 := fun x y H Q => ∃ (d : D) (ds : List D) (p : Addr) (vs : List V), Dp K H x d ∧ y = .ref p ∧ (SqL K H p vs ∨ SqT K H p vs) ∧ DpAll K H vs ds ∧ SeqAt.shaped d = true ∧ PyData.canLayAll0 ds = true ∧ Q (.bl (inD d ds)) H
def rNotInS (K : PySem.W.Frag) : R2 := fun x y H Q => ∃ (d : D) (ds : List D) (p : Addr) (vs : List V), Dp K H x d ∧ y = .ref p ∧ (SqL K H p vs ∨ SqT K H p vs) ∧ DpAll K H vs ds ∧ SeqAt.shaped d = true ∧ PyData.canLayAll0 ds = true ∧ Q (.bl (!inD d ds)) H
theorem op_inS {X : Cx} (hu : X.A.units + 65 < cLine) : OpR X (compareOp .In) (rInS X.K) := by
  intro pins s σ H x y v u Q I rx ry h
  obtain ⟨d, ds, p, vs, hd, rfl, hq, ha, sd, sl, q⟩ := h
  obtain ⟨as, r1⟩ := Dp.reads I d x v hd rx
  have dd := SeqAt.depth_of_shaped sd
  have hm : X.A.units + 1 + min (PyData.depthAll ds) d.depth < cLine := by
    have : min (PyData.depthAll ds) d.depth ≤ d.depth := Nat.min_le_right _ _
    omega
  rcases hq with hq | hq
  · obtain ⟨bs, r2⟩ := Dp.reads I (.list ds) (.ref p) u (.lst hq ha) ry
    exact SeqAt.in_list_reads r2 r1 sl (SeqAt.canLay_of_shaped sd) hm ⟨.bl _, H, I, rfl, q⟩
  · obtain ⟨bs, r2⟩ := Dp.reads I (.tuple ds) (.ref p) u (.tup hq ha) ry
    exact SeqAt.in_tuple_reads r2 r1 sl (SeqAt.canLay_of_shaped sd) hm ⟨.bl _, H, I, rfl, q⟩
theorem op_notInS {X : Cx} (hu : X.A.units + 65 < cLine) : OpR X (compareOp .NotIn) (rNotInS X.K) := by
  intro pins s σ H x y v u Q I rx ry h
  obtain ⟨d, ds, p, vs, hd, rfl, hq, ha, sd, sl, q⟩ := h
  obtain ⟨as, r1⟩ := Dp.reads I d x v hd rx
  have dd := SeqAt.depth_of_shaped sd
  have hm : X.A.units + 1 + min (PyData.depthAll ds) d.depth < cLine := by
    have : min (PyData.depthAll ds) d.depth ≤ d.depth := Nat.min_le_right _ _
    omega
  rcases hq with hq | hq
  · obtain ⟨bs, r2⟩ := Dp.reads I (.list ds) (.ref p) u (.lst hq ha) ry
    exact SeqAt.notIn_list_reads r2 r1 sl (SeqAt.canLay_of_shaped sd) hm ⟨.bl _, H, I, rfl, q⟩
  · obtain ⟨bs, r2⟩ := Dp.reads I (.tuple ds) (.ref p) u (.tup hq ha) ry
    exact SeqAt.notIn_tuple_reads r2 r1 sl (SeqAt.canLay_of_shaped sd) hm ⟨.bl _, H, I, rfl, q⟩
section
variable {S : Cf} {ρ : Rho} {te ta tb : TE} {P : Oc → Prop} {w : TS} {d : D} {ds es : List D}
theorem ev_inL (ha : Ev S ta ρ (Eq (.dat d))) (hb : EvL S tb ρ ds) (sd : SeqAt.shaped d = true) (sl : PyData.canLayAll0 ds = true) : Ev S (tOp (rInS S.K) ta tb) ρ (Eq (.dat (.bool (inD d ds)))) := fun σ G H k e Q q =>
  ha σ G H k e _ fun v s G1 H1 g1 k1 es rx => hb σ G1 H1 k1 (e.grow g1) _ fun a vs G2 H2 g2 k2 st ra => by
    subst es
    exact ⟨d, ds, a, vs, ((rx.mono g2.gg).mono k2.gh : R S.K H2 v d).dp (PyData.hasDict_of_canLay _ (SeqAt.canLay_of_shaped sd)), rfl, .inl (st _ _ (Grow.refl k2)), (ra.mono k2.gh).dp (PyData.hasDictAll_of_canLayAll _ sl), sd, sl, q _ _ G2 H2 (g1.trans k1 k2 g2) k2 rfl (.bl _)⟩
theorem ev_inU (ha : Ev S ta ρ (Eq (.dat d))) (hb : EvU S tb ρ ds) (sd : SeqAt.shaped d = true) (sl : PyData.canLayAll0 ds = true) : Ev S (tOp (rInS S.K) ta tb) ρ (Eq (.dat (.bool (inD d ds)))) := fun σ G H k e Q q =>
  ha σ G H k e _ fun v s G1 H1 g1 k1 es rx => hb σ G1 H1 k1 (e.grow g1) _ fun a vs G2 H2 g2 k2 st ra => by
    subst es
    exact ⟨d, ds, a, vs, ((rx.mono g2.gg).mono k2.gh : R S.K H2 v d).dp (PyData.hasDict_of_canLay _ (SeqAt.canLay_of_shaped sd)), rfl, .inr (st _ _ (Grow.refl k2)), (ra.mono k2.gh).dp (PyData.hasDictAll_of_canLayAll _ sl), sd, sl, q _ _ G2 H2 (g1.trans k1 k2 g2) k2 rfl (.bl _)⟩
theorem ev_notInL (ha : Ev S ta ρ (Eq (.dat d))) (hb : EvL S tb ρ ds) (sd : SeqAt.shaped d = true) (sl : PyData.canLayAll0 ds = true) : Ev S (tOp (rNotInS S.K) ta tb) ρ (Eq (.dat (.bool (!inD d ds)))) := fun σ G H k e Q q =>
  ha σ G H k e _ fun v s G1 H1 g1 k1 es rx => hb σ G1 H1 k1 (e.grow g1) _ fun a vs G2 H2 g2 k2 st ra => by
    subst es
    exact ⟨d, ds, a, vs, ((rx.mono g2.gg).mono k2.gh : R S.K H2 v d).dp (PyData.hasDict_of_canLay _ (SeqAt.canLay_of_shaped sd)), rfl, .inl (st _ _ (Grow.refl k2)), (ra.mono k2.gh).dp (PyData.hasDictAll_of_canLayAll _ sl), sd, sl, q _ _ G2 H2 (g1.trans k1 k2 g2) k2 rfl (.bl _)⟩
theorem ev_notInU (ha : Ev S ta ρ (Eq (.dat d))) (hb : EvU S tb ρ ds) (sd : SeqAt.shaped d = true) (sl : PyData.canLayAll0 ds = true) : Ev S (tOp (rNotInS S.K) ta tb) ρ (Eq (.dat (.bool (!inD d ds)))) := fun σ G H k e Q q =>
  ha σ G H k e _ fun v s G1 H1 g1 k1 es rx => hb σ G1 H1 k1 (e.grow g1) _ fun a vs G2 H2 g2 k2 st ra => by
    subst es
    exact ⟨d, ds, a, vs, ((rx.mono g2.gg).mono k2.gh : R S.K H2 v d).dp (PyData.hasDict_of_canLay _ (SeqAt.canLay_of_shaped sd)), rfl, .inr (st _ _ (Grow.refl k2)), (ra.mono k2.gh).dp (PyData.hasDictAll_of_canLayAll _ sl), sd, sl, q _ _ G2 H2 (g1.trans k1 k2 g2) k2 rfl (.bl _)⟩
/-! ### zip -/
def zipD : List D → List D → List D
  | a :: as, b :: bs => .tuple [a, b] :: zipD as bs
  | _, _ => []
theorem zipD_length : ∀ as bs : List D, (zipD as bs).length = min as.length bs.length
  | [], _ => by simp [zipD]
  | _ :: _, [] => by simp [zipD]
  | _ :: as, _ :: bs => by
    simp only [zipD, List.length_cons, zipD_length as bs]
    omega
theorem zipD_get : ∀ {as bs : List D} {i : Nat} {d : D}, (zipD as bs)[i]? = some d → ∃ a b, as[i]? = some a ∧ bs[i]? = some b ∧ d = .tuple [a, b]
  | [], _, _, _, h => by simp [zipD] at h
  | _ :: _, [], _, _, h => by simp [zipD] at h
  | a :: _, b :: _, 0, _, h => by
    simp only [zipD, List.getElem?_cons_zero, Option.some.injEq] at h
    exact ⟨a, b, rfl, rfl, h.symm⟩
  | _ :: as, _ :: bs, i + 1, _, h => by
    simp only [zipD, List.getElem?_cons_succ] at h ⊢
    exact zipD_get h
theorem wk_zipT {G : Hp} {a b : Addr} {vs ws : List V} (hs : SqT S.K G a vs) (ra : RA S.K G vs ds) (hs2 : SqT S.K G b ws) (rb : RA S.K G ws es) : Wk S (ItzT S.K a b) G (zipD ds es) := wk_pair (f := fun a b => .tuple [a, b]) fun G2 H2 e k => by
  have h1 : SqT S.K H2 a vs := sameT (e.trans k.gh) hs
  have h2 : SqT S.K H2 b ws := sameT (e.trans k.gh) hs2
  refine ⟨⟨vs, ws, h1, h2, by rw [zipD_length, ra.length, rb.length]; omega⟩, fun i d hd => ?_⟩
  obtain ⟨x, y, hx, hy, ed⟩ := zipD_get hd
  obtain ⟨v, hv, rv⟩ := ra.get hx
  obtain ⟨u, hu, ru⟩ := rb.get hy
  refine ⟨⟨vs, ws, v, u, h1, h2, hv, hu⟩, fun z H3 ⟨T, p, q, e1, e2, e3, e4, e5⟩ => ?_⟩
  have e4 := e4 vs h1
  have e5 := e5 ws h2
  rw [hv] at e4
  rw [hu] at e5
  cases e4
  cases e5
  exact ⟨T, _, _, x, y, e1, e2, e3, rv.mono e, ru.mono e, ed⟩
theorem im_zipU (ha : Ev S ta ρ (Eq (.dat (.tuple ds)))) (hb : Ev S tb ρ (Eq (.dat (.tuple es)))) : Itm S (iZipA S.K (tCons ta (tCons tb tNil))) ρ (Eq (zipD ds es)) := fun σ G H k e Rr f =>
  ha σ G H k e _ fun v s G1 H1 g1 k1 es1 r1 => hb σ G1 H1 k1 (e.grow g1) _ fun u s2 G2 H2 g2 k2 es2 r2 => by
    subst es1 es2
    have r1 := r1.mono g2.gg
    cases r1 with
    | tup hs ra =>
      cases r2 with
      | tup hs2 rb => exact ⟨_, _, _, _, rfl, .inr ⟨sameT k2.gh hs, sameT k2.gh hs2, f _ _ G2 H2 (g1.trans k1 k2 g2) k2 rfl (wk_zipT hs ra hs2 rb)⟩⟩
/-! ### parts of tuples -/
theorem ev_cutA {lo hi : Option Int} {tl th : TO} (h : Ev S te ρ (Eq (.dat (.tuple ds)))) (hl : EvO S tl ρ lo) (hh : EvO S th ρ hi) : Ev S (tSl (rSlA S.K) te tl th) ρ (Eq (.dat (.tuple (cutD ds lo hi)))) := fun σ G H k e Q q =>
  h σ G H k e _ fun v s G1 H1 g1 k1 es r => hl σ G1 H1 k1 (e.grow g1) _ fun G2 H2 g2 k2 => hh σ G2 H2 k2 ((e.grow g1).grow g2) _ fun G3 H3 g3 k3 => by
    subst es
    have r3 := (r.mono g2.gg).mono g3.gg
    have r0 := r3
    have g := (g1.trans k1 k2 g2).trans k2 k3 g3
    cases r3 with
    | @tup a xs _ hs ra =>
      refine ⟨a, xs, rfl, sameT k3.gh hs, fun ⟨w1, w2⟩ => ?_, fun _ p hp => ?_⟩
      · have e1 : cutD ds lo hi = ds := by
          rw [ra.length] at w1 w2
          unfold cutD
          rw [w1, w2, List.drop_zero, Nat.sub_zero, List.take_length]
        rw [e1] at q
        exact q _ _ G3 H3 g k3 rfl r0
      · have g4 := Grow.new k3 (.tup (cutV xs lo hi)) hp
        have k4 := Kn.new k3 (.tup (cutV xs lo hi)) hp
        exact q _ _ _ _ (g.trans k3 k4 g4) k4 rfl (.tup (SqT.of upd_same) ((ra.mono g4.gg).cut lo hi))
/-! ### truth -/
def tTru (K : PySem.W.Frag) (ta : TE) : TT := fun σ H Q => ta σ H fun x H' => ∃ k, TruV K x H' k ∧ Q k H'
theorem et_truU (h : EvU S te ρ ds) : EvT S (tTru S.K te) ρ (Eq (!ds.isEmpty)) := fun σ G H k e Q q => h σ G H k e _ fun a vs G1 H1 g1 k1 st ra => by
  refine ⟨!vs.isEmpty, .inr (.inl ⟨vs, st _ _ (Grow.refl k1), rfl⟩), ?_⟩
  have : vs.isEmpty = ds.isEmpty := by cases ra <;> rfl
  rw [this]
  exact q _ G1 H1 g1 k1 rfl
theorem et_truL (h : EvL S te ρ ds) : EvT S (tTru S.K te) ρ (Eq (!ds.isEmpty)) := fun σ G H k e Q q => h σ G H k e _ fun a vs G1 H1 g1 k1 st ra => by
  refine ⟨!vs.isEmpty, .inl ⟨vs, st _ _ (Grow.refl k1), rfl⟩, ?_⟩
  have : vs.isEmpty = ds.isEmpty := by cases ra <;> rfl
  rw [this]
  exact q _ G1 H1 g1 k1 rfl
end
/-! ### dict(d), displays -/
section
variable {S : Cf} {ρ : Rho} {te ta tb : TE} {ds : List (D × D)}
def rDictD : List V → Hp → VK → Prop := fun xs H Q => ∃ (a : Addr) (kvs : List (Key × V)), xs = [.ref a] ∧ Rd H a (.dK kvs) ∧ ∀ p, H p = none → Q (.ref p) (upd H p (.dK kvs))
theorem eq_dictD (h : EvDc S te ρ true ds) : EvQ S (tCB rDictD (tCons te tNil)) ρ (fun p => moD p true ds) := fun σ G H k e Q q => h σ G H k e _ fun a G1 H1 g1 k1 st => by
  obtain ⟨ks, hr, rk⟩ := st G1 H1 (Grow.refl k1) k1
  exact ⟨a, ks, rfl, hr, fun p hp => q p _ G1 _ (g1.trans k1 (k1.same (same_new hp)) (Grow.same k1 (same_new hp))) (k1.same (same_new hp)) (fresh_of g1 k1 hp) (k1.freeG hp) upd_same rk⟩
/-- {k: v} -/
theorem eq_disp1 {k1 : Key} {d : D} (ha : Ev S ta ρ (Eq (.dat (kD k1)))) (hb : Ev S tb ρ (Eq (.dat d))) : EvQ S (tDisp [(ta, tb)]) ρ (fun p => moD p true [(kD k1, d)]) := fun σ G H k e Q q p hp => by
  have s0 : Same H (upd H p (.dK [])) := same_new hp
  refine ha σ G _ (k.same s0) (e.grow (Grow.same k s0)) _ fun v s G1 H1 g1 kk1 es1 r1 => hb σ G1 H1 kk1 ((e.grow (Grow.same k s0)).grow g1) _ fun u s2 G2 H2 g2 kk2 es2 r2 => ?_
  subst es1 es2
  have np : ¬ S.fx.vol p := k.fresh hp
  have g := g1.trans kk1 kk2 g2
  have hp2 : H2 p = some (.dK []) := g.hh p _ np upd_same
  have gp2 : G2 p = none := g.nn p _ upd_same (fun z => z) (k.freeG hp)
  have ev := kD_R r1
  refine ⟨hp2, [(k1, u)], by rw [ev]; rfl, by simp, ?_⟩
  have kn : Kn S.fx G2 (upd H2 p (.dK [(k1, u)])) := ⟨fun b w hb => by
    have q : b ≠ p := fun q => by rw [q, gp2] at hb; cases hb
    rw [upd_ne q]
    exact kk2.gh b w hb, S.fx.ext (fun b w hb hw => by
    have q : b ≠ p := fun q => by
      rcases hb with hb | hb
      · exact np (q ▸ hb)
      · rw [q, hp2] at hw
        cases hw
        exact hb
    rw [upd_ne q]
    exact hw) kk2.inv, kk2.vn⟩
  have gg : Grow S.fx G H G2 (upd H2 p (.dK [(k1, u)])) := ⟨g.gg, kn.gh, fun b w v hb => by
    have q : b ≠ p := ne_of_none hb hp
    rw [upd_ne q]
    exact g.hh b w v (by rw [upd_ne q]; exact hb), fun b w hb nt n => g.nn b w (by rw [upd_ne (ne_of_none hb hp)]; exact hb) nt n⟩
  exact q p _ G2 _ gg kn hp gp2 upd_same (.cons r2 .nil)
end
/-! ### repr of data with dicts -/
mutual
def noLst : D → Bool
  | .list _ => false
  | .tuple ds => noLsts ds
  | .dict ds => noLstKv ds
  | _ => true
def noLsts : List D → Bool
  | [] => true
  | d :: ds => noLst d && noLsts ds
def noLstKv : List (D × D) → Bool
  | [] => true
  | (k, d) :: ds => noLst d && noLstKv ds
end
section
variable {X : Cx} {pins : List (Addr × Obj)} {σ : L2.St} {H : Hp} {s : Shared}
theorem rk_reads {G : Hp} {P : Program} {w : World} : ∀ {ks : List (Key × V)} {ds : List (D × D)} {us : List (Key × Value)} {es : List DictEntry}, RK X.K G ks ds → KV ks us → PySem.Pairs (mixKind P w) es us →
    ReadsAll s.heap (es.map (·.key)) (ds.map (·.1)) [] ∧ Vals (ks.map Prod.snd) (es.map (·.val))
  | _, _, _, _, .nil, h, p => by
    cases h
    cases p
    exact ⟨.nil, .nil⟩
  | _, _, _, _, .cons (k := k) r rs, h, p => by
    cases h with
    | cons h1 h2 =>
      cases p with
      | @cons en _ _ _ p1 p2 p3 =>
        obtain ⟨q1, q2⟩ := rk_reads rs h2 p3
        obtain ⟨e1, e2⟩ := h1
        simp only [List.map_cons]
        refine ⟨?_, .cons (p2 ▸ e2) q2⟩
        have p1' : keyIs k en.key = true := by
          rw [← e1] at p1
          exact p1
        have hk : Reads s.heap en.key (kD k) [] := by
          rcases keyIs_shape p1' with ⟨i, t, e, ek⟩ | ⟨x, t, e, ek⟩
          · subst e
            rw [ek]
            exact .int i t
          · subst e
            rw [ek]
            exact .str x t
        exact ReadsAll.cons hk q1
mutual
theorem okN_noLst : ∀ d : D, okN d = true → noLst d = true
  | .none, h => by simp [okN] at h
  | .bool _, h => by simp [okN] at h
  | .int _, _ => by simp [noLst]
  | .str _, h => by simp [okN] at h
  | .list _, h => by simp [okN] at h
  | .tuple ds, h => by
    simp only [noLst]
    exact okNs_noLst ds (by simpa [okN] using h)
  | .dict _, h => by simp [okN] at h
theorem okNs_noLst : ∀ ds : List D, okNs ds = true → noLsts ds = true
  | [], _ => by simp [noLsts]
  | d :: ds, h => by
    simp only [okNs, Bool.and_eq_true] at h
    simp only [noLsts, okN_noLst d h.1, okNs_noLst ds h.2, Bool.and_self]
end
mutual
theorem R.reads (I : Inv X pins σ H s) : ∀ (d : D) (v : V) (u : Value), R X.K H v d → noLst d = true → RelV v u → ∃ as, Reads s.heap u d as ∧ sysModules ∉ as
  | .none, _, _, h, _, r => by
    cases h
    cases r
    exact ⟨_, Reads.none, by simp⟩
  | .bool b, _, _, h, _, r => by
    cases h
    cases r
    exact ⟨_, Reads.bool b, by simp⟩
  | .int i, _, _, h, _, r => by
    cases h
    obtain ⟨t, rfl⟩ := r
    exact ⟨_, Reads.int i t, by simp⟩
  | .str x, _, _, h, _, r => by
    cases h
    obtain ⟨t, rfl⟩ := r
    exact ⟨_, Reads.str x t, by simp⟩
  | .list _, _, _, _, n, _ => by simp [noLst] at n
  | .tuple ds, _, _, h, n, r => by
    cases h with
    | tup hs ha =>
      cases r
      obtain ⟨its, rv, ⟨o, ho, hc, m, hd⟩, _⟩ := I.tuple hs
      obtain ⟨as, hr, na⟩ := RA.reads I ds _ its ha (by simpa [noLst] using n) rv
      exact ⟨_, Reads.tuple ho hc hd hr, na⟩
  | .dict ds, _, _, h, n, r => by
    cases h with
    | @dic a ob ks _ hg rk =>
      cases r
      obtain ⟨hd, z, hs, vs, kv, o, es, ep, ho, hx, hdt, hk, hp, _⟩ := (show ObjOk X.prog X.w H s.heap a (.frz ob (.dK ks)) from I.hok a _ hg)
      obtain ⟨q1, q2⟩ := rk_reads (s := s) rk kv hp
      obtain ⟨bs, q3, q4⟩ := RK.readsV I ds ks _ rk (by simpa [noLst] using n) q2
      refine ⟨_, Reads.dict ho hx.1 hdt q1 q3, ?_⟩
      have : sysModules ≠ a := fun e => by
        rw [e] at hs
        simp at hs
      simp [this, q4]
    | @dicN a ob xs _ hg ne rn =>
      cases r
      obtain ⟨hd, ⟨z, hs, o, es, ep, ho, hx, hdt, he, _⟩, _⟩ := (show ObjOk X.prog X.w H s.heap a (.frz ob (DX a xs)) from I.hok a _ hg)
      have e1 : es.toList.map (·.key) = xs.map fun x => Value.ref x.2.1 := by
        rw [he X.w, List.map_map]
        rfl
      have e2 : es.toList.map (·.val) = xs.map fun x => x.2.2 := by
        rw [he X.w, List.map_map]
        rfl
      obtain ⟨as, bs, q1, q2, n1, n2⟩ := RN.reads I ds xs rn (by simpa [noLst] using n)
      refine ⟨_, Reads.dict ho hx.1 hdt (by rw [e1]; exact q1) (by rw [e2]; exact q2), ?_⟩
      have : sysModules ≠ a := fun e => by
        rw [e] at hs
        simp at hs
      simp [this, n1, n2]
theorem RN.reads (I : Inv X pins σ H s) : ∀ (ds : List (D × D)) (xs : List (NestedKey × Addr × Value)), RN X.K H xs ds → noLstKv ds = true → ∃ as bs, ReadsAll s.heap (xs.map fun x => Value.ref x.2.1) (ds.map (·.1)) as ∧ ReadsAll s.heap (xs.map fun x => x.2.2) (ds.map (·.2)) bs ∧ sysModules ∉ as ∧ sysModules ∉ bs
  | [], _, h, _ => by
    cases h
    exact ⟨_, _, ReadsAll.nil, ReadsAll.nil, by simp, by simp⟩
  | (k, d) :: ds, _, h, n => by
    cases h with
    | cons h1 h2 h3 h4 h5 h6 =>
      simp only [noLstKv, Bool.and_eq_true] at n
      obtain ⟨as, bs, q1, q2, n1, n2⟩ := RN.reads I ds _ h6 n.2
      obtain ⟨as1, q3, n3⟩ := R.reads I k _ _ h3 (okN_noLst k (okT_okN h1)) rfl
      obtain ⟨as2, q4, n4⟩ := R.reads I d _ _ h5 n.1 h4
      exact ⟨_, _, ReadsAll.cons q3 q1, ReadsAll.cons q4 q2, by simp [n1, n3], by simp [n2, n4]⟩
theorem RA.reads (I : Inv X pins σ H s) : ∀ (ds : List D) (vs : List V) (us : List Value), RA X.K H vs ds → noLsts ds = true → Vals vs us → ∃ as, ReadsAll s.heap us ds as ∧ sysModules ∉ as
  | [], _, _, h, _, r => by
    cases h
    cases r
    exact ⟨_, ReadsAll.nil, by simp⟩
  | d :: ds, _, _, h, n, r => by
    cases h with
    | cons h1 h2 =>
      cases r with
      | cons r1 r2 =>
        simp only [noLsts, Bool.and_eq_true] at n
        obtain ⟨as, q1, n1⟩ := R.reads I d _ _ h1 n.1 r1
        obtain ⟨bs, q2, n2⟩ := RA.reads I ds _ _ h2 n.2 r2
        exact ⟨_, ReadsAll.cons q1 q2, by simp [n1, n2]⟩
theorem RK.readsV (I : Inv X pins σ H s) : ∀ (ds : List (D × D)) (ks : List (Key × V)) (us : List Value), RK X.K H ks ds → noLstKv ds = true → Vals (ks.map Prod.snd) us → ∃ as, ReadsAll s.heap us (ds.map (·.2)) as ∧ sysModules ∉ as
  | [], _, _, h, _, r => by
    cases h
    cases r
    exact ⟨_, ReadsAll.nil, by simp⟩
  | (k, d) :: ds, _, _, h, n, r => by
    cases h with
    | cons h1 h2 =>
      cases r with
      | cons r1 r2 =>
        simp only [noLstKv, Bool.and_eq_true] at n
        obtain ⟨as, q1, n1⟩ := R.reads I d _ _ h1 n.1 r1
        obtain ⟨bs, q2, n2⟩ := RK.readsV I ds _ _ h2 n.2 r2
        exact ⟨_, ReadsAll.cons q1 q2, by simp [n1, n2]⟩
end
def rReprX (K : PySem.W.Frag) : List V → Hp → VK → Prop := fun xs H Q => ∃ (x : V) (d : D), xs = [x] ∧ R K H x d ∧ isDisp d = true ∧ (d.hasDict = false ∨ noLst d = true) ∧ d.showable = true ∧ d.shown.length ≤ sizeLine ∧ d.depth ≤ 20 ∧ Q (.str d.shown) H
theorem cr_reprX (hg : X.A.guards = some []) (hu : X.A.units + 64 < cLine) : CallR X (.builtin "repr") (rReprX X.K) := by
  intro pins s σ H xs us Q I r h
  obtain ⟨x, d, rfl, rx, dd, nd, sh, sz, dp, q⟩ := h
  obtain ⟨u, rfl, ru⟩ := vals1 r
  obtain ⟨as, rd, hsm⟩ : ∃ as, Reads s.heap u d as ∧ (d.hasDict = true → sysModules ∉ as) := by
    rcases nd with nd | nd
    · obtain ⟨as, rd⟩ := Dp.reads I d x u (rx.dp nd) ru
      exact ⟨as, rd, PyData.noDict_hsm nd⟩
    · obtain ⟨as, rd, n⟩ := R.reads I d x u rx nd ru
      exact ⟨as, rd, fun _ => n⟩
  obtain ⟨a, rfl⟩ : ∃ a, u = Value.ref a := by
    cases rx with
    | lst _ _ => exact ⟨_, ru⟩
    | tup _ _ => exact ⟨_, ru⟩
    | _ => simp [isDisp] at dd
  exact repr_of_reads' rd sh hsm hg (by omega) (fun _ _ e => e) (fun h' u tk hk => ⟨.str d.shown, H, I.kept hk, ⟨u, rfl⟩, q⟩) sz
end
theorem ev_reprX {S : Cf} {ρ : Rho} {te : TE} {d : D} (h : Ev S te ρ (Eq (.dat d))) (dd : isDisp d = true) (nd : d.hasDict = false ∨ noLst d = true) (sh : d.showable = true) (sz : d.shown.length ≤ sizeLine) (dp : d.depth ≤ 20) : Ev S (tCB (rReprX S.K) (tCons te tNil)) ρ (Eq (.dat (.str d.shown))) := fun σ G H k e Q q =>
  h σ G H k e _ fun v s G1 H1 g1 k1 es r => by
    subst es
    exact ⟨v, d, rfl, r.mono k1.gh, dd, nd, sh, sz, dp, q _ _ G1 H1 g1 k1 rfl (.str _)⟩
end Dl

set_option Elab.async false
set_option linter.all false
set_option maxRecDepth 100000
set_option maxHeartbeats 4000000
/-! Dli: what is a list or a tuple (b tells which); rows refused at their first wrong one; methods with a promise for each z. -/
namespace Dl
open PySem PySem.Spec PyProof.Rows L2 LamX RZ
def seqD : Bool → List D → D
  | true, ds => .list ds
  | false, ds => .tuple ds
section
variable {X : Cx} {K : PySem.W.Frag} {tg it : Expr} {w1 w2 : TI}
theorem pi_alt (h1 : PI X tg it w1) (h2 : PI X tg it w2) : PI X tg it (fun σ H R => w1 σ H R ∨ w2 σ H R) := ⟨fun pins s σ H R I h => h.elim (h1.run pins s σ H R I) (h2.run pins s σ H R I)⟩
def iEnumA (K : PySem.W.Frag) (ta : TA) : TI := fun σ H R => iEnum K ta σ H R ∨ iEnumT K ta σ H R
theorem pi_enumA {e : Expr} {ta : TA} {p pos tpos : Pos} {elts : List Expr} {kk : Nat} (hg : Gl X "enumerate") (hm : X.mg "enumerate" = none) (ha : PA X [e] ta) (hs : starEach [e] X.env = [(false, eval e X.env)] := by rfl) :
    PI X (.Tuple elts kk tpos) (.Call (.Name "enumerate" p) [e] [] pos) (iEnumA X.K ta) := pi_alt (pi_enum hg hm ha hs) (pi_enumT hg hm ha hs)
def iSeqA (K : PySem.W.Frag) (te : TE) : TI := fun σ H R => iList K te σ H R ∨ iTup K te σ H R
theorem pi_seqA {l : Expr} {tl : TE} (hl : PE X l tl) : PI X tg l (iSeqA X.K tl) := pi_alt (pi_list hl) (pi_tup hl)
theorem pi_seqA' {l : Expr} {tl : TE} (hK : X.K = K) (hl : PE X l tl) : PI X tg l (iSeqA K tl) := by
  subst hK
  exact pi_seqA hl
def rIxA (K : PySem.W.Frag) : R2 := fun x y H Q => rIxL K x y H Q ∨ rIxT K x y H Q
theorem ix_seqA (hK : X.K = K) : IxR X (rIxA K) := by
  subst hK
  intro value slice pins s σ H x y v u Q I rx ry h hs
  exact h.elim (fun h => ix_list value slice pins s σ H x y v u Q I rx ry h hs) fun h => ix_tup value slice pins s σ H x y v u Q I rx ry h hs
end
section
variable {S : Cf} {ρ : Rho} {te tb : TE} {b : Bool} {ds : List D}
theorem im_enumA (h : Ev S te ρ (Eq (.dat (seqD b ds)))) : Itm S (iEnumA S.K (tCons te tNil)) ρ (Eq (enumD 0 ds)) := fun σ G H k e Rr f => by
  cases b with
  | true => exact .inl (im_enumL (ds := ds) h σ G H k e Rr f)
  | false => exact .inr (im_enumT (ds := ds) h σ G H k e Rr f)
theorem im_seqA (h : Ev S te ρ (Eq (.dat (seqD b ds)))) : Itm S (iSeqA S.K te) ρ (Eq ds) := fun σ G H k e Rr f => by
  cases b with
  | true => exact .inl (im_listE (ds := ds) h σ G H k e Rr f)
  | false => exact .inr (im_tupE (ds := ds) h σ G H k e Rr f)
theorem ev_ixA {i : Int} {d : D} (h : Ev S te ρ (Eq (.dat (seqD b ds)))) (hb : Ev S tb ρ (Eq (.dat (.int i)))) (hd : atI ds i = some d) : Ev S (tOp (rIxA S.K) te tb) ρ (Eq (.dat d)) := fun σ G H k e Q q => by
  cases b with
  | true =>
    exact h σ G H k e _ fun v s G1 H1 g1 k1 es r => hb σ G1 H1 k1 (e.grow g1) _ fun u s2 G2 H2 g2 k2 es2 r2 => by
      subst es es2
      have r' := r.mono g2.gg
      cases r' with
      | lst hs ra =>
        cases r2
        obtain ⟨w, hw, rw'⟩ := ra.at hd
        exact .inl ⟨_, _, i, w, rfl, rfl, k2.gh.seq hs, hw, q w _ G2 H2 (g1.trans k1 k2 g2) k2 rfl rw'⟩
  | false =>
    exact h σ G H k e _ fun v s G1 H1 g1 k1 es r => hb σ G1 H1 k1 (e.grow g1) _ fun u s2 G2 H2 g2 k2 es2 r2 => by
      subst es es2
      have r' := r.mono g2.gg
      cases r' with
      | tup hs ra =>
        cases r2
        obtain ⟨w, hw, rw'⟩ := ra.at hd
        exact .inr ⟨_, _, i, w, rfl, rfl, sameT k2.gh hs, hw, q w _ G2 H2 (g1.trans k1 k2 g2) k2 rfl rw'⟩
theorem ev_lenA (h : Ev S te ρ (Eq (.dat (seqD b ds)))) : Ev S (tCB (fun xs H Q => ∃ p ys, xs = [.ref p] ∧ (SqL S.K H p ys ∨ SqT S.K H p ys) ∧ Q (.int ys.length) H) (tCons te tNil)) ρ (Eq (.dat (.int (ds.length : Nat)))) := by
  cases b with
  | true => exact ev_lenL (el_of h)
  | false => exact ev_lenU (eu_of h)
theorem at_nat {ds : List D} {i : Nat} {d : D} (h : ds[i]? = some d) : atI ds (i : Int) = some d := by
  have hl := (List.getElem?_eq_some_iff.mp h).1
  unfold atI ixN
  rw [if_pos (by omega), if_pos (by omega), Int.toNat_natCast]
  exact h
end
/-! ### rows of data -/
def rows : D → Option (Bool × List D)
  | .list ds => some (true, ds)
  | .tuple ds => some (false, ds)
  | _ => none
theorem rows_seq {d : D} {b : Bool} {ds : List D} (h : rows d = some (b, ds)) : d = seqD b ds := by
  cases d <;> simp only [rows, Option.some.injEq, Prod.mk.injEq] at h
  all_goals first | (obtain ⟨rfl, rfl⟩ := h; rfl) | cases h
theorem rows_of (b : Bool) (ds : List D) : rows (seqD b ds) = some (b, ds) := by cases b <;> rfl
/-- the first that is not as p says -/
def fbG (p : D → Bool) : Nat → List D → Option Nat
  | _, [] => none
  | k, d :: ds => if p d then fbG p (k + 1) ds else some k
theorem fbG_at {p : D → Bool} : ∀ (ds : List D) (k i : Nat) (d : D), (∀ x ∈ ds.take i, p x = true) → ds[i]? = some d → p d = false → fbG p k ds = some (k + i)
  | [], k, i, d, _, h, _ => by simp at h
  | x :: ds, k, 0, d, _, h, hd => by
    simp only [List.getElem?_cons_zero, Option.some.injEq] at h
    subst h
    unfold fbG
    rw [hd]
    rfl
  | x :: ds, k, i + 1, d, ha, h, hd => by
    have hx : p x = true := ha x (by simp)
    unfold fbG
    rw [hx, if_pos rfl, fbG_at ds (k + 1) i d (fun y hy => ha y (by simp [hy])) (by simpa using h) hd]
    congr 1
    omega
theorem fbG_none {p : D → Bool} : ∀ (ds : List D) (k : Nat), (∀ x ∈ ds, p x = true) → fbG p k ds = none
  | [], _, _ => rfl
  | x :: ds, k, h => by
    unfold fbG
    rw [h x List.mem_cons_self, if_pos rfl, fbG_none ds (k + 1) fun y hy => h y (List.mem_cons_of_mem _ hy)]
theorem fbG_all {p : D → Bool} : ∀ (ds : List D) (k : Nat), fbG p k ds = none → ∀ x ∈ ds, p x = true
  | [], _, _, x, hx => by cases hx
  | y :: ds, k, h, x, hx => by
    unfold fbG at h
    cases hy : p y with
    | false =>
      rw [hy] at h
      cases h
    | true =>
      rw [hy, if_pos rfl] at h
      rcases List.mem_cons.mp hx with q | q
      · rw [q]
        exact hy
      · exact fbG_all ds (k + 1) h x q
/-! ### methods with a promise for each z -/
section
variable {P : Program} {w : World} {K : PySem.W.Frag} {mg : Str → Option Value} {base : Heap}
theorem mk_calMZ {Z ι : Type} {C : Addr} {args : Z → ι → List Sl} {pre : Z → ι → Prop} {post : Z → ι → Re → Prop} {fx : Z → Fx} {m qual : Str} {st : Stmt} {N ps : List Str} {k : Nat} (T : DefM K C m qual st) (Sc : FnScope N ps (defScope st)) (hl : ∀ z i, (args z i).length = ps.length)
    (hb : ∀ (kV doc pm : Value) (an : Option Addr) (cdv ct : Value) (us : List Value), us.length = ps.length → bindArgs (PySem.W.fnOf m qual (defArgs st) (defBody st) (defScope st) .none kV doc pm an cdv ct) ⟨us, []⟩ = pure (ps.zip us))
    (body : ∀ (z : Z) (f : Addr) (cdv : Value) (A : Around) (outer : List PySem.Env) (s : Shared) (H : Hp) (E : XK), Room k (A.deeper (envOfC qual (defScope st) s.heap.objs.size f cdv)) → ∀ (i : ι), pre z i →
      ∃ t, PSs (cxOf (L2.CX P w) P w K mg base N qual (defScope st) f cdv A outer s H E) (defBody st) t ∧ ∀ G : Hp, Xc ⟨K, fx z, G, H, E⟩ t (args z i ++ List.replicate (N.length - ps.length) .no) (RetP (post z i)))
    (hm : ∀ z a, ¬ (fx z).mine a := by exact fun _ _ h => h) : CalM P w K mg base (k + 1) C m ps (spZ fun z => spI K (fx z) (args z) (pre z) (post z)) := by
  obtain ⟨⟨f, fd, F, M⟩, c⟩ := T
  have h := fun z => fn_ok (base := base) (k := k) F Sc (fun i _ => hl z i) (fun cdv A outer s H E => body z f cdv A outer s H E) (hm z)
  exact ⟨f, fd, ⟨fun vs H Q E ⟨z, q⟩ => (h z).len vs H Q E q, fun A outer s H args us vs Q E hr he hbd hv ⟨z, q⟩ => (h z).run A outer s H args us vs Q E hr he hbd hv q⟩, c, M, F.binds hb⟩
theorem mk_calMI {ι : Type} {C : Addr} {args : ι → List Sl} {pre : ι → Prop} {post : ι → Re → Prop} {fx : Fx} {m qual : Str} {st : Stmt} {N ps : List Str} {k : Nat} (T : DefM K C m qual st) (Sc : FnScope N ps (defScope st)) (hl : ∀ i, (args i).length = ps.length)
    (hb : ∀ (kV doc pm : Value) (an : Option Addr) (cdv ct : Value) (us : List Value), us.length = ps.length → bindArgs (PySem.W.fnOf m qual (defArgs st) (defBody st) (defScope st) .none kV doc pm an cdv ct) ⟨us, []⟩ = pure (ps.zip us))
    (body : ∀ (f : Addr) (cdv : Value) (A : Around) (outer : List PySem.Env) (s : Shared) (H : Hp) (E : XK), Room k (A.deeper (envOfC qual (defScope st) s.heap.objs.size f cdv)) → ∀ (i : ι), pre i →
      ∃ t, PSs (cxOf (L2.CX P w) P w K mg base N qual (defScope st) f cdv A outer s H E) (defBody st) t ∧ ∀ G : Hp, Xc ⟨K, fx, G, H, E⟩ t (args i ++ List.replicate (N.length - ps.length) .no) (RetP (post i)))
    (hm : ∀ a, ¬ fx.mine a := by exact fun _ h => h) : CalM P w K mg base (k + 1) C m ps (spI K fx args pre post) := by
  obtain ⟨⟨f, fd, F, M⟩, c⟩ := T
  exact ⟨f, fd, fn_ok F Sc (fun i _ => hl i) (fun cdv A outer s H E => body f cdv A outer s H E) hm, c, M, F.binds hb⟩
theorem CalM.mono {j k : Nat} {C : Addr} {m : Str} {ps : List Str} {sp : Sp} (c : CalM P w K mg base j C m ps sp) (h : j ≤ k) : CalM P w K mg base k C m ps sp := by
  obtain ⟨f, fd, F, r⟩ := c.ex
  exact ⟨f, fd, F.mono h, r⟩
end
section
variable {K : PySem.W.Frag} {G0 B : Hp} {E : XK} {ρ : Rho} {te : TE} {tr : TA} {C : Addr} {m : Str} {Z ι : Type} {fx : Z → Fx} {args : Z → ι → List Sl} {pre : Z → ι → Prop} {post : Z → ι → Re → Prop} {fs : Fs}
/-- o.m(..), o an object that never changes; what may change is y's -/
theorem ev_methZ (y : Z) {P : Sl → Prop} {Pa : List Sl → Prop} {E' : XK} {oa : Option Addr} (ho : Ev ⟨K, fx y, G0, B, E⟩ te ρ (Eq (.ob oa C fs))) (lm : fs.lookup m = none) (ha : EvA ⟨K, fx y, G0, B, E⟩ tr ρ Pa) (h : ∀ ss, Pa ss → ∃ i, .ob none C fs :: ss = args y i ∧ pre y i ∧ (∀ s, post y i (.ok s) → P s) ∧ (∀ C d, ¬ post y i (.ex C d))) :
    Ev ⟨K, fx y, G0, B, E⟩ (tMeth C m (spZ fun z => spI K (fx z) (args z) (pre z) (post z)) [] E' te tr) ρ P := fun σ G H k e Q q =>
  ho σ G H k e _ fun v s G1 H1 g1 k1 es r => by
    subst es
    obtain ⟨a, dx, vf, rfl, hg, fa, _⟩ := r
    refine ⟨a, dx, vf, rfl, k1.gh _ _ hg, fa.lookN lm, ha σ G1 H1 k1 (e.grow g1) _ fun vs ss G2 H2 g2 k2 p2 r2 => ?_⟩
    obtain ⟨i, e1, hp, ho, hx⟩ := h ss p2
    rw [List.append_nil]
    exact ⟨y, i, G2, hp, k2, e1 ▸ .cons ⟨a, dx, vf, rfl, g2.gg _ _ hg, fa.mono g2.gg, fun _ z => by cases z⟩ r2, fun v s G3 H3 g3 k3 r3 po => q v s G3 H3 ((g1.trans k1 k2 g2).trans k2 k3 g3) k3 (ho s po) r3, fun C d dd v G3 H3 _ _ _ _ po => absurd po (hx C d)⟩
end
end Dl

set_option Elab.async false
set_option linter.all false
set_option maxRecDepth 100000
set_option maxHeartbeats 4000000
/-! Dlj: what a law draws: values of which something alone is known. -/
namespace Dl
open PySem PySem.Spec PyProof.Rows L2 LamX RZ
/-- [e for k in ..], not told -/
theorem ef_many {α : Type} {dα : α → D} {S : Cf} {ρ : Rho} {wi : TI} {te : TE} {g : TG} {vs : List Nat} {good : α → Prop} {N : Nat → Prop} (hN : ∀ n, N n → n ≤ 1000) (hi : Itm S wi ρ (fun ds => N ds.length)) (hs : ∀ d, ∃ js ρ2, (∀ j ∈ js, j ∈ vs) ∧ Tgt S g js d (wipeR ρ vs) ρ2 ∧ Ev S te ρ2 (fun s => ∃ p, s = .dat (dα p) ∧ good p)) :
    EvF S (tLc wi g tYes te vs) ρ (fun ds => ∃ ps : List α, ds = ps.map dα ∧ N ps.length ∧ ∀ p ∈ ps, good p) := by
  refine ef_lc hi (fun ds i acc => ∃ ps : List α, acc = ps.map dα ∧ ps.length = i ∧ ∀ p ∈ ps, good p) (fun ds h => ⟨by have := hN _ h; omega, [], rfl, rfl, fun p hp => by cases hp⟩) (fun ds i d acc h hd al hI => ?_) fun ds acc h al ⟨ps, e, hl, hg⟩ => ⟨ps, e, by rw [hl]; exact h, hg⟩
  obtain ⟨ps, rfl, hl, hg⟩ := hI
  obtain ⟨js, ρ2, h1, h2, h3⟩ := hs d
  refine ⟨js, ρ2, h1, h2, fun σ G H k e Q q => q true G H (Grow.refl k) k ?_⟩
  show if true = true then _ else _
  rw [if_pos rfl]
  refine h3.imp fun s ⟨p, es, hp⟩ => ⟨dα p, es, ps ++ [p], by rw [List.map_append]; rfl, by simp [hl], fun r hr => ?_⟩
  rcases List.mem_append.mp hr with h | h
  · exact hg r h
  · rw [List.mem_singleton.mp h]
    exact hp
/-- [x for x in xs if ..], not told which -/
theorem ef_some {α : Type} {dα : α → D} {l : List α} {S : Cf} {ρ : Rho} {wi : TI} {te : TE} {tt : TT} {g : TG} {vs : List Nat} (hi : Itm S wi ρ (Eq (l.map dα))) (hl : l.length ≤ 1000000)
    (hs : ∀ x, x ∈ l → ∃ js ρ2, (∀ j ∈ js, j ∈ vs) ∧ Tgt S g js (dα x) (wipeR ρ vs) ρ2 ∧ EvT S tt ρ2 (fun _ => True) ∧ Ev S te ρ2 (Eq (.dat (dα x)))) : EvF S (tLc wi g tt te vs) ρ (fun ds => ∃ p : List α, ds = p.map dα ∧ p.Sublist l) := by
  refine ef_lc hi (fun _ i acc => ∃ p : List α, acc = p.map dα ∧ p.Sublist (l.take i)) (fun ds' e => e ▸ ⟨by rw [List.length_map]; exact hl, [], rfl, List.nil_sublist _⟩) (fun ds' i d acc e hd al hI => ?_) fun ds' acc e al hI => ?_
  · subst e
    rw [List.getElem?_map] at hd
    obtain ⟨x, hx, rfl⟩ := Option.map_eq_some_iff.mp hd
    obtain ⟨p, rfl, hp⟩ := hI
    obtain ⟨js, ρ2, h1, h2, h3, h4⟩ := hs x (List.mem_of_getElem? hx)
    have et : l.take (i + 1) = l.take i ++ [x] := by
      rw [List.take_add_one, hx]
      rfl
    refine ⟨js, ρ2, h1, h2, h3.imp fun b _ => ?_⟩
    cases b with
    | true =>
      rw [if_pos rfl]
      refine h4.imp fun s es => ⟨dα x, es.symm, p ++ [x], by rw [List.map_append]; rfl, ?_⟩
      rw [et]
      exact List.Sublist.append hp (List.Sublist.refl _)
    | false =>
      rw [if_neg (by decide)]
      exact ⟨p, rfl, by rw [et]; exact hp.trans (List.sublist_append_left _ _)⟩
  · subst e
    obtain ⟨p, e, hp⟩ := hI
    refine ⟨p, e, ?_⟩
    rw [List.length_map, List.take_length] at hp
    exact hp
section
variable {S : Cf} {ρ : Rho} {te ta tb tc : TE} {P : Oc → Prop} {w : TS}
/-- tuple(xs), xs not told -/
theorem ev_tupLP {p : List D → Prop} (ha : Ev S ta ρ (fun s => ∃ ds, s = .dat (.list ds) ∧ p ds)) : Ev S (tCB (fun xs H Q => ∃ p ys, xs = [.ref p] ∧ ((SqL S.K H p ys ∧ ∀ l, H l = none → Q (.ref l) (upd H l (.tup ys))) ∨ (SqT S.K H p ys ∧ Q (.ref p) H))) (tCons ta tNil)) ρ (fun s => ∃ ds, s = .dat (.tuple ds) ∧ p ds) := fun σ G H k e Q q =>
  ha σ G H k e _ fun v s G1 H1 g1 k1 ⟨ds, es, pd⟩ r => by
    subst es
    cases r with
    | @lst a vs _ hs ra =>
      refine ⟨a, vs, rfl, .inl ⟨k1.gh.seq hs, fun l hl => ?_⟩⟩
      have g2 := Grow.new k1 (.tup vs) hl
      have k2 := Kn.new k1 (.tup vs) hl
      exact q _ _ _ _ (g1.trans k1 k2 g2) k2 ⟨ds, rfl, pd⟩ (.tup (SqT.of upd_same) (ra.mono g2.gg))
/-- bools compared by ==, not told -/
abbrev EvB (S : Cf) (te : TE) (ρ : Rho) : Prop := Ev S te ρ (fun s => ∃ b, s = .dat (.bool b) ∧ True)
theorem ev_eqBP (ha : EvB S ta ρ) (hb : EvB S tb ρ) : EvB S (tOp (rEqD S.K) ta tb) ρ :=
  ev_op ha hb fun x y ⟨i, ex, _⟩ ⟨j, ey, _⟩ => by
    subst ex ey
    intro G H v w k rx ry Q qq
    exact (opd_here (z := .bl (PyData.eqv (.bool i) (.bool j))) (s := .dat (.bool (PyData.eqv (.bool i) (.bool j)))) fun G H v w k rx ry => ⟨.bl _, fun Q q => ⟨.bool i, .bool j, (R.mono k.gh rx).dp rfl, (R.mono k.gh ry).dp rfl, rfl, rfl, q⟩⟩) G H v w k rx ry Q fun z s G' H' g k' e r => qq z s G' H' g k' ⟨_, e.symm, trivial⟩ r
theorem Ev.toB {b : Bool} (h : Ev S te ρ (Eq (.dat (.bool b)))) : EvB S te ρ := h.imp fun s e => ⟨b, e.symm, trivial⟩
theorem cb_max2 {i j : Int} : CbD S (fun xs H Q => ∃ i j, xs = [.int i, .int j] ∧ Q (.int (if j > i then j else i)) H) [.dat (.int i), .dat (.int j)] (Eq (.dat (.int (max i j)))) := fun G H vs k r Q q => by
  cases r with
  | cons r1 r =>
    cases r with
    | cons r2 r =>
      cases r
      cases r1
      cases r2
      refine ⟨i, j, rfl, ?_⟩
      have e : (if j > i then j else i) = max i j := by
        rw [Int.max_def]
        split <;> split <;> omega
      rw [e]
      exact q _ _ G H (Grow.refl k) k rfl (.int _)
theorem ev_lst1P {p : D → Prop} (h : Ev S te ρ (fun s => ∃ d, s = .dat d ∧ p d)) : Ev S (tLst (tCons te tNil)) ρ (fun s => ∃ x, s = .dat (.list [x]) ∧ p x) := fun σ G H k e Q q =>
  h σ G H k e _ fun v s G1 H1 g1 k1 ⟨d, es, pd⟩ r1 => by
    subst es
    refine ⟨sz_ok (by show 1 ≤ 1000000; omega), fun l hl => ?_⟩
    have g2 := Grow.new k1 (.lst [v]) hl
    have k2 := Kn.new k1 (.lst [v]) hl
    exact q _ _ _ _ (g1.trans k1 k2 g2) k2 ⟨d, rfl, pd⟩ (.lst (SqL.of upd_same) (.cons (R.mono g2.gg r1) .nil))
theorem ev_cat1P {ds : List D} {p : D → Prop} (ha : EvL S ta ρ ds) (hb : Ev S tb ρ (fun s => ∃ x, s = .dat (.list [x]) ∧ p x)) (hl : ds.length + 1 ≤ 1000000) : Ev S (tOp (rCatL S.K) ta tb) ρ (fun s => ∃ x, s = .dat (.list (ds ++ [x])) ∧ p x) := fun σ G H k e Q q =>
  ha σ G H k e _ fun a vs G1 H1 g1 k1 st1 ra1 => hb σ G1 H1 k1 (e.grow g1) _ fun w s G2 H2 g2 k2 ⟨x, es, px⟩ r2 => by
    subst es
    cases r2 with
    | @lst b ws _ hs2 ra2 =>
      refine ⟨a, b, vs, ws, rfl, rfl, st1 G2 H2 g2, k2.gh.seq hs2, sz_ok (by rw [ra1.length, ra2.length]; exact hl), fun l hp => ?_⟩
      have g3 := Grow.new k2 (.lst (vs ++ ws)) hp
      have k3 := Kn.new k2 (.lst (vs ++ ws)) hp
      exact q _ _ _ _ ((g1.trans k1 k2 g2).trans k2 k3 g3) k3 ⟨x, rfl, px⟩ (.lst (SqL.of upd_same) ((ra1.mono (g2.gg.trans g3.gg)).append (ra2.mono g3.gg)))
theorem evx_callLP {Pok : Sl → Prop} {Pex : Addr → D → Prop} {ι : Type} {args : ι → List Sl} {pre : ι → Prop} {post : ι → Re → Prop} {ta : TA} {j : Nat} {f : Addr} {Pa : List Sl → Prop} (hj : ρ[j]? = some (.raw (.ref f))) (ha : EvA S ta ρ Pa) (h : ∀ ss, Pa ss → ∃ i, ss = args i ∧ pre i ∧ (∀ s, post i (.ok s) → Pok s) ∧ (∀ C d, post i (.ex C d) → Pex C d)) :
    EvX S (fun E => tCallL j f (spI S.K fx0 args pre post) [] E ta) ρ Pok Pex := fun σ G H k e E Q q1 q2 => by
  obtain ⟨v, h1, e'⟩ := e.get hj
  have e2 : v = .ref f := Option.some.inj e'
  subst e2
  exact ⟨h1, evx_callP ha h σ G H k e E Q q1 q2⟩
theorem xs_asgTP {g : TG} {p : D → Prop} (h : Ev S te ρ (fun s => ∃ d, s = .dat d ∧ p d)) (k : ∀ d, p d → ∃ js ρ1, Tgt S g js d ρ ρ1 ∧ Xc S w ρ1 P) : Xc S (tSeq (tAsg te g) w) ρ P := xc_seq fun σ G H De o e f =>
  h σ G H o.kn e _ fun v s G' H' g' k' ⟨d, es, pd⟩ r => by
    subst es
    obtain ⟨js, ρ1, ht, kx⟩ := k d pd
    exact ht σ G' H' v k' (e.grow g') r _ fun σ' _ e' => f.nx σ' G' H' ρ1 (o.grow g' k') g'.gg e' kx
/-- d[k] = e, e not told -/
theorem xc_xputP {i : Nat} {a : Addr} {f : Bool} {ds : List (D × D)} {dk : D} {p : D → Prop} (h : ρ[i]? = some (.own a (moD a f ds))) (hv : Ev S tc ρ (fun s => ∃ d, s = .dat d ∧ p d)) (hk : Ev S ta ρ (Eq (.dat dk))) (kd : KeyD f dk) (hl : ds.length < 1000000) (hs : ∀ d, p d → P (.nx (ρ.set i (.own a (moD a f (pD ds dk d)))))) : Xc S (sXPut S.K (tVar i) ta tc) ρ P := fun σ G H De o e fi =>
  hv σ G H o.kn e _ fun v s G1 H1 g1 k1 ⟨d, es, pd⟩ rv => by
    obtain ⟨_, h1, e0, _⟩ := (e.grow g1).get h
    cases Option.some.inj e0
    refine ⟨_, h1, hk σ G1 H1 k1 (e.grow g1) _ fun y s2 G2 H2 g2 k2 es2 ry => ?_⟩
    subst es es2
    have g := g1.trans k1 k2 g2
    obtain ⟨_, _, _, ga, ba, va, u, ha, r⟩ := (e.grow g).get h
    exact ⟨a, rfl, x_put k2.gh ha r kd ry (rv.mono g2.gg) hl fun u' r' => by
      obtain ⟨o2, e2⟩ := own_write (u' := u') (m' := moD a f (pD ds dk d)) (o.grow g k2) (e.grow g) h r' (fun z => absurd z moD_ins)
      exact fi.nx _ G2 _ _ o2 g.gg e2 (hs d pd)⟩
end
theorem eqv_wn (w : Str) (n : Int) : PyData.eqv (.tuple [.str w, .int n]) (.tuple [.str w, .int n]) = true := by
  simp [PyData.eqv, PyData.eqvAll]
theorem eqv_nilL (ds : List D) : PyData.eqv (.list ds) (.list []) = decide (ds = []) := by
  simp only [PyData.eqv]
  cases ds <;> simp [PyData.eqvAll]
def ShowOk (d : D) : Prop := isDisp d = true ∧ (d.hasDict = false ∨ noLst d = true) ∧ d.showable = true ∧ d.shown.length ≤ sizeLine ∧ d.depth ≤ 20
theorem ev_show {S : Cf} {ρ : Rho} {te : TE} {d : D} (h : Ev S te ρ (Eq (.dat d))) (o : ShowOk d) : Ev S (tCB (rReprX S.K) (tCons te tNil)) ρ (Eq (.dat (.str d.shown))) := ev_reprX h o.1 o.2.1 o.2.2.1 o.2.2.2.1 o.2.2.2.2
theorem shaped_ints (l : List Int) : SeqAt.shaped (.list (l.map PyData.int)) = true := by
  have h1 : (PyData.list (l.map PyData.int)).canLay0 = true := by
    simp only [PyData.canLay0]
    induction l with
    | nil => rfl
    | cons x l ih => simp [PyData.canLayAll0, PyData.canLay0, ih]
  have h2 : (PyData.list (l.map PyData.int)).depth ≤ 64 := by
    have e : PyData.list (l.map PyData.int) = PySem.W.Datum.toD l := rfl
    rw [e]
    exact Nat.le_trans (PySem.W.Datum.depth_le _) (by decide)
  unfold SeqAt.shaped
  rw [h1, decide_eq_true h2]
  rfl
end Dl
namespace Dl
open PySem PySem.Spec PyProof.Rows L2 LamX RZ
section
variable {S : Cf} {ρ : Rho} {te ta tb tc : TE} {P : Oc → Prop} {w t : TS}
/-- x, y = e, what was just made -/
theorem xc_parPQ {i j : Nat} {p : Sl → Prop} {m : Addr → Mo} (ha : Ev S ta ρ p) (hb : EvQ S tb ρ m) (hs : ∀ s a, p s → P (.nx ((ρ.set i s).set j (.own a (m a))))) : Xc S (tPar i j (tCons ta (tCons tb tNil))) ρ P := fun σ G H De o e f =>
  ha σ G H o.kn e _ fun v s G1 H1 g1 k1 ps r1 => hb σ G1 H1 k1 (e.grow g1) _ fun q u G2 H2 g2 k2 n1 n2 hq r => by
    have o2 := (o.grow g1 k1).grow g2 k2
    have e1 := (e.grow g1).set i r1
    have o1 := o.grow g1 k1
    refine ⟨_, _, rfl, f.nx _ G2 H2 _ o2 (g1.gg.trans g2.gg) ((e1.grow g2).put j (some (.ref q)) (.own q (m q)) ⟨rfl, n2, .inl (o1.freshB n1), o1.kn.fresh n1, _, hq, r⟩ fun b m' z l t m'' nl hl => e1.new_none (i := j) (s := .own q (m q)) n1 rfl z hl m'') (hs s q ps)⟩
theorem xs_parPQ {i j : Nat} {p : Sl → Prop} {m : Addr → Mo} (ha : Ev S ta ρ p) (hb : EvQ S tb ρ m) (hs : ∀ s a, p s → Xc S w ((ρ.set i s).set j (.own a (m a))) P) : Xc S (tSeq (tPar i j (tCons ta (tCons tb tNil))) w) ρ P := xc_seq (xc_parPQ ha hb hs)
def NxP (Q : Rho → Prop) : Oc → Prop
  | .nx ρ => Q ρ
  | _ => False
/-- a statement that goes on, and what it leaves -/
theorem xs_cut {Q : Rho → Prop} (h : Xc S t ρ (NxP Q)) (k : ∀ ρ', Q ρ' → Xc S w ρ' P) : Xc S (tSeq t w) ρ P := xc_seq (h.imp fun o ho => by
  cases o with
  | nx ρ' => exact k ρ' ho
  | rt _ _ => exact ho.elim
  | bk _ => exact ho.elim
  | ct _ => exact ho.elim
  | ex _ _ => exact ho.elim)
end
end Dl
namespace Dl
open PySem PySem.Spec PyProof.Rows L2 LamX RZ
section
variable {S : Cf} {ρ : Rho} {te ta tb tc : TE} {P : Oc → Prop} {w t : TS}
/-- (x, y) = (e, what was just made), by a tuple -/
theorem xc_tupPQ {i j : Nat} {p : Sl → Prop} {m : Addr → Mo} (ha : Ev S ta ρ p) (hb : EvQ S tb ρ m) (hs : ∀ s a, p s → P (.nx ((ρ.set i s).set j (.own a (m a))))) : Xc S (tAsg (tTup (tCons ta (tCons tb tNil))) (gTup S.K 2 (gCons (gName i) (gCons (gName j) gNil)))) ρ P := fun σ G H De o e f =>
  ha σ G H o.kn e _ fun v s G1 H1 g1 k1 ps r1 => hb σ G1 H1 k1 (e.grow g1) _ fun q u G2 H2 g2 k2 n1 n2 hq r => by
    have o2 := (o.grow g1 k1).grow g2 k2
    have e1 := (e.grow g1).set i r1
    have o1 := o.grow g1 k1
    have e2 := (e1.grow g2).put j (some (.ref q)) (.own q (m q)) ⟨rfl, n2, .inl (o1.freshB n1), o1.kn.fresh n1, _, hq, r⟩ fun b m' z l t m'' nl hl => e1.new_none (i := j) (s := .own q (m q)) n1 rfl z hl m''
    refine ⟨sz_ok (by show 2 ≤ 1000000; omega), fun x hx => ?_⟩
    have g3 : Grow S.fx G2 H2 G2 (upd H2 x (.tup [v, .ref q])) := Grow.same k2 (same_new hx)
    have k3 : Kn S.fx G2 (upd H2 x (.tup [v, .ref q])) := k2.same (same_new hx)
    exact ⟨x, [v, .ref q], rfl, SqT.of upd_same, rfl, v, [.ref q], rfl, .ref q, [], rfl, rfl, f.nx _ G2 _ _ (o2.grow g3 k3) (g1.gg.trans g2.gg) (e2.grow g3) (hs s q ps)⟩
theorem xs_tupPQ {i j : Nat} {p : Sl → Prop} {m : Addr → Mo} (ha : Ev S ta ρ p) (hb : EvQ S tb ρ m) (hs : ∀ s a, p s → Xc S w ((ρ.set i s).set j (.own a (m a))) P) : Xc S (tSeq (tAsg (tTup (tCons ta (tCons tb tNil))) (gTup S.K 2 (gCons (gName i) (gCons (gName j) gNil)))) w) ρ P := xc_seq (xc_tupPQ ha hb hs)
end
end Dl

set_option Elab.async false
set_option linter.all false
set_option maxRecDepth 100000
set_option maxHeartbeats 4000000
/-! Dlk: lists of ours handed to a def that only reads them; sorted; parts by steps; order of tuples; any; max with default; pop. -/
namespace Dl
open PySem PySem.Spec PyProof.Rows L2 LamX RZ
/-! ### lists that stand still while a body runs -/
def fxB (bs : List (Addr × List V)) : Fx where
  vol a := ∃ p ∈ bs, p.1 = a
  mine _ := False
  inv H := ∀ p ∈ bs, H p.1 = some (.lst p.2)
  ext := fun h i p hp => h p.1 _ (.inl ⟨p, hp, rfl⟩) (i p hp)
  there := fun {H a} i ⟨p, hp, e⟩ => ⟨.lst p.2, e ▸ i p hp, fun z => z⟩
section
variable {K : PySem.W.Frag} {G0 B : Hp} {E : XK} {bs : List (Addr × List V)} {ρ : Rho} {i : Nat} {a : Addr} {vs : List V} {ds : List D}
theorem rd_get {S : Cf} {σ : L2.St} {G H : Hp} (e : Env S G H σ ρ) (h : ρ[i]? = some (.rd a vs ds)) : σ[i]? = some (some (.ref a)) ∧ RA S.K G vs ds := by
  obtain ⟨v, h1, v', e', ev, ra⟩ := e.get h
  cases e'
  subst ev
  exact ⟨h1, ra⟩
theorem im_rd (h : ρ[i]? = some (.rd a vs ds)) (hm : (a, vs) ∈ bs) : Itm ⟨K, fxB bs, G0, B, E⟩ (iList K (tVar i)) ρ (Eq ds) := fun σ G H k e Rr f => by
  obtain ⟨h1, ra⟩ := rd_get e h
  refine ⟨_, h1, a, rfl, ⟨vs, SqL.of (k.inv _ hm)⟩, f _ ds G H (Grow.refl k) k rfl fun G2 H2 e2 k2 => ?_⟩
  have hs2 : SqL K H2 a vs := SqL.of (k2.inv _ hm)
  refine ⟨⟨vs, hs2, by rw [ra.length]; exact Nat.le_refl _⟩, fun j d hd => ?_⟩
  obtain ⟨v, hv, rv⟩ := ra.get hd
  exact ⟨⟨vs, v, hs2, hv⟩, fun x H3 ⟨e3, hx⟩ => ⟨G2, by rw [e3]; exact Grow.refl k2, by rw [e3]; exact k2, by
    have := hx vs hs2
    rw [hv] at this
    cases this
    exact rv.mono e2⟩⟩
theorem ev_lenRd (h : ρ[i]? = some (.rd a vs ds)) (hm : (a, vs) ∈ bs) : Ev ⟨K, fxB bs, G0, B, E⟩ (tCB (fun xs H Q => ∃ p ys, xs = [.ref p] ∧ (SqL K H p ys ∨ SqT K H p ys) ∧ Q (.int ys.length) H) (tCons (tVar i) tNil)) ρ (Eq (.dat (.int (ds.length : Nat)))) := fun σ G H k e Q q => by
  obtain ⟨h1, ra⟩ := rd_get e h
  refine ⟨_, h1, a, vs, rfl, .inl (SqL.of (k.inv _ hm)), ?_⟩
  rw [ra.length]
  exact q _ _ G H (Grow.refl k) k rfl (.int _)
end
abbrev Zb2 := Addr × List V × Addr × List V
def bs2 (z : Zb2) : List (Addr × List V) := [(z.1, z.2.1), (z.2.2.1, z.2.2.2)]
/-- f(xs, ys), both ours, f only reads them -/
theorem ev_call2B {S : Cf} {ρ : Rho} {ι : Type} {args : Zb2 → ι → List Sl} {pre : ι → Prop} {post : ι → Re → Prop} {j1 j2 : Nat} {a1 a2 : Addr} {ds1 ds2 : List D} {E : XK} {P : Sl → Prop} (i : ι)
    (h1 : ρ[j1]? = some (.own a1 (.lst ds1))) (h2 : ρ[j2]? = some (.own a2 (.lst ds2))) (hp : pre i) (he : ∀ vs1 vs2, args (a1, vs1, a2, vs2) i = [.rd a1 vs1 ds1, .rd a2 vs2 ds2])
    (ho : ∀ s, post i (.ok s) → P s) (hx : ∀ C d, ¬ post i (.ex C d)) :
    Ev S (tCall (spZ fun z : Zb2 => spI S.K (fxB (bs2 z)) (args z) pre post) [] E (tCons (tVar j1) (tCons (tVar j2) tNil))) ρ P := fun σ G H k e Q q => by
  obtain ⟨v1, q1, e1, ga1, ba1, va1, u1, ha1, r1⟩ := e.get h1
  obtain ⟨v2, q2, e2, ga2, ba2, va2, u2, ha2, r2⟩ := e.get h2
  cases Option.some.inj e1
  cases Option.some.inj e2
  cases u1 with
  | lst vs1 =>
    cases u2 with
    | lst vs2 =>
      have kn : Kn (fxB (bs2 (a1, vs1, a2, vs2))) G H := ⟨k.gh, fun p hp => by
        rcases List.mem_cons.mp hp with rfl | hp
        · exact ha1
        · rw [List.mem_singleton.mp hp]
          exact ha2, fun b ⟨p, hp, eb⟩ => by
        subst eb
        rcases List.mem_cons.mp hp with rfl | hp
        · exact ga1
        · rw [List.mem_singleton.mp hp]
          exact ga2⟩
      refine ⟨_, q1, _, q2, (a1, vs1, a2, vs2), i, G, hp, kn, ?_, fun v s G' H' g k' r po => ?_, fun C d dd v G' H' _ _ _ _ po => absurd po (hx C d)⟩
      · rw [he]
        exact .cons ⟨rfl, r1⟩ (.cons ⟨rfl, r2⟩ .nil)
      · have keep : ∀ b o, H b = some o → H' b = some o := fun b o hb => by
          by_cases hv : (fxB (bs2 (a1, vs1, a2, vs2))).vol b
          · obtain ⟨p, hp, eb⟩ := hv
            have x1 := kn.inv p hp
            have x2 := k'.inv p hp
            rw [eb, hb] at x1
            rw [eb] at x2
            rw [x2, x1]
          · exact g.hh b o hv hb
        have g' : Grow S.fx G H G' H' := ⟨g.gg, g.gh, fun b o _ hb => keep b o hb, g.nn⟩
        exact q v s G' H' g' (k.grow g' (S.fx.ext (fun b o _ hb => keep b o hb) k.inv)) (ho s po) r
    | _ => exact r2.elim
  | _ => exact r1.elim
/-! ### sorted -/
theorem keyLt_general (x y : Value) : keyLt' general' x y = oneLt' false x y := rfl
section
variable {prog : Program} {w : World} {A : Around} {E : Value → Shared → Prop} {s : Shared}
theorem sortsAt_one {u : Value} {d : D} {as : List Addr} (r : Reads s.heap u d as) (hal : PySem.W.alike d d = true) (hn : d ≠ .none) (hu : A.units + d.depth < cLine) : PySem.W.SortsAt prog w A s (PySem.W.dataKind s.heap [d]) [u] := by
  have ha : PySem.W.AllAlike [d] := fun x hx y hy => by
    rw [List.mem_singleton.mp hx, List.mem_singleton.mp hy]
    exact hal
  refine ⟨fun v hv => ?_, general', fun E x y a b Q hx hy hq => ?_, fun h2 => by simp at h2⟩
  · rw [List.mem_singleton.mp hv]
    exact ⟨_, PySem.W.dataKind_some ha (List.mem_singleton_self _) r⟩
  · obtain ⟨d1, as1, m1, r1, rfl⟩ := PySem.W.dataKind_inv hx
    obtain ⟨d2, as2, m2, r2, rfl⟩ := PySem.W.dataKind_inv hy
    have e1 := List.mem_singleton.mp m1
    have e2 := List.mem_singleton.mp m2
    subst e1
    rw [keyLt_general]
    exact PySem.W.oneLt_alike (fun z => by cases z) r1 r2 (by rw [e2]; exact hal) hn (Nat.lt_of_le_of_lt (Nat.add_le_add_left (Nat.min_le_left _ _) _) hu) hq
theorem collect_tupleX {l : Addr} {vs : List Value} {Q : List Value → Shared → Prop} (hl : s.heap.IsTuple l vs.toArray)
    (h : Q vs { s with heap := (s.heap.push (seqObj "list" #[] 0)).update s.heap.objs.size (Obj.mapSeq (· ++ vs.toArray)) }) (hsz : vs.length ≤ sizeLine) :
    wpAny (model prog w) A (collect (.ref l)) Q E s := by
  obtain ⟨o, ho, hc, n, hd⟩ := id hl
  unfold collect
  refine wpAny_bind (wpAny_runValue (codeAny_builtin entry_proto_collect' ?_))
  show wpAny _ _ (do again (.builtin "list.__iadd__" ⟨[← newList [], .ref l], []⟩)) _ _ s
  refine wpAny_bind (wpAny_newList (wpAny_pure ⟨Code.quiet_builtin _ (by decide +kernel), codeAny_builtin entry_list_iadd' ?_⟩))
  show wpAny _ _ (Builtin.List.listExtendWith (.ref s.heap.objs.size) (.ref l) (.ref s.heap.objs.size)) _ _ { s with heap := s.heap.push (seqObj "list" #[] 0) }
  unfold Builtin.List.listExtendWith
  have ho' : (s.heap.push (seqObj "list" #[] 0)).get? l = some o := Heap.get?_push_of_some _ ho
  refine wpAny_bind (wpAny_typeOf (T := "tuple") ⟨o, ho', hc⟩ ?_)
  have ht : (Value.type "tuple" == Value.type "tuple") = true := by rfl
  rw [if_pos (by rw [ht]; simp)]
  refine wpAny_bind (listItems_at ho' hd ?_)
  refine wpAny_bind (listItems_at (xs := #[]) (n := 0) (Heap.get?_push_size _ rfl) rfl ?_)
  rw [if_neg (by simp)]
  refine wpAny_bind (listUpdate_at (xs := #[]) (n := 0) (Heap.get?_push_size _ rfl) rfl ?_ (Nat.zero_le _) (by show (#[] ++ vs.toArray).size ≤ sizeLine + 1; simp only [Array.size_append, List.size_toArray, List.length_nil]; omega))
  refine wpAny_pure ?_
  show wpAny (model prog w) A (do
      let o ← load s.heap.objs.size
      match o.data with
      | .seq xs _ => pure xs.toList
      | _ => unsupported "internal:collect") Q E { s with heap := (s.heap.push (seqObj "list" #[] 0)).update s.heap.objs.size (Obj.mapSeq (· ++ vs.toArray)) }
  refine wpAny_bind (wpAny_load (get?_update_seq (Heap.get?_push_size _ rfl) _) ?_)
  show wpAny _ _ (pure ((#[] : Array Value) ++ vs.toArray).toList) Q E _
  rw [show ((#[] : Array Value) ++ vs.toArray).toList = vs by simp]
  exact wpAny_pure h
open PySem.W in
theorem sorted_itX {l : Addr} {vs : List Value} {κ : PyProof.Rows.KeyKind} {Q : Value → Shared → Prop} (hl : s.heap.IsList l vs.toArray ∨ s.heap.IsTuple l vs.toArray) (hL : vs.length ≤ sizeLine)
    (S : SortsAt prog w A.in1.in1 { s with heap := sortingHeap (copyHeap s.heap vs) (s.heap.objs.size + 1) vs } κ vs)
    (h : Q (.ref (s.heap.objs.size + 1)) { s with heap := sortedAll s.heap vs (sortVals κ false vs vs).toArray }) :
    wpAny (model prog w) A (call (.builtin "sorted") [.ref l]) Q E s := by
  rcases hl with hl | hl
  · exact sorted_vals hl S hL h
  refine Calls.call_function_entry kind_sorted plain_sorted entry_sorted (args_sorted1 _) ?_
  unfold Builtin.«sorted»
  refine wpAny_bind (m := checkCount "sorted" 1 1 _) (wpAny_pure ?_)
  refine wpAny_bind (collect_tupleX hl ?_ hL)
  refine wpAny_bind (wpAny_newList ?_ hL)
  have hsz : ((s.heap.push (seqObj "list" #[] 0)).update s.heap.objs.size (Obj.mapSeq (· ++ vs.toArray))).objs.size = s.heap.objs.size + 1 := by
    rw [Heap.size_update, size_push']
  show wpAny _ _ _ _ _ { s with heap := copyHeap s.heap vs }
  rw [hsz]
  refine wpAny_bind (wpAny_holding (wpAny_call_entry_kw slot_list_sort ⟨_, copyHeap_at s.heap vs, rfl⟩ entry_list_sort ?body (args_list_sort _)))
  case body =>
    show wpAny (model prog w) A.in1.in1 (Builtin.«list.sort» ⟨[.ref (s.heap.objs.size + 1)], []⟩) _ _ _
    exact list_sort_vals (s := { s with heap := copyHeap s.heap vs }) (copyHeap_at s.heap vs) S hL ⟨_, rfl, wpAny_pure ⟨_, rfl, h⟩⟩
end
/-- the sorted ones of ds, as vs that stand for them -/
noncomputable def srt {α : Type} (vs : List α) (ds : List D) : List (α × D) := (vs.zip ds).mergeSort (PySem.W.dataLe false Prod.snd)
def SortOk (ds : List D) : Prop := PySem.W.AllAlike ds ∧ (PySem.W.Sortable ds ∨ ∃ d, ds = [d] ∧ d ≠ .none) ∧ ds.length ≤ 1000000 ∧ PyData.depthAll ds ≤ 20 ∧ PyData.hasDictAll ds = false
def rSortD (K : PySem.W.Frag) : List V → Hp → VK → Prop := fun xs H Q => ∃ (a : Addr) (vs : List V) (ds : List D), xs = [.ref a] ∧ (SqL K H a vs ∨ SqT K H a vs) ∧ DpAll K H vs ds ∧ vs.length = ds.length ∧ SortOk ds ∧
  ∀ p, H p = none → Q (.ref p) (upd H p (.lst ((srt vs ds).map Prod.fst)))
theorem depth_mem {d : D} : ∀ {ds : List D}, d ∈ ds → d.depth ≤ PyData.depthAll ds
  | x :: ds, h => by
    rw [PyData.depthAll]
    rcases List.mem_cons.mp h with rfl | h
    · exact Nat.le_max_left _ _
    · exact Nat.le_trans (depth_mem h) (Nat.le_max_right _ _)
theorem each_zip {R : Value → V → Prop} {R2 : Value → D → Prop} : ∀ {us : List Value} {vs : List V} {ds : List D}, PySem.W.EachIs R us vs → PySem.W.EachIs R2 us ds → PySem.W.EachIs (fun u p => R u p.1) us (vs.zip ds) ∧ PySem.W.EachIs (fun u p => R2 u p.2) us (vs.zip ds)
  | _, _, _, .nil, .nil => ⟨.nil, .nil⟩
  | _, _, _, .cons a r, .cons b q => ⟨.cons a (each_zip r q).1, .cons b (each_zip r q).2⟩
theorem each_vals : ∀ {vs : List V} {us : List Value}, Vals vs us → PySem.W.EachIs (fun u v => RelV v u) us vs
  | _, _, .nil => .nil
  | _, _, .cons a r => .cons a (each_vals r)
theorem vals_each : ∀ {ps : List (V × D)} {us : List Value}, PySem.W.EachIs (fun u p => RelV p.1 u) us ps → Vals (ps.map Prod.fst) us
  | _, _, .nil => .nil
  | _, _, .cons a r => .cons a (vals_each r)
theorem cr_sortD {X : Cx} (hu : X.A.units + 64 < cLine) : CallR X (.builtin "sorted") (rSortD X.K) := by
  intro pins s σ H xs us Q I r h
  obtain ⟨a, vs, ds, rfl, hs, hd, hl, ⟨hal, hk, hn, hdp, _⟩, q⟩ := h
  obtain ⟨u, rfl, ru⟩ := vals1 r
  cases ru
  obtain ⟨its, rv, pl, hz⟩ : ∃ its, Vals vs its ∧ (s.heap.IsList a its.toArray ∨ s.heap.IsTuple a its.toArray) ∧ its.length ≤ sizeLine := by
    rcases hs with hs | hs
    · obtain ⟨its, rv, pl, hz⟩ := I.list hs
      exact ⟨its, rv, .inl pl.isList, by rw [← rv.length, hl, sizeLine_eq]; omega⟩
    · obtain ⟨its, rv, pl, hz⟩ := I.tuple hs
      exact ⟨its, rv, .inr pl, by rw [← rv.length, hl, sizeLine_eq]; omega⟩
  obtain ⟨as, ra⟩ := Dp.readsAll I ds vs its hd rv
  have er : PySem.W.EachIs (fun v d => ∃ as, Reads s.heap v d as) its ds := by
    have := PySem.W.readsAll_each (enc := id) (bs := ds) (by simpa using ra)
    simpa using this
  obtain ⟨z1, z2⟩ := each_zip (each_vals rv) er
  have hsnd : (vs.zip ds).map Prod.snd = ds := List.map_snd_zip (by omega)
  let h' := PySem.W.sortingHeap (PySem.W.copyHeap s.heap its) (s.heap.objs.size + 1) its
  have keep : ∀ b o, s.heap.get? b = some o → h'.get? b = some o := fun b o e => PySem.W.sorting_copy_old e
  have er' : PySem.W.EachIs (fun v d => ∃ as, Reads h' v d as) its ds := er.mono fun _ _ ⟨as, r⟩ => ⟨as, PyProof.Rows.Reads.keeps keep r⟩
  have z3 : PySem.W.EachIs (fun v p => ∃ as, Reads h' v (Prod.snd p) as) its (vs.zip ds) := z2.mono fun _ _ ⟨as, r⟩ => ⟨as, PyProof.Rows.Reads.keeps keep r⟩
  have S : PySem.W.SortsAt X.prog X.w X.A.in1.in1 { s with heap := h' } (PySem.W.dataKind h' ds) its := by
    have hu2 : ∀ d ∈ ds, X.A.in1.in1.units + d.depth < cLine := fun d hd => by
      have := depth_mem hd
      show X.A.units + 1 + 1 + _ < _
      omega
    rcases hk with hk | ⟨d, e, dn⟩
    · exact PySem.W.SortsAt.data (s := { s with heap := h' }) er' hal hk hu2
    · subst e
      cases er' with
      | cons r1 r2 =>
        cases r2
        obtain ⟨as, r1⟩ := r1
        exact sortsAt_one (s := { s with heap := h' }) r1 (hal d (by simp) d (by simp)) dn (hu2 d (by simp))
  refine sorted_itX pl hz S ?_
  have out := PySem.W.sortVals_data (R := fun u p => RelV (Prod.fst p) u) (enc := Prod.snd) false z1 z3 (by rw [hsnd]; exact hal)
  rw [hsnd] at out
  obtain ⟨ep, he'⟩ := PyProof.Rows.sortedAll_at s.heap its (PySem.W.sortVals (PySem.W.dataKind h' ds) false its its).toArray
  refine ⟨.ref _, upd H (s.heap.objs.size + 1) (.lst ((srt vs ds).map Prod.fst)), I.laid (t' := s.toks) (fun _ _ => PyProof.Rows.sortedAll_old) (Nat.le_succ _) ⟨?_, _, ep, vals_each out, he'⟩, rfl, q _ (I.hok.fresh (Nat.le_succ _))⟩
  unfold srt
  rw [List.length_map, (List.mergeSort_perm _ _).length_eq, List.length_zip, sizeLine_eq]
  omega
/-- sorted data -/
noncomputable def srtD (ds : List D) : List D := ds.mergeSort (PySem.W.dataLe false id)
theorem srt_snd {α : Type} (vs : List α) (ds : List D) (h : vs.length = ds.length) : (srt vs ds).map Prod.snd = srtD ds := by
  unfold srt srtD
  rw [List.map_mergeSort (r := PySem.W.dataLe false Prod.snd) (s := PySem.W.dataLe false id) (f := Prod.snd) (fun a _ b _ => rfl), List.map_snd_zip (by omega)]
theorem ra_zip {K : PySem.W.Frag} {G : Hp} : ∀ {vs : List V} {ds : List D}, RA K G vs ds → ∀ p ∈ vs.zip ds, R K G p.1 p.2
  | _, _, .nil, p, h => by simp at h
  | _, _, .cons a r, p, h => by
    rcases List.mem_cons.mp h with rfl | h
    · exact a
    · exact ra_zip r p h
theorem ra_of {K : PySem.W.Frag} {G : Hp} : ∀ {ps : List (V × D)}, (∀ p ∈ ps, R K G p.1 p.2) → RA K G (ps.map Prod.fst) (ps.map Prod.snd)
  | [], _ => .nil
  | p :: ps, h => .cons (h p List.mem_cons_self) (ra_of fun q hq => h q (List.mem_cons_of_mem _ hq))
section
variable {S : Cf} {ρ : Rho} {te ta tb tc : TE} {ds es : List D}
theorem srt_go {G H : Hp} {a : Addr} {vs : List V} {Q : VK} (k : Kn S.fx G H) (hs : SqL S.K H a vs ∨ SqT S.K H a vs) (ra : RA S.K G vs ds) (m : SortOk ds)
    (q : ∀ v G' H', Grow S.fx G H G' H' → Kn S.fx G' H' → R S.K G' v (.list (srtD ds)) → Q v H') : rSortD S.K [.ref a] H Q := by
  refine ⟨a, vs, ds, rfl, hs, ra_dpAll k.gh ra m.2.2.2.2, ra.length, m, fun p hp => ?_⟩
  have g2 := Grow.new k (.lst ((srt vs ds).map Prod.fst)) hp
  have k2 := Kn.new k (.lst ((srt vs ds).map Prod.fst)) hp
  refine q _ _ _ g2 k2 ?_
  rw [← srt_snd vs ds ra.length]
  exact .lst (SqL.of upd_same) (ra_of fun x hx => (ra_zip ra x ((List.mergeSort_perm _ _).mem_iff.mp hx)).mono g2.gg)
theorem ef_sortL (h : EvL S te ρ ds) (m : SortOk ds) : Ev S (tCB (rSortD S.K) (tCons te tNil)) ρ (Eq (.dat (.list (srtD ds)))) := fun σ G H k e Q q => h σ G H k e _ fun a vs G1 H1 g1 k1 st ra =>
  srt_go k1 (.inl (st _ _ (Grow.refl k1))) ra m fun v G2 H2 g2 k2 r => q v _ G2 H2 (g1.trans k1 k2 g2) k2 rfl r
theorem ef_sortU (h : EvU S te ρ ds) (m : SortOk ds) : Ev S (tCB (rSortD S.K) (tCons te tNil)) ρ (Eq (.dat (.list (srtD ds)))) := fun σ G H k e Q q => h σ G H k e _ fun a vs G1 H1 g1 k1 st ra =>
  srt_go k1 (.inr (st _ _ (Grow.refl k1))) ra m fun v G2 H2 g2 k2 r => q v _ G2 H2 (g1.trans k1 k2 g2) k2 rfl r
end
end Dl

set_option Elab.async false
set_option linter.all false
set_option maxRecDepth 100000
set_option maxHeartbeats 4000000
/-! Dlm: parts by steps; order of tuples; any; max with default; pop; tuples repeated; names for what a list holds. -/
namespace Dl
open PySem PySem.Spec PyProof.Rows L2 LamX RZ
/-! ### t[lo:hi:st] -/
def stepV {α : Type} (xs : List α) (lo hi : Option Int) (st : Int) : List α :=
  (List.range (Builtin.Slice.slicePlaces (Builtin.Slice.sliceAdjust lo hi st (xs.length : Nat)).1 (Builtin.Slice.sliceAdjust lo hi st (xs.length : Nat)).2 st)).filterMap fun (m : Nat) => xs[((Builtin.Slice.sliceAdjust lo hi st (xs.length : Nat)).1 + (m : Int) * st).toNat]?
section
variable {prog : Program} {w : World} {A : Around} {E : Value → Shared → Prop} {s : Shared}
theorem sliceApplied_st {sl : Addr} {vl vu vs : Value} {lo hi : Option Int} {st : Int} {n : Nat} {Q : Int × Int × Nat → Shared → Prop} (hs : s.heap.IsSliceOf sl vl vu vs) (pl : IsPart vl lo) (pu : IsPart vu hi) (ps : IsPart vs (some st)) (h0 : st ≠ 0)
    (h : Q ((Builtin.Slice.sliceAdjust lo hi st (n : Int)).1, st, Builtin.Slice.slicePlaces (Builtin.Slice.sliceAdjust lo hi st (n : Int)).1 (Builtin.Slice.sliceAdjust lo hi st (n : Int)).2 st) s) : wpAny (model prog w) A (Builtin.Slice.sliceApplied (.ref sl) (pure (n : Int))) Q E s := by
  obtain ⟨os, hos, hcs, hds⟩ := id hs
  unfold Builtin.Slice.sliceApplied Builtin.Slice.sliceFields
  refine wpAny_bind (wpAny_bind (wpAny_field hos hds (x := vl) rfl (wpAny_bind (wpAny_field hos hds (x := vu) rfl (wpAny_bind (wpAny_field hos hds (x := vs) rfl (wpAny_pure ?_)))))))
  refine wpAny_bind (HT.slicePart_ ps ?_)
  show wpAny _ _ (if (st == 0) = true then _ else _) _ _ s
  rw [if_neg (by rw [beq_iff_eq]; exact h0)]
  refine wpAny_bind (HT.slicePart_ pl (wpAny_bind (HT.slicePart_ pu (wpAny_bind (wpAny_pure ?_)))))
  exact wpAny_pure h
theorem getItem_tuple_st {t sl : Addr} {items : Array Value} {vl vu vs : Value} {lo hi : Option Int} {st : Int} {Q : Value → Shared → Prop} (ht : IsTup s.heap t items) (hs : s.heap.IsSliceOf sl vl vu vs) (pl : IsPart vl lo) (pu : IsPart vu hi) (ps : IsPart vs (some st)) (h0 : st ≠ 0) (h1 : st ≠ 1)
    (h : Q (.ref s.heap.objs.size) { s with heap := s.heap.push { cls := .type "tuple", data := .seq (stepV items.toList lo hi st).toArray } }) (hsz : (stepV items.toList lo hi st).length ≤ sizeLine) : wpAny (model prog w) A (getItem (.ref t) (.ref sl)) Q E s := by
  have htake : sizeOk (.seq (stepV items.toList lo hi st).toArray) := by
    show (stepV items.toList lo hi st).toArray.size ≤ sizeLine
    rw [List.size_toArray]
    exact hsz
  obtain ⟨os, hos, hcs, hds⟩ := id hs
  have hTs : s.TypeIs (.ref sl) "slice" := ⟨os, hos, hcs⟩
  unfold getItem
  try with_reducible refine wpAny_holding ?_
  first | refine wpAny_bind (wpAny_pure ?_) | skip
  refine wpAny_bind (wpAny_sequenceKey ht.typeIs (by decide) ?_)
  refine wpAny_bind (wpAny_callSpecial?_slot (name := Str.ofString "__getitem__") ht.typeIs PyProof.Rows.slot_tuple_getitem
    (wpAny_call_entry PyProof.Rows.slot_tuple_getitem ht.typeIs entry_tuple_getitem ?_ (args_tuple_getitem _ _)))
  show wpAny _ _ (Builtin.Tuple.tupleItemsOf (.ref t) >>= _) _ _ s
  refine wpAny_bind (tupleItemsOf_ ht ?_)
  refine wpAny_bind (wpAny_typeOf hTs ?_)
  rw [if_pos (by decide)]
  refine wpAny_bind (sliceApplied_st hs pl pu ps h0 ?_)
  show wpAny _ _ (if ((Builtin.Slice.sliceAdjust lo hi st (items.size : Int)).1 == 0 && st == 1 && Builtin.Slice.slicePlaces (Builtin.Slice.sliceAdjust lo hi st (items.size : Int)).1 (Builtin.Slice.sliceAdjust lo hi st (items.size : Int)).2 st == items.size) = true then _ else _) _ _ s
  rw [if_neg (by
    rw [Bool.and_eq_true, Bool.and_eq_true]
    exact fun q => h1 (eq_of_beq q.1.2))]
  have e : ((List.range (Builtin.Slice.slicePlaces (Builtin.Slice.sliceAdjust lo hi st (items.size : Int)).1 (Builtin.Slice.sliceAdjust lo hi st (items.size : Int)).2 st)).filterMap fun (m : Nat) => items[((Builtin.Slice.sliceAdjust lo hi st (items.size : Int)).1 + (m : Int) * st).toNat]?) = stepV items.toList lo hi st := by
    unfold stepV
    rw [Array.length_toList]
    congr 1
    funext m
    rw [Array.getElem?_toList]
  rw [e]
  first
    | exact wpAny_bind (m := Builtin.Tuple.tupleExact _) (wpAny_newObj_type (wpAny_pure ⟨_, rfl, wpAny_pure h⟩) htake)
    | exact wpAny_bind (m := Builtin.Tuple.tupleExact _) (wpAny_newObj_type (wpAny_bind (wpAny_pure (wpAny_pure ⟨_, rfl, wpAny_pure h⟩))) htake)
    | exact wpAny_bind (wpAny_bind (m := Builtin.Tuple.tupleExact _) (wpAny_newObj_type (wpAny_pure (wpAny_pure ⟨_, rfl, wpAny_pure h⟩)) htake))
    | exact wpAny_bind (wpAny_bind (m := Builtin.Tuple.tupleExact _) (wpAny_newObj_type (wpAny_pure ⟨_, rfl, wpAny_pure h⟩) htake))
end
theorem pick_vals {xs : List V} {us : List Value} (r : Vals xs us) (f : Nat → Nat) : ∀ l : List Nat, Vals (l.filterMap fun m => xs[f m]?) (l.filterMap fun m => us[f m]?)
  | [] => .nil
  | m :: l => by
    rw [List.filterMap_cons, List.filterMap_cons]
    cases hx : xs[f m]? with
    | none =>
      have : us[f m]? = none := by
        rw [List.getElem?_eq_none_iff] at hx ⊢
        rw [← r.length]
        exact hx
      rw [this]
      exact pick_vals r f l
    | some x =>
      obtain ⟨u, hu, ru⟩ := r.get hx
      rw [hu]
      exact .cons ru (pick_vals r f l)
theorem stepV_vals {xs : List V} {us : List Value} {lo hi : Option Int} {st : Int} (r : Vals xs us) : Vals (stepV xs lo hi st) (stepV us lo hi st) := by
  unfold stepV
  rw [r.length]
  exact pick_vals r (fun m => ((Builtin.Slice.sliceAdjust lo hi st (us.length : Nat)).1 + (m : Int) * st).toNat) _
theorem pick_ra {K : PySem.W.Frag} {G : Hp} {vs : List V} {ds : List D} (r : RA K G vs ds) (f : Nat → Nat) : ∀ l : List Nat, RA K G (l.filterMap fun m => vs[f m]?) (l.filterMap fun m => ds[f m]?)
  | [] => .nil
  | m :: l => by
    rw [List.filterMap_cons, List.filterMap_cons]
    cases hx : ds[f m]? with
    | none =>
      have : vs[f m]? = none := by
        rw [List.getElem?_eq_none_iff] at hx ⊢
        rw [r.length]
        exact hx
      rw [this]
      exact pick_ra r f l
    | some x =>
      obtain ⟨u, hu, ru⟩ := r.get hx
      rw [hu]
      exact .cons ru (pick_ra r f l)
theorem RA.step {K : PySem.W.Frag} {G : Hp} {vs : List V} {ds : List D} {lo hi : Option Int} {st : Int} (r : RA K G vs ds) : RA K G (stepV vs lo hi st) (stepV ds lo hi st) := by
  unfold stepV
  rw [r.length]
  exact pick_ra r (fun m => ((Builtin.Slice.sliceAdjust lo hi st (ds.length : Nat)).1 + (m : Int) * st).toNat) _
def tStT (K : PySem.W.Frag) (te : TE) (tl th : TO) (st : Int) : TE := fun σ H Q => te σ H fun x H1 => tl σ H1 fun l H2 => th σ H2 fun u H3 => ∃ a xs, x = .ref a ∧ SqT K H3 a xs ∧ (stepV xs l u st).length ≤ sizeLine ∧ ∀ p, H3 p = none → Q (.ref p) (upd H3 p (.tup (stepV xs l u st)))
theorem pe_stepT {X : Cx} {K : PySem.W.Frag} {e : Expr} {lo hi : Option Expr} {te : TE} {tl th : TO} {st : Int} {k : Nat} {p1 p2 pos : Pos} (hK : X.K = K) (he : PE X e te) (hl : PO X lo tl) (hu : PO X hi th) (h0 : st ≠ 0 := by decide) (h1 : st ≠ 1 := by decide) : PE X (.Subscript e (.Slice lo hi (some (.Constant (.int st) k p1)) p2) pos) (tStT K te tl th st) := by
  subst hK
  refine ⟨fun pins s σ H Q I h => ?_⟩
  refine Subscript_ (thn (he.run pins s σ H _ I h) fun v s1 ⟨x, H1, I1, r1, q1⟩ => ?_)
  refine wpAny_Slice (thn (hl.run pins s1 σ H1 _ I1 q1) fun vl s2 ⟨l, H2, I2, pl, q2⟩ => thn (hu.run pins s2 σ H2 _ I2 q2) fun vu s3 ⟨u, H3, I3, pu, q3⟩ => ?_)
  have hst : PO X (some (.Constant (.int st) k p1)) (tPart (tC (.int st))) := po_some pe_int
  refine thn (hst.run pins s3 σ H3 (fun o H4 => o = some st ∧ H4 = H3) I3 ⟨st, rfl, rfl, rfl⟩) fun vs s4 ⟨o, H4, I4, ps, eo, e4⟩ => ?_
  subst eo e4
  obtain ⟨a, xs, ex, hx, hz, q⟩ := q3
  subst ex
  cases r1
  have I5 : Inv X pins σ H4 { s4 with heap := s4.heap.push { cls := .type "slice", data := .fields #[vl, vu, vs] } } := I4.kept (t' := s4.toks) fun b ob q => Heap.get?_push_of_some _ q
  obtain ⟨its, r, ht, hz2⟩ := I5.tuple hx
  show wpAny (model X.prog X.w) X.A (subscriptTail e (.Slice lo hi (some (.Constant (.int st) k p1)) p2) (.ref a) (.ref s4.heap.objs.size)) (EP X pins σ Q) X.xe { s4 with heap := s4.heap.push { cls := .type "slice", data := .fields #[vl, vu, vs] } }
  refine tail_any (ops := [.ref a, .ref s4.heap.objs.size]) ht.typeIs (PyProof.Rows.slot_tuple_getitem.lookup) ?_ (by with_unfolding_all rfl)
  have rv := stepV_vals (lo := l) (hi := u) (st := st) r
  refine getItem_tuple_st ht (Heap.IsSliceOf.new _ vl vu vs) pl pu ps h0 h1 ?_ (by rw [show its.toArray.toList = its from rfl, ← rv.length]; exact hz)
  refine ⟨.ref _, _, I5.laid (t' := s4.toks) (o := .tup (stepV xs l u st)) (fun b ob q => Heap.get?_push_of_some _ q) (Nat.le_refl _) ⟨hz, _, rv, ⟨_, Heap.get?_push_size _ rfl, rfl, 0, rfl⟩⟩, rfl, q _ (I5.hok.fresh (Nat.le_refl _))⟩
section
variable {S : Cf} {ρ : Rho} {te ta tb tc : TE} {ds es : List D} {d : D} {P : Oc → Prop} {w : TS}
theorem ev_stepT {lo hi : Option Int} {tl th : TO} {st : Int} (h : Ev S te ρ (Eq (.dat (.tuple ds)))) (hl : EvO S tl ρ lo) (hh : EvO S th ρ hi) (hz : (stepV ds lo hi st).length ≤ 1000000) : Ev S (tStT S.K te tl th st) ρ (Eq (.dat (.tuple (stepV ds lo hi st)))) := fun σ G H k e Q q =>
  h σ G H k e _ fun v s G1 H1 g1 k1 es r => hl σ G1 H1 k1 (e.grow g1) _ fun G2 H2 g2 k2 => hh σ G2 H2 k2 ((e.grow g1).grow g2) _ fun G3 H3 g3 k3 => by
    subst es
    have r3 := (r.mono g2.gg).mono g3.gg
    have g := (g1.trans k1 k2 g2).trans k2 k3 g3
    cases r3 with
    | @tup a xs _ hs ra =>
      have rs := ra.step (lo := lo) (hi := hi) (st := st)
      refine ⟨a, xs, rfl, sameT k3.gh hs, by rw [rs.length, sizeLine_eq]; omega, fun p hp => ?_⟩
      have g4 := Grow.new k3 (.tup (stepV xs lo hi st)) hp
      have k4 := Kn.new k3 (.tup (stepV xs lo hi st)) hp
      exact q _ _ _ _ (g.trans k3 k4 g4) k4 rfl (.tup (SqT.of upd_same) (rs.mono g4.gg))
/-! ### any -/
theorem ev_any {bs : List Bool} (ha : Ev S ta ρ (Eq (.dat (.list (bs.map PyData.bool))))) : Ev S (tCB (rAny S.K) (tCons ta tNil)) ρ (Eq (.dat (.bool (bs.any id)))) := fun σ G H k e Q q =>
  el_of ha σ G H k e _ fun a vs G1 H1 g1 k1 st ra => ⟨a, bs, rfl, by rw [← ra.bools]; exact st _ _ (Grow.refl k1), q _ _ G1 H1 g1 k1 rfl (.bl _)⟩
theorem ev_anyL {α : Type} {l : List α} {dα : α → D} {p : α → Bool} {wi : TI} {g : TG} {vs : List Nat} (hi : Itm S wi ρ (Eq (l.map dα))) (hl : l.length ≤ 1000000)
    (hs : ∀ x, x ∈ l → ∃ js ρ2, (∀ j ∈ js, j ∈ vs) ∧ Tgt S g js (dα x) (wipeR ρ vs) ρ2 ∧ Ev S te ρ2 (Eq (.dat (.bool (p x))))) : Ev S (tCB (rAny S.K) (tCons (tLc wi g tYes te vs) tNil)) ρ (Eq (.dat (.bool (l.any p)))) := by
  have h := (ef_mapL (f := fun x => .bool (p x)) hi hl hs).evE
  have e : l.map (fun x => PyData.bool (p x)) = (l.map p).map PyData.bool := by rw [List.map_map]; rfl
  rw [e] at h
  refine (ev_any h).cast ?_
  rw [List.any_map]
  rfl
theorem ev_allL {α : Type} {l : List α} {dα : α → D} {p : α → Bool} {wi : TI} {g : TG} {vs : List Nat} (hi : Itm S wi ρ (Eq (l.map dα))) (hl : l.length ≤ 1000000)
    (hs : ∀ x, x ∈ l → ∃ js ρ2, (∀ j ∈ js, j ∈ vs) ∧ Tgt S g js (dα x) (wipeR ρ vs) ρ2 ∧ Ev S te ρ2 (Eq (.dat (.bool (p x))))) : Ev S (tCB (rAll S.K) (tCons (tLc wi g tYes te vs) tNil)) ρ (Eq (.dat (.bool (l.all p)))) := by
  have h := (ef_mapL (f := fun x => .bool (p x)) hi hl hs).evE
  have e : l.map (fun x => PyData.bool (p x)) = (l.map p).map PyData.bool := by rw [List.map_map]; rfl
  rw [e] at h
  refine (ev_all h).cast ?_
  rw [List.all_map]
  rfl
end
/-! ### max(t, default=z) -/
def rMaxDt (K : PySem.W.Frag) : List V → List V → Hp → VK → Prop := fun xs zs H Q => ∃ (a : Addr) (vs : List V) (ds : List D) (z : V), xs = [.ref a] ∧ zs = [z] ∧ SqT K H a vs ∧ DpAll K H vs ds ∧ MinOk ds ∧ (ds = [] → Q z H) ∧
  ∀ y ys (i : Nat) v, ds = y :: ys → vs[i]? = some v → ds[i]? = some (PySem.W.maxD y ys) → Q v H
theorem cr_maxDt {X : Cx} (hc : X.calm = true) (hu : X.A.units + 64 < cLine) : CallRK X (.builtin "max") ["default"] (rMaxDt X.K) := by
  intro pins s σ H xs zs us ws Q I r rz h
  obtain ⟨a, vs, ds, z, rfl, rfl, hs, hd, ⟨m1, m2, m3⟩, q0, q⟩ := h
  obtain ⟨u, rfl, ru⟩ := vals1 r
  obtain ⟨wz, rfl, rwz⟩ := vals1 rz
  cases ru
  obtain ⟨its, rv, pl, hz⟩ := I.tuple hs
  obtain ⟨as, ra⟩ := Dp.readsAll I ds vs its hd rv
  refine PySem.W.max_tuple_default (I.ok.hd hc) pl (as := as) (xs := ds) (by simpa using ra) m1 (by omega) (fun e h' tk hk => ⟨z, H, I.kept hk, rwz, q0 e⟩) fun y ys i v h' tk bs e hi hr hk => ?_
  have hi' : its[i]? = some v := by simpa using hi
  obtain ⟨x, hx, rx⟩ := vals_at rv hi'
  obtain ⟨d, cs, hd1, hd2⟩ := readsAll_get ra hi'
  have eq := (PyProof.Rows.reads_det (fun b o e _ => hk b o e) hd2 hr).1
  exact ⟨x, H, I.kept hk, rx, q y ys i x e hx (by rw [hd1, eq])⟩
def maxO (z : D) : List D → D
  | [] => z
  | y :: ys => PySem.W.maxD y ys
section
variable {S : Cf} {ρ : Rho} {te ta tb tc : TE} {ds es : List D} {d : D} {P : Oc → Prop} {w : TS}
theorem ev_maxDt (ha : EvU S ta ρ ds) (hz : Ev S tb ρ (Eq (.dat d))) (m : MinOk ds) : Ev S (tCKw (rMaxDt S.K) (tCons ta tNil) (tCons tb tNil)) ρ (Eq (.dat (maxO d ds))) := fun σ G H k e Q q =>
  ha σ G H k e _ fun a vs G1 H1 g1 k1 st ra => hz σ G1 H1 k1 (e.grow g1) _ fun z s G2 H2 g2 k2 es rz => by
    subst es
    have g := g1.trans k1 k2 g2
    refine ⟨a, vs, ds, z, rfl, rfl, st _ _ g2, ra_dpAll (g2.gg.trans g2.gh) ra m.2.2, m, fun e => ?_, fun y ys i v e hv hd => ?_⟩
    · subst e
      exact q z _ G2 H2 g k2 rfl rz
    · subst e
      obtain ⟨d, hd', rd⟩ := (ra.mono g2.gg).getV hv
      rw [hd] at hd'
      cases hd'
      exact q v _ G2 H2 g k2 rfl rd
/-- t * n -/
theorem ev_repT {n : Int} (ha : EvU S ta ρ ds) (hb : Ev S tb ρ (Eq (.dat (.int n)))) (h0 : ds ≠ []) (h1 : 2 ≤ n) (h2 : n ≤ 1000) (h3 : ds.length ≤ 1000) : Ev S (tOp (rRepT S.K) ta tb) ρ (Eq (.dat (.tuple (List.replicate n.toNat ds).flatten))) := fun σ G H k e Q q =>
  ha σ G H k e _ fun a vs G1 H1 g1 k1 st ra => hb σ G1 H1 k1 (e.grow g1) _ fun u s2 G2 H2 g2 k2 es2 r2 => by
    subst es2
    cases r2
    refine ⟨a, n, vs, rfl, rfl, st _ _ g2, (fun z => h0 (by subst z; cases ra; rfl)), h1, h2, by rw [ra.length]; exact h3, fun p hp => ?_⟩
    have g4 := Grow.new k2 (.tup (List.replicate n.toNat vs).flatten) hp
    have k4 := Kn.new k2 (.tup (List.replicate n.toNat vs).flatten) hp
    have rr : ∀ m : Nat, RA S.K G1 (List.replicate m vs).flatten (List.replicate m ds).flatten := fun m => by
      induction m with
      | zero => exact .nil
      | succ m ih =>
        rw [List.replicate_succ, List.replicate_succ, List.flatten_cons, List.flatten_cons]
        exact ra.append ih
    exact q _ _ _ _ ((g1.trans k1 k2 g2).trans k2 k4 g4) k4 rfl (.tup (SqT.of upd_same) (((rr _).mono g2.gg).mono g4.gg))
end
end Dl

set_option Elab.async false
set_option linter.all false
set_option maxRecDepth 100000
set_option maxHeartbeats 4000000
/-! Dln: order of tuples of ints; pop within a method's call; two names for what a list holds. -/
namespace Dl
open PySem PySem.Spec PyProof.Rows L2 LamX RZ
/-! ### t >= u, tuples of ints -/
def geI (ns ms : List Int) : Bool := Ob.lexAt (fun j => decide (ns.getD j 0 = ms.getD j 0)) (fun j => decide (ns.getD j 0 ≥ ms.getD j 0)) (decide (ns.length ≥ ms.length)) 0 (min ns.length ms.length)
def rGeT (K : PySem.W.Frag) : R2 := fun x y H Q => ∃ (a b : Addr) (ns ms : List Int), x = .ref a ∧ y = .ref b ∧ SqT K H a (ns.map V.int) ∧ SqT K H b (ms.map V.int) ∧ Q (.bl (geI ns ms)) H
theorem op_geT {X : Cx} {K : PySem.W.Frag} (hK : X.K = K) (hu : X.A.units + 64 < cLine) : OpR X (compareOp .GtE) (rGeT K) := by
  subst hK
  intro pins s σ H x y v u Q I rx ry h
  obtain ⟨a, b, ns, ms, rfl, rfl, ha, hb, q⟩ := h
  cases rx
  cases ry
  obtain ⟨its, r1, p1, _⟩ := I.tuple ha
  obtain ⟨its2, r2, p2, _⟩ := I.tuple hb
  have i1 : IntsAre its ns := Vals.ints r1
  have i2 : IntsAre its2 ms := Vals.ints r2
  have e1 : its.toArray.size = ns.length := by rw [List.size_toArray]; exact i1.length
  have e2 : its2.toArray.size = ms.length := by rw [List.size_toArray]; exact i2.length
  have at1 : ∀ j (h1 : j < its.toArray.size), ∃ t, its.toArray[j] = .int (ns.getD j 0) t := fun j h1 => PyProof.Rows.IntsAre.int_at i1 _ _ (by simp at h1; simp [h1])
  have at2 : ∀ j (h1 : j < its2.toArray.size), ∃ t, its2.toArray[j] = .int (ms.getD j 0) t := fun j h1 => PyProof.Rows.IntsAre.int_at i2 _ _ (by simp at h1; simp [h1])
  have R := Ob.RcOp.tuples_ge (A := X.A) (s := s) (e := fun j => decide (ns.getD j 0 = ms.getD j 0)) (r := fun j => decide (ns.getD j 0 ≥ ms.getD j 0)) p1 p2 (by omega) (fun j h1 h2 => by
    obtain ⟨t, et⟩ := at1 j h1
    obtain ⟨t', et'⟩ := at2 j h2
    rw [et, et']
    have z : (ns.getD j 0 == ms.getD j 0) = decide (ns.getD j 0 = ms.getD j 0) := by
      by_cases q : ns.getD j 0 = ms.getD j 0
      · rw [decide_eq_true q]; exact beq_iff_eq.mpr q
      · rw [decide_eq_false q]; exact beq_eq_false_iff_ne.mpr q
    rw [← z]
    exact SeqAt.EqAt.int_int _ _ _ _) (fun j h1 h2 _ => by
    obtain ⟨t, et⟩ := at1 j h1
    obtain ⟨t', et'⟩ := at2 j h2
    rw [et, et']
    exact Ob.RcOp.ge_int _ _ _ _)
  rw [e1, e2] at R
  have z : wpAny (model X.prog X.w) X.A (compareOp .GtE (.ref a) (.ref b)) (EP X pins σ Q) X.xe s := R X.prog X.w X.xe (EP X pins σ Q) ⟨.bl _, H, I, rfl, q⟩
  exact z
section
variable {S : Cf} {ρ : Rho} {te ta tb tc : TE} {P : Oc → Prop} {w : TS}
theorem ev_geT {ns ms : List Int} (ha : Ev S ta ρ (Eq (.dat (.tuple (ns.map PyData.int))))) (hb : Ev S tb ρ (Eq (.dat (.tuple (ms.map PyData.int))))) : Ev S (tOp (rGeT S.K) ta tb) ρ (Eq (.dat (.bool (geI ns ms)))) := fun σ G H k e Q q =>
  ha σ G H k e _ fun v s G1 H1 g1 k1 es r => hb σ G1 H1 k1 (e.grow g1) _ fun u s2 G2 H2 g2 k2 es2 r2 => by
    subst es es2
    have r := r.mono g2.gg
    cases r with
    | tup hs ra =>
      cases r2 with
      | tup hs2 rb =>
        have x1 := ra.ints
        have x2 := rb.ints
        subst x1 x2
        exact ⟨_, _, ns, ms, rfl, rfl, sameT k2.gh hs, sameT k2.gh hs2, q _ _ G2 H2 (g1.trans k1 k2 g2) k2 rfl (.bl _)⟩
/-! ### o.m(xs.pop()) -/
theorem pop_meth {C : Addr} {m : Str} {sp : Sp} {E : XK} {i j : Nat} {oa : Option Addr} {fs : Fs} {a : Addr} {n : Int} {ns : List Int} {σ : L2.St} {G H : Hp} (hs : ρ[i]? = some (.ob oa C fs)) (lm : fs.lookup m = none) (hw : ρ[j]? = some (.own a (.lst ((ns ++ [n]).map PyData.int)))) (o : OkS S G H) (e : Env S G H σ ρ) :
    ∃ H', OkS S G H' ∧ Env S G H' σ (ρ.set j (.own a (.lst (ns.map PyData.int)))) ∧ ∀ Q, tMeth C m sp [] E (tVar i) (tCons (tC (.int n)) tNil) σ H' Q → tMeth C m sp [] E (tVar i) (tCons (tBM0 S.K "list" rPop (tVar j)) tNil) σ H Q := by
  obtain ⟨v, h1, e1, ga, ba, va, u, ha, r⟩ := e.get hw
  cases Option.some.inj e1
  cases u with
  | lst vs =>
    have ev : vs = (ns ++ [n]).map V.int := RA.ints r
    subst ev
    have r' : MoOk S.K G (.lst (ns.map V.int)) (.lst (ns.map PyData.int)) := RA.of_ints ns
    obtain ⟨o2, e2⟩ := own_write (u' := .lst (ns.map V.int)) (m' := .lst (ns.map PyData.int)) o e hw r'
    refine ⟨_, o2, e2, fun Q q => ?_⟩
    obtain ⟨vo, h2, w0, e0, x, dx, vf, ex, hg, fa, _⟩ := e.get hs
    cases e0
    subst ex
    obtain ⟨v1, h3, a0, dx0, fs0, ea, hf, lk, q⟩ := q
    rw [h2] at h3
    cases h3
    cases ea
    refine ⟨_, h2, x, dx, vf, rfl, o.kn.gh _ _ hg, fa.lookN lm, _, h1, .inl ⟨rfl, _, SqL.of ha⟩, a, (ns ++ [n]).map V.int, .int n, rfl, rfl, ha, by simp, ?_⟩
    have : ((ns ++ [n]).map V.int).dropLast = ns.map V.int := by simp
    rw [this]
    exact q
  | _ => exact r.elim
theorem xc_forPop {C : Addr} {m : Str} {sp : Sp} {E : XK} {i j : Nat} {oa : Option Addr} {fs : Fs} {a : Addr} {n : Int} {ns : List Int} {g : TG} {tb : TS} (hs : ρ[i]? = some (.ob oa C fs)) (lm : fs.lookup m = none) (hw : ρ[j]? = some (.own a (.lst ((ns ++ [n]).map PyData.int))))
    (hx : Xc S (tFor (iList S.K (tMeth C m sp [] E (tVar i) (tCons (tC (.int n)) tNil))) g tb) (ρ.set j (.own a (.lst (ns.map PyData.int)))) P) : Xc S (tFor (iList S.K (tMeth C m sp [] E (tVar i) (tCons (tBM0 S.K "list" rPop (tVar j)) tNil))) g tb) ρ P := fun σ G H De o e f => by
  obtain ⟨H', o2, e2, q⟩ := pop_meth (m := m) (sp := sp) (E := E) (n := n) (ns := ns) hs lm hw o e
  exact q _ (hx σ G H' De o2 e2 f)
end
/-! ### a, b = a list of two -/
def gLst (K : PySem.W.Frag) (n : Nat) (t : TGs) : TG := fun v σ H Q => ∃ a xs, v = .ref a ∧ SqL K H a xs ∧ xs.length = n ∧ t xs σ H Q
theorem pg_lst {X : Cx} {K : PySem.W.Frag} {es : List Expr} {k : Nat} {t : TGs} {n : Nat} {pos : Pos} (hK : X.K = K) (hc : X.calm = true) (h : PGs X es t)
    (hn : (assignEach es X.env).length = n := by rfl) (hst : (assignEach es X.env).findIdx? (·.1) = none := by rfl) : PG X (.Tuple es k pos) (gLst K n t) := by
  subst hK
  refine ⟨fun pins s σ H v u Q I r hw => ?_⟩
  obtain ⟨a, xs, e1, hq, hl, hw⟩ := hw
  subst e1
  cases r
  obtain ⟨its, rv, ht, hz⟩ := I.list hq
  rw [PyProof.Rows.assign_Tuple]
  refine wpAny_bind (wpAny_standAt ?_)
  unfold unpack
  have e1 : (assignEach es X.env).length = its.toArray.size := by simp [hn, ← hl, rv.length]
  rw [e1, hst]
  refine wpAny_bind (wpAny_holding (PySem.W.kun_itemsOf (I.ok.hd hc) ht.isList fun h' hx => ?_))
  have I1 : Inv X pins σ H { s with heap := h' } := I.kept (t' := s.toks) fun b o e => hx b o (Nat.ne_of_lt (Heap.lt_size e)) e
  exact h.run pins _ σ H xs _ Q I1 (by simpa using rv) hw
theorem tg_lst {S : Cf} {ρ ρ1 : Rho} {gs : TGs} {js : List Nat} {ds : List D} {n : Nat} (h : Tgts S gs js ds ρ ρ1) (hn : ds.length = n := by rfl) : Tgt S (gLst S.K n gs) js (.list ds) ρ ρ1 := fun σ G H v k e r Q q => by
  cases r with
  | lst hs ra => exact ⟨_, _, rfl, k.gh.seq hs, by rw [ra.length]; exact hn, h σ G H _ k e ra Q q⟩
theorem tg_two' {S : Cf} {ρ : Rho} {i j : Nat} {a b : D} : Tgt S (gLst S.K 2 (gCons (gName i) (gCons (gName j) gNil))) [i, j] (.list [a, b]) ρ ((ρ.set i (.dat a)).set j (.dat b)) := tg_lst (js := [i, j]) (tgs_cons (js := [i]) tg_name (tgs_cons (js := [j]) tg_name tgs_nil))
end Dl

set_option Elab.async false
set_option linter.all false
set_option maxRecDepth 100000
set_option maxHeartbeats 4000000
/-! Dlp: lists just made, told by two or three names. -/
namespace Dl
open PySem PySem.Spec PyProof.Rows L2 LamX RZ
section
variable {S : Cf} {ρ : Rho} {te ta tb tc : TE} {P : Oc → Prop} {w : TS} {i j l : Nat}
theorem EvF.toQ {ds : List D} (h : EvF S te ρ (Eq ds)) : EvQ S te ρ (fun _ => .lst ds) := fun σ G H k e Q q => h σ G H k e _ fun p vs ds' G' H' g k' n1 n2 hp r pd => by
  subst pd
  exact q p (.lst vs) G' H' g k' n1 n2 hp r
theorem ef_lst1P {p : D → Prop} (h : Ev S te ρ (fun s => ∃ d, s = .dat d ∧ p d)) : EvF S (tLst (tCons te tNil)) ρ (fun ds => ∃ d, ds = [d] ∧ p d) := fun σ G H k e Q q =>
  h σ G H k e _ fun v s G1 H1 g1 k1 ⟨d, es, pd⟩ r1 => by
    subst es
    refine ⟨sz_ok (by show 1 ≤ 1000000; omega), fun p hp => ?_⟩
    have s2 : Same H1 (upd H1 p (.lst [v])) := same_new hp
    exact q p [v] [d] G1 _ (g1.trans k1 (k1.same s2) (Grow.same k1 s2)) (k1.same s2) (fresh_of g1 k1 hp) (k1.freeG hp) upd_same (.cons r1 .nil) ⟨d, rfl, pd⟩
/-- a, b = [..], [..], a tuple between -/
theorem xc_asg2F {p q : List D → Prop} (ha : EvF S ta ρ p) (hb : EvF S tb ρ q) (hij : i ≠ j) (hs : ∀ a b ds es, p ds → q es → P (.nx ((ρ.set i (.own a (.lst ds))).set j (.own b (.lst es))))) :
    Xc S (tAsg (tTup (tCons ta (tCons tb tNil))) (gTup S.K 2 (gCons (gName i) (gCons (gName j) gNil)))) ρ P := fun σ G H De o e f =>
  ha σ G H o.kn e _ fun a vs ds G1 H1 g1 k1 n1 m1 hp r pd => by
    have o1 := o.grow g1 k1
    have e1 := e.grow g1
    refine hb σ G1 H1 k1 e1 _ fun b us es G2 H2 g2 k2 n2 m2 hq r2 qd => ?_
    refine ⟨sz_ok (by show 2 ≤ 1000000; omega), fun t ht => ?_⟩
    have s3 : Same H2 (upd H2 t (.tup [.ref a, .ref b])) := same_new ht
    have g3 : Grow S.fx G2 H2 G2 (upd H2 t (.tup [.ref a, .ref b])) := Grow.same k2 s3
    have k3 := k2.same s3
    have g := (g1.trans k1 k2 g2).trans k2 k3 g3
    have ea : (.own a (.lst ds) : Sl).holds = some (a, .lst ds) := rfl
    have va : ¬ S.fx.vol a := o.kn.fresh n1
    have vb : ¬ S.fx.vol b := k1.fresh n2
    have hab : b ≠ a := fun q => by
      rw [q, hp] at n2
      cases n2
    have ha3 : (upd H2 t (.tup [.ref a, .ref b])) a = some (.lst vs) := s3 _ _ (g2.hh a _ va hp)
    have hb3 : (upd H2 t (.tup [.ref a, .ref b])) b = some (.lst us) := s3 _ _ hq
    have ga3 : G2 a = none := g2.nn a _ hp (fun z => z) m1
    have x1 := (e.grow g).put i (some (.ref a)) (.own a (.lst ds)) ⟨rfl, ga3, .inl (o.freshB n1), va, _, ha3, (r.mono g2.gg : RA S.K G2 vs ds)⟩ fun c m z j t m' nj hj => e.new_none (i := i) (s := .own a (.lst ds)) n1 rfl z hj m'
    have x2 := x1.put j (some (.ref b)) (.own b (.lst es)) ⟨rfl, m2, .inl (o1.freshB n2), vb, _, hb3, r2⟩ fun c m z l t m' nl hl => by
      rcases set_get hl with ⟨_, et⟩ | ⟨_, hl⟩
      · subst et
        intro z2
        cases z
        cases z2
        exact hab rfl
      · exact e1.new_none (i := j) (s := .own b (.lst es)) n2 rfl z hl m'
    refine ⟨t, _, rfl, SqT.of upd_same, rfl, _, _, rfl, _, _, rfl, rfl, ?_⟩
    exact f.nx _ G2 _ _ (o.grow g k3) g.gg x2 (hs a b ds es pd qd)
theorem xs_asg2F {p q : List D → Prop} (ha : EvF S ta ρ p) (hb : EvF S tb ρ q) (hij : i ≠ j) (hs : ∀ a b ds es, p ds → q es → Xc S w ((ρ.set i (.own a (.lst ds))).set j (.own b (.lst es))) P) :
    Xc S (tSeq (tAsg (tTup (tCons ta (tCons tb tNil))) (gTup S.K 2 (gCons (gName i) (gCons (gName j) gNil)))) w) ρ P := xc_seq (xc_asg2F ha hb hij hs)
/-- a, b, c = x, y, what was just made -/
theorem xc_par3Q {x y : Sl} {m : Addr → Mo} (ha : Ev S ta ρ (Eq x)) (hb : Ev S tb ρ (Eq y)) (hc : EvQ S tc ρ m) (hs : ∀ p, P (.nx (((ρ.set i x).set j y).set l (.own p (m p))))) : Xc S (tPar3 i j l (tCons ta (tCons tb (tCons tc tNil)))) ρ P := fun σ G H De o e f =>
  ha σ G H o.kn e _ fun v s G1 H1 g1 k1 es1 r1 => hb σ G1 H1 k1 (e.grow g1) _ fun u s2 G2 H2 g2 k2 es2 r2 => by
    subst es1 es2
    have g12 := g1.trans k1 k2 g2
    have o2 := o.grow g12 k2
    have e2 := e.grow g12
    refine hc σ G2 H2 k2 e2 _ fun p z G3 H3 g3 k3 n1 n2 hp r => ?_
    have g := g12.trans k2 k3 g3
    have x1 := ((e.grow g).set i (r1.mono (g2.gg.trans g3.gg))).set j (r2.mono g3.gg)
    have hh : ∀ (c : Addr) (m' m'' : Mo), (Sl.own p (m p)).holds = some (c, m') → ∀ (k : Nat) (t : Sl), ρ[k]? = some t → t.holds ≠ some (c, m'') := fun c m' m'' hz k t hk => e2.new_none (i := l) (s := .own p (m p)) n1 rfl hz hk m''
    have x2 := x1.put l (some (.ref p)) (.own p (m p)) ⟨rfl, n2, .inl (o2.freshB n1), k2.fresh n1, _, hp, r⟩ fun c m' hz k t m'' nk hk => by
      rcases set_get hk with ⟨_, et⟩ | ⟨_, hk⟩
      · subst et
        intro z2
        cases t <;> first | exact r2.elim | cases z2
      · rcases set_get hk with ⟨_, et⟩ | ⟨_, hk⟩
        · subst et
          intro z2
          cases t <;> first | exact r1.elim | cases z2
        · exact hh c m' m'' hz k t hk
    exact ⟨_, _, _, rfl, f.nx _ G3 H3 _ (o.grow g k3) g.gg x2 (hs p)⟩
theorem xs_par3Q {x y : Sl} {m : Addr → Mo} (ha : Ev S ta ρ (Eq x)) (hb : Ev S tb ρ (Eq y)) (hc : EvQ S tc ρ m) (hs : ∀ p, Xc S w (((ρ.set i x).set j y).set l (.own p (m p))) P) : Xc S (tSeq (tPar3 i j l (tCons ta (tCons tb (tCons tc tNil)))) w) ρ P := xc_seq (xc_par3Q ha hb hc hs)
/-! ### displays of values not told -/
def EaP (S : Cf) (ta : TA) (ρ : Rho) (p : List D → Prop) : Prop := EvA S ta ρ (fun ss => ∃ ds : List D, ss = ds.map Sl.dat ∧ ds.length ≤ 1000 ∧ p ds)
theorem eap_nil : EaP S tNil ρ (fun ds => ds = []) := ea_nil.imp fun ss e => ⟨[], e.symm, by simp, rfl⟩
theorem eap_cons {tr : TA} {p : D → Prop} {q r : List D → Prop} (ha : Ev S ta ρ (fun s => ∃ d, s = .dat d ∧ p d)) (hr : EaP S tr ρ q) (h : ∀ d ds, p d → q ds → r (d :: ds) ∧ ds.length < 1000) : EaP S (tCons ta tr) ρ r := ea_consP ha hr fun x xs ⟨d, e, pd⟩ ⟨ds, e2, _, qd⟩ => ⟨d :: ds, by rw [e, e2]; rfl, by
  have := (h d ds pd qd).2
  rw [List.length_cons]
  omega, (h d ds pd qd).1⟩
theorem eap_tup {tr : TA} {r : List D → Prop} (h : EaP S tr ρ r) : Ev S (tTup tr) ρ (fun s => ∃ ds, s = .dat (.tuple ds) ∧ r ds) := ev_tupP (h.imp fun ss ⟨ds, e, hl, rd⟩ => ⟨ds, e, by omega, rd⟩)
theorem eap_lst {tr : TA} {r : List D → Prop} (h : EaP S tr ρ r) : Ev S (tLst tr) ρ (fun s => ∃ ds, s = .dat (.list ds) ∧ r ds) := fun σ G H k e Q q =>
  h σ G H k e _ fun vs ss G1 H1 g1 k1 ⟨ds, p1, hl, rd⟩ r1 => by
    subst p1
    have ra := r1.toRA
    refine ⟨sz_ok (by rw [ra.length]; omega), fun p hp => ?_⟩
    have g2 := Grow.new k1 (.lst vs) hp
    have k2 := Kn.new k1 (.lst vs) hp
    exact q _ _ _ _ (g1.trans k1 k2 g2) k2 ⟨ds, rfl, rd⟩ (.lst (SqL.of upd_same) (ra.mono g2.gg))
theorem Ev.toP {d : D} {p : D → Prop} (h : Ev S te ρ (Eq (.dat d))) (hp : p d) : Ev S te ρ (fun s => ∃ d, s = .dat d ∧ p d) := h.imp fun s e => ⟨d, e.symm, hp⟩
/-- [a, b], (a, b) -/
theorem ev_lst2P {p q : D → Prop} (ha : Ev S ta ρ (fun s => ∃ d, s = .dat d ∧ p d)) (hb : Ev S tb ρ (fun s => ∃ d, s = .dat d ∧ q d)) : Ev S (tLst (tCons ta (tCons tb tNil))) ρ (fun s => ∃ ds, s = .dat (.list ds) ∧ ∃ x y, ds = [x, y] ∧ p x ∧ q y) :=
  eap_lst (eap_cons ha (eap_cons (q := fun ds => ds = []) (r := fun ds => ∃ y, ds = [y] ∧ q y) hb eap_nil fun d ds qd e => ⟨⟨d, by rw [e], qd⟩, by rw [e]; simp⟩) fun d ds pd ⟨y, e, qy⟩ => ⟨⟨d, y, by rw [e], pd, qy⟩, by rw [e]; simp⟩)
theorem ev_tup2P {p q : D → Prop} (ha : Ev S ta ρ (fun s => ∃ d, s = .dat d ∧ p d)) (hb : Ev S tb ρ (fun s => ∃ d, s = .dat d ∧ q d)) : Ev S (tTup (tCons ta (tCons tb tNil))) ρ (fun s => ∃ ds, s = .dat (.tuple ds) ∧ ∃ x y, ds = [x, y] ∧ p x ∧ q y) :=
  eap_tup (eap_cons ha (eap_cons (q := fun ds => ds = []) (r := fun ds => ∃ y, ds = [y] ∧ q y) hb eap_nil fun d ds qd e => ⟨⟨d, by rw [e], qd⟩, by rw [e]; simp⟩) fun d ds pd ⟨y, e, qy⟩ => ⟨⟨d, y, by rw [e], pd, qy⟩, by rw [e]; simp⟩)
/-- t + u, u not told -/
theorem opd_catA {ds es : List D} (hl : ds.length + es.length ≤ 1000000) : OpD S (rCatA S.K) (.dat (.tuple ds)) (.dat (.tuple es)) (Eq (.dat (.tuple (ds ++ es)))) := fun G H v w k rx ry Q q => by
    have rx0 := rx
    have ry0 := ry
    cases rx with
    | @tup _ xs _ hs1 r1 =>
      cases ry with
      | @tup _ ys _ hs2 r2 =>
        refine ⟨_, _, _, _, rfl, rfl, sameT k.gh hs1, sameT k.gh hs2, sz_ok (by rw [r1.length, r2.length]; exact hl), fun e => ?_, fun _ e => ?_, fun _ _ p hp => ?_⟩
        · subst e
          cases r1
          exact q _ _ G H (Grow.refl k) k rfl ry0
        · subst e
          cases r2
          exact q _ _ G H (Grow.refl k) k (by rw [List.append_nil]) rx0
        · have g2 := Grow.new k (.tup (xs ++ ys)) hp
          have k2 := Kn.new k (.tup (xs ++ ys)) hp
          exact q _ _ _ _ g2 k2 rfl (.tup (SqT.of upd_same) ((r1.mono g2.gg).append (r2.mono g2.gg)))
theorem ev_catAP {ds : List D} {p : List D → Prop} (ha : Ev S ta ρ (Eq (.dat (.tuple ds)))) (hb : Ev S tb ρ (fun s => ∃ es, s = .dat (.tuple es) ∧ p es)) (hl : ∀ es, p es → ds.length + es.length ≤ 1000000) : Ev S (tOp (rCatA S.K) ta tb) ρ (fun s => ∃ es, s = .dat (.tuple (ds ++ es)) ∧ p es) :=
  ev_op ha hb fun x y ex ⟨es, ey, pe⟩ => by
    subst ex ey
    intro G H v w k rx ry Q q
    exact opd_catA (S := S) (hl es pe) G H v w k rx ry Q fun z s G' H' g k' e r => q z s G' H' g k' ⟨es, e.symm, pe⟩ r
/-- sorted of a list not told -/
theorem ev_sortP {p : List D → Prop} (h : Ev S te ρ (fun s => ∃ ds, s = .dat (.list ds) ∧ p ds)) (m : ∀ ds, p ds → SortOk ds) : Ev S (tCB (rSortD S.K) (tCons te tNil)) ρ (fun s => ∃ d, s = .dat d ∧ ∃ ds, d = .list (srtD ds) ∧ p ds) := fun σ G H k e Q q =>
  h σ G H k e _ fun v s G1 H1 g1 k1 ⟨ds, es, pd⟩ r1 => by
    subst es
    cases r1 with
    | lst hs ra => exact srt_go k1 (.inl (k1.gh.seq hs)) ra (m ds pd) fun v G2 H2 g2 k2 r => q v _ G2 H2 (g1.trans k1 k2 g2) k2 ⟨_, rfl, ds, rfl, pd⟩ r
end
end Dl

set_option Elab.async false
set_option linter.all false
set_option maxRecDepth 100000
set_option maxHeartbeats 4000000
/-! Dlz: kinds of data, and what follows of a kind. -/
namespace Dl
open PySem PySem.Spec PyProof.Rows L2 LamX RZ
/-- kinds: any int; a small int; a bool; None; a text of at most k signs; a list, a tuple of at most k of a kind; a tuple of kinds -/
inductive Sc where
  | z
  | i
  | b
  | n
  | s (k : Nat)
  | l (k : Nat) (t : Sc)
  | u (k : Nat) (t : Sc)
  | t (ts : List Sc)
mutual
def okS : PyData → Sc → Bool
  | .int _, .z => true
  | .int x, .i => decide (x.natAbs < 10 ^ 18)
  | .bool _, .b => true
  | .none, .n => true
  | .str x, .s k => decide (x.length ≤ k) && x.cps.toList.all fun c => decide (c < 0x110000)
  | .list ds, .l k t => decide (ds.length ≤ k) && okL ds t
  | .tuple ds, .u k t => decide (ds.length ≤ k) && okL ds t
  | .tuple ds, .t ts => okTs ds ts
  | _, _ => false
def okL : List PyData → Sc → Bool
  | [], _ => true
  | d :: ds, t => okS d t && okL ds t
def okTs : List PyData → List Sc → Bool
  | [], [] => true
  | d :: ds, t :: ts => okS d t && okTs ds ts
  | _, _ => false
end
mutual
def dpS : Sc → Nat
  | .l _ t => dpS t + 1
  | .u _ t => dpS t + 1
  | .t ts => dpT ts + 1
  | _ => 0
def dpT : List Sc → Nat
  | [] => 0
  | t :: ts => max (dpS t) (dpT ts)
end
mutual
/-- no longer than so when shown -/
def lnS : Sc → Nat
  | .z => 0
  | .i => 19
  | .b => 5
  | .n => 4
  | .s k => 10 * k + 2
  | .l k t => k * (lnS t + 2) + 3
  | .u k t => k * (lnS t + 2) + 3
  | .t ts => lnT ts + 3
def lnT : List Sc → Nat
  | [] => 0
  | t :: ts => lnS t + 2 + lnT ts
end
mutual
/-- no int of any size within -/
def nzS : Sc → Bool
  | .z => false
  | .l _ t => nzS t
  | .u _ t => nzS t
  | .t ts => nzT ts
  | _ => true
def nzT : List Sc → Bool
  | [] => true
  | t :: ts => nzS t && nzT ts
end
mutual
/-- rows within are no longer than so -/
def szS : Sc → Nat
  | .l k t => max k (szS t)
  | .u k t => max k (szS t)
  | .t ts => max (ts.length) (szT ts)
  | _ => 0
def szT : List Sc → Nat
  | [] => 0
  | t :: ts => max (szS t) (szT ts)
end
theorem okL_iff {ds : List PyData} {t : Sc} : okL ds t = true ↔ ∀ d ∈ ds, okS d t = true := by
  induction ds with
  | nil => simp [okL]
  | cons d ds ih => simp [okL, ih]
theorem okL_map {α : Type} {l : List α} {f : α → D} {t : Sc} (h : ∀ x ∈ l, okS (f x) t = true) : okL (l.map f) t = true := okL_iff.mpr fun d hd => by
  obtain ⟨x, hx, rfl⟩ := List.mem_map.mp hd
  exact h x hx
theorem okS_l {ds : List D} {k : Nat} {t : Sc} (h : ds.length ≤ k) (h2 : ∀ d ∈ ds, okS d t = true) : okS (.list ds) (.l k t) = true := by
  simp [okS, h, okL_iff.mpr h2]
theorem okS_u {ds : List D} {k : Nat} {t : Sc} (h : ds.length ≤ k) (h2 : ∀ d ∈ ds, okS d t = true) : okS (.tuple ds) (.u k t) = true := by
  simp [okS, h, okL_iff.mpr h2]
theorem okS_lm {α : Type} {l : List α} {f : α → D} {k : Nat} {t : Sc} (h : l.length ≤ k) (h2 : ∀ x ∈ l, okS (f x) t = true) : okS (.list (l.map f)) (.l k t) = true := okS_l (by rw [List.length_map]; exact h) (okL_iff.mp (okL_map h2))
theorem okS_um {α : Type} {l : List α} {f : α → D} {k : Nat} {t : Sc} (h : l.length ≤ k) (h2 : ∀ x ∈ l, okS (f x) t = true) : okS (.tuple (l.map f)) (.u k t) = true := okS_u (by rw [List.length_map]; exact h) (okL_iff.mp (okL_map h2))
theorem okTs_len : ∀ {ds : List PyData} {ts : List Sc}, okTs ds ts = true → ds.length = ts.length
  | [], [], _ => rfl
  | d :: ds, t :: ts, h => by
    simp only [okTs, Bool.and_eq_true] at h
    simp [okTs_len h.2]
  | [], _ :: _, h => by simp [okTs] at h
  | _ :: _, [], h => by simp [okTs] at h
mutual
theorem okS_lay : ∀ {d : PyData} {t : Sc}, okS d t = true → d.canLay0 = true
  | .int _, _, _ => rfl
  | .bool _, _, _ => rfl
  | .none, _, _ => rfl
  | .str x, .s k, h => by
    simp only [okS, Bool.and_eq_true] at h
    show PyData.strOk x = true
    unfold PyData.strOk
    rw [Array.all_eq_true']
    intro c hc
    exact List.all_eq_true.mp h.2 c (by simpa using hc)
  | .list ds, .l k t, h => by
    simp only [okS, Bool.and_eq_true] at h
    simpa only [PyData.canLay0] using okL_lay h.2
  | .tuple ds, .u k t, h => by
    simp only [okS, Bool.and_eq_true] at h
    simpa only [PyData.canLay0] using okL_lay h.2
  | .tuple ds, .t ts, h => by
    simp only [okS] at h
    simpa only [PyData.canLay0] using okTs_lay h
theorem okL_lay : ∀ {ds : List PyData} {t : Sc}, okL ds t = true → PyData.canLayAll0 ds = true
  | [], _, _ => rfl
  | d :: ds, t, h => by
    simp only [okL, Bool.and_eq_true] at h
    simp [PyData.canLayAll0, okS_lay h.1, okL_lay h.2]
theorem okTs_lay : ∀ {ds : List PyData} {ts : List Sc}, okTs ds ts = true → PyData.canLayAll0 ds = true
  | [], _, _ => rfl
  | d :: ds, [], h => by simp [okTs] at h
  | d :: ds, t :: ts, h => by
    simp only [okTs, Bool.and_eq_true] at h
    simp [PyData.canLayAll0, okS_lay h.1, okTs_lay h.2]
end
theorem okS_nd {d : PyData} {t : Sc} (h : okS d t = true) : d.hasDict = false := PyData.hasDict_of_canLay d (okS_lay h)
theorem okL_nd : ∀ {ds : List PyData} {t : Sc}, okL ds t = true → PyData.hasDictAll ds = false
  | [], _, _ => rfl
  | d :: ds, t, h => by
    simp only [okL, Bool.and_eq_true] at h
    simp [PyData.hasDictAll, okS_nd h.1, okL_nd h.2]
mutual
theorem okS_dp : ∀ {d : PyData} {t : Sc}, okS d t = true → d.depth ≤ dpS t
  | .int _, _, _ => Nat.zero_le _
  | .bool _, _, _ => Nat.zero_le _
  | .none, _, _ => Nat.zero_le _
  | .str x, _, h => Nat.zero_le _
  | .list ds, .l k t, h => by
    simp only [okS, Bool.and_eq_true] at h
    simpa only [PyData.depth, dpS] using Nat.succ_le_succ (okL_dp h.2)
  | .tuple ds, .u k t, h => by
    simp only [okS, Bool.and_eq_true] at h
    simpa only [PyData.depth, dpS] using Nat.succ_le_succ (okL_dp h.2)
  | .tuple ds, .t ts, h => by
    simp only [okS] at h
    simpa only [PyData.depth, dpS] using Nat.succ_le_succ (okTs_dp h)
theorem okL_dp : ∀ {ds : List PyData} {t : Sc}, okL ds t = true → PyData.depthAll ds ≤ dpS t
  | [], _, _ => Nat.zero_le _
  | d :: ds, t, h => by
    simp only [okL, Bool.and_eq_true] at h
    simp only [PyData.depthAll]
    exact Nat.max_le.mpr ⟨okS_dp h.1, okL_dp h.2⟩
theorem okTs_dp : ∀ {ds : List PyData} {ts : List Sc}, okTs ds ts = true → PyData.depthAll ds ≤ dpT ts
  | [], _, _ => Nat.zero_le _
  | d :: ds, [], h => by simp [okTs] at h
  | d :: ds, t :: ts, h => by
    simp only [okTs, Bool.and_eq_true] at h
    simp only [PyData.depthAll, dpT]
    exact Nat.max_le.mpr ⟨Nat.le_trans (okS_dp h.1) (Nat.le_max_left _ _), Nat.le_trans (okTs_dp h.2) (Nat.le_max_right _ _)⟩
end
mutual
theorem okS_alike : ∀ {d e : PyData} {t : Sc}, okS d t = true → okS e t = true → PySem.W.alike d e = true
  | .int _, e, t, h, h' => by cases t <;> simp [okS] at h <;> cases e <;> simp [okS] at h' <;> rfl
  | .bool _, e, t, h, h' => by cases t <;> simp [okS] at h <;> cases e <;> simp [okS] at h' <;> rfl
  | .none, e, t, h, h' => by cases t <;> simp [okS] at h <;> cases e <;> simp [okS] at h' <;> rfl
  | .str x, e, t, h, h' => by cases t <;> simp [okS] at h <;> cases e <;> simp [okS] at h' <;> rfl
  | .list ds, e, .l k t, h, h' => by
    cases e <;> simp [okS] at h'
    simp only [okS, Bool.and_eq_true] at h
    simpa only [PySem.W.alike] using okL_alike h.2 h'.2
  | .tuple ds, e, .u k t, h, h' => by
    cases e <;> simp [okS] at h'
    simp only [okS, Bool.and_eq_true] at h
    simpa only [PySem.W.alike] using okL_alike h.2 h'.2
  | .tuple ds, e, .t ts, h, h' => by
    cases e <;> simp [okS] at h'
    simp only [okS] at h
    simpa only [PySem.W.alike] using okTs_alike h h'
theorem okL_alike : ∀ {ds es : List PyData} {t : Sc}, okL ds t = true → okL es t = true → PySem.W.alikeAll ds es = true
  | [], _, _, _, _ => by simp [PySem.W.alikeAll]
  | _ :: _, [], _, _, _ => by simp [PySem.W.alikeAll]
  | d :: ds, e :: es, t, h, h' => by
    simp only [okL, Bool.and_eq_true] at h h'
    simp [PySem.W.alikeAll, okS_alike h.1 h'.1, okL_alike h.2 h'.2]
theorem okTs_alike : ∀ {ds es : List PyData} {ts : List Sc}, okTs ds ts = true → okTs es ts = true → PySem.W.alikeAll ds es = true
  | [], _, _, _, _ => by simp [PySem.W.alikeAll]
  | _ :: _, [], _, _, _ => by simp [PySem.W.alikeAll]
  | d :: ds, e :: es, [], h, h' => by simp [okTs] at h
  | d :: ds, e :: es, t :: ts, h, h' => by
    simp only [okTs, Bool.and_eq_true] at h h'
    simp [PySem.W.alikeAll, okS_alike h.1 h'.1, okTs_alike h.2 h'.2]
end
mutual
theorem okS_eqv : ∀ {d e : PyData} {t : Sc}, okS d t = true → okS e t = true → (PyData.eqv d e = true ↔ d = e)
  | .int _, e, t, h, h' => by cases t <;> simp [okS] at h <;> cases e <;> simp [okS] at h' <;> simp [PyData.eqv]
  | .bool _, e, t, h, h' => by cases t <;> simp [okS] at h <;> cases e <;> simp [okS] at h' <;> simp [PyData.eqv]
  | .none, e, t, h, h' => by cases t <;> simp [okS] at h <;> cases e <;> simp [okS] at h' <;> simp [PyData.eqv]
  | .str x, e, t, h, h' => by cases t <;> simp [okS] at h <;> cases e <;> simp [okS] at h' <;> simp [PyData.eqv]
  | .list ds, e, .l k t, h, h' => by
    cases e <;> simp [okS] at h'
    simp only [okS, Bool.and_eq_true] at h
    simpa only [PyData.eqv, PyData.list.injEq] using okL_eqv h.2 h'.2
  | .tuple ds, e, .u k t, h, h' => by
    cases e <;> simp [okS] at h'
    simp only [okS, Bool.and_eq_true] at h
    simpa only [PyData.eqv, PyData.tuple.injEq] using okL_eqv h.2 h'.2
  | .tuple ds, e, .t ts, h, h' => by
    cases e <;> simp [okS] at h'
    simp only [okS] at h
    simpa only [PyData.eqv, PyData.tuple.injEq] using okTs_eqv h h'
theorem okL_eqv : ∀ {ds es : List PyData} {t : Sc}, okL ds t = true → okL es t = true → (PyData.eqvAll ds es = true ↔ ds = es)
  | [], [], _, _, _ => by simp [PyData.eqvAll]
  | [], _ :: _, _, _, _ => by simp [PyData.eqvAll]
  | _ :: _, [], _, _, _ => by simp [PyData.eqvAll]
  | d :: ds, e :: es, t, h, h' => by
    simp only [okL, Bool.and_eq_true] at h h'
    simp only [PyData.eqvAll, Bool.and_eq_true, okS_eqv h.1 h'.1, okL_eqv h.2 h'.2, List.cons.injEq]
theorem okTs_eqv : ∀ {ds es : List PyData} {ts : List Sc}, okTs ds ts = true → okTs es ts = true → (PyData.eqvAll ds es = true ↔ ds = es)
  | [], [], _, _, _ => by simp [PyData.eqvAll]
  | [], _ :: _, _, _, _ => by simp [PyData.eqvAll]
  | _ :: _, [], _, _, _ => by simp [PyData.eqvAll]
  | d :: ds, e :: es, [], h, h' => by simp [okTs] at h
  | d :: ds, e :: es, t :: ts, h, h' => by
    simp only [okTs, Bool.and_eq_true] at h h'
    simp only [PyData.eqvAll, Bool.and_eq_true, okS_eqv h.1 h'.1, okTs_eqv h.2 h'.2, List.cons.injEq]
end
mutual
theorem okS_show : ∀ {d : PyData} {t : Sc}, okS d t = true → nzS t = true → d.showable = true ∧ d.shown.length ≤ lnS t
  | .int x, t, h, h' => by
    cases t <;> simp [okS] at h <;> simp [nzS] at h'
    refine ⟨?_, ?_⟩
    · simp only [PyData.showable, decide_eq_true_eq]
      rcases Nat.eq_zero_or_pos x.natAbs with h0 | h0
      · rw [h0]
        decide
      · refine (Nat.log2_lt (by omega)).mpr (Nat.lt_trans h (by decide))
    · have := PySem.int_text_length_le10 (a := x) (k := 18) (by decide) (by exact h)
      show (Str.ofString (toString x)).length ≤ 19
      have e : (Str.ofString (toString x)).length = (toString x).length := PySem.ofString_length _
      omega
  | .bool b, t, h, _ => by cases t <;> simp [okS] at h; exact ⟨rfl, by cases b <;> decide⟩
  | .none, t, h, _ => by cases t <;> simp [okS] at h; exact ⟨rfl, by decide⟩
  | .str x, .s k, h, _ => by
    simp only [okS, Bool.and_eq_true, decide_eq_true_eq] at h
    refine ⟨rfl, ?_⟩
    have := PySem.StrLaws.reprText_len x fun c hc => by
      have := of_decide_eq_true (List.all_eq_true.mp h.2 c hc)
      omega
    show (reprText x).length ≤ 10 * k + 2
    omega
  | .list ds, .l k t, h, h' => by
    simp only [okS, Bool.and_eq_true, decide_eq_true_eq] at h
    obtain ⟨q1, q2⟩ := okL_show h.2 (by simpa only [nzS] using h')
    refine ⟨by simpa only [PyData.showable] using q1, ?_⟩
    have := listText_len_le (PyData.shownAll ds)
    have e : (PyData.shownAll ds).length = ds.length := PyData.shownAll_length ds
    have e2 : ds.length * (lnS t) ≤ k * lnS t := Nat.mul_le_mul_right _ h.1
    simp only [PyData.shown, lnS]
    rw [Nat.mul_add]
    omega
  | .tuple ds, .u k t, h, h' => by
    simp only [okS, Bool.and_eq_true, decide_eq_true_eq] at h
    obtain ⟨q1, q2⟩ := okL_show h.2 (by simpa only [nzS] using h')
    refine ⟨by simpa only [PyData.showable] using q1, ?_⟩
    have := tupleText_len_le (PyData.shownAll ds)
    have e : (PyData.shownAll ds).length = ds.length := PyData.shownAll_length ds
    have e2 : ds.length * (lnS t) ≤ k * lnS t := Nat.mul_le_mul_right _ h.1
    simp only [PyData.shown, lnS]
    rw [Nat.mul_add]
    omega
  | .tuple ds, .t ts, h, h' => by
    simp only [okS] at h
    obtain ⟨q1, q2⟩ := okTs_show h (by simpa only [nzS] using h')
    refine ⟨by simpa only [PyData.showable] using q1, ?_⟩
    have := tupleText_len_le (PyData.shownAll ds)
    have e : (PyData.shownAll ds).length = ds.length := PyData.shownAll_length ds
    simp only [PyData.shown, lnS]
    omega
theorem okL_show : ∀ {ds : List PyData} {t : Sc}, okL ds t = true → nzS t = true → PyData.showableAll ds = true ∧ ((PyData.shownAll ds).map (·.length)).sum ≤ ds.length * lnS t
  | [], _, _, _ => ⟨rfl, by simp [PyData.shownAll]⟩
  | d :: ds, t, h, h' => by
    simp only [okL, Bool.and_eq_true] at h
    obtain ⟨q1, q2⟩ := okS_show h.1 h'
    obtain ⟨q3, q4⟩ := okL_show h.2 h'
    refine ⟨by simp [PyData.showableAll, q1, q3], ?_⟩
    simp only [PyData.shownAll, List.map_cons, List.sum_cons, List.length_cons, Nat.add_mul]
    omega
theorem okTs_show : ∀ {ds : List PyData} {ts : List Sc}, okTs ds ts = true → nzT ts = true → PyData.showableAll ds = true ∧ ((PyData.shownAll ds).map (·.length)).sum + 2 * ds.length ≤ lnT ts
  | [], _, _, _ => ⟨rfl, by simp [PyData.shownAll]⟩
  | d :: ds, [], h, _ => by simp [okTs] at h
  | d :: ds, t :: ts, h, h' => by
    simp only [okTs, Bool.and_eq_true] at h
    simp only [nzT, Bool.and_eq_true] at h'
    obtain ⟨q1, q2⟩ := okS_show h.1 h'.1
    obtain ⟨q3, q4⟩ := okTs_show h.2 h'.2
    refine ⟨by simp [PyData.showableAll, q1, q3], ?_⟩
    simp only [PyData.shownAll, List.map_cons, List.sum_cons, List.length_cons, lnT]
    omega
end
/-- repr(x) -/
theorem show_sc {d : D} (t : Sc) (h : okS d t = true) (hd : isDisp d = true) (hz : nzS t = true := by decide) (hl : lnS t ≤ 16000000 := by decide) (hp : dpS t ≤ 20 := by decide) : ShowOk d :=
  ⟨hd, .inl (okS_nd h), (okS_show h hz).1, Nat.le_trans (okS_show h hz).2 (Nat.le_trans hl (by decide)), Nat.le_trans (okS_dp h) hp⟩
theorem shaped_sc {d : D} {t : Sc} (h : okS d t = true) (hp : dpS t ≤ 60 := by decide) : SeqAt.shaped d = true := by
  unfold SeqAt.shaped
  rw [okS_lay h, decide_eq_true (Nat.le_trans (okS_dp h) (by omega))]
  rfl
/-- sorted(xs) -/
theorem sort_sc {ds : List D} (t : Sc) (h : ∀ d ∈ ds, okS d t = true) (hs : PySem.W.Sortable ds) (hl : ds.length ≤ 1000000) (hp : dpS t ≤ 20 := by decide) : SortOk ds :=
  ⟨fun d hd e he => okS_alike (h d hd) (h e he), .inl hs, hl, Nat.le_trans (okL_dp (okL_iff.mpr h)) hp, okL_nd (okL_iff.mpr h)⟩
theorem sort_scT {ds : List D} (t : Sc) (ts : List Sc) (h : ∀ d ∈ ds, okS d (.t (t :: ts)) = true) (hl : ds.length ≤ 1000000) (hp : dpS (.t (t :: ts)) ≤ 20 := by decide) : SortOk ds :=
  sort_sc (.t (t :: ts)) h (.inl fun d hd => by
    have := h d hd
    cases d <;> simp [okS] at this
    rename_i es
    cases es with
    | nil => simp [okTs] at this
    | cons x r => exact ⟨x, r, rfl⟩) hl hp
def notTup : Sc → Bool
  | .n => false
  | .u _ _ => false
  | .t _ => false
  | _ => true
theorem sort_scZ {ds : List D} (t : Sc) (h : ∀ d ∈ ds, okS d t = true) (ht : notTup t = true) (hl : ds.length ≤ 1000000) (hp : dpS t ≤ 20 := by decide) : SortOk ds :=
  sort_sc t h (.inr fun d hd => by
    have := h d hd
    cases d <;> cases t <;> simp [okS] at this <;> simp [notTup] at ht
    all_goals exact ⟨by simp, fun xs e => by cases e⟩) hl hp
theorem notN_sc {d : D} {t : Sc} (h : okS d t = true) (ht : t ≠ .n) : d ≠ .none := fun e => by
  subst e
  cases t <;> simp [okS] at h
  exact ht rfl
theorem min_sc {ds : List D} (t : Sc) (h : ∀ d ∈ ds, okS d t = true) (ht : t ≠ .n) (hp : dpS t ≤ 60 := by decide) : MinOk ds :=
  ⟨⟨fun d hd e he => okS_alike (h d hd) (h e he), fun d hd => notN_sc (h d hd) ht⟩, Nat.le_trans (okL_dp (okL_iff.mpr h)) hp, okL_nd (okL_iff.mpr h)⟩
theorem cmp_sc {d e : D} (t : Sc) (h : okS d t = true) (h' : okS e t = true) (ht : t ≠ .n) (hp : dpS t ≤ 60 := by decide) : CmpD d e := ⟨okS_alike h h', notN_sc h ht, Nat.le_trans (okS_dp h) hp, okS_nd h, okS_nd h'⟩
theorem inD_sc {d : D} {ds : List D} {t : Sc} (h : okS d t = true) (hs : ∀ x ∈ ds, okS x t = true) : inD d ds = true ↔ d ∈ ds := by
  unfold inD
  rw [List.any_eq_true]
  constructor
  · rintro ⟨x, hx, e⟩
    rw [(okS_eqv (hs x hx) h).mp e] at hx
    exact hx
  · exact fun hd => ⟨d, hd, (okS_eqv h h).mpr rfl⟩
section
variable {S : Cf} {ρ : Rho} {te ta tb : TE} {d e : D} {ds : List D}
open Classical in
theorem ev_eqSc (t : Sc) (ha : Ev S ta ρ (Eq (.dat d))) (hb : Ev S tb ρ (Eq (.dat e))) (h : okS d t = true) (h' : okS e t = true) (hp : dpS t ≤ 60 := by decide) : Ev S (tOp (rEqD S.K) ta tb) ρ (Eq (.dat (.bool (decide (d = e))))) :=
  (ev_eqD ha hb (shaped_sc h hp) (shaped_sc h' hp)).cast (by
    have := okS_eqv h h'
    by_cases q : d = e
    · rw [this.mpr q, decide_eq_true q]
    · rw [decide_eq_false q, Bool.eq_false_iff.mpr fun z => q (this.mp z)])
open Classical in
theorem ev_neSc (t : Sc) (ha : Ev S ta ρ (Eq (.dat d))) (hb : Ev S tb ρ (Eq (.dat e))) (h : okS d t = true) (h' : okS e t = true) (hp : dpS t ≤ 60 := by decide) : Ev S (tOp (rNeD S.K) ta tb) ρ (Eq (.dat (.bool (!decide (d = e))))) :=
  (ev_neD ha hb (shaped_sc h hp) (shaped_sc h' hp)).cast (by
    have := okS_eqv h h'
    by_cases q : d = e
    · rw [this.mpr q, decide_eq_true q]
    · rw [decide_eq_false q, Bool.eq_false_iff.mpr fun z => q (this.mp z)])
end
end Dl

set_option Elab.async false
set_option linter.all false
set_option maxRecDepth 100000
set_option maxHeartbeats 4000000
/-! Dly: list(range(n)); least and greatest of any row of data. -/
namespace Dl
open PySem PySem.Spec PyProof.Rows L2 LamX RZ
def rMinA (K : PySem.W.Frag) : List V → Hp → VK → Prop := fun xs H Q => ∃ (a : Addr) (vs : List V) (y : D) (ys : List D), xs = [.ref a] ∧ (SqL K H a vs ∨ SqT K H a vs) ∧ DpAll K H vs (y :: ys) ∧ MinOk (y :: ys) ∧
  ∀ (i : Nat) v, vs[i]? = some v → (y :: ys)[i]? = some (PySem.W.minD y ys) → Q v H
theorem cr_minA {X : Cx} (hc : X.calm = true) (hu : X.A.units + 64 < cLine) : CallR X (.builtin "min") (rMinA X.K) := by
  intro pins s σ H xs us Q I r h
  obtain ⟨a, vs, y, ys, rfl, hs, hd, ⟨m1, m2, m3⟩, q⟩ := h
  obtain ⟨u, rfl, ru⟩ := vals1 r
  cases ru
  rcases hs with hs | hs
  · obtain ⟨its, rv, pl, hz⟩ := I.list hs
    obtain ⟨as, ra⟩ := Dp.readsAll I (y :: ys) vs its hd rv
    refine PySem.W.min_list_data (I.ok.hd hc) pl.isList (as := as) (x := y) (xs := ys) (by simpa using ra) m1 (by omega) fun i v h' tk bs hi hr hk => ?_
    have hi' : its[i]? = some v := by simpa using hi
    obtain ⟨x, hx, rx⟩ := vals_at rv hi'
    obtain ⟨d, cs, hd1, hd2⟩ := readsAll_get ra hi'
    have eq := (PyProof.Rows.reads_det (fun b o e _ => hk b o e) hd2 hr).1
    exact ⟨x, H, I.kept hk, rx, q i x hx (by rw [hd1, eq])⟩
  · obtain ⟨its, rv, pl, hz⟩ := I.tuple hs
    obtain ⟨as, ra⟩ := Dp.readsAll I (y :: ys) vs its hd rv
    refine PySem.W.min_tuple_data (I.ok.hd hc) pl (as := as) (x := y) (xs := ys) (by simpa using ra) m1 (by omega) fun i v h' tk bs hi hr hk => ?_
    have hi' : its[i]? = some v := by simpa using hi
    obtain ⟨x, hx, rx⟩ := vals_at rv hi'
    obtain ⟨d, cs, hd1, hd2⟩ := readsAll_get ra hi'
    have eq := (PyProof.Rows.reads_det (fun b o e _ => hk b o e) hd2 hr).1
    exact ⟨x, H, I.kept hk, rx, q i x hx (by rw [hd1, eq])⟩
def rMaxA (K : PySem.W.Frag) : List V → Hp → VK → Prop := fun xs H Q => ∃ (a : Addr) (vs : List V) (y : D) (ys : List D), xs = [.ref a] ∧ (SqL K H a vs ∨ SqT K H a vs) ∧ DpAll K H vs (y :: ys) ∧ MinOk (y :: ys) ∧
  ∀ (i : Nat) v, vs[i]? = some v → (y :: ys)[i]? = some (PySem.W.maxD y ys) → Q v H
theorem cr_maxA {X : Cx} (hc : X.calm = true) (hu : X.A.units + 64 < cLine) : CallR X (.builtin "max") (rMaxA X.K) := by
  intro pins s σ H xs us Q I r h
  obtain ⟨a, vs, y, ys, rfl, hs, hd, ⟨m1, m2, m3⟩, q⟩ := h
  obtain ⟨u, rfl, ru⟩ := vals1 r
  cases ru
  rcases hs with hs | hs
  · obtain ⟨its, rv, pl, hz⟩ := I.list hs
    obtain ⟨as, ra⟩ := Dp.readsAll I (y :: ys) vs its hd rv
    refine PySem.W.max_list_data (I.ok.hd hc) pl.isList (as := as) (x := y) (xs := ys) (by simpa using ra) m1 (by omega) fun i v h' tk bs hi hr hk => ?_
    have hi' : its[i]? = some v := by simpa using hi
    obtain ⟨x, hx, rx⟩ := vals_at rv hi'
    obtain ⟨d, cs, hd1, hd2⟩ := readsAll_get ra hi'
    have eq := (PyProof.Rows.reads_det (fun b o e _ => hk b o e) hd2 hr).1
    exact ⟨x, H, I.kept hk, rx, q i x hx (by rw [hd1, eq])⟩
  · obtain ⟨its, rv, pl, hz⟩ := I.tuple hs
    obtain ⟨as, ra⟩ := Dp.readsAll I (y :: ys) vs its hd rv
    refine PySem.W.max_tuple_data (I.ok.hd hc) pl (as := as) (x := y) (xs := ys) (by simpa using ra) m1 (by omega) fun i v h' tk bs hi hr hk => ?_
    have hi' : its[i]? = some v := by simpa using hi
    obtain ⟨x, hx, rx⟩ := vals_at rv hi'
    obtain ⟨d, cs, hd1, hd2⟩ := readsAll_get ra hi'
    have eq := (PyProof.Rows.reads_det (fun b o e _ => hk b o e) hd2 hr).1
    exact ⟨x, H, I.kept hk, rx, q i x hx (by rw [hd1, eq])⟩
theorem minD_mem (y : D) (ys : List D) : PySem.W.minD y ys ∈ y :: ys := by
  unfold PySem.W.minD
  induction ys generalizing y with
  | nil => simp
  | cons z ys ih =>
    rw [List.foldl_cons]
    have := ih (if PySem.W.dataLt z y = true then z else y)
    rcases List.mem_cons.mp this with e | e
    · rw [e]
      split <;> simp
    · simp [e]
theorem maxD_mem (y : D) (ys : List D) : PySem.W.maxD y ys ∈ y :: ys := by
  unfold PySem.W.maxD
  induction ys generalizing y with
  | nil => simp
  | cons z ys ih =>
    rw [List.foldl_cons]
    have := ih (if PySem.W.dataLt y z = true then z else y)
    rcases List.mem_cons.mp this with e | e
    · rw [e]
      split <;> simp
    · simp [e]
/-- a row that may be read -/
def EvR (S : Cf) (te : TE) (ρ : Rho) (ds : List D) : Prop := EvL S te ρ ds ∨ EvU S te ρ ds
section
variable {S : Cf} {ρ : Rho} {te ta tb : TE} {y : D} {ys : List D}
theorem ev_minA (h : EvR S te ρ (y :: ys)) (m : MinOk (y :: ys)) : Ev S (tCB (rMinA S.K) (tCons te tNil)) ρ (Eq (.dat (PySem.W.minD y ys))) := fun σ G H k e Q q => by
  have go : ∀ (a : Addr) (vs : List V) (G1 H1 : Hp), Grow S.fx G H G1 H1 → Kn S.fx G1 H1 → (SqL S.K H1 a vs ∨ SqT S.K H1 a vs) → RA S.K G1 vs (y :: ys) → rMinA S.K [.ref a] H1 Q := fun a vs G1 H1 g1 k1 sq ra =>
    ⟨a, vs, y, ys, rfl, sq, ra_dpAll k1.gh ra m.2.2, m, fun i v hv hd => by
      obtain ⟨d, h1, h2⟩ := ra.getV hv
      rw [hd] at h1
      cases h1
      exact q v _ G1 H1 g1 k1 rfl h2⟩
  rcases h with h | h
  · exact h σ G H k e _ fun a vs G1 H1 g1 k1 st ra => go a vs G1 H1 g1 k1 (.inl (st _ _ (Grow.refl k1))) ra
  · exact h σ G H k e _ fun a vs G1 H1 g1 k1 st ra => go a vs G1 H1 g1 k1 (.inr (st _ _ (Grow.refl k1))) ra
theorem ev_maxA (h : EvR S te ρ (y :: ys)) (m : MinOk (y :: ys)) : Ev S (tCB (rMaxA S.K) (tCons te tNil)) ρ (Eq (.dat (PySem.W.maxD y ys))) := fun σ G H k e Q q => by
  have go : ∀ (a : Addr) (vs : List V) (G1 H1 : Hp), Grow S.fx G H G1 H1 → Kn S.fx G1 H1 → (SqL S.K H1 a vs ∨ SqT S.K H1 a vs) → RA S.K G1 vs (y :: ys) → rMaxA S.K [.ref a] H1 Q := fun a vs G1 H1 g1 k1 sq ra =>
    ⟨a, vs, y, ys, rfl, sq, ra_dpAll k1.gh ra m.2.2, m, fun i v hv hd => by
      obtain ⟨d, h1, h2⟩ := ra.getV hv
      rw [hd] at h1
      cases h1
      exact q v _ G1 H1 g1 k1 rfl h2⟩
  rcases h with h | h
  · exact h σ G H k e _ fun a vs G1 H1 g1 k1 st ra => go a vs G1 H1 g1 k1 (.inl (st _ _ (Grow.refl k1))) ra
  · exact h σ G H k e _ fun a vs G1 H1 g1 k1 st ra => go a vs G1 H1 g1 k1 (.inr (st _ _ (Grow.refl k1))) ra
/-- min, max of what is not told -/
theorem min_of {ds : List D} (h : ds ≠ []) : ∃ y ys, ds = y :: ys := by
  cases ds with
  | nil => exact absurd rfl h
  | cons y ys => exact ⟨y, ys, rfl⟩
/-- list(range(n)) -/
theorem ef_listRg {n : Nat} (h : Ev S te ρ (Eq (.dat (.int (n : Nat))))) (hn : n ≤ 1000000) : EvF S (tLstRg (tRg1 te)) ρ (Eq (rngD 0 n)) := fun σ G H k e Q q =>
  h σ G H k e _ fun v s G1 H1 g1 k1 es r => by
    subst es
    cases r
    refine ⟨_, rfl, RgOk.of_le (by decide) (by omega) (by decide) (by omega), fun p hp => ?_⟩
    have g := g1.trans k1 (k1.same (same_new (o := .lst (rgV 0 (n : Int))) hp)) (Grow.same k1 (same_new hp))
    refine q p _ _ G1 _ g (k1.same (same_new hp)) (fresh_of g1 k1 hp) (k1.freeG hp) upd_same ?_ rfl
    have e1 : rgV 0 (n : Int) = ((List.range n).map fun (i : Nat) => (0 + (i : Int))).map V.int := by
      unfold rgV
      rw [List.map_map, Int.sub_zero, Int.toNat_natCast]
      rfl
    have e2 : rngD 0 n = ((List.range n).map fun (i : Nat) => (0 + (i : Int))).map PyData.int := by
      unfold rngD
      rw [List.map_map]
      rfl
    rw [e1, e2]
    exact RA.of_ints _
theorem maxD_nat (l : List Nat) (a : Int) : PySem.W.maxD (.int a) (l.map fun (x : Nat) => PyData.int (x : Int)) = .int ((l.map fun (x : Nat) => (x : Int)).foldl max a) := by
  rw [← PySem.W.maxD_ints, List.map_map]
  rfl
end
/-! ### t * n, n from 1 on -/
theorem tuple_mul1 (l : Addr) (items : Array Value) (n : Nat) (dd : Option Addr) (sl : Array (Option Value)) (x : Int) (u : Tok) (hx : x = 1) :
    Meets (Builtin.«tuple.__mul__» ⟨[.ref l, .int x u], []⟩) (fun _ R s => s.heap.get? l = some { cls := .type "tuple", dict := dd, data := .seq items n, slots := sl } ∧ R (.ok (.ret (Value.ref l))) s) :=
  .of_wp fun prog w A R s h => by
    obtain ⟨hp, g, d, tk, os⟩ := s
    obtain ⟨hl, h⟩ := h
    have f1 := AutoSeq1.idx_int
    wp_walk using wpAny_loadPart' hl
    repeat (first
      | (refine wpAny_ite_false (decide_eq_false (by subst hx; decide)) ?_; wp_walk using wpAny_loadPart' hl)
      | (refine wpAny_ite_true (decide_eq_true (by subst hx; simp)) ?_; wp_walk using wpAny_loadPart' hl))
    exact ⟨_, rfl, h⟩
def rRep1 (K : PySem.W.Frag) : R2 := fun x y H Q => ∃ l xs, x = .ref l ∧ y = .int 1 ∧ SqT K H l xs ∧ Q (.ref l) H
theorem op_rep1 {X : Cx} : OpR X (binaryOp .Mult) (rRep1 X.K) := by
  intro pins s σ H x y v u Q I rx ry h
  obtain ⟨l, xs, rfl, rfl, hT, q⟩ := h
  cases rx
  obtain ⟨t, rfl⟩ := ry
  obtain ⟨its, r, ⟨⟨cls, dd, data, sl⟩, ho, hc, n, hd⟩, hs⟩ := I.tuple hT
  simp only at hc hd
  subst hc hd
  refine wpAny_binaryOp_repeat_ref (T := "tuple") (U := "int") (by decide) ⟨_, ho, rfl⟩ (fun s' => typeIs_int s' 1 t) noFill_tuple_mul F.fills_int_mul F.slot_int_rmul repeat_tuple F.slot_int_index.lookup
    (call_meets F.slot_int_rmul (typeIs_int s 1 t) F.entry_int_rmul (F.args_int_rmul_2 _ _) (int_rmul_tuple 1 t l its.toArray n dd sl)
      ⟨ho, rfl, ⟨_, ho, rfl⟩, call_meets F.slot_tuple_mul ⟨_, ho, rfl⟩ F.entry_tuple_mul (F.args_tuple_mul_2 _ _) (tuple_mul1 l its.toArray n dd sl 1 t rfl) ⟨ho, ?_⟩⟩)
  exact ⟨.ref l, H, I, rfl, q⟩
def rRepA (K : PySem.W.Frag) : R2 := fun x y H Q => rRepT K x y H Q ∨ rRep1 K x y H Q
theorem op_repA {X : Cx} {K : PySem.W.Frag} (hK : X.K = K) : OpR X (binaryOp .Mult) (rRepA K) := by
  subst hK
  intro pins s σ H x y v u Q I rx ry h
  rcases h with h | h
  · exact op_repT _ _ _ _ _ _ _ _ _ I rx ry h
  · exact op_rep1 _ _ _ _ _ _ _ _ _ I rx ry h
theorem ev_repA {S : Cf} {ρ : Rho} {ta tb : TE} {ds : List D} {n : Nat} (ha : Ev S ta ρ (Eq (.dat (.tuple ds)))) (hb : Ev S tb ρ (Eq (.dat (.int (n : Nat))))) (h0 : ds ≠ []) (h1 : 1 ≤ n) (h2 : n ≤ 1000) (h3 : ds.length ≤ 1000) : Ev S (tOp (rRepA S.K) ta tb) ρ (Eq (.dat (.tuple (List.replicate n ds).flatten))) := fun σ G H k e Q q =>
  ha σ G H k e _ fun v s G1 H1 g1 k1 es r1 => by
    subst es
    cases r1 with
    | tup st ra =>
      exact hb σ G1 H1 k1 (e.grow g1) _ fun y s G2 H2 g2 k2 es r2 => by
        subst es
        cases r2
        rename_i a vs
        have sq2 : SqT S.K H2 a vs := sameT (g2.gg.trans g2.gh) st
        by_cases h : 2 ≤ n
        · have hl : vs.length = ds.length := ra.length
          refine .inl ⟨a, (n : Int), vs, rfl, rfl, sq2, fun z => h0 (List.eq_nil_of_length_eq_zero (by rw [← hl, z]; rfl)), by omega, by omega, by omega, fun p hp => ?_⟩
          rw [Int.toNat_natCast]
          refine q (.ref p) _ (upd G2 p (.tup (List.replicate n vs).flatten)) _ (g1.trans k1 (k2.new _ hp) (g2.trans k2 (k2.new _ hp) (Grow.new k2 _ hp))) (k2.new _ hp) rfl ?_
          exact .tup (.inl (.inl upd_same)) (RA.mono (g2.gg.trans (same_new (k2.freeG hp))) (ra.rep n))
        · have e1 : n = 1 := by omega
          subst e1
          refine .inr ⟨a, vs, rfl, rfl, sq2, q (.ref a) _ G2 H2 (g1.trans k1 k2 g2) k2 rfl ?_⟩
          rw [show (List.replicate 1 ds).flatten = ds by simp]
          exact R.mono g2.gg (.tup st ra)
/-! ### sorted, of what stands for a list -/
theorem srtD_map {α : Type} {f : α → D} {le : α → α → Bool} {l : List α} (h : ∀ a ∈ l, ∀ b ∈ l, le a b = !PySem.W.dataLt (f b) (f a)) : srtD (l.map f) = (l.mergeSort le).map f := (List.map_mergeSort fun a ha b hb => h a ha b hb).symm
theorem dle_int (a b : Int) : (!PySem.W.dataLt (.int b) (.int a)) = decide (a ≤ b) := by
  rw [PySem.W.dataLt_int, Bool.eq_iff_iff]
  simp
theorem srtD_perm (l : List D) : (srtD l).Perm l := List.mergeSort_perm l _
theorem srtD_len (l : List D) : (srtD l).length = l.length := List.length_mergeSort l
theorem cb_min2 {S : Cf} {i j : Int} : CbD S (fun xs H Q => ∃ i j, xs = [.int i, .int j] ∧ Q (.int (if j < i then j else i)) H) [.dat (.int i), .dat (.int j)] (Eq (.dat (.int (min i j)))) := fun G H vs k r Q q => by
  cases r with
  | cons r1 r =>
    cases r with
    | cons r2 r =>
      cases r
      cases r1
      cases r2
      refine ⟨i, j, rfl, ?_⟩
      have e : (if j < i then j else i) = min i j := by
        rw [Int.min_def]
        split <;> split <;> omega
      rw [e]
      exact q _ _ G H (Grow.refl k) k rfl (.int _)
theorem inD_ints (x : Int) (p : List Int) : inD (.int x) (p.map PyData.int) = p.contains x := by
  unfold inD
  rw [List.any_map, List.contains_eq_any_beq]
  congr 1
  funext y
  show PyData.eqv (.int y) (.int x) = _
  rw [eqv_int]
  by_cases h : y = x
  · subst h
    simp
  · have h2 : ¬ x = y := fun z => h z.symm
    simp [h, h2]
theorem isNone_minO (l : List D) (h : ∀ d ∈ l, d ≠ .none) : isNone (minO l) = decide (l = []) := by
  cases l with
  | nil => rfl
  | cons y ys =>
    have := h _ (minD_mem y ys)
    show isNone (PySem.W.minD y ys) = _
    cases e : PySem.W.minD y ys <;> simp [isNone]
    exact this e
/-- range(lo, hi) -/
theorem im_rng2E {S : Cf} {ρ : Rho} {ta tb : TE} {lo hi : Int} (ha : Ev S ta ρ (Eq (.dat (.int lo)))) (hb : Ev S tb ρ (Eq (.dat (.int hi)))) (h1 : -1000000000 ≤ lo ∧ lo ≤ 1000000000) (h2 : -1000000000 ≤ hi ∧ hi ≤ 1000000000) : Itm S (iRng2 (tCons ta (tCons tb tNil))) ρ (Eq (rngD lo (hi - lo).toNat)) := fun σ G H k e Rr f =>
  ha σ G H k e _ fun v s G1 H1 g1 k1 es r => hb σ G1 H1 k1 (e.grow g1) _ fun y s2 G2 H2 g2 k2 es2 r2 => by
    subst es es2
    cases r
    cases r2
    exact ⟨lo, hi, rfl, ⟨by omega, by omega, by omega, by omega⟩, f _ _ G2 H2 (g1.trans k1 k2 g2) k2 rfl wk_range⟩
/-- data that _law_alike walks within n calls -/
def FlP : Nat → D → Prop
  | 0, _ => False
  | n + 1, .list ds => ds.length ≤ 1000000 ∧ ∀ x ∈ ds, FlP n x
  | n + 1, .tuple ds => ds.length ≤ 1000000 ∧ ∀ x ∈ ds, FlP n x
  | _ + 1, .dict _ => False
  | _ + 1, .str x => SeqAt.shaped (.str x) = true
  | _ + 1, _ => True
theorem flpT : ∀ (n : Nat) {ds : List D} {ts : List Sc}, (∀ {d : D} {t : Sc}, okS d t = true → dpS t < n → szS t ≤ 1000000 → FlP n d) → okTs ds ts = true → dpT ts < n → szT ts ≤ 1000000 → ∀ x ∈ ds, FlP n x
  | n, [], [], _, _, _, _ => by simp
  | n, [], _ :: _, _, h, _, _ => by simp [okTs] at h
  | n, _ :: _, [], _, h, _, _ => by simp [okTs] at h
  | n, d :: ds, t :: ts, ih, h, h1, h2 => by
    simp only [okTs, Bool.and_eq_true] at h
    simp only [dpT] at h1
    simp only [szT] at h2
    intro x hx
    rcases List.mem_cons.mp hx with rfl | hx
    · exact ih h.1 (by omega) (by omega)
    · exact flpT n ih h.2 (by omega) (by omega) x hx
theorem flp_sc : ∀ (n : Nat) {d : D} {t : Sc}, okS d t = true → dpS t < n → szS t ≤ 1000000 → FlP n d
  | 0, _, _, _, h, _ => by omega
  | n + 1, .list ds, .l k t, h, h1, h2 => by
    simp only [okS, Bool.and_eq_true, decide_eq_true_eq] at h
    simp only [dpS] at h1
    simp only [szS] at h2
    exact ⟨by omega, fun x hx => flp_sc n (okL_iff.mp h.2 x hx) (by omega) (by omega)⟩
  | n + 1, .tuple ds, .u k t, h, h1, h2 => by
    simp only [okS, Bool.and_eq_true, decide_eq_true_eq] at h
    simp only [dpS] at h1
    simp only [szS] at h2
    exact ⟨by omega, fun x hx => flp_sc n (okL_iff.mp h.2 x hx) (by omega) (by omega)⟩
  | n + 1, .tuple ds, .t ts, h, h1, h2 => by
    simp only [okS] at h
    simp only [dpS] at h1
    simp only [szS] at h2
    have hl := okTs_len h
    exact ⟨by omega, flpT n (fun h h1 h2 => flp_sc n h h1 h2) h (by omega) (by omega)⟩
  | n + 1, .int _, _, _, _, _ => True.intro
  | n + 1, .bool _, _, _, _, _ => True.intro
  | n + 1, .none, _, _, _, _ => True.intro
  | n + 1, .str x, .s k, h, _, _ => shaped_sc h (by simp [dpS])
/-! order of lists of numbers -/
theorem lt_nats : ∀ a b : List Nat, (a.map fun (x : Nat) => (x : Int)) < (b.map fun (x : Nat) => (x : Int)) ↔ a < b
  | [], [] => by simp
  | [], _ :: _ => by simp
  | _ :: _, [] => by simp
  | x :: a, y :: b => by
    rw [List.map_cons, List.map_cons, List.cons_lt_cons_iff, List.cons_lt_cons_iff, lt_nats a b]
    constructor
    · rintro (h | ⟨h1, h2⟩)
      · exact .inl (by omega)
      · exact .inr ⟨by omega, h2⟩
    · rintro (h | ⟨h1, h2⟩)
      · exact .inl (by omega)
      · exact .inr ⟨by omega, h2⟩
theorem lexN_trans {a b c : List Nat} (h1 : a < b) (h2 : b < c) : a < c := List.lt_trans h1 h2
theorem lexN_irrefl (a : List Nat) : ¬ a < a := List.lt_irrefl a
theorem lexN_tri (a b : List Nat) : a < b ∨ a = b ∨ b < a := by
  induction a generalizing b with
  | nil =>
    cases b with
    | nil => exact .inr (.inl rfl)
    | cons y b => exact .inl (List.Lex.nil)
  | cons x a ih =>
    cases b with
    | nil => exact .inr (.inr List.Lex.nil)
    | cons y b =>
      rcases Nat.lt_trichotomy x y with h | h | h
      · exact .inl (List.Lex.rel h)
      · subst h
        rcases ih b with h | h | h
        · exact .inl (List.Lex.cons h)
        · exact .inr (.inl (by rw [h]))
        · exact .inr (.inr (List.Lex.cons h))
      · exact .inr (.inr (List.Lex.rel h))
/-- the least of a sorted row -/
theorem first_least {l : List (List Nat)} {c : List Nat → Bool} {m : List Nat} (hm : m ∈ l) (hc : c m = true) (h : ∀ o ∈ l, c o = true → m = o ∨ m < o) : ∃ r, ((l.mergeSort fun a b => !decide (b < a)).filter c) = m :: r := by
  have pw := List.pairwise_mergeSort (le := fun a b : List Nat => !decide (b < a)) (fun a b d h1 h2 => by
    simp only [Bool.not_eq_true', decide_eq_false_iff_not] at *
    intro h3
    rcases lexN_tri b a with q | q | q
    · exact h1 q
    · subst q
      exact h2 h3
    · exact h2 (lexN_trans h3 q)) (fun a b => by
    simp only [Bool.or_eq_true, Bool.not_eq_true', decide_eq_false_iff_not]
    by_cases q : b < a
    · exact .inr fun z => lexN_irrefl _ (lexN_trans q z)
    · exact .inl q) l
  have pf := List.Pairwise.filter c pw
  have mem : ∀ x, x ∈ ((l.mergeSort fun a b => !decide (b < a)).filter c) ↔ x ∈ l ∧ c x = true := fun x => by
    rw [List.mem_filter, List.mem_mergeSort]
  cases e : ((l.mergeSort fun a b => !decide (b < a)).filter c) with
  | nil =>
    have := (mem m).mpr ⟨hm, hc⟩
    rw [e] at this
    cases this
  | cons x r =>
    rw [e] at pf mem
    have hx := (mem x).mp List.mem_cons_self
    rcases h x hx.1 hx.2 with q | q
    · exact ⟨r, by rw [q]⟩
    · have hmem := (mem m).mpr ⟨hm, hc⟩
      rcases List.mem_cons.mp hmem with q2 | q2
      · exact ⟨r, by rw [q2]⟩
      · have := (List.pairwise_cons.mp pf).1 m q2
        simp only [Bool.not_eq_true', decide_eq_false_iff_not] at this
        exact absurd q this
theorem pe_revL' {X : Cx} {K : PySem.W.Frag} {e : Expr} {te : TE} {k : Nat} {p1 p2 p3 pos : Pos} (hK : X.K = K) (he : PE X e te) : PE X (.Subscript e (.Slice none none (some (.UnaryOp .USub (.Constant (.int 1) k p1) p2)) p3) pos) (tRevL K te) := by
  subst hK
  exact pe_revL he
end Dl

set_option Elab.async false
set_option linter.all false
set_option maxRecDepth 100000
set_option maxHeartbeats 4000000
namespace K27
open PySem PySem.Spec PyProof.Rows L2 Dl LamX StX RZ
def top (i : Nat) : Stmt := PySem.Challenge.pw_sailcut_k27_whole_sewing.main.body.getD i (.Pass ⟨0, 0, 0, 0⟩)
abbrev s__wall : Stmt := top 0
theorem sc__wall : FnScope ["k"] ["k"] (defScope s__wall) := ⟨rfl, rfl, rfl, by decide +kernel, rfl, by decide +kernel, by decide +kernel⟩
abbrev s_is_integer : Stmt := top 2
theorem sc_is_integer : FnScope ["thing"] ["thing"] (defScope s_is_integer) := ⟨rfl, rfl, rfl, by decide +kernel, rfl, by decide +kernel, by decide +kernel⟩
abbrev s_is_within : Stmt := top 3
theorem sc_is_within : FnScope ["thing", "least", "most"] ["thing", "least", "most"] (defScope s_is_within) := ⟨rfl, rfl, rfl, by decide +kernel, rfl, by decide +kernel, by decide +kernel⟩
abbrev s_is_row : Stmt := top 4
theorem sc_is_row : FnScope ["thing"] ["thing"] (defScope s_is_row) := ⟨rfl, rfl, rfl, by decide +kernel, rfl, by decide +kernel, by decide +kernel⟩
abbrev s_is_tuple_of : Stmt := top 5
theorem sc_is_tuple_of : FnScope ["thing", "many"] ["thing", "many"] (defScope s_is_tuple_of) := ⟨rfl, rfl, rfl, by decide +kernel, rfl, by decide +kernel, by decide +kernel⟩
abbrev s_SailError___init__ : Stmt := inClass (top 7) 0
theorem sc_SailError___init__ : FnScope ["self", "value"] ["self", "value"] (defScope s_SailError___init__) := ⟨rfl, rfl, rfl, by decide +kernel, rfl, by decide +kernel, by decide +kernel⟩
abbrev s_check_order : Stmt := top 12
theorem sc_check_order : FnScope ["sail", "order", "index"] ["sail", "order"] (defScope s_check_order) := ⟨rfl, rfl, rfl, by decide +kernel, rfl, by decide +kernel, by decide +kernel⟩
abbrev s_told_joins : Stmt := top 13
theorem sc_told_joins : FnScope ["sail", "order", "group", "found", "index", "old", "new", "name"] ["sail", "order"] (defScope s_told_joins) := ⟨rfl, rfl, rfl, by decide +kernel, rfl, by decide +kernel, by decide +kernel⟩
abbrev s_joins : Stmt := top 14
theorem sc_joins : FnScope ["sail", "order"] ["sail", "order"] (defScope s_joins) := ⟨rfl, rfl, rfl, by decide +kernel, rfl, by decide +kernel, by decide +kernel⟩
abbrev s_pieces_after : Stmt := top 15
theorem sc_pieces_after : FnScope ["sail", "order", "found", "pieces", "is_joining"] ["sail", "order"] (defScope s_pieces_after) := ⟨rfl, rfl, rfl, by decide +kernel, rfl, by decide +kernel, by decide +kernel⟩
abbrev s_easy_order : Stmt := top 16
theorem sc_easy_order : FnScope ["sail", "every", "is_joining", "easy", "index"] ["sail"] (defScope s_easy_order) := ⟨rfl, rfl, rfl, by decide +kernel, rfl, by decide +kernel, by decide +kernel⟩
abbrev s_all_colours : Stmt := top 17
theorem sc_all_colours : FnScope ["sail", "many", "found", "panel", "near", "longer", "one", "colour", "other"] ["sail", "many"] (defScope s_all_colours) := ⟨rfl, rfl, rfl, by decide +kernel, rfl, by decide +kernel, by decide +kernel⟩
abbrev s_colours : Stmt := top 18
theorem sc_colours : FnScope ["sail", "many", "seam"] ["sail"] (defScope s_colours) := ⟨rfl, rfl, rfl, by decide +kernel, rfl, by decide +kernel, by decide +kernel⟩
abbrev s_is_point : Stmt := top 23
theorem sc_is_point : FnScope ["thing", "one"] ["thing"] (defScope s_is_point) := ⟨rfl, rfl, rfl, by decide +kernel, rfl, by decide +kernel, by decide +kernel⟩
abbrev s_crossed : Stmt := top 24
theorem sc_crossed : FnScope ["one", "middle", "other"] ["one", "middle", "other"] (defScope s_crossed) := ⟨rfl, rfl, rfl, by decide +kernel, rfl, by decide +kernel, by decide +kernel⟩
abbrev s_is_panel : Stmt := top 25
theorem sc_is_panel : FnScope ["thing", "point"] ["thing"] (defScope s_is_panel) := ⟨rfl, rfl, rfl, by decide +kernel, rfl, by decide +kernel, by decide +kernel⟩
abbrev s_long_of : Stmt := top 26
theorem sc_long_of : FnScope ["panel", "side", "one", "other"] ["panel", "side"] (defScope s_long_of) := ⟨rfl, rfl, rfl, by decide +kernel, rfl, by decide +kernel, by decide +kernel⟩
abbrev s_is_seam : Stmt := top 27
theorem sc_is_seam : FnScope ["panels", "thing", "one"] ["panels", "thing"] (defScope s_is_seam) := ⟨rfl, rfl, rfl, by decide +kernel, rfl, by decide +kernel, by decide +kernel⟩
abbrev s_Sail___init__ : Stmt := inClass (top 28) 0
theorem sc_Sail___init__ : FnScope ["self", "panels", "seams", "index", "panel", "seam"] ["self", "panels", "seams"] (defScope s_Sail___init__) := ⟨rfl, rfl, rfl, by decide +kernel, rfl, by decide +kernel, by decide +kernel⟩
abbrev s_Sail___eq__ : Stmt := inClass (top 28) 1
theorem sc_Sail___eq__ : FnScope ["self", "other"] ["self", "other"] (defScope s_Sail___eq__) := ⟨rfl, rfl, rfl, by decide +kernel, rfl, by decide +kernel, by decide +kernel⟩
abbrev s_Sail_beside : Stmt := inClass (top 28) 2
theorem sc_Sail_beside : FnScope ["self", "panel", "side"] ["self", "panel"] (defScope s_Sail_beside) := ⟨rfl, rfl, rfl, by decide +kernel, rfl, by decide +kernel, by decide +kernel⟩
abbrev s_Sail_reached : Stmt := inClass (top 28) 3
theorem sc_Sail_reached : FnScope ["self", "panel", "seen", "waiting", "other"] ["self", "panel"] (defScope s_Sail_reached) := ⟨rfl, rfl, rfl, by decide +kernel, rfl, by decide +kernel, by decide +kernel⟩
abbrev s_Sail_sides : Stmt := inClass (top 28) 4
theorem sc_Sail_sides : FnScope ["self", "found", "panel", "side"] ["self"] (defScope s_Sail_sides) := ⟨rfl, rfl, rfl, by decide +kernel, rfl, by decide +kernel, by decide +kernel⟩
abbrev s_Sail_near_corners : Stmt := inClass (top 28) 5
theorem sc_Sail_near_corners : FnScope ["self", "corner"] ["self", "corner"] (defScope s_Sail_near_corners) := ⟨rfl, rfl, rfl, by decide +kernel, rfl, by decide +kernel, by decide +kernel⟩
abbrev s_Sail_point_of : Stmt := inClass (top 28) 6
theorem sc_Sail_point_of : FnScope ["self", "corner"] ["self", "corner"] (defScope s_Sail_point_of) := ⟨rfl, rfl, rfl, by decide +kernel, rfl, by decide +kernel, by decide +kernel⟩
abbrev s__law_taken : Stmt := top 30
theorem sc__law_taken : FnScope ["row", "many", "found", "cell"] ["row", "many"] (defScope s__law_taken) := ⟨rfl, rfl, rfl, by decide +kernel, rfl, by decide +kernel, by decide +kernel⟩
abbrev s__law_pick : Stmt := top 31
theorem sc__law_pick : FnScope ["row", "some"] ["row", "some"] (defScope s__law_pick) := ⟨rfl, rfl, rfl, by decide +kernel, rfl, by decide +kernel, by decide +kernel⟩
abbrev s__law_alike : Stmt := top 32
theorem sc__law_alike : FnScope ["found", "due", "k", "key"] ["found", "due"] (defScope s__law_alike) := ⟨rfl, rfl, rfl, by decide +kernel, rfl, by decide +kernel, by decide +kernel⟩
abbrev s__law_long : Stmt := top 33
theorem sc__law_long : FnScope ["panel", "side", "one", "other"] ["panel", "side"] (defScope s__law_long) := ⟨rfl, rfl, rfl, by decide +kernel, rfl, by decide +kernel, by decide +kernel⟩
abbrev s__law_area : Stmt := top 34
theorem sc__law_area : FnScope ["one", "middle", "other"] ["one", "middle", "other"] (defScope s__law_area) := ⟨rfl, rfl, rfl, by decide +kernel, rfl, by decide +kernel, by decide +kernel⟩
abbrev s__law_free : Stmt := top 35
theorem sc__law_free : FnScope ["panels", "seams", "sewn", "found", "panel", "seam", "side"] ["panels", "seams"] (defScope s__law_free) := ⟨rfl, rfl, rfl, by decide +kernel, rfl, by decide +kernel, by decide +kernel⟩
abbrev s__law_drawn_panel : Stmt := top 36
theorem sc__law_drawn_panel : FnScope ["row", "spots", "k", "area", "j"] ["row"] (defScope s__law_drawn_panel) := ⟨rfl, rfl, rfl, by decide +kernel, rfl, by decide +kernel, by decide +kernel⟩
abbrev s__law_sail : Stmt := top 37
theorem sc__law_sail : FnScope ["row", "many", "panels", "seams", "k", "side", "new", "same", "free", "one", "other", "at"] ["row", "many"] (defScope s__law_sail) := ⟨rfl, rfl, rfl, by decide +kernel, rfl, by decide +kernel, by decide +kernel⟩
abbrev s__law_shuffled : Stmt := top 38
theorem sc__law_shuffled : FnScope ["row", "things", "found", "thing", "at"] ["row", "things"] (defScope s__law_shuffled) := ⟨rfl, rfl, rfl, by decide +kernel, rfl, by decide +kernel, by decide +kernel⟩
abbrev s__law_joins : Stmt := top 39
theorem sc__law_joins : FnScope ["panels", "seams", "order", "group", "found", "at", "old", "new", "name"] ["panels", "seams", "order"] (defScope s__law_joins) := ⟨rfl, rfl, rfl, by decide +kernel, rfl, by decide +kernel, by decide +kernel⟩
abbrev s__law_orders : Stmt := top 40
theorem sc__law_orders : FnScope ["many", "found", "k", "longer", "one", "at"] ["many"] (defScope s__law_orders) := ⟨rfl, rfl, rfl, by decide +kernel, rfl, by decide +kernel, by decide +kernel⟩
abbrev s__law_colours : Stmt := top 41
theorem sc__law_colours : FnScope ["panels", "pairs", "many", "found", "panel", "near", "longer", "pair", "one", "colour", "other"] ["panels", "pairs", "many"] (defScope s__law_colours) := ⟨rfl, rfl, rfl, by decide +kernel, rfl, by decide +kernel, by decide +kernel⟩
abbrev s__law_refused : Stmt := top 42
theorem sc__law_refused : FnScope ["ask", "e"] ["ask"] (defScope s__law_refused) := ⟨rfl, rfl, rfl, by decide +kernel, rfl, by decide +kernel, by decide +kernel⟩
abbrev s_law : Stmt := top 43
theorem sc_law : FnScope ["script", "row", "panels", "seams", "turn", "order", "due", "left", "pieces", "is_one", "easy", "told", "good", "pairs", "best", "many", "ask", "odd", "sail", "seam", "pair", "one"] ["script"] (defScope s_law) := ⟨rfl, rfl, rfl, by decide +kernel, rfl, by decide +kernel, by decide +kernel⟩
/-- what the top has written -/
structure Tx (P : Program) (w : World) (K : PySem.W.Frag) (mg : Str → Option Value) (base : Heap) (C1 C2 C3 fI CS : Addr) : Prop where
  d__wall : Def K mg "_wall" s__wall
  d_is_integer : Def K mg "is_integer" s_is_integer
  d_is_within : Def K mg "is_within" s_is_within
  d_is_row : Def K mg "is_row" s_is_row
  d_is_tuple_of : Def K mg "is_tuple_of" s_is_tuple_of
  d_check_order : Def K mg "check_order" s_check_order
  d_told_joins : Def K mg "told_joins" s_told_joins
  d_joins : Def K mg "joins" s_joins
  d_pieces_after : Def K mg "pieces_after" s_pieces_after
  d_easy_order : Def K mg "easy_order" s_easy_order
  d_all_colours : Def K mg "all_colours" s_all_colours
  d_colours : Def K mg "colours" s_colours
  d_is_point : Def K mg "is_point" s_is_point
  d_crossed : Def K mg "crossed" s_crossed
  d_is_panel : Def K mg "is_panel" s_is_panel
  d_long_of : Def K mg "long_of" s_long_of
  d_is_seam : Def K mg "is_seam" s_is_seam
  d__law_taken : Def K mg "_law_taken" s__law_taken
  d__law_pick : Def K mg "_law_pick" s__law_pick
  d__law_alike : Def K mg "_law_alike" s__law_alike
  d__law_long : Def K mg "_law_long" s__law_long
  d__law_area : Def K mg "_law_area" s__law_area
  d__law_free : Def K mg "_law_free" s__law_free
  d__law_drawn_panel : Def K mg "_law_drawn_panel" s__law_drawn_panel
  d__law_sail : Def K mg "_law_sail" s__law_sail
  d__law_shuffled : Def K mg "_law_shuffled" s__law_shuffled
  d__law_joins : Def K mg "_law_joins" s__law_joins
  d__law_orders : Def K mg "_law_orders" s__law_orders
  d__law_colours : Def K mg "_law_colours" s__law_colours
  d__law_refused : Def K mg "_law_refused" s__law_refused
  k_Sail : DefK K mg "Sail" CS "Sail.__init__" s_Sail___init__
  m___eq__ : DefM K CS "__eq__" "Sail.__eq__" s_Sail___eq__
  m_beside : DefM K CS "beside" "Sail.beside" s_Sail_beside
  m_reached : DefM K CS "reached" "Sail.reached" s_Sail_reached
  m_sides : DefM K CS "sides" "Sail.sides" s_Sail_sides
  m_near_corners : DefM K CS "near_corners" "Sail.near_corners" s_Sail_near_corners
  m_point_of : DefM K CS "point_of" "Sail.point_of" s_Sail_point_of
  a_sewn : NoAttr K CS "sewn"
  a_panels : NoAttr K CS "panels"
  a_seams : NoAttr K CS "seams"
  b_isinstance : mg "isinstance" = none
  b_len : mg "len" = none
  b_all : mg "all" = none
  b_any : mg "any" = none
  b_enumerate : mg "enumerate" = none
  b_range : mg "range" = none
  b_int : mg "int" = none
  b_bool : mg "bool" = none
  b_str : mg "str" = none
  b_list : mg "list" = none
  b_tuple : mg "tuple" = none
  b_dict : mg "dict" = none
  b_repr : mg "repr" = none
  b_max : mg "max" = none
  b_min : mg "min" = none
  b_sum : mg "sum" = none
  b_sorted : mg "sorted" = none
  k_MOST_PLACE : ∃ t, mg "MOST_PLACE" = some (.int 100 t)
  k_MOST_PANELS : ∃ t, mg "MOST_PANELS" = some (.int 12 t)
  k_MOST_SEAMS : ∃ t, mg "MOST_SEAMS" = some (.int 18 t)
  e_BadPanels : ErrC K mg "BadPanels" C1 fI
  e_BadSeams : ErrC K mg "BadSeams" C2 fI
  e_BadSeamOrder : ErrC K mg "BadSeamOrder" C3 fI
  ini : IniF P w K mg base fI
  told1 : Told K C1 "panels" [(C1, "panels"), (C2, "seams"), (C3, "order")]
  told2 : Told K C2 "seams" [(C1, "panels"), (C2, "seams"), (C3, "order")]
  told3 : Told K C3 "order" [(C1, "panels"), (C2, "seams"), (C3, "order")]
section
variable {P : Program} {w : World} {K : PySem.W.Frag} {mg : Str → Option Value} {base : Heap} {C1 C2 C3 fI CS : Addr} (T : Tx P w K mg base C1 C2 C3 fI CS)
include T
/-! ### basics -/
def isInt : D → Bool
  | .int _ => true
  | _ => false
theorem c_is_integer : Cal P w K mg base 1 "is_integer" ["thing"] (spI K fx0 (fun d : D => [.dat d]) (fun _ => True) (fun d => Eq (.ok (.dat (.bool (isInt d)))))) := by
  refine mk_cal T.d_is_integer sc_is_integer (fun _ => rfl) (fun _ _ _ _ _ _ us hl => match us, hl with | [_], _ => rfl) (fun f cdv A outer s H E hr d _ => ⟨_, (pss_one (ps_ret (pe_and (pe_callB (r := rIsY K) call_isY (by rfl) T.b_isinstance (by decide +kernel) (pa_cons (pv 0) (pa_cons (pe_bltn (v := .ty "int") (u := .type "int") (by rfl) T.b_int (by decide +kernel) rfl) pa_nil))) (pe_one (pe_not (pe_callB (r := rIsY K) call_isY (by rfl) T.b_isinstance (by decide +kernel) (pa_cons (pv 0) (pa_cons (pe_bltn (v := .ty "bool") (u := .type "bool") (by rfl) T.b_bool (by decide +kernel) rfl) pa_nil)))))))), fun G => ?_⟩)
  cases d <;> exact xc_ret (ev_andV (ev_isInt (ev_var rfl)) fun _ => ev_notV (ev_isBool (ev_var rfl))) rfl
def isWithin (lo hi : Int) : D → Bool
  | .int i => decide (lo ≤ i) && decide (i ≤ hi)
  | _ => false
theorem c_is_within : Cal P w K mg base 2 "is_within" ["thing", "least", "most"] (spI K fx0 (fun i : D × Int × Int => [.dat i.1, .dat (.int i.2.1), .dat (.int i.2.2)]) (fun _ => True) (fun i => Eq (.ok (.dat (.bool (isWithin i.2.1 i.2.2 i.1)))))) := by
  have c_is_integer := c_is_integer T
  refine mk_cal T.d_is_within sc_is_within (fun _ => rfl) (fun _ _ _ _ _ _ us hl => match us, hl with | [_, _, _], _ => rfl) (fun f cdv A outer s H E hr i _ => ⟨_, (pss_one (ps_ret (pe_and (pe_cal c_is_integer (hr.mono (by first | decide | omega)) rfl (pa_cons (pv 0) pa_nil)) (pe_one (pe_chain op_le op_le (pv 1) (pv 0) (pv 2)))))), fun G => ?_⟩)
  obtain ⟨d, lo, hi⟩ := i
  cases d with
  | int n => exact xc_retB (ev_andV (ev_callE (PyData.int n) (ea_cons (ev_var rfl) ea_nil) True.intro) fun _ => ev_chain (ev_var rfl) (ev_var rfl) fun _ => ev_var rfl) rfl
  | none => exact xc_retB (ev_andV (b := false) (ev_callE PyData.none (ea_cons (ev_var rfl) ea_nil) True.intro) fun z => by cases z) rfl
  | bool b => exact xc_retB (ev_andV (b := false) (ev_callE (PyData.bool b) (ea_cons (ev_var rfl) ea_nil) True.intro) fun z => by cases z) rfl
  | str b => exact xc_retB (ev_andV (b := false) (ev_callE (PyData.str b) (ea_cons (ev_var rfl) ea_nil) True.intro) fun z => by cases z) rfl
  | list b => exact xc_retB (ev_andV (b := false) (ev_callE (PyData.list b) (ea_cons (ev_var rfl) ea_nil) True.intro) fun z => by cases z) rfl
  | tuple b => exact xc_retB (ev_andV (b := false) (ev_callE (PyData.tuple b) (ea_cons (ev_var rfl) ea_nil) True.intro) fun z => by cases z) rfl
  | dict b => exact xc_retB (ev_andV (b := false) (ev_callE (PyData.dict b) (ea_cons (ev_var rfl) ea_nil) True.intro) fun z => by cases z) rfl
theorem c_is_row : Cal P w K mg base 1 "is_row" ["thing"] (spI K fx0 (fun d : D => [.dat d]) (fun _ => True) (fun d => Eq (.ok (.dat (.bool (dList d || dTuple d)))))) := by
  refine mk_cal T.d_is_row sc_is_row (fun _ => rfl) (fun _ _ _ _ _ _ us hl => match us, hl with | [_], _ => rfl) (fun f cdv A outer s H E hr d _ => ⟨_, (pss_one (ps_ret (pe_callB (r := rIsYT K) call_isYT (by rfl) T.b_isinstance (by decide +kernel) (pa_cons (pv 0) (pa_cons (pe_tup (pa_cons (pe_bltn (v := .ty "list") (u := .type "list") (by rfl) T.b_list (by decide +kernel) rfl) (pa_cons (pe_bltn (v := .ty "tuple") (u := .type "tuple") (by rfl) T.b_tuple (by decide +kernel) rfl) pa_nil))) pa_nil))))), fun G => ?_⟩)
  exact xc_retB (ev_isLT (ev_var rfl)) rfl

def isTupOf (n : Int) : D → Bool
  | .tuple ds => decide ((ds.length : Int) = n)
  | _ => false
theorem c_is_tuple_of : Cal P w K mg base 1 "is_tuple_of" ["thing", "many"] (spI K fx0 (fun i : D × Int => [.dat i.1, .dat (.int i.2)]) (fun _ => True) (fun i => Eq (.ok (.dat (.bool (isTupOf i.2 i.1)))))) := by
  refine mk_cal T.d_is_tuple_of sc_is_tuple_of (fun _ => rfl) (fun _ _ _ _ _ _ us hl => match us, hl with | [_, _], _ => rfl) (fun f cdv A outer s H E hr i _ => ⟨_, (pss_one (ps_ret (pe_and (pe_callB (r := rIsY K) call_isY (by rfl) T.b_isinstance (by decide +kernel) (pa_cons (pv 0) (pa_cons (pe_bltn (v := .ty "tuple") (u := .type "tuple") (by rfl) T.b_tuple (by decide +kernel) rfl) pa_nil))) (pe_one (pe_cmpR (r := rEqD K) (op_eqD (u64 hr)) (pe_callB (r := fun xs H Q => ∃ p ys, xs = [.ref p] ∧ (SqL K H p ys ∨ SqT K H p ys) ∧ Q (.int ys.length) H) call_len_seq (by rfl) T.b_len (by decide +kernel) (pa_cons (pv 0) pa_nil)) (pv 1) (nomark _)))))), fun G => ?_⟩)
  obtain ⟨d, n⟩ := i
  cases d with
  | tuple ds => exact xc_retB (ev_andV (ev_isTuple (d := PyData.tuple ds) (ev_var rfl)) fun _ => ev_eqI (ev_lenU (ds := ds) (eu_of (ev_var rfl))) (ev_var (d := PyData.int n) rfl)) rfl
  | none => exact xc_retB (ev_andV (b := false) (ev_isTuple (d := PyData.none) (ev_var rfl)) fun z => by cases z) rfl
  | bool b => exact xc_retB (ev_andV (b := false) (ev_isTuple (d := PyData.bool b) (ev_var rfl)) fun z => by cases z) rfl
  | int b => exact xc_retB (ev_andV (b := false) (ev_isTuple (d := PyData.int b) (ev_var rfl)) fun z => by cases z) rfl
  | str b => exact xc_retB (ev_andV (b := false) (ev_isTuple (d := PyData.str b) (ev_var rfl)) fun z => by cases z) rfl
  | list b => exact xc_retB (ev_andV (b := false) (ev_isTuple (d := PyData.list b) (ev_var rfl)) fun z => by cases z) rfl
  | dict b => exact xc_retB (ev_andV (b := false) (ev_isTuple (d := PyData.dict b) (ev_var rfl)) fun z => by cases z) rfl

theorem c__law_taken : Cal P w K mg base 1 "_law_taken" ["row", "many"] (spTaken K) := by
  refine mk_calR T.d__law_taken sc__law_taken (fun vs H Q E h => ?_) (fun _ _ _ _ _ _ us hl => match us, hl with | [_, _], _ => rfl) (fun f cdv A outer s H E vs Q hr h => ⟨_, (pss_cons (ps_if (pt_cmpR op_gt (pe_ix (r := rIxL K) ix_list (pv 0) pe_int (fun _ _ => rfl)) pe_int (nomark _)) (pss_cons (ps_set (i := 2) sc__law_taken.nd rfl (Or.inl rfl) (pe_op op_mod (pe_callTy (T := "int") call_int1 (by rfl) T.b_int (by decide +kernel) (pa_cons (pe_ix (r := rIxL K) ix_list (pv 0) pe_int (fun _ _ => rfl)) pa_nil)) (pv 1)))
      (pss_cons (ps_asg (pe_op op_fdiv (pe_ix (r := rIxL K) ix_list (pv 0) pe_int (fun _ _ => rfl)) (pv 1)) (pg_sub (pv 0) pe_int set_list))
      (pss_one (ps_ret (pv 2))))) pss_nil)
      (pss_cons (ps_asg (pe_op op_add (pe_ix (r := rIxL K) ix_list (pv 0) pe_int (fun _ _ => rfl)) pe_int) (pg_sub (pv 0) pe_int set_list))
      (pss_cons (ps_if (pt_cmpR op_gt (pe_ix (r := rIxL K) ix_list (pv 0) pe_int (fun _ _ => rfl)) (pe_callB (r := fun xs H Q => ∃ p ys, xs = [.ref p] ∧ (SqL K H p ys ∨ SqT K H p ys) ∧ Q (.int ys.length) H) call_len_seq (by rfl) T.b_len (by decide +kernel) (pa_cons (pe_ix (r := rIxL K) ix_list (pv 0) pe_int (fun _ _ => rfl)) pa_nil)) (nomark _)) (pss_cons (ps_asg (pe_op op_mod (pe_callTy (T := "int") call_int1 (by rfl) T.b_int (by decide +kernel) (pa_cons (pe_op op_add (pe_op op_mul (pe_ix (r := rIxL K) ix_list (pv 0) pe_int (fun _ _ => rfl)) pe_int) pe_int) pa_nil)) pe_int) (pg_sub (pv 0) pe_int set_list))
      (pss_one (ps_ret (pe_op op_mod (pe_callTy (T := "int") call_int1 (by rfl) T.b_int (by decide +kernel) (pa_cons (pe_op op_fdiv (pe_ix (r := rIxL K) ix_list (pv 0) pe_int (fun _ _ => rfl)) pe_int) pa_nil)) (pv 1))))) pss_nil)
      (pss_cons (ps_set (i := 3) sc__law_taken.nd rfl (Or.inl rfl) (pe_ix (r := rIxL K) ix_list (pe_ix (r := rIxL K) ix_list (pv 0) pe_int (fun _ _ => rfl)) (pe_op op_sub (pe_ix (r := rIxL K) ix_list (pv 0) pe_int (fun _ _ => rfl)) pe_int) (fun _ _ => rfl)))
      (pss_cons (ps_asg (pe_op op_mod (pe_callTy (T := "int") call_int1 (by rfl) T.b_int (by decide +kernel) (pa_cons (pe_op op_add (pe_op op_add (pe_op op_mul (pe_ix (r := rIxL K) ix_list (pv 0) pe_int (fun _ _ => rfl)) pe_int) (pv 3)) pe_int) pa_nil)) pe_int) (pg_sub (pv 0) pe_int set_list))
      (pss_cons (ps_if (pt_cmpR op_ge (pv 3) (pe_op op_pow pe_int pe_int) (nomark _)) (pss_one (ps_asg (pe_op op_fdiv (pv 3) (pv 1)) (pg_sub (pv 0) pe_int set_list))) pss_nil)
      (pss_one (ps_ret (pe_op op_mod (pe_callTy (T := "int") call_int1 (by rfl) T.b_int (by decide +kernel) (pa_cons (pv 3) pa_nil)) (pv 1)))))))))), ?_⟩)
  · obtain ⟨r, sc, ns, many, p, m, c, rfl, _⟩ := h
    rfl
  obtain ⟨r, sc, ns, many, p, m, c, rfl, h0, h1, p0, m0, m1, hr, hs, hso, q⟩ := h
  have mm : ∀ k : Int, 0 ≤ k % 2147483647 ∧ k % 2147483647 < 2147483648 := fun k => by omega
  refine gs_when (gt_test (gv_C0 (gv_ix (gv_var rfl) gv_int (SqL.of hr) rfl) gv_int)) (fun _ => ?_) fun _ => ?_
  · refine gs_asg (gv_IC (gv_toInt (gv_ix (gv_var rfl) gv_int (SqL.of hr) rfl)) (gv_var rfl) h0) ?_
    refine gs_put (gv_IC (gv_ix (gv_var rfl) gv_int (SqL.of hr) rfl) (gv_var rfl) ⟨h0, h1⟩) rfl hr rfl ?_
    exact gs_ret (gv_var rfl) (q _ p m _ (Int.emod_nonneg _ (by omega)) (Int.emod_lt_of_pos _ h0) p0 m0 m1)
  refine gs_put (gv_I0 (gv_ix (gv_var rfl) gv_int (SqL.of hr) rfl) gv_int) rfl hr rfl ?_
  change tSeq _ _ _ _ (upd H r (rowHO sc (p + 1) m c))
  have hr1 : upd H r (rowHO sc (p + 1) m c) r = some (.lst [.ref sc, .int (p + 1), .int m, .int c]) := upd_same
  have hs1 : SqL K (upd H r (rowHO sc (p + 1) m c)) sc (ns.map V.int) := hso _
  refine gs_when (gt_test (gv_C0 (gv_ix (gv_var rfl) gv_int (SqL.of hr1) rfl) (gv_len (gv_ix (gv_var rfl) gv_int (SqL.of hr1) rfl) hs1))) (fun _ => ?_) fun z => ?_
  · refine gs_put (gv_IC (gv_toInt (gv_I0 (gv_IC (gv_ix (gv_var rfl) gv_int (SqL.of hr1) rfl) gv_int (.inl ⟨by omega, by omega⟩)) gv_int)) gv_int (by omega)) rfl hr1 rfl ?_
    rw [upd_twice]
    have hr2 : upd H r (rowHO sc (p + 1) ((m * 48271 + 11) % 2147483647) c) r = some (.lst [.ref sc, .int (p + 1), .int ((m * 48271 + 11) % 2147483647), .int c]) := upd_same
    refine gs_ret (gv_IC (gv_toInt (gv_IC (gv_ix (gv_var rfl) gv_int (SqL.of hr2) rfl) gv_int ⟨by omega, by omega⟩)) (gv_var rfl) h0) ?_
    exact q _ _ _ _ (Int.emod_nonneg _ (by omega)) (Int.emod_lt_of_pos _ h0) (by omega) (mm _).1 (mm _).2
  · have zl : ¬ (p + 1 > ((ns.map V.int).length : Int)) := of_decide_eq_false z
    rw [List.length_map] at zl
    obtain ⟨i, rfl⟩ : ∃ i : Nat, p = i := ⟨p.toNat, by omega⟩
    have hi : i < ns.length := by omega
    have hv : atI (ns.map V.int) ((i : Int) + 1 - 1) = some (.int ns[i]) := by
      unfold atI ixN
      rw [if_pos (by omega), if_pos (by rw [List.length_map]; omega), show ((i : Int) + 1 - 1).toNat = i by omega]
      simp [hi]
    refine gs_asg (gv_ix (gv_ix (gv_var rfl) gv_int (SqL.of hr1) rfl) (gv_I0 (gv_ix (gv_var rfl) gv_int (SqL.of hr1) rfl) gv_int) hs1 hv) ?_
    refine gs_put (gv_IC (gv_toInt (gv_I0 (gv_I0 (gv_IC (gv_ix (gv_var rfl) gv_int (SqL.of hr1) rfl) gv_int (.inl ⟨by omega, by omega⟩)) (gv_var rfl)) gv_int)) gv_int (by omega)) rfl hr1 rfl ?_
    rw [upd_twice]
    have hr2 : upd H r (rowHO sc ((i : Int) + 1) ((m * 48271 + ns[i] + 11) % 2147483647) c) r = some (.lst [.ref sc, .int ((i : Int) + 1), .int ((m * 48271 + ns[i] + 11) % 2147483647), .int c]) := upd_same
    refine gs_if (gt_test (gv_C0 (gv_var rfl) (gv_IC gv_int gv_int ⟨by omega, by omega, by decide⟩))) (fun _ => ?_) fun _ => ?_
    · refine gs_put1 (gv_IC (gv_var rfl) (gv_var rfl) ⟨h0, h1⟩) rfl hr2 rfl ?_
      dsimp only
      rw [upd_twice]
      exact gs_ret (gv_IC (gv_toInt (gv_var rfl)) (gv_var rfl) h0) (q _ _ _ _ (Int.emod_nonneg _ (by omega)) (Int.emod_lt_of_pos _ h0) (by omega) (mm _).1 (mm _).2)
    · unfold tNext
      dsimp only
      exact gs_ret (gv_IC (gv_toInt (gv_var rfl)) (gv_var rfl) h0) (q _ _ _ c (Int.emod_nonneg _ (by omega)) (Int.emod_lt_of_pos _ h0) (by omega) (mm _).1 (mm _).2)
theorem c__law_pick : Cal P w K mg base 2 "_law_pick" ["row", "some"] (spZ fun z : RowZ => spI K (rowFx K z) (fun ds : List D => [.raw (.ref z.r), .dat (.list ds)]) (fun ds => ds ≠ [] ∧ ds.length < 1073741824) (fun ds r => ∃ d, d ∈ ds ∧ r = .ok (.dat d))) := by
  have c__law_taken := c__law_taken T
  refine mk_calZ T.d__law_pick sc__law_pick (fun _ _ => rfl) (fun _ _ _ _ _ _ us hl => match us, hl with | [_, _], _ => rfl) (fun z f cdv A outer s H E hr ds hp => ⟨_, (pss_one (ps_ret (pe_ix (r := rIxL K) ix_list (pv 1) (pe_cal c__law_taken (hr.mono (by first | decide | omega)) rfl (pa_cons (pv 0) (pa_cons (pe_callB (r := fun xs H Q => ∃ p ys, xs = [.ref p] ∧ (SqL K H p ys ∨ SqT K H p ys) ∧ Q (.int ys.length) H) call_len_seq (by rfl) T.b_len (by decide +kernel) (pa_cons (pv 1) pa_nil)) pa_nil))) (fun _ _ => rfl)))), fun G => ?_⟩)
  obtain ⟨h0, h1⟩ := hp
  have hl : 0 < ds.length := List.length_pos_iff.mpr h0
  refine xc_retP (ev_ixLI (S := ⟨K, rowFx K z, G, H, E⟩) (el_of (ev_var rfl)) (ev_taken (ev_varR rfl) (ev_lenL (ds := ds) (el_of (ev_var rfl))) (by omega) (by omega)) (P := fun d => d ∈ ds) fun i hi => ?_) fun s ⟨d, e, hd⟩ => ⟨d, hd, by rw [e]⟩
  obtain ⟨n, rfl⟩ : ∃ n : Nat, i = n := ⟨i.toNat, by omega⟩
  have hn : n < ds.length := by omega
  refine ⟨ds[n], ?_, List.getElem_mem hn⟩
  unfold atI ixN
  rw [if_pos (by omega), if_pos (by omega), show ((n : Int)).toNat = n by omega]
  simp [hn]
omit T in
theorem fm_none (l : List D) : l.filterMap (fun _ => (none : Option D)) = [] := by
  induction l with
  | nil => rfl
  | cons a l ih => rw [List.filterMap_cons, ih]
omit T in
theorem at_rng {ds : List D} {n : Nat} {d : D} (hn : n = ds.length) (h : d ∈ rngD 0 n) : ∃ i x, d = .int i ∧ atI ds i = some x ∧ x ∈ ds := by
  obtain ⟨i, hi⟩ := List.getElem?_of_mem h
  obtain ⟨h1, h2⟩ := rngD_get hi
  have hl : i < ds.length := by omega
  refine ⟨_, ds[i], h2, ?_, List.getElem_mem hl⟩
  unfold atI ixN
  rw [if_pos (by omega), if_pos (by omega), show ((0 : Int) + (i : Int)).toNat = i by omega]
  simp [hl]
omit T in
theorem eqv_b (b c : Bool) : PyData.eqv (.bool b) (.bool c) = (b == c) := by
  cases b <;> cases c <;> kernel_rfl
omit T in
theorem eqv_s (x : Str) : PyData.eqv (.str x) (.str x) = true := by
  simp [PyData.eqv]
theorem c__law_alike : ∀ n, Cal P w K mg base (n + 1) "_law_alike" ["found", "due"] (spI K fx0 (fun d : D => [.dat d, .dat d]) (fun d => FlP n d) (fun d => Eq (.ok (.dat (.bool true))))) := by
  intro n
  induction n with
  | zero => exact mk_cal T.d__law_alike sc__law_alike (fun _ => rfl) (fun _ _ _ _ _ _ us hl => match us, hl with | [_, _], _ => rfl) (fun f cdv A outer s H E hr d hp => hp.elim)
  | succ n c__law_alike =>
    refine mk_cal T.d__law_alike sc__law_alike (fun _ => rfl) (fun _ _ _ _ _ _ us hl => match us, hl with | [_, _], _ => rfl) (fun f cdv A outer s H E hr d hp => ?_)
    cases d with
    | list ds =>
      refine ⟨_, (pss_cons (ps_if (pt_val (pe_callB (r := rIsYT K) call_isYT (by rfl) T.b_isinstance (by decide +kernel) (pa_cons (pv 1) (pa_cons (pe_tup (pa_cons (pe_bltn (v := .ty "tuple") (u := .type "tuple") (by rfl) T.b_tuple (by decide +kernel) rfl) (pa_cons (pe_bltn (v := .ty "list") (u := .type "list") (by rfl) T.b_list (by decide +kernel) rfl) pa_nil))) pa_nil)))) (pss_cons (ps_if (PW.pt (pw_or (pt_not (pt_val (pe_callB (r := rIsYT K) call_isYT (by rfl) T.b_isinstance (by decide +kernel) (pa_cons (pv 0) (pa_cons (pe_tup (pa_cons (pe_bltn (v := .ty "tuple") (u := .type "tuple") (by rfl) T.b_tuple (by decide +kernel) rfl) (pa_cons (pe_bltn (v := .ty "list") (u := .type "list") (by rfl) T.b_list (by decide +kernel) rfl) pa_nil))) pa_nil))))) (pw_or1 (pt_cmpR (r := rNeD K) (op_neD (u64 hr)) (pe_callB (r := rIsY K) call_isY (by rfl) T.b_isinstance (by decide +kernel) (pa_cons (pv 0) (pa_cons (pe_bltn (v := .ty "list") (u := .type "list") (by rfl) T.b_list (by decide +kernel) rfl) pa_nil))) (pe_callB (r := rIsY K) call_isY (by rfl) T.b_isinstance (by decide +kernel) (pa_cons (pv 1) (pa_cons (pe_bltn (v := .ty "list") (u := .type "list") (by rfl) T.b_list (by decide +kernel) rfl) pa_nil))) (nomark _))))) (pss_one (ps_ret pe_bl)) pss_nil)
      (pss_cons (ps_if (pt_cmpR (r := rNeD K) (op_neD (u64 hr)) (pe_callB (r := fun xs H Q => ∃ p ys, xs = [.ref p] ∧ (SqL K H p ys ∨ SqT K H p ys) ∧ Q (.int ys.length) H) call_len_seq (by rfl) T.b_len (by decide +kernel) (pa_cons (pv 0) pa_nil)) (pe_callB (r := fun xs H Q => ∃ p ys, xs = [.ref p] ∧ (SqL K H p ys ∨ SqT K H p ys) ∧ Q (.int ys.length) H) call_len_seq (by rfl) T.b_len (by decide +kernel) (pa_cons (pv 1) pa_nil)) (nomark _)) (pss_one (ps_ret pe_bl)) pss_nil)
      (pss_one (ps_ret (pe_cmpR (r := rEqD K) (op_eqD (u64 hr)) (pe_lc (own := [("k", 2)]) (by rfl) sc__law_alike.nd (pi_range1 (by rfl) T.b_range (pa_cons (pe_callB (r := fun xs H Q => ∃ p ys, xs = [.ref p] ∧ (SqL K H p ys ∨ SqT K H p ys) ∧ Q (.int ys.length) H) call_len_seq (by rfl) T.b_len (by decide +kernel) (pa_cons (pv 1) pa_nil)) pa_nil)) (blkOk_by (N := ["found", "due", "k", "key"]) (sc := defScope s__law_alike) (own := [("k", 2)]) (by decide +kernel)) (fun _ _ _ _ _ => (pg_name (i := 2) sc__law_alike.nd rfl (by first | exact Or.inl rfl | exact Or.inr rfl))) (fun _ _ _ _ _ => (pts_one (pt_not (pt_val (pe_cal c__law_alike hr rfl (pa_cons (pe_ix (r := rIxL K) ix_list (pv 0) (pv 2) (fun _ _ => rfl)) (pa_cons (pe_ix (r := rIxL K) ix_list (pv 1) (pv 2) (fun _ _ => rfl)) pa_nil))))))) (fun _ _ _ _ _ => (pv 2))) (pe_lst pa_nil) (nomark _)))))) pss_nil)
      (pss_cons (ps_if (pt_val (pe_callB (r := rIsY K) call_isY (by rfl) T.b_isinstance (by decide +kernel) (pa_cons (pv 1) (pa_cons (pe_bltn (v := .ty "dict") (u := .type "dict") (by rfl) T.b_dict (by decide +kernel) rfl) pa_nil)))) (pss_cons (ps_if (PW.pt (pw_or (pt_not (pt_val (pe_callB (r := rIsY K) call_isY (by rfl) T.b_isinstance (by decide +kernel) (pa_cons (pv 0) (pa_cons (pe_bltn (v := .ty "dict") (u := .type "dict") (by rfl) T.b_dict (by decide +kernel) rfl) pa_nil))))) (pw_or1 (pt_cmpR (r := rNeD K) (op_neD (u64 hr)) (pe_callTy (T := "list") (r := fun xs H Q => ∃ p ys, xs = [.ref p] ∧ (SqL K H p ys ∨ SqT K H p ys) ∧ ∀ l, H l = none → Q (.ref l) (upd H l (.lst ys))) call_list_of (by rfl) T.b_list (by decide +kernel) (pa_cons (pv 0) pa_nil)) (pe_callTy (T := "list") (r := fun xs H Q => ∃ p ys, xs = [.ref p] ∧ (SqL K H p ys ∨ SqT K H p ys) ∧ ∀ l, H l = none → Q (.ref l) (upd H l (.lst ys))) call_list_of (by rfl) T.b_list (by decide +kernel) (pa_cons (pv 1) pa_nil)) (nomark _))))) (pss_one (ps_ret pe_bl)) pss_nil)
      (pss_one (ps_ret (pe_cmpR (r := rEqD K) (op_eqD (u64 hr)) (pe_lc (own := [("key", 3)]) (by rfl) sc__law_alike.nd (pi_list (pv 1)) (blkOk_by (N := ["found", "due", "k", "key"]) (sc := defScope s__law_alike) (own := [("key", 3)]) (by decide +kernel)) (fun _ _ _ _ _ => (pg_name (i := 3) sc__law_alike.nd rfl (by first | exact Or.inl rfl | exact Or.inr rfl))) (fun _ _ _ _ _ => (pts_one (pt_not (pt_val (pe_cal c__law_alike hr rfl (pa_cons (pe_ix (r := rIxL K) ix_list (pv 0) (pv 3) (fun _ _ => rfl)) (pa_cons (pe_ix (r := rIxL K) ix_list (pv 1) (pv 3) (fun _ _ => rfl)) pa_nil))))))) (fun _ _ _ _ _ => (pv 3))) (pe_lst pa_nil) (nomark _))))) pss_nil)
      (pss_cons (ps_if (PW.pt (pw_or (pt_cmpR op_isN (pv 1) pe_non (nomark _)) (pw_or1 (pt_val (pe_callB (r := rIsY K) call_isY (by rfl) T.b_isinstance (by decide +kernel) (pa_cons (pv 1) (pa_cons (pe_bltn (v := .ty "str") (u := .type "str") (by rfl) T.b_str (by decide +kernel) rfl) pa_nil))))))) (pss_one (ps_ret (pe_and (pe_cmpR (r := rEqD K) (op_eqD (u64 hr)) (pv 0) (pv 1) (nomark _)) (pe_one (pe_cmpR (r := rEqD K) (op_eqD (u64 hr)) (pe_callB (r := rIsY K) call_isY (by rfl) T.b_isinstance (by decide +kernel) (pa_cons (pv 0) (pa_cons (pe_bltn (v := .ty "str") (u := .type "str") (by rfl) T.b_str (by decide +kernel) rfl) pa_nil))) (pe_callB (r := rIsY K) call_isY (by rfl) T.b_isinstance (by decide +kernel) (pa_cons (pv 1) (pa_cons (pe_bltn (v := .ty "str") (u := .type "str") (by rfl) T.b_str (by decide +kernel) rfl) pa_nil))) (nomark _)))))) pss_nil)
      (pss_one (ps_ret (pe_and (pe_callB (r := rIsY K) call_isY (by rfl) T.b_isinstance (by decide +kernel) (pa_cons (pv 0) (pa_cons (pe_bltn (v := .ty "int") (u := .type "int") (by rfl) T.b_int (by decide +kernel) rfl) pa_nil))) (pe_and (pe_cmpR (r := rEqD K) (op_eqD (u64 hr)) (pe_callB (r := rIsY K) call_isY (by rfl) T.b_isinstance (by decide +kernel) (pa_cons (pv 0) (pa_cons (pe_bltn (v := .ty "bool") (u := .type "bool") (by rfl) T.b_bool (by decide +kernel) rfl) pa_nil))) (pe_callB (r := rIsY K) call_isY (by rfl) T.b_isinstance (by decide +kernel) (pa_cons (pv 1) (pa_cons (pe_bltn (v := .ty "bool") (u := .type "bool") (by rfl) T.b_bool (by decide +kernel) rfl) pa_nil))) (nomark _)) (pe_one (pe_cmpR (r := rEqD K) (op_eqD (u64 hr)) (pv 0) (pv 1) (nomark _)))))))))), fun G => ?_⟩
      obtain ⟨hl, hd⟩ := hp
      refine xs_when (S := ⟨K, fx0, G, H, E⟩) (et_B (ev_isTL (d := .list ds) (ev_var rfl))) (fun _ => ?_) fun z => by cases z
      refine xs_when (et_or (et_not (et_B (ev_isTL (d := .list ds) (ev_var rfl)))) fun _ => et_B (ev_neD (ev_isList (d := .list ds) (ev_var rfl)) (ev_isList (d := .list ds) (ev_var rfl)) rfl rfl)) (fun z => ?_) fun _ => ?_
      · rw [eqv_b] at z
        cases z
      refine xs_when (et_B (ev_neI (ev_lenL (ds := ds) (el_of (ev_var rfl))) (ev_lenL (ds := ds) (el_of (ev_var rfl))))) (fun z => ?_) fun _ => ?_
      · simp at z
      refine xs_ret (ev_eqD (d := .list ((rngD 0 ds.length).filterMap fun _ => none)) (d' := .list []) (ef_filterMap (im_rng1E (ev_lenL (ds := ds) (el_of (ev_var rfl))) (by omega)) (by rw [rngD_length]; exact hl) fun d hdm => ?_).evE ev_lst0 (by rw [fm_none]; rfl) rfl) (by rw [fm_none]; rfl)
      obtain ⟨i, x, rfl, hat, hx⟩ := at_rng rfl hdm
      exact ⟨[2], _, by simp, tg_name, et_is (et_not (et_B (ev_callE x (ea_cons (ev_ixL (el_of (ev_var rfl)) (ev_var rfl) hat) (ea_cons (ev_ixL (el_of (ev_var rfl)) (ev_var rfl) hat) ea_nil)) (hd x hx)))) rfl, fun y hy => by cases hy⟩
    | tuple ds =>
      refine ⟨_, (pss_cons (ps_if (pt_val (pe_callB (r := rIsYT K) call_isYT (by rfl) T.b_isinstance (by decide +kernel) (pa_cons (pv 1) (pa_cons (pe_tup (pa_cons (pe_bltn (v := .ty "tuple") (u := .type "tuple") (by rfl) T.b_tuple (by decide +kernel) rfl) (pa_cons (pe_bltn (v := .ty "list") (u := .type "list") (by rfl) T.b_list (by decide +kernel) rfl) pa_nil))) pa_nil)))) (pss_cons (ps_if (PW.pt (pw_or (pt_not (pt_val (pe_callB (r := rIsYT K) call_isYT (by rfl) T.b_isinstance (by decide +kernel) (pa_cons (pv 0) (pa_cons (pe_tup (pa_cons (pe_bltn (v := .ty "tuple") (u := .type "tuple") (by rfl) T.b_tuple (by decide +kernel) rfl) (pa_cons (pe_bltn (v := .ty "list") (u := .type "list") (by rfl) T.b_list (by decide +kernel) rfl) pa_nil))) pa_nil))))) (pw_or1 (pt_cmpR (r := rNeD K) (op_neD (u64 hr)) (pe_callB (r := rIsY K) call_isY (by rfl) T.b_isinstance (by decide +kernel) (pa_cons (pv 0) (pa_cons (pe_bltn (v := .ty "list") (u := .type "list") (by rfl) T.b_list (by decide +kernel) rfl) pa_nil))) (pe_callB (r := rIsY K) call_isY (by rfl) T.b_isinstance (by decide +kernel) (pa_cons (pv 1) (pa_cons (pe_bltn (v := .ty "list") (u := .type "list") (by rfl) T.b_list (by decide +kernel) rfl) pa_nil))) (nomark _))))) (pss_one (ps_ret pe_bl)) pss_nil)
      (pss_cons (ps_if (pt_cmpR (r := rNeD K) (op_neD (u64 hr)) (pe_callB (r := fun xs H Q => ∃ p ys, xs = [.ref p] ∧ (SqL K H p ys ∨ SqT K H p ys) ∧ Q (.int ys.length) H) call_len_seq (by rfl) T.b_len (by decide +kernel) (pa_cons (pv 0) pa_nil)) (pe_callB (r := fun xs H Q => ∃ p ys, xs = [.ref p] ∧ (SqL K H p ys ∨ SqT K H p ys) ∧ Q (.int ys.length) H) call_len_seq (by rfl) T.b_len (by decide +kernel) (pa_cons (pv 1) pa_nil)) (nomark _)) (pss_one (ps_ret pe_bl)) pss_nil)
      (pss_one (ps_ret (pe_cmpR (r := rEqD K) (op_eqD (u64 hr)) (pe_lc (own := [("k", 2)]) (by rfl) sc__law_alike.nd (pi_range1 (by rfl) T.b_range (pa_cons (pe_callB (r := fun xs H Q => ∃ p ys, xs = [.ref p] ∧ (SqL K H p ys ∨ SqT K H p ys) ∧ Q (.int ys.length) H) call_len_seq (by rfl) T.b_len (by decide +kernel) (pa_cons (pv 1) pa_nil)) pa_nil)) (blkOk_by (N := ["found", "due", "k", "key"]) (sc := defScope s__law_alike) (own := [("k", 2)]) (by decide +kernel)) (fun _ _ _ _ _ => (pg_name (i := 2) sc__law_alike.nd rfl (by first | exact Or.inl rfl | exact Or.inr rfl))) (fun _ _ _ _ _ => (pts_one (pt_not (pt_val (pe_cal c__law_alike hr rfl (pa_cons (pe_ix (r := rIxT K) ix_tup (pv 0) (pv 2) (fun _ _ => rfl)) (pa_cons (pe_ix (r := rIxT K) ix_tup (pv 1) (pv 2) (fun _ _ => rfl)) pa_nil))))))) (fun _ _ _ _ _ => (pv 2))) (pe_lst pa_nil) (nomark _)))))) pss_nil)
      (pss_cons (ps_if (pt_val (pe_callB (r := rIsY K) call_isY (by rfl) T.b_isinstance (by decide +kernel) (pa_cons (pv 1) (pa_cons (pe_bltn (v := .ty "dict") (u := .type "dict") (by rfl) T.b_dict (by decide +kernel) rfl) pa_nil)))) (pss_cons (ps_if (PW.pt (pw_or (pt_not (pt_val (pe_callB (r := rIsY K) call_isY (by rfl) T.b_isinstance (by decide +kernel) (pa_cons (pv 0) (pa_cons (pe_bltn (v := .ty "dict") (u := .type "dict") (by rfl) T.b_dict (by decide +kernel) rfl) pa_nil))))) (pw_or1 (pt_cmpR (r := rNeD K) (op_neD (u64 hr)) (pe_callTy (T := "list") (r := fun xs H Q => ∃ p ys, xs = [.ref p] ∧ (SqL K H p ys ∨ SqT K H p ys) ∧ ∀ l, H l = none → Q (.ref l) (upd H l (.lst ys))) call_list_of (by rfl) T.b_list (by decide +kernel) (pa_cons (pv 0) pa_nil)) (pe_callTy (T := "list") (r := fun xs H Q => ∃ p ys, xs = [.ref p] ∧ (SqL K H p ys ∨ SqT K H p ys) ∧ ∀ l, H l = none → Q (.ref l) (upd H l (.lst ys))) call_list_of (by rfl) T.b_list (by decide +kernel) (pa_cons (pv 1) pa_nil)) (nomark _))))) (pss_one (ps_ret pe_bl)) pss_nil)
      (pss_one (ps_ret (pe_cmpR (r := rEqD K) (op_eqD (u64 hr)) (pe_lc (own := [("key", 3)]) (by rfl) sc__law_alike.nd (pi_list (pv 1)) (blkOk_by (N := ["found", "due", "k", "key"]) (sc := defScope s__law_alike) (own := [("key", 3)]) (by decide +kernel)) (fun _ _ _ _ _ => (pg_name (i := 3) sc__law_alike.nd rfl (by first | exact Or.inl rfl | exact Or.inr rfl))) (fun _ _ _ _ _ => (pts_one (pt_not (pt_val (pe_cal c__law_alike hr rfl (pa_cons (pe_ix (r := rIxT K) ix_tup (pv 0) (pv 3) (fun _ _ => rfl)) (pa_cons (pe_ix (r := rIxT K) ix_tup (pv 1) (pv 3) (fun _ _ => rfl)) pa_nil))))))) (fun _ _ _ _ _ => (pv 3))) (pe_lst pa_nil) (nomark _))))) pss_nil)
      (pss_cons (ps_if (PW.pt (pw_or (pt_cmpR op_isN (pv 1) pe_non (nomark _)) (pw_or1 (pt_val (pe_callB (r := rIsY K) call_isY (by rfl) T.b_isinstance (by decide +kernel) (pa_cons (pv 1) (pa_cons (pe_bltn (v := .ty "str") (u := .type "str") (by rfl) T.b_str (by decide +kernel) rfl) pa_nil))))))) (pss_one (ps_ret (pe_and (pe_cmpR (r := rEqD K) (op_eqD (u64 hr)) (pv 0) (pv 1) (nomark _)) (pe_one (pe_cmpR (r := rEqD K) (op_eqD (u64 hr)) (pe_callB (r := rIsY K) call_isY (by rfl) T.b_isinstance (by decide +kernel) (pa_cons (pv 0) (pa_cons (pe_bltn (v := .ty "str") (u := .type "str") (by rfl) T.b_str (by decide +kernel) rfl) pa_nil))) (pe_callB (r := rIsY K) call_isY (by rfl) T.b_isinstance (by decide +kernel) (pa_cons (pv 1) (pa_cons (pe_bltn (v := .ty "str") (u := .type "str") (by rfl) T.b_str (by decide +kernel) rfl) pa_nil))) (nomark _)))))) pss_nil)
      (pss_one (ps_ret (pe_and (pe_callB (r := rIsY K) call_isY (by rfl) T.b_isinstance (by decide +kernel) (pa_cons (pv 0) (pa_cons (pe_bltn (v := .ty "int") (u := .type "int") (by rfl) T.b_int (by decide +kernel) rfl) pa_nil))) (pe_and (pe_cmpR (r := rEqD K) (op_eqD (u64 hr)) (pe_callB (r := rIsY K) call_isY (by rfl) T.b_isinstance (by decide +kernel) (pa_cons (pv 0) (pa_cons (pe_bltn (v := .ty "bool") (u := .type "bool") (by rfl) T.b_bool (by decide +kernel) rfl) pa_nil))) (pe_callB (r := rIsY K) call_isY (by rfl) T.b_isinstance (by decide +kernel) (pa_cons (pv 1) (pa_cons (pe_bltn (v := .ty "bool") (u := .type "bool") (by rfl) T.b_bool (by decide +kernel) rfl) pa_nil))) (nomark _)) (pe_one (pe_cmpR (r := rEqD K) (op_eqD (u64 hr)) (pv 0) (pv 1) (nomark _)))))))))), fun G => ?_⟩
      obtain ⟨hl, hd⟩ := hp
      refine xs_when (S := ⟨K, fx0, G, H, E⟩) (et_B (ev_isTL (d := .tuple ds) (ev_var rfl))) (fun _ => ?_) fun z => by cases z
      refine xs_when (et_or (et_not (et_B (ev_isTL (d := .tuple ds) (ev_var rfl)))) fun _ => et_B (ev_neD (ev_isList (d := .tuple ds) (ev_var rfl)) (ev_isList (d := .tuple ds) (ev_var rfl)) rfl rfl)) (fun z => ?_) fun _ => ?_
      · rw [eqv_b] at z
        cases z
      refine xs_when (et_B (ev_neI (ev_lenU (ds := ds) (eu_of (ev_var rfl))) (ev_lenU (ds := ds) (eu_of (ev_var rfl))))) (fun z => ?_) fun _ => ?_
      · simp at z
      refine xs_ret (ev_eqD (d := .list ((rngD 0 ds.length).filterMap fun _ => none)) (d' := .list []) (ef_filterMap (im_rng1E (ev_lenU (ds := ds) (eu_of (ev_var rfl))) (by omega)) (by rw [rngD_length]; exact hl) fun d hdm => ?_).evE ev_lst0 (by rw [fm_none]; rfl) rfl) (by rw [fm_none]; rfl)
      obtain ⟨i, x, rfl, hat, hx⟩ := at_rng rfl hdm
      exact ⟨[2], _, by simp, tg_name, et_is (et_not (et_B (ev_callE x (ea_cons (ev_ixT (eu_of (ev_var rfl)) (ev_var rfl) hat) (ea_cons (ev_ixT (eu_of (ev_var rfl)) (ev_var rfl) hat) ea_nil)) (hd x hx)))) rfl, fun y hy => by cases hy⟩
    | dict ds => exact hp.elim
    | none =>
      refine ⟨_, (pss_cons (ps_if (pt_val (pe_callB (r := rIsYT K) call_isYT (by rfl) T.b_isinstance (by decide +kernel) (pa_cons (pv 1) (pa_cons (pe_tup (pa_cons (pe_bltn (v := .ty "tuple") (u := .type "tuple") (by rfl) T.b_tuple (by decide +kernel) rfl) (pa_cons (pe_bltn (v := .ty "list") (u := .type "list") (by rfl) T.b_list (by decide +kernel) rfl) pa_nil))) pa_nil)))) (pss_cons (ps_if (PW.pt (pw_or (pt_not (pt_val (pe_callB (r := rIsYT K) call_isYT (by rfl) T.b_isinstance (by decide +kernel) (pa_cons (pv 0) (pa_cons (pe_tup (pa_cons (pe_bltn (v := .ty "tuple") (u := .type "tuple") (by rfl) T.b_tuple (by decide +kernel) rfl) (pa_cons (pe_bltn (v := .ty "list") (u := .type "list") (by rfl) T.b_list (by decide +kernel) rfl) pa_nil))) pa_nil))))) (pw_or1 (pt_cmpR (r := rNeD K) (op_neD (u64 hr)) (pe_callB (r := rIsY K) call_isY (by rfl) T.b_isinstance (by decide +kernel) (pa_cons (pv 0) (pa_cons (pe_bltn (v := .ty "list") (u := .type "list") (by rfl) T.b_list (by decide +kernel) rfl) pa_nil))) (pe_callB (r := rIsY K) call_isY (by rfl) T.b_isinstance (by decide +kernel) (pa_cons (pv 1) (pa_cons (pe_bltn (v := .ty "list") (u := .type "list") (by rfl) T.b_list (by decide +kernel) rfl) pa_nil))) (nomark _))))) (pss_one (ps_ret pe_bl)) pss_nil)
      (pss_cons (ps_if (pt_cmpR (r := rNeD K) (op_neD (u64 hr)) (pe_callB (r := fun xs H Q => ∃ p ys, xs = [.ref p] ∧ (SqL K H p ys ∨ SqT K H p ys) ∧ Q (.int ys.length) H) call_len_seq (by rfl) T.b_len (by decide +kernel) (pa_cons (pv 0) pa_nil)) (pe_callB (r := fun xs H Q => ∃ p ys, xs = [.ref p] ∧ (SqL K H p ys ∨ SqT K H p ys) ∧ Q (.int ys.length) H) call_len_seq (by rfl) T.b_len (by decide +kernel) (pa_cons (pv 1) pa_nil)) (nomark _)) (pss_one (ps_ret pe_bl)) pss_nil)
      (pss_one (ps_ret (pe_cmpR (r := rEqD K) (op_eqD (u64 hr)) (pe_lc (own := [("k", 2)]) (by rfl) sc__law_alike.nd (pi_range1 (by rfl) T.b_range (pa_cons (pe_callB (r := fun xs H Q => ∃ p ys, xs = [.ref p] ∧ (SqL K H p ys ∨ SqT K H p ys) ∧ Q (.int ys.length) H) call_len_seq (by rfl) T.b_len (by decide +kernel) (pa_cons (pv 1) pa_nil)) pa_nil)) (blkOk_by (N := ["found", "due", "k", "key"]) (sc := defScope s__law_alike) (own := [("k", 2)]) (by decide +kernel)) (fun _ _ _ _ _ => (pg_name (i := 2) sc__law_alike.nd rfl (by first | exact Or.inl rfl | exact Or.inr rfl))) (fun _ _ _ _ _ => (pts_one (pt_not (pt_val (pe_cal c__law_alike hr rfl (pa_cons (pe_ix (r := rIxT K) ix_tup (pv 0) (pv 2) (fun _ _ => rfl)) (pa_cons (pe_ix (r := rIxT K) ix_tup (pv 1) (pv 2) (fun _ _ => rfl)) pa_nil))))))) (fun _ _ _ _ _ => (pv 2))) (pe_lst pa_nil) (nomark _)))))) pss_nil)
      (pss_cons (ps_if (pt_val (pe_callB (r := rIsY K) call_isY (by rfl) T.b_isinstance (by decide +kernel) (pa_cons (pv 1) (pa_cons (pe_bltn (v := .ty "dict") (u := .type "dict") (by rfl) T.b_dict (by decide +kernel) rfl) pa_nil)))) (pss_cons (ps_if (PW.pt (pw_or (pt_not (pt_val (pe_callB (r := rIsY K) call_isY (by rfl) T.b_isinstance (by decide +kernel) (pa_cons (pv 0) (pa_cons (pe_bltn (v := .ty "dict") (u := .type "dict") (by rfl) T.b_dict (by decide +kernel) rfl) pa_nil))))) (pw_or1 (pt_cmpR (r := rNeD K) (op_neD (u64 hr)) (pe_callTy (T := "list") (r := fun xs H Q => ∃ p ys, xs = [.ref p] ∧ (SqL K H p ys ∨ SqT K H p ys) ∧ ∀ l, H l = none → Q (.ref l) (upd H l (.lst ys))) call_list_of (by rfl) T.b_list (by decide +kernel) (pa_cons (pv 0) pa_nil)) (pe_callTy (T := "list") (r := fun xs H Q => ∃ p ys, xs = [.ref p] ∧ (SqL K H p ys ∨ SqT K H p ys) ∧ ∀ l, H l = none → Q (.ref l) (upd H l (.lst ys))) call_list_of (by rfl) T.b_list (by decide +kernel) (pa_cons (pv 1) pa_nil)) (nomark _))))) (pss_one (ps_ret pe_bl)) pss_nil)
      (pss_one (ps_ret (pe_cmpR (r := rEqD K) (op_eqD (u64 hr)) (pe_lc (own := [("key", 3)]) (by rfl) sc__law_alike.nd (pi_list (pv 1)) (blkOk_by (N := ["found", "due", "k", "key"]) (sc := defScope s__law_alike) (own := [("key", 3)]) (by decide +kernel)) (fun _ _ _ _ _ => (pg_name (i := 3) sc__law_alike.nd rfl (by first | exact Or.inl rfl | exact Or.inr rfl))) (fun _ _ _ _ _ => (pts_one (pt_not (pt_val (pe_cal c__law_alike hr rfl (pa_cons (pe_ix (r := rIxT K) ix_tup (pv 0) (pv 3) (fun _ _ => rfl)) (pa_cons (pe_ix (r := rIxT K) ix_tup (pv 1) (pv 3) (fun _ _ => rfl)) pa_nil))))))) (fun _ _ _ _ _ => (pv 3))) (pe_lst pa_nil) (nomark _))))) pss_nil)
      (pss_cons (ps_if (PW.pt (pw_or (pt_cmpR op_isN (pv 1) pe_non (nomark _)) (pw_or1 (pt_val (pe_callB (r := rIsY K) call_isY (by rfl) T.b_isinstance (by decide +kernel) (pa_cons (pv 1) (pa_cons (pe_bltn (v := .ty "str") (u := .type "str") (by rfl) T.b_str (by decide +kernel) rfl) pa_nil))))))) (pss_one (ps_ret (pe_and (pe_cmpR (r := rEqD K) (op_eqD (u64 hr)) (pv 0) (pv 1) (nomark _)) (pe_one (pe_cmpR (r := rEqD K) (op_eqD (u64 hr)) (pe_callB (r := rIsY K) call_isY (by rfl) T.b_isinstance (by decide +kernel) (pa_cons (pv 0) (pa_cons (pe_bltn (v := .ty "str") (u := .type "str") (by rfl) T.b_str (by decide +kernel) rfl) pa_nil))) (pe_callB (r := rIsY K) call_isY (by rfl) T.b_isinstance (by decide +kernel) (pa_cons (pv 1) (pa_cons (pe_bltn (v := .ty "str") (u := .type "str") (by rfl) T.b_str (by decide +kernel) rfl) pa_nil))) (nomark _)))))) pss_nil)
      (pss_one (ps_ret (pe_and (pe_callB (r := rIsY K) call_isY (by rfl) T.b_isinstance (by decide +kernel) (pa_cons (pv 0) (pa_cons (pe_bltn (v := .ty "int") (u := .type "int") (by rfl) T.b_int (by decide +kernel) rfl) pa_nil))) (pe_and (pe_cmpR (r := rEqD K) (op_eqD (u64 hr)) (pe_callB (r := rIsY K) call_isY (by rfl) T.b_isinstance (by decide +kernel) (pa_cons (pv 0) (pa_cons (pe_bltn (v := .ty "bool") (u := .type "bool") (by rfl) T.b_bool (by decide +kernel) rfl) pa_nil))) (pe_callB (r := rIsY K) call_isY (by rfl) T.b_isinstance (by decide +kernel) (pa_cons (pv 1) (pa_cons (pe_bltn (v := .ty "bool") (u := .type "bool") (by rfl) T.b_bool (by decide +kernel) rfl) pa_nil))) (nomark _)) (pe_one (pe_cmpR (r := rEqD K) (op_eqD (u64 hr)) (pv 0) (pv 1) (nomark _)))))))))), fun G => ?_⟩
      refine xs_when (S := ⟨K, fx0, G, H, E⟩) (et_B (ev_isTL (d := .none) (ev_var rfl))) (fun z => by cases z) fun _ => ?_
      refine xs_when (et_B (ev_isDict (d := .none) (ev_var rfl))) (fun z => by cases z) fun _ => ?_
      refine xs_when (et_orT (et_B (ev_isN (d := .none) (ev_var rfl)))) (fun _ => ?_) fun z => by cases z
      exact xs_ret (ev_andV (ev_eqD (d := .none) (d' := .none) (ev_var rfl) (ev_var rfl) rfl rfl) fun _ => ev_eqD (ev_isStr (d := .none) (ev_var rfl)) (ev_isStr (d := .none) (ev_var rfl)) rfl rfl) rfl
    | str x =>
      refine ⟨_, (pss_cons (ps_if (pt_val (pe_callB (r := rIsYT K) call_isYT (by rfl) T.b_isinstance (by decide +kernel) (pa_cons (pv 1) (pa_cons (pe_tup (pa_cons (pe_bltn (v := .ty "tuple") (u := .type "tuple") (by rfl) T.b_tuple (by decide +kernel) rfl) (pa_cons (pe_bltn (v := .ty "list") (u := .type "list") (by rfl) T.b_list (by decide +kernel) rfl) pa_nil))) pa_nil)))) (pss_cons (ps_if (PW.pt (pw_or (pt_not (pt_val (pe_callB (r := rIsYT K) call_isYT (by rfl) T.b_isinstance (by decide +kernel) (pa_cons (pv 0) (pa_cons (pe_tup (pa_cons (pe_bltn (v := .ty "tuple") (u := .type "tuple") (by rfl) T.b_tuple (by decide +kernel) rfl) (pa_cons (pe_bltn (v := .ty "list") (u := .type "list") (by rfl) T.b_list (by decide +kernel) rfl) pa_nil))) pa_nil))))) (pw_or1 (pt_cmpR (r := rNeD K) (op_neD (u64 hr)) (pe_callB (r := rIsY K) call_isY (by rfl) T.b_isinstance (by decide +kernel) (pa_cons (pv 0) (pa_cons (pe_bltn (v := .ty "list") (u := .type "list") (by rfl) T.b_list (by decide +kernel) rfl) pa_nil))) (pe_callB (r := rIsY K) call_isY (by rfl) T.b_isinstance (by decide +kernel) (pa_cons (pv 1) (pa_cons (pe_bltn (v := .ty "list") (u := .type "list") (by rfl) T.b_list (by decide +kernel) rfl) pa_nil))) (nomark _))))) (pss_one (ps_ret pe_bl)) pss_nil)
      (pss_cons (ps_if (pt_cmpR (r := rNeD K) (op_neD (u64 hr)) (pe_callB (r := fun xs H Q => ∃ p ys, xs = [.ref p] ∧ (SqL K H p ys ∨ SqT K H p ys) ∧ Q (.int ys.length) H) call_len_seq (by rfl) T.b_len (by decide +kernel) (pa_cons (pv 0) pa_nil)) (pe_callB (r := fun xs H Q => ∃ p ys, xs = [.ref p] ∧ (SqL K H p ys ∨ SqT K H p ys) ∧ Q (.int ys.length) H) call_len_seq (by rfl) T.b_len (by decide +kernel) (pa_cons (pv 1) pa_nil)) (nomark _)) (pss_one (ps_ret pe_bl)) pss_nil)
      (pss_one (ps_ret (pe_cmpR (r := rEqD K) (op_eqD (u64 hr)) (pe_lc (own := [("k", 2)]) (by rfl) sc__law_alike.nd (pi_range1 (by rfl) T.b_range (pa_cons (pe_callB (r := fun xs H Q => ∃ p ys, xs = [.ref p] ∧ (SqL K H p ys ∨ SqT K H p ys) ∧ Q (.int ys.length) H) call_len_seq (by rfl) T.b_len (by decide +kernel) (pa_cons (pv 1) pa_nil)) pa_nil)) (blkOk_by (N := ["found", "due", "k", "key"]) (sc := defScope s__law_alike) (own := [("k", 2)]) (by decide +kernel)) (fun _ _ _ _ _ => (pg_name (i := 2) sc__law_alike.nd rfl (by first | exact Or.inl rfl | exact Or.inr rfl))) (fun _ _ _ _ _ => (pts_one (pt_not (pt_val (pe_cal c__law_alike hr rfl (pa_cons (pe_ix (r := rIxT K) ix_tup (pv 0) (pv 2) (fun _ _ => rfl)) (pa_cons (pe_ix (r := rIxT K) ix_tup (pv 1) (pv 2) (fun _ _ => rfl)) pa_nil))))))) (fun _ _ _ _ _ => (pv 2))) (pe_lst pa_nil) (nomark _)))))) pss_nil)
      (pss_cons (ps_if (pt_val (pe_callB (r := rIsY K) call_isY (by rfl) T.b_isinstance (by decide +kernel) (pa_cons (pv 1) (pa_cons (pe_bltn (v := .ty "dict") (u := .type "dict") (by rfl) T.b_dict (by decide +kernel) rfl) pa_nil)))) (pss_cons (ps_if (PW.pt (pw_or (pt_not (pt_val (pe_callB (r := rIsY K) call_isY (by rfl) T.b_isinstance (by decide +kernel) (pa_cons (pv 0) (pa_cons (pe_bltn (v := .ty "dict") (u := .type "dict") (by rfl) T.b_dict (by decide +kernel) rfl) pa_nil))))) (pw_or1 (pt_cmpR (r := rNeD K) (op_neD (u64 hr)) (pe_callTy (T := "list") (r := fun xs H Q => ∃ p ys, xs = [.ref p] ∧ (SqL K H p ys ∨ SqT K H p ys) ∧ ∀ l, H l = none → Q (.ref l) (upd H l (.lst ys))) call_list_of (by rfl) T.b_list (by decide +kernel) (pa_cons (pv 0) pa_nil)) (pe_callTy (T := "list") (r := fun xs H Q => ∃ p ys, xs = [.ref p] ∧ (SqL K H p ys ∨ SqT K H p ys) ∧ ∀ l, H l = none → Q (.ref l) (upd H l (.lst ys))) call_list_of (by rfl) T.b_list (by decide +kernel) (pa_cons (pv 1) pa_nil)) (nomark _))))) (pss_one (ps_ret pe_bl)) pss_nil)
      (pss_one (ps_ret (pe_cmpR (r := rEqD K) (op_eqD (u64 hr)) (pe_lc (own := [("key", 3)]) (by rfl) sc__law_alike.nd (pi_list (pv 1)) (blkOk_by (N := ["found", "due", "k", "key"]) (sc := defScope s__law_alike) (own := [("key", 3)]) (by decide +kernel)) (fun _ _ _ _ _ => (pg_name (i := 3) sc__law_alike.nd rfl (by first | exact Or.inl rfl | exact Or.inr rfl))) (fun _ _ _ _ _ => (pts_one (pt_not (pt_val (pe_cal c__law_alike hr rfl (pa_cons (pe_ix (r := rIxT K) ix_tup (pv 0) (pv 3) (fun _ _ => rfl)) (pa_cons (pe_ix (r := rIxT K) ix_tup (pv 1) (pv 3) (fun _ _ => rfl)) pa_nil))))))) (fun _ _ _ _ _ => (pv 3))) (pe_lst pa_nil) (nomark _))))) pss_nil)
      (pss_cons (ps_if (PW.pt (pw_or (pt_cmpR op_isN (pv 1) pe_non (nomark _)) (pw_or1 (pt_val (pe_callB (r := rIsY K) call_isY (by rfl) T.b_isinstance (by decide +kernel) (pa_cons (pv 1) (pa_cons (pe_bltn (v := .ty "str") (u := .type "str") (by rfl) T.b_str (by decide +kernel) rfl) pa_nil))))))) (pss_one (ps_ret (pe_and (pe_cmpR (r := rEqD K) (op_eqD (u64 hr)) (pv 0) (pv 1) (nomark _)) (pe_one (pe_cmpR (r := rEqD K) (op_eqD (u64 hr)) (pe_callB (r := rIsY K) call_isY (by rfl) T.b_isinstance (by decide +kernel) (pa_cons (pv 0) (pa_cons (pe_bltn (v := .ty "str") (u := .type "str") (by rfl) T.b_str (by decide +kernel) rfl) pa_nil))) (pe_callB (r := rIsY K) call_isY (by rfl) T.b_isinstance (by decide +kernel) (pa_cons (pv 1) (pa_cons (pe_bltn (v := .ty "str") (u := .type "str") (by rfl) T.b_str (by decide +kernel) rfl) pa_nil))) (nomark _)))))) pss_nil)
      (pss_one (ps_ret (pe_and (pe_callB (r := rIsY K) call_isY (by rfl) T.b_isinstance (by decide +kernel) (pa_cons (pv 0) (pa_cons (pe_bltn (v := .ty "int") (u := .type "int") (by rfl) T.b_int (by decide +kernel) rfl) pa_nil))) (pe_and (pe_cmpR (r := rEqD K) (op_eqD (u64 hr)) (pe_callB (r := rIsY K) call_isY (by rfl) T.b_isinstance (by decide +kernel) (pa_cons (pv 0) (pa_cons (pe_bltn (v := .ty "bool") (u := .type "bool") (by rfl) T.b_bool (by decide +kernel) rfl) pa_nil))) (pe_callB (r := rIsY K) call_isY (by rfl) T.b_isinstance (by decide +kernel) (pa_cons (pv 1) (pa_cons (pe_bltn (v := .ty "bool") (u := .type "bool") (by rfl) T.b_bool (by decide +kernel) rfl) pa_nil))) (nomark _)) (pe_one (pe_cmpR (r := rEqD K) (op_eqD (u64 hr)) (pv 0) (pv 1) (nomark _)))))))))), fun G => ?_⟩
      refine xs_when (S := ⟨K, fx0, G, H, E⟩) (et_B (ev_isTL (d := .str x) (ev_var rfl))) (fun z => by cases z) fun _ => ?_
      refine xs_when (et_B (ev_isDict (d := .str x) (ev_var rfl))) (fun z => by cases z) fun _ => ?_
      refine xs_when (et_or (et_B (ev_isN (d := .str x) (ev_var rfl))) fun _ => et_B (ev_isStr (d := .str x) (ev_var rfl))) (fun _ => ?_) fun z => by cases z
      exact xs_ret (ev_andV (ev_eqD (d := .str x) (d' := .str x) (ev_var rfl) (ev_var rfl) hp hp) fun _ => ev_eqD (ev_isStr (d := .str x) (ev_var rfl)) (ev_isStr (d := .str x) (ev_var rfl)) rfl rfl) (by rw [eqv_s, eqv_b]; rfl)
    | int i =>
      refine ⟨_, (pss_cons (ps_if (pt_val (pe_callB (r := rIsYT K) call_isYT (by rfl) T.b_isinstance (by decide +kernel) (pa_cons (pv 1) (pa_cons (pe_tup (pa_cons (pe_bltn (v := .ty "tuple") (u := .type "tuple") (by rfl) T.b_tuple (by decide +kernel) rfl) (pa_cons (pe_bltn (v := .ty "list") (u := .type "list") (by rfl) T.b_list (by decide +kernel) rfl) pa_nil))) pa_nil)))) (pss_cons (ps_if (PW.pt (pw_or (pt_not (pt_val (pe_callB (r := rIsYT K) call_isYT (by rfl) T.b_isinstance (by decide +kernel) (pa_cons (pv 0) (pa_cons (pe_tup (pa_cons (pe_bltn (v := .ty "tuple") (u := .type "tuple") (by rfl) T.b_tuple (by decide +kernel) rfl) (pa_cons (pe_bltn (v := .ty "list") (u := .type "list") (by rfl) T.b_list (by decide +kernel) rfl) pa_nil))) pa_nil))))) (pw_or1 (pt_cmpR (r := rNeD K) (op_neD (u64 hr)) (pe_callB (r := rIsY K) call_isY (by rfl) T.b_isinstance (by decide +kernel) (pa_cons (pv 0) (pa_cons (pe_bltn (v := .ty "list") (u := .type "list") (by rfl) T.b_list (by decide +kernel) rfl) pa_nil))) (pe_callB (r := rIsY K) call_isY (by rfl) T.b_isinstance (by decide +kernel) (pa_cons (pv 1) (pa_cons (pe_bltn (v := .ty "list") (u := .type "list") (by rfl) T.b_list (by decide +kernel) rfl) pa_nil))) (nomark _))))) (pss_one (ps_ret pe_bl)) pss_nil)
      (pss_cons (ps_if (pt_cmpR (r := rNeD K) (op_neD (u64 hr)) (pe_callB (r := fun xs H Q => ∃ p ys, xs = [.ref p] ∧ (SqL K H p ys ∨ SqT K H p ys) ∧ Q (.int ys.length) H) call_len_seq (by rfl) T.b_len (by decide +kernel) (pa_cons (pv 0) pa_nil)) (pe_callB (r := fun xs H Q => ∃ p ys, xs = [.ref p] ∧ (SqL K H p ys ∨ SqT K H p ys) ∧ Q (.int ys.length) H) call_len_seq (by rfl) T.b_len (by decide +kernel) (pa_cons (pv 1) pa_nil)) (nomark _)) (pss_one (ps_ret pe_bl)) pss_nil)
      (pss_one (ps_ret (pe_cmpR (r := rEqD K) (op_eqD (u64 hr)) (pe_lc (own := [("k", 2)]) (by rfl) sc__law_alike.nd (pi_range1 (by rfl) T.b_range (pa_cons (pe_callB (r := fun xs H Q => ∃ p ys, xs = [.ref p] ∧ (SqL K H p ys ∨ SqT K H p ys) ∧ Q (.int ys.length) H) call_len_seq (by rfl) T.b_len (by decide +kernel) (pa_cons (pv 1) pa_nil)) pa_nil)) (blkOk_by (N := ["found", "due", "k", "key"]) (sc := defScope s__law_alike) (own := [("k", 2)]) (by decide +kernel)) (fun _ _ _ _ _ => (pg_name (i := 2) sc__law_alike.nd rfl (by first | exact Or.inl rfl | exact Or.inr rfl))) (fun _ _ _ _ _ => (pts_one (pt_not (pt_val (pe_cal c__law_alike hr rfl (pa_cons (pe_ix (r := rIxT K) ix_tup (pv 0) (pv 2) (fun _ _ => rfl)) (pa_cons (pe_ix (r := rIxT K) ix_tup (pv 1) (pv 2) (fun _ _ => rfl)) pa_nil))))))) (fun _ _ _ _ _ => (pv 2))) (pe_lst pa_nil) (nomark _)))))) pss_nil)
      (pss_cons (ps_if (pt_val (pe_callB (r := rIsY K) call_isY (by rfl) T.b_isinstance (by decide +kernel) (pa_cons (pv 1) (pa_cons (pe_bltn (v := .ty "dict") (u := .type "dict") (by rfl) T.b_dict (by decide +kernel) rfl) pa_nil)))) (pss_cons (ps_if (PW.pt (pw_or (pt_not (pt_val (pe_callB (r := rIsY K) call_isY (by rfl) T.b_isinstance (by decide +kernel) (pa_cons (pv 0) (pa_cons (pe_bltn (v := .ty "dict") (u := .type "dict") (by rfl) T.b_dict (by decide +kernel) rfl) pa_nil))))) (pw_or1 (pt_cmpR (r := rNeD K) (op_neD (u64 hr)) (pe_callTy (T := "list") (r := fun xs H Q => ∃ p ys, xs = [.ref p] ∧ (SqL K H p ys ∨ SqT K H p ys) ∧ ∀ l, H l = none → Q (.ref l) (upd H l (.lst ys))) call_list_of (by rfl) T.b_list (by decide +kernel) (pa_cons (pv 0) pa_nil)) (pe_callTy (T := "list") (r := fun xs H Q => ∃ p ys, xs = [.ref p] ∧ (SqL K H p ys ∨ SqT K H p ys) ∧ ∀ l, H l = none → Q (.ref l) (upd H l (.lst ys))) call_list_of (by rfl) T.b_list (by decide +kernel) (pa_cons (pv 1) pa_nil)) (nomark _))))) (pss_one (ps_ret pe_bl)) pss_nil)
      (pss_one (ps_ret (pe_cmpR (r := rEqD K) (op_eqD (u64 hr)) (pe_lc (own := [("key", 3)]) (by rfl) sc__law_alike.nd (pi_list (pv 1)) (blkOk_by (N := ["found", "due", "k", "key"]) (sc := defScope s__law_alike) (own := [("key", 3)]) (by decide +kernel)) (fun _ _ _ _ _ => (pg_name (i := 3) sc__law_alike.nd rfl (by first | exact Or.inl rfl | exact Or.inr rfl))) (fun _ _ _ _ _ => (pts_one (pt_not (pt_val (pe_cal c__law_alike hr rfl (pa_cons (pe_ix (r := rIxT K) ix_tup (pv 0) (pv 3) (fun _ _ => rfl)) (pa_cons (pe_ix (r := rIxT K) ix_tup (pv 1) (pv 3) (fun _ _ => rfl)) pa_nil))))))) (fun _ _ _ _ _ => (pv 3))) (pe_lst pa_nil) (nomark _))))) pss_nil)
      (pss_cons (ps_if (PW.pt (pw_or (pt_cmpR op_isN (pv 1) pe_non (nomark _)) (pw_or1 (pt_val (pe_callB (r := rIsY K) call_isY (by rfl) T.b_isinstance (by decide +kernel) (pa_cons (pv 1) (pa_cons (pe_bltn (v := .ty "str") (u := .type "str") (by rfl) T.b_str (by decide +kernel) rfl) pa_nil))))))) (pss_one (ps_ret (pe_and (pe_cmpR (r := rEqD K) (op_eqD (u64 hr)) (pv 0) (pv 1) (nomark _)) (pe_one (pe_cmpR (r := rEqD K) (op_eqD (u64 hr)) (pe_callB (r := rIsY K) call_isY (by rfl) T.b_isinstance (by decide +kernel) (pa_cons (pv 0) (pa_cons (pe_bltn (v := .ty "str") (u := .type "str") (by rfl) T.b_str (by decide +kernel) rfl) pa_nil))) (pe_callB (r := rIsY K) call_isY (by rfl) T.b_isinstance (by decide +kernel) (pa_cons (pv 1) (pa_cons (pe_bltn (v := .ty "str") (u := .type "str") (by rfl) T.b_str (by decide +kernel) rfl) pa_nil))) (nomark _)))))) pss_nil)
      (pss_one (ps_ret (pe_and (pe_callB (r := rIsY K) call_isY (by rfl) T.b_isinstance (by decide +kernel) (pa_cons (pv 0) (pa_cons (pe_bltn (v := .ty "int") (u := .type "int") (by rfl) T.b_int (by decide +kernel) rfl) pa_nil))) (pe_and (pe_cmpR (r := rEqD K) (op_eqD (u64 hr)) (pe_callB (r := rIsY K) call_isY (by rfl) T.b_isinstance (by decide +kernel) (pa_cons (pv 0) (pa_cons (pe_bltn (v := .ty "bool") (u := .type "bool") (by rfl) T.b_bool (by decide +kernel) rfl) pa_nil))) (pe_callB (r := rIsY K) call_isY (by rfl) T.b_isinstance (by decide +kernel) (pa_cons (pv 1) (pa_cons (pe_bltn (v := .ty "bool") (u := .type "bool") (by rfl) T.b_bool (by decide +kernel) rfl) pa_nil))) (nomark _)) (pe_one (pe_cmpR (r := rEqD K) (op_eqD (u64 hr)) (pv 0) (pv 1) (nomark _)))))))))), fun G => ?_⟩
      refine xs_when (S := ⟨K, fx0, G, H, E⟩) (et_B (ev_isTL (d := .int i) (ev_var rfl))) (fun z => by cases z) fun _ => ?_
      refine xs_when (et_B (ev_isDict (d := .int i) (ev_var rfl))) (fun z => by cases z) fun _ => ?_
      refine xs_when (et_or (et_B (ev_isN (d := .int i) (ev_var rfl))) fun _ => et_B (ev_isStr (d := .int i) (ev_var rfl))) (fun z => by cases z) fun _ => ?_
      exact xc_retB (ev_andV (ev_isInt (d := .int i) (ev_var rfl)) fun _ => ev_andV (ev_eqD (ev_isBool (d := .int i) (ev_var rfl)) (ev_isBool (d := .int i) (ev_var rfl)) rfl rfl) fun _ => ev_eqI (ev_var rfl) (ev_var rfl)) (by rw [eqv_b]; simp [dInt, dBool])
    | bool b =>
      refine ⟨_, (pss_cons (ps_if (pt_val (pe_callB (r := rIsYT K) call_isYT (by rfl) T.b_isinstance (by decide +kernel) (pa_cons (pv 1) (pa_cons (pe_tup (pa_cons (pe_bltn (v := .ty "tuple") (u := .type "tuple") (by rfl) T.b_tuple (by decide +kernel) rfl) (pa_cons (pe_bltn (v := .ty "list") (u := .type "list") (by rfl) T.b_list (by decide +kernel) rfl) pa_nil))) pa_nil)))) (pss_cons (ps_if (PW.pt (pw_or (pt_not (pt_val (pe_callB (r := rIsYT K) call_isYT (by rfl) T.b_isinstance (by decide +kernel) (pa_cons (pv 0) (pa_cons (pe_tup (pa_cons (pe_bltn (v := .ty "tuple") (u := .type "tuple") (by rfl) T.b_tuple (by decide +kernel) rfl) (pa_cons (pe_bltn (v := .ty "list") (u := .type "list") (by rfl) T.b_list (by decide +kernel) rfl) pa_nil))) pa_nil))))) (pw_or1 (pt_cmpR (r := rNeD K) (op_neD (u64 hr)) (pe_callB (r := rIsY K) call_isY (by rfl) T.b_isinstance (by decide +kernel) (pa_cons (pv 0) (pa_cons (pe_bltn (v := .ty "list") (u := .type "list") (by rfl) T.b_list (by decide +kernel) rfl) pa_nil))) (pe_callB (r := rIsY K) call_isY (by rfl) T.b_isinstance (by decide +kernel) (pa_cons (pv 1) (pa_cons (pe_bltn (v := .ty "list") (u := .type "list") (by rfl) T.b_list (by decide +kernel) rfl) pa_nil))) (nomark _))))) (pss_one (ps_ret pe_bl)) pss_nil)
      (pss_cons (ps_if (pt_cmpR (r := rNeD K) (op_neD (u64 hr)) (pe_callB (r := fun xs H Q => ∃ p ys, xs = [.ref p] ∧ (SqL K H p ys ∨ SqT K H p ys) ∧ Q (.int ys.length) H) call_len_seq (by rfl) T.b_len (by decide +kernel) (pa_cons (pv 0) pa_nil)) (pe_callB (r := fun xs H Q => ∃ p ys, xs = [.ref p] ∧ (SqL K H p ys ∨ SqT K H p ys) ∧ Q (.int ys.length) H) call_len_seq (by rfl) T.b_len (by decide +kernel) (pa_cons (pv 1) pa_nil)) (nomark _)) (pss_one (ps_ret pe_bl)) pss_nil)
      (pss_one (ps_ret (pe_cmpR (r := rEqD K) (op_eqD (u64 hr)) (pe_lc (own := [("k", 2)]) (by rfl) sc__law_alike.nd (pi_range1 (by rfl) T.b_range (pa_cons (pe_callB (r := fun xs H Q => ∃ p ys, xs = [.ref p] ∧ (SqL K H p ys ∨ SqT K H p ys) ∧ Q (.int ys.length) H) call_len_seq (by rfl) T.b_len (by decide +kernel) (pa_cons (pv 1) pa_nil)) pa_nil)) (blkOk_by (N := ["found", "due", "k", "key"]) (sc := defScope s__law_alike) (own := [("k", 2)]) (by decide +kernel)) (fun _ _ _ _ _ => (pg_name (i := 2) sc__law_alike.nd rfl (by first | exact Or.inl rfl | exact Or.inr rfl))) (fun _ _ _ _ _ => (pts_one (pt_not (pt_val (pe_cal c__law_alike hr rfl (pa_cons (pe_ix (r := rIxT K) ix_tup (pv 0) (pv 2) (fun _ _ => rfl)) (pa_cons (pe_ix (r := rIxT K) ix_tup (pv 1) (pv 2) (fun _ _ => rfl)) pa_nil))))))) (fun _ _ _ _ _ => (pv 2))) (pe_lst pa_nil) (nomark _)))))) pss_nil)
      (pss_cons (ps_if (pt_val (pe_callB (r := rIsY K) call_isY (by rfl) T.b_isinstance (by decide +kernel) (pa_cons (pv 1) (pa_cons (pe_bltn (v := .ty "dict") (u := .type "dict") (by rfl) T.b_dict (by decide +kernel) rfl) pa_nil)))) (pss_cons (ps_if (PW.pt (pw_or (pt_not (pt_val (pe_callB (r := rIsY K) call_isY (by rfl) T.b_isinstance (by decide +kernel) (pa_cons (pv 0) (pa_cons (pe_bltn (v := .ty "dict") (u := .type "dict") (by rfl) T.b_dict (by decide +kernel) rfl) pa_nil))))) (pw_or1 (pt_cmpR (r := rNeD K) (op_neD (u64 hr)) (pe_callTy (T := "list") (r := fun xs H Q => ∃ p ys, xs = [.ref p] ∧ (SqL K H p ys ∨ SqT K H p ys) ∧ ∀ l, H l = none → Q (.ref l) (upd H l (.lst ys))) call_list_of (by rfl) T.b_list (by decide +kernel) (pa_cons (pv 0) pa_nil)) (pe_callTy (T := "list") (r := fun xs H Q => ∃ p ys, xs = [.ref p] ∧ (SqL K H p ys ∨ SqT K H p ys) ∧ ∀ l, H l = none → Q (.ref l) (upd H l (.lst ys))) call_list_of (by rfl) T.b_list (by decide +kernel) (pa_cons (pv 1) pa_nil)) (nomark _))))) (pss_one (ps_ret pe_bl)) pss_nil)
      (pss_one (ps_ret (pe_cmpR (r := rEqD K) (op_eqD (u64 hr)) (pe_lc (own := [("key", 3)]) (by rfl) sc__law_alike.nd (pi_list (pv 1)) (blkOk_by (N := ["found", "due", "k", "key"]) (sc := defScope s__law_alike) (own := [("key", 3)]) (by decide +kernel)) (fun _ _ _ _ _ => (pg_name (i := 3) sc__law_alike.nd rfl (by first | exact Or.inl rfl | exact Or.inr rfl))) (fun _ _ _ _ _ => (pts_one (pt_not (pt_val (pe_cal c__law_alike hr rfl (pa_cons (pe_ix (r := rIxT K) ix_tup (pv 0) (pv 3) (fun _ _ => rfl)) (pa_cons (pe_ix (r := rIxT K) ix_tup (pv 1) (pv 3) (fun _ _ => rfl)) pa_nil))))))) (fun _ _ _ _ _ => (pv 3))) (pe_lst pa_nil) (nomark _))))) pss_nil)
      (pss_cons (ps_if (PW.pt (pw_or (pt_cmpR op_isN (pv 1) pe_non (nomark _)) (pw_or1 (pt_val (pe_callB (r := rIsY K) call_isY (by rfl) T.b_isinstance (by decide +kernel) (pa_cons (pv 1) (pa_cons (pe_bltn (v := .ty "str") (u := .type "str") (by rfl) T.b_str (by decide +kernel) rfl) pa_nil))))))) (pss_one (ps_ret (pe_and (pe_cmpR (r := rEqD K) (op_eqD (u64 hr)) (pv 0) (pv 1) (nomark _)) (pe_one (pe_cmpR (r := rEqD K) (op_eqD (u64 hr)) (pe_callB (r := rIsY K) call_isY (by rfl) T.b_isinstance (by decide +kernel) (pa_cons (pv 0) (pa_cons (pe_bltn (v := .ty "str") (u := .type "str") (by rfl) T.b_str (by decide +kernel) rfl) pa_nil))) (pe_callB (r := rIsY K) call_isY (by rfl) T.b_isinstance (by decide +kernel) (pa_cons (pv 1) (pa_cons (pe_bltn (v := .ty "str") (u := .type "str") (by rfl) T.b_str (by decide +kernel) rfl) pa_nil))) (nomark _)))))) pss_nil)
      (pss_one (ps_ret (pe_and (pe_callB (r := rIsY K) call_isY (by rfl) T.b_isinstance (by decide +kernel) (pa_cons (pv 0) (pa_cons (pe_bltn (v := .ty "int") (u := .type "int") (by rfl) T.b_int (by decide +kernel) rfl) pa_nil))) (pe_and (pe_cmpR (r := rEqD K) (op_eqD (u64 hr)) (pe_callB (r := rIsY K) call_isY (by rfl) T.b_isinstance (by decide +kernel) (pa_cons (pv 0) (pa_cons (pe_bltn (v := .ty "bool") (u := .type "bool") (by rfl) T.b_bool (by decide +kernel) rfl) pa_nil))) (pe_callB (r := rIsY K) call_isY (by rfl) T.b_isinstance (by decide +kernel) (pa_cons (pv 1) (pa_cons (pe_bltn (v := .ty "bool") (u := .type "bool") (by rfl) T.b_bool (by decide +kernel) rfl) pa_nil))) (nomark _)) (pe_one (pe_cmpR (r := rEqD K) (op_eqD (u64 hr)) (pv 0) (pv 1) (nomark _)))))))))), fun G => ?_⟩
      refine xs_when (S := ⟨K, fx0, G, H, E⟩) (et_B (ev_isTL (d := .bool b) (ev_var rfl))) (fun z => by cases z) fun _ => ?_
      refine xs_when (et_B (ev_isDict (d := .bool b) (ev_var rfl))) (fun z => by cases z) fun _ => ?_
      refine xs_when (et_or (et_B (ev_isN (d := .bool b) (ev_var rfl))) fun _ => et_B (ev_isStr (d := .bool b) (ev_var rfl))) (fun z => by cases z) fun _ => ?_
      exact xc_retB (ev_andV (ev_isInt (d := .bool b) (ev_var rfl)) fun _ => ev_andV (ev_eqD (ev_isBool (d := .bool b) (ev_var rfl)) (ev_isBool (d := .bool b) (ev_var rfl)) rfl rfl) fun _ => ev_eqD (ev_var rfl) (ev_var rfl) rfl rfl) (by rw [eqv_b, eqv_b]; simp [dInt, dBool])

end
end K27

/-! SailM: panels, seams and what hangs together, in plain words. -/
set_option autoImplicit false
namespace SM
abbrev Pt := Int × Int
abbrev Pn := Pt × Pt × Pt
abbrev Sd := Nat × Nat
abbrev Sm := Sd × Sd
def cross (a b c : Pt) : Int := (b.1 - a.1) * (c.2 - a.2) - (b.2 - a.2) * (c.1 - a.1)
def atC (t : Pn) : Nat → Pt
  | 0 => t.1
  | 1 => t.2.1
  | _ => t.2.2
def sq (a b : Pt) : Int := (a.1 - b.1) ^ 2 + (a.2 - b.2) ^ 2
def lng (t : Pn) (k : Nat) : Int := sq (atC t k) (atC t ((k + 1) % 3))
def near (m : Int) (p : Pt) : Prop := -m ≤ p.1 ∧ p.1 ≤ m ∧ -m ≤ p.2 ∧ p.2 ≤ m
def nearP (m : Int) (t : Pn) : Prop := near m t.1 ∧ near m t.2.1 ∧ near m t.2.2
theorem near_at {m : Int} {t : Pn} (h : nearP m t) (k : Nat) : near m (atC t k) := by
  match k with
  | 0 => exact h.1
  | 1 => exact h.2.1
  | _ + 2 => exact h.2.2
/-- both ways over each seam -/
def sewn (ss : List Sm) : List (Sd × Sd) := ss.flatMap fun s => [(s.1, s.2), (s.2, s.1)]
theorem sewn_app (ss tt : List Sm) : sewn (ss ++ tt) = sewn ss ++ sewn tt := List.flatMap_append
def beside (ss : List Sm) (p : Nat) : List Nat := (List.range 3).filterMap fun s => ((sewn ss).lookup (p, s)).map (·.1)
/-- what can be reached from panel a -/
inductive Rch (ss : List Sm) (a : Nat) : Nat → Prop
  | start : Rch ss a a
  | step {p q : Nat} : Rch ss a p → q ∈ beside ss p → Rch ss a q
def seamOk (ps : List Pn) (s : Sm) : Bool :=
  decide (s.1.1 < ps.length ∧ s.2.1 < ps.length ∧ s.1.2 < 3 ∧ s.2.2 < 3) && (decide (s.1.1 < s.2.1 ∨ (s.1.1 = s.2.1 ∧ s.1.2 < s.2.2)) && decide (lng (ps.getD s.1.1 default) s.1.2 = lng (ps.getD s.2.1 default) s.2.2))
theorem seamOk_iff {ps : List Pn} {s : Sm} : seamOk ps s = true ↔ (s.1.1 < ps.length ∧ s.2.1 < ps.length ∧ s.1.2 < 3 ∧ s.2.2 < 3) ∧ (s.1.1 < s.2.1 ∨ (s.1.1 = s.2.1 ∧ s.1.2 < s.2.2)) ∧ lng (ps.getD s.1.1 default) s.1.2 = lng (ps.getD s.2.1 default) s.2.2 := by
  unfold seamOk
  rw [Bool.and_eq_true, Bool.and_eq_true, decide_eq_true_eq, decide_eq_true_eq, decide_eq_true_eq]
theorem lookup_mem {α β : Type} [BEq α] [LawfulBEq α] {k : α} {v : β} : ∀ {l : List (α × β)}, l.lookup k = some v → (k, v) ∈ l
  | (a, b) :: l, h => by
    rw [List.lookup_cons] at h
    cases e : k == a with
    | true =>
      rw [e] at h
      simp only [Option.some.injEq] at h
      rw [eq_of_beq e, h]
      exact List.mem_cons_self
    | false =>
      rw [e] at h
      exact List.mem_cons_of_mem _ (lookup_mem h)
theorem mem_lookup {α β : Type} [BEq α] [LawfulBEq α] {k : α} {v : β} : ∀ {l : List (α × β)}, (l.map Prod.fst).Nodup → (k, v) ∈ l → l.lookup k = some v
  | (a, b) :: l, nd, h => by
    rw [List.map_cons, List.nodup_cons] at nd
    rw [List.lookup_cons]
    rcases List.mem_cons.mp h with q | q
    · cases q
      simp
    · have ne : k ≠ a := fun e => nd.1 (e ▸ List.mem_map.mpr ⟨_, q, rfl⟩)
      have : (k == a) = false := beq_eq_false_iff_ne.mpr ne
      rw [this]
      exact mem_lookup nd.2 q
theorem beside_mem {ss : List Sm} {p q : Nat} (h : q ∈ beside ss p) : ∃ s t, s < 3 ∧ ((p, s), (q, t)) ∈ sewn ss := by
  unfold beside at h
  rw [List.mem_filterMap] at h
  obtain ⟨s, hs, e⟩ := h
  cases hl : (sewn ss).lookup (p, s) with
  | none =>
    rw [hl] at e
    cases e
  | some v =>
    rw [hl] at e
    obtain ⟨v1, v2⟩ := v
    cases e
    exact ⟨s, v2, List.mem_range.mp hs, lookup_mem hl⟩
theorem mem_beside {ss : List Sm} {p q s t : Nat} (nd : ((sewn ss).map Prod.fst).Nodup) (hs : s < 3) (h : ((p, s), (q, t)) ∈ sewn ss) : q ∈ beside ss p := by
  unfold beside
  rw [List.mem_filterMap]
  exact ⟨s, List.mem_range.mpr hs, by rw [mem_lookup nd h]; rfl⟩
theorem sewn_mem {ss : List Sm} {x : Sd × Sd} : x ∈ sewn ss ↔ ∃ s ∈ ss, x = (s.1, s.2) ∨ x = (s.2, s.1) := by
  unfold sewn
  rw [List.mem_flatMap]
  simp
theorem beside_lt {ps : List Pn} {ss : List Sm} (h : ∀ s ∈ ss, seamOk ps s = true) {p q : Nat} (hq : q ∈ beside ss p) : q < ps.length := by
  obtain ⟨s, t, _, hm⟩ := beside_mem hq
  obtain ⟨e, he, h2⟩ := sewn_mem.mp hm
  obtain ⟨⟨x1, x2, _, _⟩, _⟩ := seamOk_iff.mp (h e he)
  rcases h2 with z | z
  · have : q = e.2.1 := congrArg (fun x : Sd × Sd => x.2.1) z
    rw [this]
    exact x2
  · have : q = e.1.1 := congrArg (fun x : Sd × Sd => x.2.1) z
    rw [this]
    exact x1
theorem beside_len (ss : List Sm) (p : Nat) : (beside ss p).length ≤ 3 := by
  unfold beside
  exact Nat.le_trans (List.length_filterMap_le _ _) (by simp)
/-- a sail that stands -/
structure Ok (ps : List Pn) (ss : List Sm) : Prop where
  n1 : 1 ≤ ps.length
  n2 : ps.length ≤ 12
  pn : ∀ t ∈ ps, 0 < cross t.1 t.2.1 t.2.2 ∧ nearP 100 t
  m : ss.length ≤ 18
  ok : ∀ s ∈ ss, seamOk ps s = true
  nd : ((sewn ss).map Prod.fst).Nodup
  cn : ∀ p, p < ps.length → Rch ss 0 p
/-! ### sides without a seam, and how a sail grows -/
def used (ss : List Sm) : List Sd := ss.map Prod.fst ++ ss.map Prod.snd
theorem mem_used {ss : List Sm} {x : Sd} : x ∈ used ss ↔ x ∈ (sewn ss).map Prod.fst := by
  unfold used
  rw [List.mem_append, List.mem_map, List.mem_map, List.mem_map]
  constructor
  · rintro (⟨s, hs, rfl⟩ | ⟨s, hs, rfl⟩)
    · exact ⟨(s.1, s.2), sewn_mem.mpr ⟨s, hs, .inl rfl⟩, rfl⟩
    · exact ⟨(s.2, s.1), sewn_mem.mpr ⟨s, hs, .inr rfl⟩, rfl⟩
  · rintro ⟨y, hy, rfl⟩
    obtain ⟨s, hs, h⟩ := sewn_mem.mp hy
    rcases h with rfl | rfl
    · exact .inl ⟨s, hs, rfl⟩
    · exact .inr ⟨s, hs, rfl⟩
def rowF (ss : List Sm) (p : Nat) : List Sd := ((List.range 3).filter fun s => !(used ss).contains (p, s)).map fun s => (p, s)
def freeL (n : Nat) (ss : List Sm) : List Sd := (List.range n).flatMap (rowF ss)
theorem mem_rowF {ss : List Sm} {p : Nat} {x : Sd} : x ∈ rowF ss p ↔ x.1 = p ∧ x.2 < 3 ∧ x ∉ used ss := by
  unfold rowF
  rw [List.mem_map]
  constructor
  · rintro ⟨s, hs, rfl⟩
    rw [List.mem_filter] at hs
    exact ⟨rfl, List.mem_range.mp hs.1, by simpa using hs.2⟩
  · rintro ⟨h1, h2, h3⟩
    obtain ⟨a, b⟩ := x
    simp only at h1 h2
    subst h1
    exact ⟨b, List.mem_filter.mpr ⟨List.mem_range.mpr h2, by simpa using h3⟩, rfl⟩
theorem mem_free {n : Nat} {ss : List Sm} {x : Sd} : x ∈ freeL n ss ↔ x.1 < n ∧ x.2 < 3 ∧ x ∉ used ss := by
  unfold freeL
  rw [List.mem_flatMap]
  constructor
  · rintro ⟨p, hp, h⟩
    obtain ⟨h1, h2, h3⟩ := mem_rowF.mp h
    exact ⟨by rw [h1]; exact List.mem_range.mp hp, h2, h3⟩
  · rintro ⟨h1, h2, h3⟩
    exact ⟨x.1, List.mem_range.mpr h1, mem_rowF.mpr ⟨rfl, h2, h3⟩⟩
theorem rowF_len (ss : List Sm) (p : Nat) : (rowF ss p).length ≤ 3 := by
  unfold rowF
  rw [List.length_map]
  exact Nat.le_trans (List.length_filter_le _ _) (by simp)
theorem freeL_succ (n : Nat) (ss : List Sm) : freeL (n + 1) ss = freeL n ss ++ rowF ss n := by
  unfold freeL
  rw [List.range_succ, List.flatMap_append]
  simp
theorem freeL_len (n : Nat) (ss : List Sm) : (freeL n ss).length ≤ 3 * n := by
  induction n with
  | zero => simp [freeL]
  | succ n ih =>
    rw [freeL_succ, List.length_append]
    have := rowF_len ss n
    omega
theorem rch_mono {ss tt : List Sm} (nd : ((sewn (ss ++ tt)).map Prod.fst).Nodup) {a p : Nat} (h : Rch ss a p) : Rch (ss ++ tt) a p := by
  induction h with
  | start => exact .start
  | step _ hq ih =>
    obtain ⟨s, t, hs, hm⟩ := beside_mem hq
    exact .step ih (mem_beside nd hs (by rw [sewn_app]; exact List.mem_append_left _ hm))
theorem nd_snoc {ss : List Sm} {x y : Sd} (nd : ((sewn ss).map Prod.fst).Nodup) (hx : x ∉ used ss) (hy : y ∉ used ss) (ne : x ≠ y) : ((sewn (ss ++ [(x, y)])).map Prod.fst).Nodup := by
  rw [sewn_app, List.map_append, List.nodup_append]
  refine ⟨nd, ?_, fun a ha b hb e => ?_⟩
  · show [x, y].Nodup
    simp [ne]
  · subst e
    have hb : a ∈ [x, y] := hb
    simp only [List.mem_cons, List.not_mem_nil, or_false] at hb
    rcases hb with rfl | rfl
    · exact hx (mem_used.mpr ha)
    · exact hy (mem_used.mpr ha)
theorem ok_one {t : Pn} (h : 0 < cross t.1 t.2.1 t.2.2) (hn : nearP 100 t) : Ok [t] [] := by
  refine ⟨by simp, by simp, fun x hx => ?_, by simp, fun s hs => (by cases hs), by simp [sewn], fun p hp => ?_⟩
  · rw [List.mem_singleton.mp hx]
    exact ⟨h, hn⟩
  · have : p = 0 := by simp at hp; exact hp
    rw [this]
    exact .start
theorem getD_left {ps : List Pn} {t : Pn} {i : Nat} (h : i < ps.length) : (ps ++ [t]).getD i default = ps.getD i default := by
  simp [List.getD, List.getElem?_append_left h]
theorem getD_last {ps : List Pn} {t : Pn} : (ps ++ [t]).getD ps.length default = t := by
  simp [List.getD]
theorem seamOk_left {ps : List Pn} {t : Pn} {s : Sm} (h : seamOk ps s = true) : seamOk (ps ++ [t]) s = true := by
  obtain ⟨⟨h1, h2, h3, h4⟩, h5, h6⟩ := seamOk_iff.mp h
  rw [seamOk_iff]
  refine ⟨⟨by simp; omega, by simp; omega, h3, h4⟩, h5, ?_⟩
  rw [getD_left h1, getD_left h2]
  exact h6
theorem ok_grow {ps : List Pn} {ss : List Sm} {t : Pn} {x : Sd} {k : Nat} (h : Ok ps ss) (ht : 0 < cross t.1 t.2.1 t.2.2) (hn : nearP 100 t) (hx : x ∈ freeL ps.length ss) (hk : k < 3) (hl : lng t k = lng (ps.getD x.1 default) x.2) (h12 : ps.length < 12) (h18 : ss.length < 18) :
    Ok (ps ++ [t]) (ss ++ [(x, (ps.length, k))]) := by
  obtain ⟨x1, x2, x3⟩ := mem_free.mp hx
  have hy : ((ps.length, k) : Sd) ∉ used ss := fun z => by
    obtain ⟨s, hs, e⟩ := List.mem_map.mp (mem_used.mp z)
    obtain ⟨u, hu, e2⟩ := sewn_mem.mp hs
    obtain ⟨⟨q1, q2, _, _⟩, _⟩ := seamOk_iff.mp (h.ok u hu)
    rcases e2 with rfl | rfl
    · have : u.1.1 = ps.length := congrArg Prod.fst e
      omega
    · have : u.2.1 = ps.length := congrArg Prod.fst e
      omega
  have ne : x ≠ (ps.length, k) := fun e => by
    rw [e] at x1
    exact Nat.lt_irrefl _ x1
  have nd := nd_snoc h.nd x3 hy ne
  refine ⟨by simp, by simp; omega, fun u hu => ?_, by simp; omega, fun s hs => ?_, nd, fun p hp => ?_⟩
  · rcases List.mem_append.mp hu with q | q
    · exact h.pn u q
    · rw [List.mem_singleton.mp q]
      exact ⟨ht, hn⟩
  · rcases List.mem_append.mp hs with q | q
    · exact seamOk_left (h.ok s q)
    · rw [List.mem_singleton.mp q, seamOk_iff]
      refine ⟨⟨by simp; omega, by simp, x2, hk⟩, .inl x1, ?_⟩
      show lng ((ps ++ [t]).getD x.1 default) x.2 = lng ((ps ++ [t]).getD ps.length default) k
      rw [getD_left x1, getD_last]
      exact hl.symm
  · by_cases q : p < ps.length
    · exact rch_mono nd (h.cn p q)
    · have e : p = ps.length := by simp at hp; omega
      rw [e]
      refine .step (rch_mono nd (h.cn x.1 x1)) (mem_beside (s := x.2) (t := k) nd x2 ?_)
      rw [sewn_app]
      exact List.mem_append_right _ (by simp [sewn])
theorem ok_close {ps : List Pn} {ss : List Sm} {x y : Sd} (h : Ok ps ss) (hx : x ∈ freeL ps.length ss) (hy : y ∈ freeL ps.length ss) (lt : x.1 < y.1 ∨ (x.1 = y.1 ∧ x.2 < y.2)) (hl : lng (ps.getD x.1 default) x.2 = lng (ps.getD y.1 default) y.2) (h18 : ss.length < 18) :
    Ok ps (ss ++ [(x, y)]) := by
  obtain ⟨x1, x2, x3⟩ := mem_free.mp hx
  obtain ⟨y1, y2, y3⟩ := mem_free.mp hy
  have ne : x ≠ y := fun e => by
    rw [e] at lt
    omega
  have nd := nd_snoc h.nd x3 y3 ne
  refine ⟨h.n1, h.n2, h.pn, by simp; omega, fun s hs => ?_, nd, fun p hp => rch_mono nd (h.cn p hp)⟩
  rcases List.mem_append.mp hs with q | q
  · exact h.ok s q
  · rw [List.mem_singleton.mp q, seamOk_iff]
    exact ⟨⟨x1, y1, x2, y2⟩, lt, hl⟩
end SM

set_option Elab.async false
set_option linter.all false
set_option maxRecDepth 100000
set_option maxHeartbeats 4000000
/-! SailD: panels and seams as data. -/
namespace SD
open PySem PySem.Spec PyProof.Rows L2 Dl LamX RZ SM
def dPt (p : Pt) : D := .tuple [.int p.1, .int p.2]
def dPn (t : Pn) : D := .tuple [dPt t.1, dPt t.2.1, dPt t.2.2]
def dSd (s : Sd) : D := .tuple [.int (s.1 : Nat), .int (s.2 : Nat)]
def dSm (s : Sm) : D := .tuple [.int (s.1.1 : Nat), .int (s.1.2 : Nat), .int (s.2.1 : Nat), .int (s.2.2 : Nat)]
def dSw (l : List (Sd × Sd)) : List (D × D) := l.map fun p => (dSd p.1, dSd p.2)
def dNs (l : List Nat) : List D := l.map fun (x : Nat) => PyData.int (x : Int)
def isWi (lo hi : Int) : D → Bool
  | .int i => decide (lo ≤ i) && decide (i ≤ hi)
  | _ => false
def isPt : D → Bool
  | .tuple [a, b] => isWi (-100) 100 a && isWi (-100) 100 b
  | _ => false
def toI : D → Int
  | .int i => i
  | _ => 0
def ptOf : D → Pt
  | .tuple [a, b] => (toI a, toI b)
  | _ => (0, 0)
theorem isWi_int {lo hi : Int} {d : D} (h : isWi lo hi d = true) : ∃ i, d = .int i ∧ lo ≤ i ∧ i ≤ hi := by
  cases d <;> simp [isWi] at h
  exact ⟨_, rfl, h.1, h.2⟩
theorem isWi_of {lo hi i : Int} (h1 : lo ≤ i) (h2 : i ≤ hi) : isWi lo hi (.int i) = true := by
  simp [isWi, h1, h2]
theorem isPt_get {d : D} (h : isPt d = true) : d = dPt (ptOf d) ∧ near 100 (ptOf d) := by
  unfold isPt at h
  split at h
  · rw [Bool.and_eq_true] at h
    obtain ⟨i, rfl, h1, h2⟩ := isWi_int h.1
    obtain ⟨j, rfl, h3, h4⟩ := isWi_int h.2
    exact ⟨rfl, h1, h2, h3, h4⟩
  · cases h
theorem isPt_of {p : Pt} (h : near 100 p) : isPt (dPt p) = true := by
  unfold isPt dPt
  simp only
  rw [isWi_of h.1 h.2.1, isWi_of h.2.2.1 h.2.2.2]
  rfl
theorem ptOf_d (p : Pt) : ptOf (dPt p) = p := rfl
def isPn : D → Bool
  | .tuple [a, b, c] => isPt a && (isPt b && isPt c) && decide (0 < cross (ptOf a) (ptOf b) (ptOf c))
  | _ => false
def pnOf : D → Pn
  | .tuple [a, b, c] => (ptOf a, ptOf b, ptOf c)
  | _ => default
theorem pnOf_d (t : Pn) : pnOf (dPn t) = t := rfl
theorem isPn_get {d : D} (h : isPn d = true) : d = dPn (pnOf d) ∧ nearP 100 (pnOf d) ∧ 0 < cross (pnOf d).1 (pnOf d).2.1 (pnOf d).2.2 := by
  unfold isPn at h
  split at h
  · rename_i a b c
    simp only [Bool.and_eq_true, decide_eq_true_eq] at h
    obtain ⟨⟨h1, h2, h3⟩, h4⟩ := h
    obtain ⟨e1, n1⟩ := isPt_get h1
    obtain ⟨e2, n2⟩ := isPt_get h2
    obtain ⟨e3, n3⟩ := isPt_get h3
    refine ⟨?_, ⟨n1, n2, n3⟩, h4⟩
    show PyData.tuple [a, b, c] = .tuple [dPt (ptOf a), dPt (ptOf b), dPt (ptOf c)]
    rw [← e1, ← e2, ← e3]
  · cases h
theorem isPn_of {t : Pn} (h : nearP 100 t) (h2 : 0 < cross t.1 t.2.1 t.2.2) : isPn (dPn t) = true := by
  unfold isPn dPn
  simp only
  rw [isPt_of h.1, isPt_of h.2.1, isPt_of h.2.2]
  simp only [Bool.true_and]
  exact decide_eq_true h2
theorem map_pn {ds : List D} (h : ∀ d ∈ ds, isPn d = true) : ds = (ds.map pnOf).map dPn := by
  rw [List.map_map]
  refine ((List.map_congr_left fun d hd => ?_).trans (List.map_id ds)).symm
  exact (isPn_get (h d hd)).1.symm
/-- a seam told -/
def smOf : D → Sm
  | .tuple [a, b, c, d] => (((toI a).toNat, (toI b).toNat), ((toI c).toNat, (toI d).toNat))
  | _ => default
def isSm (ps : List Pn) : D → Bool
  | .tuple [a, b, c, d] => (isWi 0 ((ps.length : Int) - 1) a && isWi 0 ((ps.length : Int) - 1) c) && ((isWi 0 2 b && isWi 0 2 d) && seamOk ps (smOf (.tuple [a, b, c, d])))
  | _ => false
theorem smOf_d (s : Sm) : smOf (dSm s) = s := rfl
theorem isSm_get {ps : List Pn} {d : D} (h : isSm ps d = true) : d = dSm (smOf d) ∧ seamOk ps (smOf d) = true := by
  unfold isSm at h
  split at h
  · simp only [Bool.and_eq_true] at h
    obtain ⟨⟨h1, h2⟩, ⟨h3, h4⟩, h5⟩ := h
    obtain ⟨i, rfl, i1, i2⟩ := isWi_int h1
    obtain ⟨j, rfl, j1, j2⟩ := isWi_int h2
    obtain ⟨k, rfl, k1, k2⟩ := isWi_int h3
    obtain ⟨l, rfl, l1, l2⟩ := isWi_int h4
    refine ⟨?_, h5⟩
    show PyData.tuple [.int i, .int k, .int j, .int l] = .tuple [.int ((toI (.int i)).toNat : Nat), .int ((toI (.int k)).toNat : Nat), .int ((toI (.int j)).toNat : Nat), .int ((toI (.int l)).toNat : Nat)]
    unfold toI
    rw [Int.toNat_of_nonneg i1, Int.toNat_of_nonneg j1, Int.toNat_of_nonneg k1, Int.toNat_of_nonneg l1]
  · cases h
theorem isSm_of {ps : List Pn} {s : Sm} (h : seamOk ps s = true) : isSm ps (dSm s) = true := by
  have h0 := h
  obtain ⟨⟨h1, h2, h3, h4⟩, _⟩ := seamOk_iff.mp h
  show ((isWi 0 ((ps.length : Int) - 1) (.int (s.1.1 : Nat)) && isWi 0 ((ps.length : Int) - 1) (.int (s.2.1 : Nat))) && ((isWi 0 2 (.int (s.1.2 : Nat)) && isWi 0 2 (.int (s.2.2 : Nat))) && seamOk ps (smOf (dSm s)))) = true
  rw [isWi_of (by omega) (by omega), isWi_of (by omega) (by omega), isWi_of (by omega) (by omega), isWi_of (by omega) (by omega), smOf_d, h0]
  rfl
/-! the dict of sides -/
theorem nk_sd {a b : Sd} (h : nk (dSd a) = nk (dSd b)) : a = b := by
  simp only [dSd, nk, nkAll, NestedKey.tup.injEq, List.cons.injEq, NestedKey.num.injEq] at h
  obtain ⟨h1, h2, _⟩ := h
  exact Prod.ext (by omega) (by omega)
theorem key_sd (k : Sd) : KeyD false (dSd k) := by
  show okT (dSd k) = true
  obtain ⟨a, b⟩ := k
  rfl
theorem gD_sw (l : List (Sd × Sd)) (k : Sd) : gD (dSw l) (dSd k) = (l.lookup k).map dSd := by
  induction l with
  | nil => rfl
  | cons p l ih =>
    show gD ((dSd p.1, dSd p.2) :: dSw l) (dSd k) = _
    rw [show p = (p.1, p.2) from rfl, List.lookup_cons]
    by_cases e : k = p.1
    · subst e
      rw [gD_pos rfl]
      simp
    · rw [gD_neg (fun z => e (nk_sd z).symm), ih]
      have : (k == p.1) = false := beq_eq_false_iff_ne.mpr e
      rw [this]
theorem pD_sw {l : List (Sd × Sd)} {k v : Sd} (h : l.lookup k = none) : pD (dSw l) (dSd k) (dSd v) = dSw (l ++ [(k, v)]) := by
  unfold pD
  rw [gD_sw, h, if_neg (by simp)]
  unfold dSw
  rw [List.map_append]
  rfl
theorem lookup_none {α β : Type} [BEq α] [LawfulBEq α] {k : α} : ∀ {l : List (α × β)}, l.lookup k = none ↔ k ∉ l.map Prod.fst
  | [] => by simp
  | (a, b) :: l => by
    rw [List.lookup_cons, List.map_cons, List.mem_cons]
    cases e : k == a with
    | true => simp [eq_of_beq e]
    | false =>
      have := beq_eq_false_iff_ne.mp e
      simp [this, lookup_none (l := l)]
/-- the first seam that cannot stand -/
def fbS (ps : List Pn) : Nat → List (Sd × Sd) → List D → Option Nat
  | _, _, [] => none
  | k, sw, d :: ds => if isSm ps d && ((sw.lookup (smOf d).1).isNone && (sw.lookup (smOf d).2).isNone) then fbS ps (k + 1) (sw ++ [((smOf d).1, (smOf d).2), ((smOf d).2, (smOf d).1)]) ds else some k
/-- the fields of a sail -/
def sailFs (ps : List Pn) (ss : List Sm) : Fs := [("sewn", .k false (dSw (sewn ss))), ("panels", .d (.tuple (ps.map dPn))), ("seams", .d (.tuple (ss.map dSm)))]
/-- what the class makes of what it is handed -/
def initP (C1 C2 : Addr) (d1 d2 : D) (r : ReN) : Prop :=
  match rows d1 with
  | none => r = .ex C1 (.int (-1))
  | some (_, e1) => if 1 ≤ e1.length ∧ e1.length ≤ 12 then
      match fbG isPn 0 e1 with
      | some k => r = .ex C1 (.int (k : Nat))
      | none => match rows d2 with
        | none => r = .ex C2 (.int (-1))
        | some (_, e2) => if e2.length ≤ 18 then
            match fbS (e1.map pnOf) 0 [] e2 with
            | some k => r = .ex C2 (.int (k : Nat))
            | none => ((∀ p, p < e1.length → Rch (e2.map smOf) 0 p) ∧ r = .ok (sailFs (e1.map pnOf) (e2.map smOf)) []) ∨ ((¬ ∀ p, p < e1.length → Rch (e2.map smOf) 0 p) ∧ r = .ex C2 (.int (-1)))
          else r = .ex C2 (.int (-1))
    else r = .ex C1 (.int (-1))
theorem fbS_none {ps : List Pn} : ∀ {ds : List D} {k : Nat} {sw : List (Sd × Sd)}, fbS ps k sw ds = none → (sw.map Prod.fst).Nodup →
    (∀ d ∈ ds, isSm ps d = true) ∧ ((sw ++ sewn (ds.map smOf)).map Prod.fst).Nodup
  | [], k, sw, _, nd => ⟨fun d h => (by cases h), by simpa [sewn] using nd⟩
  | d :: ds, k, sw, h, nd => by
    unfold fbS at h
    split at h
    · rename_i hc
      simp only [Bool.and_eq_true, Option.isNone_iff_eq_none] at hc
      obtain ⟨h1, h2, h3⟩ := hc
      obtain ⟨_, hs⟩ := isSm_get h1
      obtain ⟨_, hlt, _⟩ := seamOk_iff.mp hs
      have ne : (smOf d).1 ≠ (smOf d).2 := fun e => by
        rw [e] at hlt
        omega
      have nd2 : ((sw ++ [((smOf d).1, (smOf d).2), ((smOf d).2, (smOf d).1)]).map Prod.fst).Nodup := by
        rw [List.map_append, List.nodup_append]
        refine ⟨nd, by simp [ne], fun a ha b hb e => ?_⟩
        subst e
        simp only [List.map_cons, List.map_nil, List.mem_cons, List.not_mem_nil, or_false] at hb
        rcases hb with rfl | rfl
        · exact lookup_none.mp h2 ha
        · exact lookup_none.mp h3 ha
      obtain ⟨q1, q2⟩ := fbS_none h nd2
      refine ⟨fun x hx => ?_, ?_⟩
      · rcases List.mem_cons.mp hx with rfl | hx
        · exact h1
        · exact q1 x hx
      · have e : sw ++ sewn ((d :: ds).map smOf) = sw ++ [((smOf d).1, (smOf d).2), ((smOf d).2, (smOf d).1)] ++ sewn (ds.map smOf) := by
          rw [List.map_cons, List.append_assoc]
          rfl
        rw [e]
        exact q2
    · cases h
theorem fbS_of {ps : List Pn} : ∀ {ss : List Sm} {k : Nat} {sw : List (Sd × Sd)}, (∀ s ∈ ss, seamOk ps s = true) → ((sw ++ sewn ss).map Prod.fst).Nodup → fbS ps k sw (ss.map dSm) = none
  | [], _, _, _, _ => rfl
  | s :: ss, k, sw, h, nd => by
    rw [List.map_cons]
    unfold fbS
    have e : sw ++ sewn (s :: ss) = sw ++ [(s.1, s.2), (s.2, s.1)] ++ sewn ss := by
      rw [List.append_assoc]
      rfl
    rw [e] at nd
    have nd1 := nd
    rw [List.map_append, List.nodup_append] at nd
    obtain ⟨n1, _, _⟩ := nd
    rw [List.map_append, List.nodup_append] at n1
    obtain ⟨_, _, n3⟩ := n1
    have l1 : sw.lookup s.1 = none := lookup_none.mpr fun z => n3 _ z s.1 (by simp) rfl
    have l2 : sw.lookup s.2 = none := lookup_none.mpr fun z => n3 _ z s.2 (by simp) rfl
    rw [isSm_of (h s List.mem_cons_self), smOf_d, l1, l2]
    exact fbS_of (fun x hx => h x (List.mem_cons_of_mem _ hx)) nd1
/-- a sail that stands is made -/
theorem init_ok {C1 C2 : Addr} {ps : List Pn} {ss : List Sm} (b c : Bool) (h : Ok ps ss) (r : ReN) (q : initP C1 C2 (seqD b (ps.map dPn)) (seqD c (ss.map dSm)) r) : r = .ok (sailFs ps ss) [] := by
  unfold initP at q
  rw [rows_of] at q
  simp only at q
  rw [if_pos (by rw [List.length_map]; exact ⟨h.n1, h.n2⟩), fbG_none _ _ (fun x hx => by
    obtain ⟨t, ht, rfl⟩ := List.mem_map.mp hx
    exact isPn_of (h.pn t ht).2 (h.pn t ht).1)] at q
  simp only at q
  have e1 : (ps.map dPn).map pnOf = ps := by
    rw [List.map_map]
    exact (List.map_congr_left fun x _ => pnOf_d x).trans (List.map_id ps)
  have e2 : (ss.map dSm).map smOf = ss := by
    rw [List.map_map]
    exact (List.map_congr_left fun x _ => smOf_d x).trans (List.map_id ss)
  rw [rows_of, e1] at q
  simp only at q
  rw [e2, if_pos (by rw [List.length_map]; exact h.m), fbS_of h.ok (by simpa using h.nd)] at q
  simp only at q
  rcases q with ⟨_, q⟩ | ⟨q, _⟩
  · exact q
  · exact absurd (fun p hp => h.cn p (by rw [List.length_map] at hp; exact hp)) q
/-! kinds -/
abbrev kSd : Sc := .t [.z, .z]
abbrev kPn : Sc := .t [kSd, kSd, kSd]
abbrev kSm : Sc := .t [.z, .z, .z, .z]
theorem sc_sd (x : Sd) : okS (dSd x) kSd = true := rfl
theorem sc_pt (x : Pt) : okS (dPt x) kSd = true := rfl
theorem sc_pn (x : Pn) : okS (dPn x) kPn = true := rfl
theorem sc_sm (x : Sm) : okS (dSm x) kSm = true := rfl
theorem dSd_inj {a b : Sd} : dSd a = dSd b ↔ a = b := by
  obtain ⟨a1, a2⟩ := a
  obtain ⟨b1, b2⟩ := b
  simp only [dSd, PyData.tuple.injEq, List.cons.injEq, PyData.int.injEq, and_true, Prod.mk.injEq]
  omega
theorem dPt_inj {a b : Pt} : dPt a = dPt b ↔ a = b := by
  obtain ⟨a1, a2⟩ := a
  obtain ⟨b1, b2⟩ := b
  simp only [dPt, PyData.tuple.injEq, List.cons.injEq, PyData.int.injEq, and_true, Prod.mk.injEq]
theorem dSm_inj {a b : Sm} : dSm a = dSm b ↔ a = b := by
  obtain ⟨⟨a1, a2⟩, a3, a4⟩ := a
  obtain ⟨⟨b1, b2⟩, b3, b4⟩ := b
  simp only [dSm, PyData.tuple.injEq, List.cons.injEq, PyData.int.injEq, and_true, Prod.mk.injEq]
  omega
theorem dPn_inj {a b : Pn} : dPn a = dPn b ↔ a = b := by
  obtain ⟨a1, a2, a3⟩ := a
  obtain ⟨b1, b2, b3⟩ := b
  simp only [dPn, PyData.tuple.injEq, List.cons.injEq, dPt_inj, and_true, Prod.mk.injEq]
/-! ints from 0 on -/
theorem sc_nats (l : List Nat) : ∀ d ∈ dNs l, okS d .z = true := fun d hd => by
  obtain ⟨x, _, rfl⟩ := List.mem_map.mp hd
  rfl
theorem dNs_inj {a b : List Nat} : dNs a = dNs b ↔ a = b := by
  constructor
  · intro h
    have : (dNs a).map (fun d => (toI d).toNat) = (dNs b).map fun d => (toI d).toNat := by rw [h]
    unfold dNs at this
    rw [List.map_map, List.map_map] at this
    have e : ∀ l : List Nat, l.map ((fun d => (toI d).toNat) ∘ fun (x : Nat) => PyData.int (x : Int)) = l := fun l => (List.map_congr_left fun x _ => (by show (toI (.int (x : Int))).toNat = x; simp [toI])).trans (List.map_id l)
    rwa [e, e] at this
  · exact fun h => by rw [h]
theorem dNs_perm {a b : List Nat} : (dNs a).Perm (dNs b) ↔ a.Perm b := by
  constructor
  · intro h
    have := h.map fun d => (toI d).toNat
    unfold dNs at this
    rw [List.map_map, List.map_map] at this
    have e : ∀ l : List Nat, l.map ((fun d => (toI d).toNat) ∘ fun (x : Nat) => PyData.int (x : Int)) = l := fun l => (List.map_congr_left fun x _ => (by show (toI (.int (x : Int))).toNat = x; simp [toI])).trans (List.map_id l)
    rwa [e, e] at this
  · exact fun h => h.map _
theorem srtN (o : List Nat) : srtD (dNs o) = dNs (o.mergeSort fun a b => decide (a ≤ b)) := srtD_map fun a _ b _ => by
  rw [dle_int]
  apply decide_eq_decide.mpr
  omega
theorem srtN_perm {o : List Nat} {m : Nat} : srtD (dNs o) = dNs (List.range m) ↔ o.Perm (List.range m) := by
  rw [srtN, dNs_inj]
  constructor
  · intro h
    exact (List.mergeSort_perm o _).symm.trans (by rw [h])
  · intro h
    refine List.Perm.eq_of_pairwise (le := fun a b => a ≤ b) (fun a b _ _ h1 h2 => Nat.le_antisymm h1 h2) ?_ (List.pairwise_lt_range.imp fun h => Nat.le_of_lt h) ((List.mergeSort_perm o _).trans h)
    have := List.pairwise_mergeSort (le := fun a b : Nat => decide (a ≤ b)) (fun a b c h1 h2 => by simp at *; omega) (fun a b => by simp; omega) o
    exact this.imp fun h => by simpa using h
theorem rng_dNs (n : Nat) : rngD 0 n = dNs (List.range n) := by
  unfold rngD dNs
  exact List.map_congr_left fun x _ => by rw [Int.zero_add]
theorem at_dNs {l : List Nat} {i : Nat} (h : i < l.length) : atI (dNs l) (i : Int) = some (.int (l.getD i 0 : Nat)) := at_nat (by
  unfold dNs
  rw [List.getElem?_map, List.getElem?_eq_getElem h]
  simp [List.getD, h])
theorem dNs_len (l : List Nat) : (dNs l).length = l.length := by
  unfold dNs
  rw [List.length_map]
theorem inD_nat (x : Nat) (l : List Nat) : inD (.int (x : Int)) (dNs l) = l.contains x := by
  have : dNs l = (l.map fun (x : Nat) => (x : Int)).map PyData.int := by
    unfold dNs
    rw [List.map_map]
    rfl
  rw [this, inD_ints, Bool.eq_iff_iff, List.contains_iff_mem, List.contains_iff_mem, List.mem_map]
  constructor
  · rintro ⟨y, hy, e⟩
    have : y = x := by omega
    exact this ▸ hy
  · exact fun h => ⟨x, h, rfl⟩
theorem lay_nats (l : List Nat) : PyData.canLayAll0 (dNs l) = true := okL_lay (okL_iff.mpr (sc_nats l))
def dT (l : List Nat) : D := .tuple (dNs l)
theorem dNs_app (a b : List Nat) : dNs (a ++ b) = dNs a ++ dNs b := List.map_append
theorem dNs_get {l : List Nat} {k : Nat} {d : D} (h : (dNs l)[k]? = some d) : ∃ x : Nat, l[k]? = some x ∧ d = .int (x : Nat) := by
  unfold dNs at h
  rw [List.getElem?_map] at h
  obtain ⟨x, hx, rfl⟩ := Option.map_eq_some_iff.mp h
  exact ⟨x, hx, rfl⟩
theorem map_get {α : Type} {f : α → D} {l : List α} {k : Nat} {d : D} (h : (l.map f)[k]? = some d) : ∃ x, l[k]? = some x ∧ d = f x := by
  rw [List.getElem?_map] at h
  obtain ⟨x, hx, rfl⟩ := Option.map_eq_some_iff.mp h
  exact ⟨x, hx, rfl⟩
theorem take_get {α : Type} {l : List α} {k : Nat} {x : α} (h : l[k]? = some x) : l.take (k + 1) = l.take k ++ [x] := by
  rw [List.take_add_one, h]
  rfl
theorem im_rngN {S : Cf} {ρ : Rho} {te : TE} {n : Nat} (h : Ev S te ρ (Eq (.dat (.int (n : Nat))))) (hn : n ≤ 1000000) : Itm S (iRng1 (tCons te tNil)) ρ (Eq (dNs (List.range n))) := by
  have := im_rng1E h (by omega)
  rwa [rng_dNs] at this
end SD
namespace SD
open PySem PySem.Spec PyProof.Rows L2 Dl LamX RZ SM
theorem lt_dT (a b : List Nat) : PySem.W.dataLt (dT a) (dT b) = decide (a < b) := by
  have e : ∀ l : List Nat, dNs l = (l.map fun (x : Nat) => (x : Int)).map PyData.int := fun l => by
    unfold dNs
    rw [List.map_map]
    rfl
  unfold dT
  rw [PySem.W.dataLt_tuple, e, e]
  show PySem.W.rowLt _ _ = _
  rw [PySem.W.dataLt_ints]
  exact decide_eq_decide.mpr (lt_nats a b)
theorem srt_dT (l : List (List Nat)) : srtD (l.map dT) = (l.mergeSort fun a b => !decide (b < a)).map dT := srtD_map fun a _ b _ => by rw [lt_dT]
theorem dT_inj {a b : List Nat} : dT a = dT b ↔ a = b := by
  unfold dT
  rw [PyData.tuple.injEq, dNs_inj]
theorem dle_bool (a b : Bool) : (!PySem.W.dataLt (.bool b) (.bool a)) = (!a || b) := by
  rw [PySem.W.dataLt_bool]
  cases a <;> cases b <;> decide
def dBs (l : List Bool) : List D := l.map PyData.bool
theorem dBs_inj {a b : List Bool} : dBs a = dBs b ↔ a = b := by
  unfold dBs
  constructor
  · intro h
    exact (List.map_inj_right (by intro x y e; cases e; rfl)).mp h
  · exact fun h => by rw [h]
theorem sc_bools (l : List Bool) : ∀ d ∈ dBs l, okS d .b = true := fun d hd => by
  obtain ⟨x, _, rfl⟩ := List.mem_map.mp hd
  rfl
theorem dBs_len (l : List Bool) : (dBs l).length = l.length := by
  unfold dBs
  rw [List.length_map]
end SD

set_option Elab.async false
set_option linter.all false
set_option maxRecDepth 100000
set_option maxHeartbeats 4000000
namespace K27
open PySem PySem.Spec PyProof.Rows L2 Dl LamX StX RZ SM SD
section
variable {P : Program} {w : World} {K : PySem.W.Frag} {mg : Str → Option Value} {base : Heap} {C1 C2 C3 fI CS : Addr} (T : Tx P w K mg base C1 C2 C3 fI CS)
include T
omit T in
theorem isWithin_eq (lo hi : Int) (d : D) : isWithin lo hi d = isWi lo hi d := by cases d <;> rfl
theorem c_is_point : Cal P w K mg base 3 "is_point" ["thing"] (spI K fx0 (fun d : D => [.dat d]) (fun _ => True) (fun d => Eq (.ok (.dat (.bool (isPt d)))))) := by
  have c_is_tuple_of := c_is_tuple_of T
  have c_is_within := c_is_within T
  obtain ⟨_, k1⟩ := T.k_MOST_PLACE
  refine mk_cal T.d_is_point sc_is_point (fun _ => rfl) (fun _ _ _ _ _ _ us hl => match us, hl with | [_], _ => rfl) (fun f cdv A outer s H E hr d _ => ⟨_, (pss_one (ps_ret (pe_and (pe_cal c_is_tuple_of (hr.mono (by first | decide | omega)) rfl (pa_cons (pv 0) (pa_cons pe_int pa_nil))) (pe_one (pe_callB (r := rAll K) (cr_all rfl) (by rfl) T.b_all (by decide +kernel) (pa_cons (pe_lc (own := [("one", 1)]) (by rfl) sc_is_point.nd (pi_tup (pv 0)) (blkOk_by (N := ["thing", "one"]) (sc := defScope s_is_point) (own := [("one", 1)]) (by decide +kernel)) (fun _ _ _ _ _ => (pg_name (i := 1) sc_is_point.nd rfl (by first | exact Or.inl rfl | exact Or.inr rfl))) (fun _ _ _ _ _ => pts_nil) (fun _ _ _ _ _ => (pe_cal c_is_within (hr.mono (by first | decide | omega)) rfl (pa_cons (pv 1) (pa_cons (pe_un un_neg (pe_gint rfl T.k_MOST_PLACE)) (pa_cons (pe_gint rfl T.k_MOST_PLACE) pa_nil)))))) pa_nil)))))), fun G => ?_⟩)
  by_cases h2 : isTupOf 2 d = true
  · obtain ⟨a, b, rfl⟩ : ∃ a b, d = .tuple [a, b] := by
      cases d <;> simp [isTupOf] at h2
      rename_i ds
      match ds, h2 with
      | [a, b], _ => exact ⟨a, b, rfl⟩
    refine xc_retB (ev_andV (b := isWi (-100) 100 a && isWi (-100) 100 b) (ev_callE (PyData.tuple [a, b], (2 : Int)) (ea_cons (ev_var rfl) (ea_cons ev_int ea_nil)) True.intro) fun _ => (ev_allL (l := [a, b]) (dα := id) (p := isWi (-100) 100) (im_tupE (ds := [a, b]) (ev_var rfl)) (by simp) fun x _ => ⟨[1], _, by simp, tg_name, (ev_callE (x, (-100 : Int), (100 : Int)) (ea_cons (ev_var rfl) (ea_cons (ev_neg ev_int) (ea_cons ev_int ea_nil))) True.intro).cast (by rw [isWithin_eq])⟩).cast (by simp)) ?_
    rfl
  · have e : isPt d = false := by
      rw [Bool.eq_false_iff]
      intro z
      obtain ⟨e, _⟩ := isPt_get z
      rw [e] at h2
      exact h2 rfl
    exact xc_retB (ev_andV (b := false) ((ev_callE (d, (2 : Int)) (ea_cons (ev_var rfl) (ea_cons ev_int ea_nil)) True.intro).cast (by rw [Bool.eq_false_iff.mpr h2])) fun z => by cases z) (by rw [e]; rfl)
theorem c_crossed : Cal P w K mg base 1 "crossed" ["one", "middle", "other"] (spI K fx0 (fun i : Pn => [.dat (dPt i.1), .dat (dPt i.2.1), .dat (dPt i.2.2)]) (fun i => nearP 100000 i) (fun i => Eq (.ok (.dat (.int (cross i.1 i.2.1 i.2.2)))))) := by
  refine mk_cal T.d_crossed sc_crossed (fun _ => rfl) (fun _ _ _ _ _ _ us hl => match us, hl with | [_, _, _], _ => rfl) (fun f cdv A outer s H E hr i hp => ⟨_, (pss_one (ps_ret (pe_op op_sub (pe_op op_mul (pe_op op_sub (pe_ix (r := rIxT K) ix_tup (pv 1) pe_int (fun _ _ => rfl)) (pe_ix (r := rIxT K) ix_tup (pv 0) pe_int (fun _ _ => rfl))) (pe_op op_sub (pe_ix (r := rIxT K) ix_tup (pv 2) pe_int (fun _ _ => rfl)) (pe_ix (r := rIxT K) ix_tup (pv 0) pe_int (fun _ _ => rfl)))) (pe_op op_mul (pe_op op_sub (pe_ix (r := rIxT K) ix_tup (pv 1) pe_int (fun _ _ => rfl)) (pe_ix (r := rIxT K) ix_tup (pv 0) pe_int (fun _ _ => rfl))) (pe_op op_sub (pe_ix (r := rIxT K) ix_tup (pv 2) pe_int (fun _ _ => rfl)) (pe_ix (r := rIxT K) ix_tup (pv 0) pe_int (fun _ _ => rfl))))))), fun G => ?_⟩)
  obtain ⟨⟨a1, a2⟩, ⟨b1, b2⟩, ⟨c1, c2⟩⟩ := i
  obtain ⟨⟨x1, x2, x3, x4⟩, ⟨y1, y2, y3, y4⟩, ⟨z1, z2, z3, z4⟩⟩ := hp
  simp only at x1 x2 x3 x4 y1 y2 y3 y4 z1 z2 z3 z4
  have g : ∀ {i : Nat} {p : Pt} {ρ : Rho}, ρ[i]? = some (.dat (dPt p)) → Ev ⟨K, fx0, G, H, E⟩ (tOp (rIxT K) (tVar i) (tC (.int 0))) ρ (Eq (.dat (.int p.1))) ∧ Ev ⟨K, fx0, G, H, E⟩ (tOp (rIxT K) (tVar i) (tC (.int 1))) ρ (Eq (.dat (.int p.2))) := fun h => ⟨ev_ixU (ev_var h) ev_int rfl, ev_ixU (ev_var h) ev_int rfl⟩
  exact xc_ret (ev_I0 (ev_IC (ev_I0 (g (i := 1) rfl).1 (g (i := 0) rfl).1) (ev_I0 (g (i := 2) rfl).2 (g (i := 0) rfl).2) (.inl ⟨by show _ < b1 - a1; omega, by show b1 - a1 < _; omega⟩)) (ev_IC (ev_I0 (g (i := 1) rfl).2 (g (i := 0) rfl).2) (ev_I0 (g (i := 2) rfl).1 (g (i := 0) rfl).1) (.inl ⟨by show _ < b2 - a2; omega, by show b2 - a2 < _; omega⟩))) rfl
omit T in
theorem near_mono {m n : Int} {p : Pt} (h : near m p) (e : m ≤ n) : near n p := by
  obtain ⟨h1, h2, h3, h4⟩ := h
  exact ⟨by omega, by omega, by omega, by omega⟩
omit T in
theorem nearP_mono {m n : Int} {p : Pn} (h : nearP m p) (e : m ≤ n) : nearP n p := ⟨near_mono h.1 e, near_mono h.2.1 e, near_mono h.2.2 e⟩
theorem c_is_panel : Cal P w K mg base 4 "is_panel" ["thing"] (spI K fx0 (fun d : D => [.dat d]) (fun _ => True) (fun d => Eq (.ok (.dat (.bool (isPn d)))))) := by
  have c_is_tuple_of := c_is_tuple_of T
  have c_is_point := c_is_point T
  have c_crossed := c_crossed T
  refine mk_cal T.d_is_panel sc_is_panel (fun _ => rfl) (fun _ _ _ _ _ _ us hl => match us, hl with | [_], _ => rfl) (fun f cdv A outer s H E hr d _ => ⟨_, (pss_cons (ps_if (PW.pt (pw_or (pt_not (pt_val (pe_cal c_is_tuple_of (hr.mono (by first | decide | omega)) rfl (pa_cons (pv 0) (pa_cons pe_int pa_nil))))) (pw_or1 (pt_not (pt_val (pe_callB (r := rAll K) (cr_all rfl) (by rfl) T.b_all (by decide +kernel) (pa_cons (pe_lc (own := [("point", 1)]) (by rfl) sc_is_panel.nd (pi_tup (pv 0)) (blkOk_by (N := ["thing", "point"]) (sc := defScope s_is_panel) (own := [("point", 1)]) (by decide +kernel)) (fun _ _ _ _ _ => (pg_name (i := 1) sc_is_panel.nd rfl (by first | exact Or.inl rfl | exact Or.inr rfl))) (fun _ _ _ _ _ => pts_nil) (fun _ _ _ _ _ => (pe_cal c_is_point (hr.mono (by first | decide | omega)) rfl (pa_cons (pv 1) pa_nil)))) pa_nil))))))) (pss_one (ps_ret pe_bl)) pss_nil)
      (pss_one (ps_ret (pe_cmpR op_gt (pe_cal c_crossed (hr.mono (by first | decide | omega)) rfl (pa_cons (pe_ix (r := rIxT K) ix_tup (pv 0) pe_int (fun _ _ => rfl)) (pa_cons (pe_ix (r := rIxT K) ix_tup (pv 0) pe_int (fun _ _ => rfl)) (pa_cons (pe_ix (r := rIxT K) ix_tup (pv 0) pe_int (fun _ _ => rfl)) pa_nil)))) pe_int (nomark _))))), fun G => ?_⟩)
  by_cases h2 : isTupOf 3 d = true
  · obtain ⟨a, b, c, rfl⟩ : ∃ a b c, d = .tuple [a, b, c] := by
      cases d <;> simp [isTupOf] at h2
      rename_i ds
      match ds, h2 with
      | [a, b, c], _ => exact ⟨a, b, c, rfl⟩
    have e0 : isPn (.tuple [a, b, c]) = ((isPt a && (isPt b && isPt c)) && decide (0 < cross (ptOf a) (ptOf b) (ptOf c))) := rfl
    refine xs_when (S := ⟨K, fx0, G, H, E⟩) (b := !(isPt a && (isPt b && isPt c))) (et_is (et_or (et_not (et_B (ev_callE (PyData.tuple [a, b, c], (3 : Int)) (ea_cons (ev_var rfl) (ea_cons ev_int ea_nil)) True.intro))) fun _ => et_not (et_B (ev_allL (l := [a, b, c]) (dα := id) (p := isPt) (im_tupE (ds := [a, b, c]) (ev_var rfl)) (by simp) fun x _ => ⟨[1], _, by simp, tg_name, ev_callE x (ea_cons (ev_var rfl) ea_nil) True.intro⟩))) (by simp [isTupOf])) (fun z => ?_) fun z => ?_
    · have hz := (Bool.not_eq_true' _).mp z
      rw [e0, hz]
      exact xc_ret ev_bl rfl
    · have hz := (Bool.not_eq_false' _).mp z
      rw [e0, hz]
      simp only [Bool.and_eq_true] at hz
      obtain ⟨e1, n1⟩ := isPt_get hz.1
      obtain ⟨e2, n2⟩ := isPt_get hz.2.1
      obtain ⟨e3, n3⟩ := isPt_get hz.2.2
      rw [e1, e2, e3]
      exact xc_retB (ev_C0 (ev_callE (ptOf a, ptOf b, ptOf c) (ea_cons (ev_ixU (ev_var rfl) ev_int rfl) (ea_cons (ev_ixU (ev_var rfl) ev_int rfl) (ea_cons (ev_ixU (ev_var rfl) ev_int rfl) ea_nil))) (nearP_mono ⟨n1, n2, n3⟩ (by decide))) ev_int) rfl
  · have e : isPn d = false := by
      rw [Bool.eq_false_iff]
      intro z
      obtain ⟨e, _⟩ := isPn_get z
      rw [e] at h2
      exact h2 rfl
    rw [e]
    exact xs_when (S := ⟨K, fx0, G, H, E⟩) (b := true) (et_orT ((et_not (et_B (ev_callE (d, (3 : Int)) (ea_cons (ev_var rfl) (ea_cons ev_int ea_nil)) True.intro))).imp fun b hb => by rw [← hb, Bool.eq_false_iff.mpr h2]; rfl)) (fun _ => xc_ret ev_bl rfl) fun z => by cases z
omit T in
theorem at_pn {t : Pn} {k : Nat} (h : k < 3) : atI [dPt t.1, dPt t.2.1, dPt t.2.2] (k : Int) = some (dPt (atC t k)) := by
  match k, h with
  | 0, _ => rfl
  | 1, _ => rfl
  | 2, _ => rfl
theorem c_long_of : Cal P w K mg base 1 "long_of" ["panel", "side"] (spI K fx0 (fun i : Pn × Nat => [.dat (dPn i.1), .dat (.int (i.2 : Nat))]) (fun i => nearP 100 i.1 ∧ i.2 < 3) (fun i => Eq (.ok (.dat (.int (lng i.1 i.2)))))) := by
  refine mk_cal T.d_long_of sc_long_of (fun _ => rfl) (fun _ _ _ _ _ _ us hl => match us, hl with | [_, _], _ => rfl) (fun f cdv A outer s H E hr i hp => ⟨_, (pss_cons (ps_par (i := 2) (j := 3) (by rfl) sc_long_of.nd rfl rfl (by decide) rfl rfl (pa_cons (pe_ix (r := rIxT K) ix_tup (pv 0) (pv 1) (fun _ _ => rfl)) (pa_cons (pe_ix (r := rIxT K) ix_tup (pv 0) (pe_op op_mod (pe_op op_add (pv 1) pe_int) pe_int) (fun _ _ => rfl)) pa_nil)) (by rfl))
      (pss_one (ps_ret (pe_op op_add (pe_op op_pow (pe_op op_sub (pe_ix (r := rIxT K) ix_tup (pv 2) pe_int (fun _ _ => rfl)) (pe_ix (r := rIxT K) ix_tup (pv 3) pe_int (fun _ _ => rfl))) pe_int) (pe_op op_pow (pe_op op_sub (pe_ix (r := rIxT K) ix_tup (pv 2) pe_int (fun _ _ => rfl)) (pe_ix (r := rIxT K) ix_tup (pv 3) pe_int (fun _ _ => rfl))) pe_int))))), fun G => ?_⟩)
  obtain ⟨t, k⟩ := i
  obtain ⟨hn, hk⟩ := hp
  have hk' : k < 3 := hk
  have hk2 : (k + 1) % 3 < 3 := Nat.mod_lt _ (by decide)
  refine xs_par (x := .dat (dPt (atC t k))) (y := .dat (dPt (atC t ((k + 1) % 3)))) (ea_cons (ev_ixU (ds := [dPt t.1, dPt t.2.1, dPt t.2.2]) (ev_var rfl) (ev_var rfl) (at_pn hk')) (ea_cons (ev_ixU (ds := [dPt t.1, dPt t.2.1, dPt t.2.2]) (i := (((k + 1) % 3 : Nat) : Int)) (ev_var rfl) ((ev_IC (i := (k : Int) + 1) (j := 3) (ev_I0 (ev_var rfl) ev_int) ev_int (by decide)).cast (by show Sl.dat (.int _) = .dat (.int _); congr 2 <;> omega)) (at_pn hk2)) ea_nil)) ?_
  have n1 := near_at hn k
  have n2 := near_at hn ((k + 1) % 3)
  show Xc _ _ _ (RetP (Eq (.ok (.dat (.int (sq (atC t k) (atC t ((k + 1) % 3))))))))
  generalize atC t k = p at n1 ⊢
  generalize atC t ((k + 1) % 3) = q at n2 ⊢
  obtain ⟨p1, p2⟩ := p
  obtain ⟨q1, q2⟩ := q
  obtain ⟨x1, x2, x3, x4⟩ := n1
  obtain ⟨y1, y2, y3, y4⟩ := n2
  simp only at x1 x2 x3 x4 y1 y2 y3 y4
  exact xc_ret (ev_I0 (ev_IC (ev_I0 (ev_ixU (ds := [.int p1, .int p2]) (ev_var rfl) ev_int rfl) (ev_ixU (ds := [.int q1, .int q2]) (ev_var rfl) ev_int rfl)) ev_int ⟨by decide, by decide, by omega⟩) (ev_IC (ev_I0 (ev_ixU (ds := [.int p1, .int p2]) (ev_var rfl) ev_int rfl) (ev_ixU (ds := [.int q1, .int q2]) (ev_var rfl) ev_int rfl)) ev_int ⟨by decide, by decide, by omega⟩)) rfl

end
end K27

set_option Elab.async false
set_option linter.all false
set_option maxRecDepth 100000
set_option maxHeartbeats 4000000
namespace K27
open PySem PySem.Spec PyProof.Rows L2 Dl LamX StX RZ SM SD
section
variable {P : Program} {w : World} {K : PySem.W.Frag} {mg : Str → Option Value} {base : Heap} {C1 C2 C3 fI CS : Addr} (T : Tx P w K mg base C1 C2 C3 fI CS)
include T
omit T in
theorem geI2 (i k j l : Int) : geI [i, k] [j, l] = !decide (i < j ∨ (i = j ∧ k < l)) := by
  unfold geI
  show Ob.lexAt _ _ _ 0 2 = _
  rw [Ob.lexAt_succ, Ob.lexAt_succ, Ob.lexAt_zero]
  simp only [List.getD_cons_zero, List.getD_cons_succ, Nat.zero_add]
  by_cases h1 : i = j
  · by_cases h2 : k = l
    · simp [h1, h2]
    · rw [Bool.eq_iff_iff]
      simp [h1, h2]
  · rw [Bool.eq_iff_iff]
    simp [h1]
omit T in
theorem step4_0 {α : Type} (a b c d : α) : stepV [a, b, c, d] none none 2 = [a, c] := by
  unfold stepV
  have e : Builtin.Slice.sliceAdjust none none 2 (([a, b, c, d].length : Nat) : Int) = (0, 4) := by
    show Builtin.Slice.sliceAdjust none none 2 4 = (0, 4)
    decide
  rw [e, show Builtin.Slice.slicePlaces 0 4 2 = 2 by decide]
  rfl
omit T in
theorem step4_1 {α : Type} (a b c d : α) : stepV [a, b, c, d] (some 1) none 2 = [b, d] := by
  unfold stepV
  have e : Builtin.Slice.sliceAdjust (some 1) none 2 (([a, b, c, d].length : Nat) : Int) = (1, 4) := by
    show Builtin.Slice.sliceAdjust (some 1) none 2 4 = (1, 4)
    decide
  rw [e, show Builtin.Slice.slicePlaces 1 4 2 = 2 by decide]
  rfl
theorem c_is_seam : Cal P w K mg base 3 "is_seam" ["panels", "thing"] (spI K fx0 (fun i : (Bool × List Pn) × D => [.dat (seqD i.1.1 (i.1.2.map dPn)), .dat i.2]) (fun i => i.1.2.length ≤ 1000 ∧ ∀ t ∈ i.1.2, nearP 100 t) (fun i => Eq (.ok (.dat (.bool (isSm i.1.2 i.2)))))) := by
  have c_is_tuple_of := c_is_tuple_of T
  have c_is_within := c_is_within T
  have c_long_of := c_long_of T
  refine mk_cal T.d_is_seam sc_is_seam (fun _ => rfl) (fun _ _ _ _ _ _ us hl => match us, hl with | [_, _], _ => rfl) (fun f cdv A outer s H E hr i hp => ⟨_, (pss_cons (ps_if (PW.pt (pw_or (pt_not (pt_val (pe_cal c_is_tuple_of (hr.mono (by first | decide | omega)) rfl (pa_cons (pv 1) (pa_cons pe_int pa_nil))))) (pw_or1 (pt_not (pt_val (pe_callB (r := rAll K) (cr_all rfl) (by rfl) T.b_all (by decide +kernel) (pa_cons (pe_lc (own := [("one", 2)]) (by rfl) sc_is_seam.nd (pi_tup (pe_stepT (K := K) rfl (pv 1) po_none po_none)) (blkOk_by (N := ["panels", "thing", "one"]) (sc := defScope s_is_seam) (own := [("one", 2)]) (by decide +kernel)) (fun _ _ _ _ _ => (pg_name (i := 2) sc_is_seam.nd rfl (by first | exact Or.inl rfl | exact Or.inr rfl))) (fun _ _ _ _ _ => pts_nil) (fun _ _ _ _ _ => (pe_cal c_is_within (hr.mono (by first | decide | omega)) rfl (pa_cons (pv 2) (pa_cons pe_int (pa_cons (pe_op op_sub (pe_callB (r := fun xs H Q => ∃ p ys, xs = [.ref p] ∧ (SqL K H p ys ∨ SqT K H p ys) ∧ Q (.int ys.length) H) call_len_seq (by rfl) T.b_len (by decide +kernel) (pa_cons (pv 0) pa_nil)) pe_int) pa_nil)))))) pa_nil))))))) (pss_one (ps_ret pe_bl)) pss_nil)
      (pss_cons (ps_if (PW.pt (pw_or (pt_not (pt_val (pe_callB (r := rAll K) (cr_all rfl) (by rfl) T.b_all (by decide +kernel) (pa_cons (pe_lc (own := [("one", 2)]) (by rfl) sc_is_seam.nd (pi_tup (pe_stepT (K := K) rfl (pv 1) (po_some pe_int) po_none)) (blkOk_by (N := ["panels", "thing", "one"]) (sc := defScope s_is_seam) (own := [("one", 2)]) (by decide +kernel)) (fun _ _ _ _ _ => (pg_name (i := 2) sc_is_seam.nd rfl (by first | exact Or.inl rfl | exact Or.inr rfl))) (fun _ _ _ _ _ => pts_nil) (fun _ _ _ _ _ => (pe_cal c_is_within (hr.mono (by first | decide | omega)) rfl (pa_cons (pv 2) (pa_cons pe_int (pa_cons pe_int pa_nil)))))) pa_nil)))) (pw_or1 (pt_cmpR (r := rGeT K) (op_geT rfl (u64 hr)) (pe_slice (r := rSlA K) sl_tupA (pv 1) po_none (po_some pe_int)) (pe_slice (r := rSlA K) sl_tupA (pv 1) (po_some pe_int) po_none) (nomark _))))) (pss_one (ps_ret pe_bl)) pss_nil)
      (pss_one (ps_ret (pe_cmpR (r := rEqD K) (op_eqD (u64 hr)) (pe_cal c_long_of (hr.mono (by first | decide | omega)) rfl (pa_cons (pe_ix (r := rIxA K) (ix_seqA rfl) (pv 0) (pe_ix (r := rIxT K) ix_tup (pv 1) pe_int (fun _ _ => rfl)) (fun _ _ => rfl)) (pa_cons (pe_ix (r := rIxT K) ix_tup (pv 1) pe_int (fun _ _ => rfl)) pa_nil))) (pe_cal c_long_of (hr.mono (by first | decide | omega)) rfl (pa_cons (pe_ix (r := rIxA K) (ix_seqA rfl) (pv 0) (pe_ix (r := rIxT K) ix_tup (pv 1) pe_int (fun _ _ => rfl)) (fun _ _ => rfl)) (pa_cons (pe_ix (r := rIxT K) ix_tup (pv 1) pe_int (fun _ _ => rfl)) pa_nil))) (nomark _)))))), fun G => ?_⟩)
  obtain ⟨⟨b, ps⟩, d⟩ := i
  obtain ⟨hl, hn⟩ := hp
  have hl : ps.length ≤ 1000 := hl
  have hn : ∀ t ∈ ps, nearP 100 t := hn
  by_cases h4 : isTupOf 4 d = true
  · obtain ⟨a, c, e, g, rfl⟩ : ∃ a c e g, d = .tuple [a, c, e, g] := by
      cases d <;> simp [isTupOf] at h4
      rename_i ds
      match ds, h4 with
      | [a, c, e, g], _ => exact ⟨a, c, e, g, rfl⟩
    have e0 : isSm ps (.tuple [a, c, e, g]) = ((isWi 0 ((ps.length : Int) - 1) a && isWi 0 ((ps.length : Int) - 1) e) && ((isWi 0 2 c && isWi 0 2 g) && seamOk ps (smOf (.tuple [a, c, e, g])))) := rfl
    have s1 := step4_0 a c e g
    have len : ∀ {ρ : Rho}, ρ[0]? = some (.dat (seqD b (ps.map dPn))) → Ev ⟨K, fx0, G, H, E⟩ (tOp (rI0 fun i j => .int (i - j)) (tCB (fun xs H Q => ∃ p ys, xs = [.ref p] ∧ (SqL K H p ys ∨ SqT K H p ys) ∧ Q (.int ys.length) H) (tCons (tVar 0) tNil)) (tC (.int 1))) ρ (Eq (.dat (.int ((ps.length : Int) - 1)))) := fun h => (ev_I0 (ev_lenA (b := b) (ds := ps.map dPn) (ev_var h)) ev_int).cast (by rw [List.length_map])
    refine xs_when (S := ⟨K, fx0, G, H, E⟩) (b := !(isWi 0 ((ps.length : Int) - 1) a && isWi 0 ((ps.length : Int) - 1) e)) (et_is (et_or (et_not (et_B (ev_callE (PyData.tuple [a, c, e, g], (4 : Int)) (ea_cons (ev_var rfl) (ea_cons ev_int ea_nil)) True.intro))) fun _ => et_not (et_B (ev_allL (l := [a, e]) (dα := id) (p := isWi 0 ((ps.length : Int) - 1)) (im_tupE (ds := [a, e]) ((ev_stepT (ds := [a, c, e, g]) (lo := none) (hi := none) (st := 2) (ev_var rfl) eo_none eo_none (by rw [s1]; simp)).cast (by rw [s1]))) (by simp) fun x _ => ⟨[2], _, by simp, tg_name, (ev_callE (x, (0 : Int), (ps.length : Int) - 1) (ea_cons (ev_var rfl) (ea_cons ev_int (ea_cons (len rfl) ea_nil))) True.intro).cast (by rw [isWithin_eq])⟩))) (by simp [isTupOf])) (fun z => ?_) fun z => ?_
    · rw [e0, (Bool.not_eq_true' _).mp z]
      exact xc_ret ev_bl rfl
    have z1 := (Bool.not_eq_false' _).mp z
    rw [e0, z1]
    have hae := z1
    rw [Bool.and_eq_true] at hae
    obtain ⟨i, rfl, i1, i2⟩ := isWi_int hae.1
    obtain ⟨j, rfl, j1, j2⟩ := isWi_int hae.2
    cases hcg : (isWi 0 2 c && isWi 0 2 g) with
    | false =>
      exact xs_when (S := ⟨K, fx0, G, H, E⟩) (b := true) (et_orT (et_is (et_not (et_B (ev_allL (l := [c, g]) (dα := id) (p := isWi 0 2) (im_tupE (ds := [c, g]) ((ev_stepT (ds := [.int i, c, .int j, g]) (lo := some 1) (hi := none) (st := 2) (ev_var rfl) (eo_some ev_int) eo_none (by rw [step4_1]; simp)).cast (by rw [step4_1]))) (by simp) fun x _ => ⟨[2], _, by simp, tg_name, (ev_callE (x, (0 : Int), (2 : Int)) (ea_cons (ev_var rfl) (ea_cons ev_int (ea_cons ev_int ea_nil))) True.intro).cast (by rw [isWithin_eq])⟩))) (by simp only [List.all_cons, List.all_nil, Bool.and_true, hcg]; rfl))) (fun _ => xc_ret ev_bl rfl) fun z => by cases z
    | true =>
      have hcg' := hcg
      rw [Bool.and_eq_true] at hcg'
      obtain ⟨k, rfl, k1, k2⟩ := isWi_int hcg'.1
      obtain ⟨l, rfl, l1, l2⟩ := isWi_int hcg'.2
      obtain ⟨p, rfl⟩ : ∃ p : Nat, i = p := ⟨i.toNat, by omega⟩
      obtain ⟨q, rfl⟩ : ∃ q : Nat, j = q := ⟨j.toNat, by omega⟩
      obtain ⟨u, rfl⟩ : ∃ u : Nat, k = u := ⟨k.toNat, by omega⟩
      obtain ⟨v, rfl⟩ : ∃ v : Nat, l = v := ⟨l.toNat, by omega⟩
      have hp : p < ps.length := by omega
      have hq : q < ps.length := by omega
      have e1 : seamOk ps (smOf (.tuple [.int (p : Nat), .int (u : Nat), .int (q : Nat), .int (v : Nat)])) = (decide (p < q ∨ (p = q ∧ u < v)) && decide (lng (ps.getD p default) u = lng (ps.getD q default) v)) := by
        show seamOk ps ((p, u), (q, v)) = _
        unfold seamOk
        simp only
        rw [decide_eq_true (by omega), Bool.true_and]
      rw [e1]
      refine xs_when (S := ⟨K, fx0, G, H, E⟩) (b := !decide (p < q ∨ (p = q ∧ u < v))) (et_is (et_or (a := false) (et_is (et_not (et_B (ev_allL (l := [.int (u : Nat), .int (v : Nat)]) (dα := id) (p := isWi 0 2) (im_tupE (ds := [.int (u : Nat), .int (v : Nat)]) ((ev_stepT (ds := [.int (p : Nat), .int (u : Nat), .int (q : Nat), .int (v : Nat)]) (lo := some 1) (hi := none) (st := 2) (ev_var rfl) (eo_some ev_int) eo_none (by rw [step4_1]; simp)).cast (by rw [step4_1]))) (by simp) fun x _ => ⟨[2], _, by simp, tg_name, (ev_callE (x, (0 : Int), (2 : Int)) (ea_cons (ev_var rfl) (ea_cons ev_int (ea_cons ev_int ea_nil))) True.intro).cast (by rw [isWithin_eq])⟩))) (by simp only [List.all_cons, List.all_nil, Bool.and_true, hcg]; rfl)) fun _ => et_B (ev_geT (ns := [(p : Int), (u : Int)]) (ms := [(q : Int), (v : Int)]) (ev_cutA (ds := [.int (p : Nat), .int (u : Nat), .int (q : Nat), .int (v : Nat)]) (ev_var rfl) eo_none (eo_some ev_int)) (ev_cutA (ds := [.int (p : Nat), .int (u : Nat), .int (q : Nat), .int (v : Nat)]) (ev_var rfl) (eo_some ev_int) eo_none))) (by rw [geI2, Bool.false_or]; congr 1; apply decide_eq_decide.mpr; omega)) (fun z => ?_) fun z => ?_
      · rw [(Bool.not_eq_true' _).mp z]
        exact xc_ret ev_bl rfl
      rw [(Bool.not_eq_false' _).mp z]
      have gp : ∀ {x : Nat}, x < ps.length → atI (ps.map dPn) (x : Int) = some (dPn (ps.getD x default)) := fun {x} h => at_nat (by rw [List.getElem?_map, List.getElem?_eq_getElem h]; simp [List.getD, h])
      have gn : ∀ {x : Nat}, x < ps.length → nearP 100 (ps.getD x default) := fun {x} h => by
        rw [show ps.getD x default = ps[x] by simp [List.getD, h]]
        exact hn _ (List.getElem_mem h)
      have th : ∀ {m : Nat} {x : D} {ρ : Rho}, ρ[1]? = some (.dat (.tuple [.int (p : Nat), .int (u : Nat), .int (q : Nat), .int (v : Nat)])) → atI [.int (p : Nat), .int (u : Nat), .int (q : Nat), .int (v : Nat)] (m : Int) = some x → Ev ⟨K, fx0, G, H, E⟩ (tOp (rIxT K) (tVar 1) (tC (.int (m : Nat)))) ρ (Eq (.dat x)) := fun h ha => ev_ixU (ev_var h) ev_int ha
      refine xc_retB (ev_eqI (ev_callE (ps.getD p default, u) (ea_cons (ev_ixA (b := b) (ds := ps.map dPn) (ev_var rfl) (th (m := 0) rfl rfl) (gp hp)) (ea_cons (th (m := 1) rfl rfl) ea_nil)) ⟨gn hp, by show u < 3; omega⟩) (ev_callE (ps.getD q default, v) (ea_cons (ev_ixA (b := b) (ds := ps.map dPn) (ev_var rfl) (th (m := 2) rfl rfl) (gp hq)) (ea_cons (th (m := 3) rfl rfl) ea_nil)) ⟨gn hq, by show v < 3; omega⟩)) ?_
      simp
  · have e : isSm ps d = false := by
      rw [Bool.eq_false_iff]
      intro z
      obtain ⟨e, _⟩ := isSm_get z
      rw [e] at h4
      exact h4 rfl
    show Xc _ _ _ (RetP (Eq (.ok (.dat (.bool (isSm ps d))))))
    rw [e]
    exact xs_when (S := ⟨K, fx0, G, H, E⟩) (b := true) (et_orT ((et_not (et_B (ev_callE (d, (4 : Int)) (ea_cons (ev_var rfl) (ea_cons ev_int ea_nil)) True.intro))).imp fun b hb => by rw [← hb, Bool.eq_false_iff.mpr h4]; rfl)) (fun _ => xc_ret ev_bl rfl) fun z => by cases z

end
end K27

set_option Elab.async false
set_option linter.all false
set_option maxRecDepth 100000
set_option maxHeartbeats 4000000
namespace K27
open PySem PySem.Spec PyProof.Rows L2 Dl LamX StX RZ SM SD
section
variable {P : Program} {w : World} {K : PySem.W.Frag} {mg : Str → Option Value} {base : Heap} {C1 C2 C3 fI CS : Addr} (T : Tx P w K mg base C1 C2 C3 fI CS)
include T
omit T in
theorem rng_nat (n : Nat) : rngD 0 n = dNs (List.range n) := by
  unfold rngD dNs
  exact List.map_congr_left fun x _ => by rw [Int.zero_add]
omit T in
theorem filterMap_eq {α β : Type} (g : α → Option β) (b0 : β) : ∀ l : List α, l.filterMap g = (l.filter fun x => (g x).isSome).map fun x => (g x).getD b0
  | [] => rfl
  | x :: l => by
    rw [List.filterMap_cons, List.filter_cons]
    cases h : g x with
    | none => simp [filterMap_eq g b0 l]
    | some y => simp [filterMap_eq g b0 l, h]
def obS (CS : Addr) (ps : List Pn) (ss : List Sm) : Sl := .ob none CS (sailFs ps ss)
abbrev SI := List Pn × List Sm
omit T in
theorem sailFs_sewn {ps : List Pn} {ss : List Sm} : List.lookup (Str.ofString "sewn") (sailFs ps ss) = some (Fv.k false (dSw (sewn ss))) := rfl
omit T in
theorem sailFs_panels {ps : List Pn} {ss : List Sm} : List.lookup (Str.ofString "panels") (sailFs ps ss) = some (Fv.d (.tuple (ps.map dPn))) := rfl
omit T in
theorem sailFs_seams {ps : List Pn} {ss : List Sm} : List.lookup (Str.ofString "seams") (sailFs ps ss) = some (Fv.d (.tuple (ss.map dSm))) := rfl
theorem c_Sail_beside : CalM P w K mg base 1 CS "beside" ["self", "panel"] (spI K fx0 (fun i : SI × Nat => [obS CS i.1.1 i.1.2, .dat (.int (i.2 : Nat))]) (fun _ => True) (fun i => Eq (.ok (.dat (.list (dNs (beside i.1.2 i.2))))))) := by
  refine mk_calMI T.m_beside sc_Sail_beside (fun _ => rfl) (fun _ _ _ _ _ _ us hl => match us, hl with | [_, _], _ => rfl) (fun f cdv A outer s H E hr i _ => ⟨_, (pss_one (ps_ret (pe_lc (own := [("side", 2)]) (by rfl) sc_Sail_beside.nd (pi_range1 (by rfl) T.b_range (pa_cons pe_int pa_nil)) (blkOk_by (N := ["self", "panel", "side"]) (sc := defScope s_Sail_beside) (own := [("side", 2)]) (by decide +kernel)) (fun _ _ _ _ _ => (pg_name (i := 2) sc_Sail_beside.nd rfl (by first | exact Or.inl rfl | exact Or.inr rfl))) (fun _ _ _ _ _ => (pts_one (pt_cmp (pc_xin (K := K) rfl (u64 hr) (pe_tup (pa_cons (pv 1) (pa_cons (pv 2) pa_nil))) (pe_fld' (K := K) rfl (pv 0))) (by rfl)))) (fun _ _ _ _ _ => (pe_ix (r := rIxT K) ix_tup (pe_xget (K := K) rfl (u64 hr) (pe_fld' (K := K) rfl (pv 0)) (pe_tup (pa_cons (pv 1) (pa_cons (pv 2) pa_nil)))) pe_int (fun _ _ => rfl)))))), fun G => ?_⟩)
  obtain ⟨⟨ps, ss⟩, p⟩ := i
  have sw : ∀ {ρ : Rho}, ρ[0]? = some (obS CS ps ss) → EvDc ⟨K, fx0, G, H, E⟩ (tFld K (tVar 0) "sewn") ρ false (dSw (sewn ss)) := fun h => dc_of (ev_fldKX (x := .k false (dSw (sewn ss))) (ev_varOb h) T.m_beside.cls T.a_sewn sailFs_sewn)
  refine xc_ret ((ef_filterL (l := List.range 3) (dα := fun (x : Nat) => PyData.int (x : Int)) (c := fun k => ((sewn ss).lookup (p, k)).isSome) (f := fun k => .int (((((sewn ss).lookup (p, k)).map (fun x : Sd => x.1)).getD 0 : Nat) : Int)) (by
    have h := im_rng1E (S := ⟨K, fx0, G, H, E⟩) (te := tC (.int 3)) (ρ := [obS CS ps ss, .dat (.int (p : Nat)), .no]) (n := 3) ev_int (by omega)
    rw [rng_nat] at h
    exact h) (by simp) fun k _ => ⟨[2], _, by simp, tg_name, ?_, fun hk => ?_⟩).evE) ?_
  · exact et_is (et_B (ev_xin (dk := dSd (p, k)) (sw rfl) (ev_tup2 (ev_var rfl) (ev_var rfl)) (key_sd _))) (by rw [gD_sw, Option.isSome_map])
  · obtain ⟨v, hv⟩ := Option.isSome_iff_exists.mp hk
    refine (ev_ixU (ds := [.int (v.1 : Nat), .int (v.2 : Nat)]) (ev_xget (dk := dSd (p, k)) (d := dSd v) (sw rfl) (ev_tup2 (ev_var rfl) (ev_var rfl)) (key_sd _) (by rw [gD_sw, hv]; rfl)) ev_int (at_nat (i := 0) rfl)).cast ?_
    rw [hv]
    rfl
  · show Re.ok (.dat (.list (dNs (beside ss p)))) = Re.ok (.dat (.list _))
    unfold beside dNs
    rw [filterMap_eq _ 0, List.map_map]
    congr 4
    · exact List.filter_congr fun k _ => by rw [Option.isSome_map]
/-! what can be reached -/
def dSeen (ks : List Nat) : List (D × D) := ks.map fun (k : Nat) => (.int (k : Int), .bool true)
omit T in
theorem gD_seen (ks : List Nat) (x : Nat) : (gD (dSeen ks) (.int (x : Nat))).isSome = decide (x ∈ ks) := by
  induction ks with
  | nil => rfl
  | cons k ks ih =>
    show (gD ((.int (k : Nat), .bool true) :: dSeen ks) (.int (x : Nat))).isSome = _
    by_cases e : k = x
    · subst e
      rw [gD_pos rfl]
      simp
    · rw [gD_neg (by simp [nk]; omega), ih]
      have : ¬ x = k := fun z => e z.symm
      simp [this]
omit T in
theorem pD_seen {ks : List Nat} {x : Nat} (h : x ∉ ks) : pD (dSeen ks) (.int (x : Nat)) (.bool true) = dSeen (ks ++ [x]) := by
  unfold pD
  rw [gD_seen, decide_eq_false h, if_neg (by decide)]
  unfold dSeen
  rw [List.map_append]
  rfl
def zs (l : List Nat) : List Int := l.map fun (x : Nat) => (x : Int)
omit T in
theorem zs_dNs (l : List Nat) : (zs l).map PyData.int = dNs l := by
  unfold zs dNs
  rw [List.map_map]
  rfl
omit T in
theorem nodup_lt {l : List Nat} {n : Nat} (nd : l.Nodup) (h : ∀ x ∈ l, x < n) : l.length ≤ n := by
  simpa using nd.length_le_of_subset (l₂ := List.range n) fun x hx => List.mem_range.mpr (h x hx)
structure RInv (n : Nat) (ss : List Sm) (a : Nat) (ks ws : List Nat) (x : Nat → Prop) : Prop where
  nd : ks.Nodup
  lt : ∀ y ∈ ks, y < n
  st : a ∈ ks
  r : ∀ y ∈ ks, Rch ss a y
  w : ∀ y ∈ ws, y ∈ ks
  cl : ∀ y ∈ ks, y ∉ ws → ¬ x y → ∀ z ∈ beside ss y, z ∈ ks
theorem c_Sail_reached : CalM P w K mg base 2 CS "reached" ["self", "panel"] (spI K fx0 (fun i : SI × Nat => [obS CS i.1.1 i.1.2, .dat (.int (i.2 : Nat))]) (fun i => i.1.1.length ≤ 1000 ∧ (∀ s ∈ i.1.2, seamOk i.1.1 s = true) ∧ i.2 < i.1.1.length) (fun i r => ∃ ks : List Nat, ks.Nodup ∧ (∀ y ∈ ks, y < i.1.1.length) ∧ (∀ y, y ∈ ks ↔ Rch i.1.2 i.2 y) ∧ r = .ok (.dic true (dSeen ks)))) := by
  have c_Sail_beside := c_Sail_beside T
  refine mk_calMI T.m_reached sc_Sail_reached (fun _ => rfl) (fun _ _ _ _ _ _ us hl => match us, hl with | [_, _], _ => rfl) (fun f cdv A outer s H E hr i hp => ⟨_, (pss_cons (ps_set (i := 2) sc_Sail_reached.nd rfl (Or.inl rfl) (pe_disp (pps_cons (pv 1) pe_bl pps_nil) (by rfl) (by rfl) (fun z => by cases z) (by decide)))
      (pss_cons (ps_set (i := 3) sc_Sail_reached.nd rfl (Or.inl rfl) (pe_lst (pa_cons (pv 1) pa_nil)))
      (pss_cons (ps_while (passes_of rfl) (pt_truth (pv 3) (by intro _; rfl)) (pss_one (ps_for (passes_of rfl) rfl (pi_list (pe_calM c_Sail_beside (hr.mono (by first | decide | omega)) (pv 0) (pa_cons (pe_bm0 PySem.F.plainAttrs_list PySem.F.slot_list_pop PySem.F.type_list_pop mt_pop (pv 3)) pa_nil))) (pg_name (i := 4) sc_Sail_reached.nd rfl (Or.inl rfl)) (pss_one (ps_if (pt_cmp (pc_xnotin (K := K) rfl (u64 hr) (pv 4) (pv 2)) (by rfl)) (pss_cons (ps_xput (K := K) rfl (u64 hr) (pv 2) (pv 4) pe_bl)
      (pss_one (ps_expr (pe_bm PySem.F.plainAttrs_list PySem.F.slot_list_append PySem.F.type_list_append mt_append (pv 3) (pa_cons (pv 4) pa_nil))))) pss_nil)))))
      (pss_lk (pss_one (ps_ret (pv 2))))))), fun G => ?_⟩)
  obtain ⟨⟨ps, ss⟩, a⟩ := i
  obtain ⟨hn, hs, ha⟩ := hp
  have hn : ps.length ≤ 1000 := hn
  have hs : ∀ s ∈ ss, seamOk ps s = true := hs
  have ha : a < ps.length := ha
  refine xs_asgQ (eq_disp1 (k1 := .inl (a : Nat)) (ev_var rfl) ev_bl) fun ad => ?_
  refine xs_asgF (ef_lst (ds := [.int (a : Nat)]) (ea_cons (ev_var rfl) ea_nil) (by simp)) fun aw ds e => ?_
  subst e
  refine xs_while (I := fun m ρ => ∃ (s4 : Sl) (ks ws : List Nat), RInv ps.length ss a ks ws (fun _ => False) ∧ 2 * (ps.length - ks.length) + ws.length ≤ m ∧ m ≤ 2 * ps.length + 1 ∧ ρ = [obS CS ps ss, .dat (.int (a : Nat)), .own ad (moD ad true (dSeen ks)), .own aw (.lst ((zs ws).map PyData.int)), s4])
    (2 * ps.length + 1) ⟨.no, [a], [a], ⟨by simp, fun y hy => by rw [List.mem_singleton.mp hy]; exact ha, by simp, fun y hy => by rw [List.mem_singleton.mp hy]; exact .start, fun y hy => hy, fun y hy hw => absurd hy hw⟩, by simp; omega, Nat.le_refl _, rfl⟩ fun m ρ1 hI => ?_
  obtain ⟨s4, ks, ws, iv, hm, hm0, rfl⟩ := hI
  refine (et_truL (el_own (ds := (zs ws).map PyData.int) rfl)).imp fun b hb => ?_
  rcases List.eq_nil_or_concat ws with ew | ⟨ws', x, ew⟩
  · subst ew
    rw [← hb, if_neg (by simp [zs])]
    refine xs_lock (i := 2) (a := ad) (f := true) (ds := dSeen ks) rfl ?_
    refine xc_ret (ev_varDic rfl) ⟨ks, iv.nd, iv.lt, fun y => ⟨iv.r y, fun h => ?_⟩, rfl⟩
    induction h with
    | start => exact iv.st
    | step _ hq ih => exact iv.cl _ ih (by simp) (fun z => z) _ hq
  · have ew : ws = ws' ++ [x] := by rw [ew, List.concat_eq_append]
    subst ew
    rw [← hb, if_pos (by simp [zs])]
    have hx : x ∈ ks := iv.w x (by simp)
    have kl := nodup_lt iv.nd iv.lt
    have ez : (zs (ws' ++ [x])).map PyData.int = (zs ws' ++ [(x : Int)]).map PyData.int := by
      unfold zs
      rw [List.map_append]
      rfl
    rw [ez]
    refine xc_forPop (i := 0) (j := 3) (a := aw) (n := (x : Int)) (ns := zs ws') rfl rfl rfl ?_
    refine xc_forE (S := ⟨K, fx0, G, H, E⟩) (im_listE (ds := dNs (beside ss x)) (ev_methK (ev_varOb rfl) rfl (ea_cons ev_int ea_nil) fun ss' e => ⟨((ps, ss), x), by rw [← e]; rfl, True.intro, fun s h => (by cases h; rfl), fun C d h => by cases h⟩)) (fun i ρ => ∃ (s4 : Sl) (ks ws : List Nat), RInv ps.length ss a ks ws (fun y => y = x) ∧ (∀ z ∈ (beside ss x).take i, z ∈ ks) ∧ 2 * (ps.length - ks.length) + ws.length + 1 ≤ m ∧ ρ = [obS CS ps ss, .dat (.int (a : Nat)), .own ad (moD ad true (dSeen ks)), .own aw (.lst ((zs ws).map PyData.int)), s4])
      ⟨s4, ks, ws', ⟨iv.nd, iv.lt, iv.st, iv.r, fun y hy => iv.w y (by simp [hy]), fun y hy hw hne z hz => iv.cl y hy (fun q => by
        rcases List.mem_append.mp q with q | q
        · exact hw q
        · exact hne (List.mem_singleton.mp q)) (fun z => z) z hz⟩, by simp, by simp at hm; omega, rfl⟩ (fun i d ρ1 hd hI => ?_) fun ρ1 hI => ?_
    · obtain ⟨s5, ks1, ws1, iv1, hdone, hm1, rfl⟩ := hI
      unfold dNs at hd
      rw [List.getElem?_map] at hd
      obtain ⟨y, hy, rfl⟩ := Option.map_eq_some_iff.mp hd
      have ym : y ∈ beside ss x := List.mem_of_getElem? hy
      have yl : y < ps.length := beside_lt hs ym
      have xr : Rch ss a x := iv.r x hx
      have et : (beside ss x).take (i + 1) = (beside ss x).take i ++ [y] := by
        rw [List.take_add_one, hy]
        rfl
      have kl1 := nodup_lt iv1.nd iv1.lt
      refine ⟨_, _, tg_name, ?_⟩
      refine xc_if (b := !decide (y ∈ ks1)) (et_is (et_B (ev_xnotin (dk := .int (y : Nat)) (dc_own (f := true) rfl) (ev_var rfl) ⟨.inl (y : Nat), rfl⟩)) (by rw [gD_seen])) (fun z => ?_) fun z => ?_
      · have ny : y ∉ ks1 := by simpa using z
        have nd2 : (ks1 ++ [y]).Nodup := by
          rw [List.nodup_append]
          exact ⟨iv1.nd, by simp, fun u hu v hv e => ny (by rw [← List.mem_singleton.mp hv, ← e]; exact hu)⟩
        have lt2 : ∀ u ∈ ks1 ++ [y], u < ps.length := fun u hu => by
          rcases List.mem_append.mp hu with q | q
          · exact iv1.lt u q
          · rw [List.mem_singleton.mp q]
            exact yl
        have kl2 := nodup_lt nd2 lt2
        rw [List.length_append, List.length_singleton] at kl2
        refine xs_xput (i := 2) (a := ad) (f := true) (ds := dSeen ks1) (dk := .int (y : Nat)) (d := .bool true) rfl ev_bl (ev_var rfl) ⟨.inl (y : Nat), rfl⟩ (by unfold dSeen; rw [List.length_map]; omega) ?_
        rw [pD_seen ny]
        refine xc_append (i := 3) (p := Eq (.int (y : Nat))) rfl ((ev_var (d := .int (y : Nat)) rfl).imp fun s e => ⟨_, e.symm, rfl⟩) (by
          rw [List.length_map]
          unfold zs
          rw [List.length_map]
          omega) fun d e => ?_
        subst e
        refine ⟨.dat (.int (y : Nat)), ks1 ++ [y], ws1 ++ [y], ⟨nd2, lt2, List.mem_append_left _ iv1.st, fun u hu => ?_, fun u hu => ?_, fun u hu hw hne v hv => ?_⟩, fun u hu => ?_, ?_, ?_⟩
        · rcases List.mem_append.mp hu with q | q
          · exact iv1.r u q
          · rw [List.mem_singleton.mp q]
            exact .step xr ym
        · rcases List.mem_append.mp hu with q | q
          · exact List.mem_append_left _ (iv1.w u q)
          · exact List.mem_append_right _ q
        · have hw1 : u ∉ ws1 := fun q => hw (List.mem_append_left _ q)
          rcases List.mem_append.mp hu with q | q
          · exact List.mem_append_left _ (iv1.cl u q hw1 hne v hv)
          · exact absurd (List.mem_append_right ws1 q) hw
        · rw [et] at hu
          rcases List.mem_append.mp hu with q | q
          · exact List.mem_append_left _ (hdone u q)
          · exact List.mem_append_right _ q
        · simp only [List.length_append, List.length_singleton]
          omega
        · have : (zs (ws1 ++ [y])).map PyData.int = (zs ws1).map PyData.int ++ [.int (y : Nat)] := by
            unfold zs
            rw [List.map_append, List.map_append]
            rfl
          rw [this]
          rfl
      · have iy : y ∈ ks1 := by simpa using z
        refine xc_next ⟨.dat (.int (y : Nat)), ks1, ws1, iv1, fun u hu => ?_, hm1, rfl⟩
        rw [et] at hu
        rcases List.mem_append.mp hu with q | q
        · exact hdone u q
        · rw [List.mem_singleton.mp q]
          exact iy
    · obtain ⟨s5, ks1, ws1, iv1, hdone, hm1, rfl⟩ := hI
      rw [show (dNs (beside ss x)).length = (beside ss x).length by unfold dNs; rw [List.length_map], List.take_length] at hdone
      refine ⟨m - 1, by omega, s5, ks1, ws1, ⟨iv1.nd, iv1.lt, iv1.st, iv1.r, iv1.w, fun u hu hw _ v hv => ?_⟩, by omega, by omega, rfl⟩
      by_cases q : u = x
      · subst q
        exact hdone v hv
      · exact iv1.cl u hu hw q v hv

end
end K27

set_option Elab.async false
set_option linter.all false
set_option maxRecDepth 100000
set_option maxHeartbeats 4000000
namespace K27
open PySem PySem.Spec PyProof.Rows L2 Dl LamX StX RZ SM SD
section
variable {P : Program} {w : World} {K : PySem.W.Frag} {mg : Str → Option Value} {base : Heap} {C1 C2 C3 fI CS : Addr} (T : Tx P w K mg base C1 C2 C3 fI CS)
include T
/-! the class -/
omit T in
theorem ev_tupA {S : Cf} {ρ : Rho} {ta : TE} {b : Bool} {ds : List D} (ha : Ev S ta ρ (Eq (.dat (seqD b ds)))) : Ev S (tCB (fun xs H Q => ∃ p ys, xs = [.ref p] ∧ ((SqL S.K H p ys ∧ ∀ l, H l = none → Q (.ref l) (upd H l (.tup ys))) ∨ (SqT S.K H p ys ∧ Q (.ref p) H))) (tCons ta tNil)) ρ (Eq (.dat (.tuple ds))) := by
  cases b with
  | true => exact ev_tupL (el_of ha)
  | false => exact ev_tupT ha
omit T in
theorem ev_lenXP {S : Cf} {ρ : Rho} {te : TE} {p : List (D × D) → Prop} (h : Ev S te ρ (fun s => ∃ ds, s = .dic true ds ∧ p ds)) : EvI S (tCB (rLenX S.K) (tCons te tNil)) ρ (fun n => ∃ ds, n = (ds.length : Nat) ∧ p ds) := fun σ G H k e Q q =>
  h σ G H k e _ fun v s G1 H1 g1 k1 ⟨ds, es, pd⟩ r => by
    subst es
    obtain ⟨a, rfl, kn⟩ := r
    exact ⟨a, G1, true, ds, rfl, k1.gh, kn.rd k1.gh, q _ _ G1 H1 g1 k1 ⟨_, rfl, ds, rfl, pd⟩ (.int _)⟩
omit T in
theorem putD_neg {f g : Str} {v x : Fv} {r : Fs} (h : ¬ g = f) : putD f v ((g, x) :: r) = (g, x) :: putD f v r := if_neg h
omit T in
theorem putD_pos {f : Str} {v x : Fv} {r : Fs} : putD f v ((f, x) :: r) = (f, v) :: r := if_pos rfl
omit T in
theorem reach_all {n a : Nat} {ss : List Sm} {ks : List Nat} (nd : ks.Nodup) (lt : ∀ y ∈ ks, y < n) (hr : ∀ y, y ∈ ks ↔ Rch ss a y) : ks.length < n ↔ ¬ ∀ p, p < n → Rch ss a p := by
  constructor
  · intro h hall
    have : (List.range n).length ≤ ks.length := List.nodup_range.length_le_of_subset fun x hx => (hr x).mpr (hall x (List.mem_range.mp hx))
    rw [List.length_range] at this
    omega
  · intro h
    refine Classical.byContradiction fun hl => h fun p hp => Classical.byContradiction fun hn => ?_
    have h1 : p ∉ ks := fun z => hn ((hr p).mp z)
    have := nodup_lt (l := p :: ks) (n := n) (List.nodup_cons.mpr ⟨h1, nd⟩) fun y hy => by
      rcases List.mem_cons.mp hy with q | q
      · rw [q]
        exact hp
      · exact lt y q
    rw [List.length_cons] at this
    omega
def SpSail (K : PySem.W.Frag) (C1 C2 CS : Addr) : Sp := spN K CS (fun i : D × D => [.dat i.1, .dat i.2]) (fun _ => True) (fun i r => initP C1 C2 i.1 i.2 r)
omit T in
theorem init_g {C1 C2 : Addr} {d1 d2 : D} {fs : Fs} {g : List (Addr × Mo)} (h : initP C1 C2 d1 d2 (.ok fs g)) : g = [] := by
  unfold initP at h
  repeat' split at h
  all_goals first
    | (cases h; done)
    | (rcases h with ⟨_, h⟩ | ⟨_, h⟩ <;> (cases h; first | rfl | done))
theorem c_Sail : CalK P w K mg base 5 "Sail" CS ["self", "panels", "seams"] (SpSail K C1 C2 CS) := by
  have c_is_row := c_is_row T
  have c_is_panel := c_is_panel T
  have c_is_seam := c_is_seam T
  have c_Sail_reached := c_Sail_reached T
  obtain ⟨_, k1⟩ := T.k_MOST_PANELS
  obtain ⟨_, k2⟩ := T.k_MOST_SEAMS
  refine mk_calN T.k_Sail sc_Sail___init__ (fun _ _ => rfl) (fun i fs g h p hp => by
    rw [init_g h] at hp
    cases hp) (fun _ _ _ _ _ _ us hl => match us, hl with | [_, _, _], _ => rfl) (fun f cdv A outer s H E hr i _ => ⟨_, (pss_cons (ps_if (PW.pt (pw_or (pt_not (pt_val (pe_cal c_is_row (hr.mono (by first | decide | omega)) rfl (pa_cons (pv 1) pa_nil)))) (pw_or1 (pt_not (pt_chain op_le op_le pe_int (pe_callB (r := fun xs H Q => ∃ p ys, xs = [.ref p] ∧ (SqL K H p ys ∨ SqT K H p ys) ∧ Q (.int ys.length) H) call_len_seq (by rfl) T.b_len (by decide +kernel) (pa_cons (pv 1) pa_nil)) (pe_gint rfl T.k_MOST_PANELS)))))) (pss_one (ps_err (k := 0) T.e_BadPanels T.ini rfl (hr.mono (by first | decide | omega)) rfl (takes_of rfl rfl rfl rfl) (pe_un un_neg pe_int))) pss_nil)
      (pss_cons (ps_for (passes_of rfl) rfl (pi_enumA (by rfl) T.b_enumerate (pa_cons (pv 1) pa_nil)) (pg_tup (by rfl) (pgs_cons (pg_name (i := 3) sc_Sail___init__.nd rfl (Or.inl rfl)) (pgs_cons (pg_name (i := 4) sc_Sail___init__.nd rfl (Or.inl rfl)) pgs_nil))) (pss_one (ps_if (pt_not (pt_val (pe_cal c_is_panel (hr.mono (by first | decide | omega)) rfl (pa_cons (pv 4) pa_nil)))) (pss_one (ps_err (k := 0) T.e_BadPanels T.ini rfl (hr.mono (by first | decide | omega)) rfl (takes_of rfl rfl rfl rfl) (pv 3))) pss_nil)))
      (pss_cons (ps_if (PW.pt (pw_or (pt_not (pt_val (pe_cal c_is_row (hr.mono (by first | decide | omega)) rfl (pa_cons (pv 2) pa_nil)))) (pw_or1 (pt_cmpR op_gt (pe_callB (r := fun xs H Q => ∃ p ys, xs = [.ref p] ∧ (SqL K H p ys ∨ SqT K H p ys) ∧ Q (.int ys.length) H) call_len_seq (by rfl) T.b_len (by decide +kernel) (pa_cons (pv 2) pa_nil)) (pe_gint rfl T.k_MOST_SEAMS) (nomark _))))) (pss_one (ps_err (k := 0) T.e_BadSeams T.ini rfl (hr.mono (by first | decide | omega)) rfl (takes_of rfl rfl rfl rfl) (pe_un un_neg pe_int))) pss_nil)
      (pss_cons (ps_fld (pv 0) pe_xnew (by rfl))
      (pss_cons (ps_for (passes_of rfl) rfl (pi_enumA (by rfl) T.b_enumerate (pa_cons (pv 2) pa_nil)) (pg_tup (by rfl) (pgs_cons (pg_name (i := 3) sc_Sail___init__.nd rfl (Or.inl rfl)) (pgs_cons (pg_name (i := 5) sc_Sail___init__.nd rfl (Or.inl rfl)) pgs_nil))) (pss_cons (ps_if (PW.pt (pw_or (pt_not (pt_val (pe_cal c_is_seam (hr.mono (by first | decide | omega)) rfl (pa_cons (pv 1) (pa_cons (pv 5) pa_nil))))) (pw_or (pt_cmp (pc_xin (K := K) rfl (u64 hr) (pe_slice (r := rSlA K) sl_tupA (pv 5) po_none (po_some pe_int)) (pe_fld' (K := K) rfl (pv 0))) (by rfl)) (pw_or1 (pt_cmp (pc_xin (K := K) rfl (u64 hr) (pe_slice (r := rSlA K) sl_tupA (pv 5) (po_some pe_int) po_none) (pe_fld' (K := K) rfl (pv 0))) (by rfl)))))) (pss_one (ps_err (k := 0) T.e_BadSeams T.ini rfl (hr.mono (by first | decide | omega)) rfl (takes_of rfl rfl rfl rfl) (pv 3))) pss_nil)
      (pss_cons (ps_xput (K := K) rfl (u64 hr) (pe_fld' (K := K) rfl (pv 0)) (pe_slice (r := rSlA K) sl_tupA (pv 5) po_none (po_some pe_int)) (pe_slice (r := rSlA K) sl_tupA (pv 5) (po_some pe_int) po_none))
      (pss_one (ps_xput (K := K) rfl (u64 hr) (pe_fld' (K := K) rfl (pv 0)) (pe_slice (r := rSlA K) sl_tupA (pv 5) (po_some pe_int) po_none) (pe_slice (r := rSlA K) sl_tupA (pv 5) po_none (po_some pe_int)))))))
      (pss_cons (ps_fld (pv 0) (pe_callTy (T := "tuple") (r := fun xs H Q => ∃ p ys, xs = [.ref p] ∧ ((SqL K H p ys ∧ ∀ l, H l = none → Q (.ref l) (upd H l (.tup ys))) ∨ (SqT K H p ys ∧ Q (.ref p) H))) call_tuple_of (by rfl) T.b_tuple (by decide +kernel) (pa_cons (pv 1) pa_nil)) (by rfl))
      (pss_cons (ps_fld (pv 0) (pe_callTy (T := "tuple") (r := fun xs H Q => ∃ p ys, xs = [.ref p] ∧ ((SqL K H p ys ∧ ∀ l, H l = none → Q (.ref l) (upd H l (.tup ys))) ∨ (SqT K H p ys ∧ Q (.ref p) H))) call_tuple_of (by rfl) T.b_tuple (by decide +kernel) (pa_cons (pv 2) pa_nil)) (by rfl))
      (pss_lk (pss_one (ps_if (pt_cmpR op_lt (pe_callB (r := rLenX K) cr_lenX (by rfl) T.b_len (by decide +kernel) (pa_cons (pe_calM c_Sail_reached (hr.mono (by first | decide | omega)) (pv 0) (pa_cons pe_int pa_nil)) pa_nil)) (pe_callB (r := fun xs H Q => ∃ p ys, xs = [.ref p] ∧ (SqL K H p ys ∨ SqT K H p ys) ∧ Q (.int ys.length) H) call_len_seq (by rfl) T.b_len (by decide +kernel) (pa_cons (pv 1) pa_nil)) (nomark _)) (pss_one (ps_err (k := 0) T.e_BadSeams T.ini rfl (hr.mono (by first | decide | omega)) rfl (takes_of rfl rfl rfl rfl) (pe_un un_neg pe_int))) pss_nil)))))))))), fun G a dx => ?_⟩)
  obtain ⟨d1, d2⟩ := i
  show Xc _ _ _ (ObjN a CS (fun r => initP C1 C2 d1 d2 r))
  have en1 : (dList d1 || dTuple d1) = (rows d1).isSome := by cases d1 <;> rfl
  have en2 : (dList d2 || dTuple d2) = (rows d2).isSome := by cases d2 <;> rfl
  cases hd1 : rows d1 with
  | none =>
    have e0 : ∀ r, r = .ex C1 (.int (-1)) → initP C1 C2 d1 d2 r := fun r e => by
      unfold initP
      rw [hd1]
      exact e
    exact xs_when (S := ⟨K, fxM a, G, H, E⟩) (b := true) (et_orT ((et_not (et_B (ev_callE d1 (ea_cons (ev_var rfl) ea_nil) True.intro))).imp fun b hb => by rw [← hb, en1, hd1]; rfl)) (fun _ => xc_raise T.e_BadPanels.oex T.e_BadPanels.nv (ev_neg ev_int) (e0 _ rfl)) fun z => by cases z
  | some q1 =>
    obtain ⟨b1, e1⟩ := q1
    have ep1 := rows_seq hd1
    subst ep1
    refine xs_when (S := ⟨K, fxM a, G, H, E⟩) (b := !decide (1 ≤ e1.length ∧ e1.length ≤ 12)) (et_is (et_or (a := false) (et_is (et_not (et_B (ev_callE (seqD b1 e1) (ea_cons (ev_var rfl) ea_nil) True.intro))) (by rw [en1, hd1]; rfl)) fun _ => et_not (et_B (ev_chain ev_int (ev_lenA (b := b1) (ds := e1) (ev_var rfl)) fun _ => ev_int))) (by rw [Bool.false_or]; congr 1; rw [Bool.eq_iff_iff]; simp; omega)) (fun z => ?_) fun z => ?_
    · have hz : ¬ (1 ≤ e1.length ∧ e1.length ≤ 12) := of_decide_eq_false ((Bool.not_eq_true' _).mp z)
      refine xc_raise T.e_BadPanels.oex T.e_BadPanels.nv (ev_neg ev_int) ?_
      show initP _ _ _ _ _
      unfold initP
      rw [hd1]
      simp only
      rw [if_neg hz]
      trivial
    have hz : 1 ≤ e1.length ∧ e1.length ≤ 12 := of_decide_eq_true ((Bool.not_eq_false' _).mp z)
    refine xs_for (im_enumA (b := b1) (ds := e1) (ev_var rfl)) (fun k ρ => ∃ s3 s4 : Sl, ρ = [.own a (.ins CS dx [] []), .dat (seqD b1 e1), .dat d2, s3, s4, .no] ∧ ∀ x ∈ e1.take k, isPn x = true) ⟨_, _, rfl, by simp⟩ (fun k d ρ1 hd' hI => ?_) (fun ρ1 hI => ?_)
    · obtain ⟨s1, s2, rfl, ha⟩ := hI
      obtain ⟨x, hx, rfl⟩ := enumD_get hd'
      refine ⟨_, _, tg_two, ?_⟩
      refine xc_if (et_not (et_B (ev_callE x (ea_cons (ev_var rfl) ea_nil) True.intro))) (fun z => ?_) fun z => ?_
      · have hzz := (Bool.not_eq_true' _).mp z
        refine xc_raise T.e_BadPanels.oex T.e_BadPanels.nv (ev_var rfl) ?_
        show initP _ _ _ _ _
        unfold initP
        rw [hd1]
        simp only
        rw [if_pos hz, fbG_at e1 0 k x ha hx hzz]
      · have hzz := (Bool.not_eq_false' _).mp z
        refine xc_next ⟨_, _, rfl, fun y hy => ?_⟩
        rw [List.take_add_one, hx] at hy
        simp at hy
        exact hy.elim (ha y) fun q => q ▸ hzz
    obtain ⟨s3, s4, rfl, hall⟩ := hI
    rw [enumD_length, List.take_length] at hall
    have em := map_pn hall
    have hnear : ∀ t ∈ e1.map pnOf, nearP 100 t := fun t ht => by
      obtain ⟨x, hx, rfl⟩ := List.mem_map.mp ht
      exact (isPn_get (hall x hx)).2.1
    cases hd2 : rows d2 with
    | none =>
      exact xs_when (S := ⟨K, fxM a, G, H, E⟩) (b := true) (et_orT ((et_not (et_B (ev_callE d2 (ea_cons (ev_var rfl) ea_nil) True.intro))).imp fun b hb => by rw [← hb, en2, hd2]; rfl)) (fun _ => xc_raise T.e_BadSeams.oex T.e_BadSeams.nv (ev_neg ev_int) (by
        show initP _ _ _ _ _
        unfold initP
        rw [hd1]
        simp only
        rw [if_pos hz, fbG_none e1 0 hall, hd2]
        trivial)) fun z => by cases z
    | some q2 =>
      obtain ⟨b2, e2⟩ := q2
      have ep2 := rows_seq hd2
      subst ep2
      have ip : ∀ r, (if e2.length ≤ 18 then
          match fbS (e1.map pnOf) 0 [] e2 with
          | some k => r = .ex C2 (.int (k : Nat))
          | none => ((∀ p, p < e1.length → Rch (e2.map smOf) 0 p) ∧ r = .ok (sailFs (e1.map pnOf) (e2.map smOf)) []) ∨ ((¬ ∀ p, p < e1.length → Rch (e2.map smOf) 0 p) ∧ r = .ex C2 (.int (-1)))
        else r = .ex C2 (.int (-1))) → initP C1 C2 (seqD b1 e1) (seqD b2 e2) r := fun r h => by
        unfold initP
        rw [hd1]
        simp only
        rw [if_pos hz, fbG_none e1 0 hall, hd2]
        exact h
      refine xs_when (S := ⟨K, fxM a, G, H, E⟩) (b := !decide (e2.length ≤ 18)) (et_is (et_or (a := false) (et_is (et_not (et_B (ev_callE (seqD b2 e2) (ea_cons (ev_var rfl) ea_nil) True.intro))) (by rw [en2, hd2]; rfl)) fun _ => et_test (ev_C0 (ev_lenA (b := b2) (ds := e2) (ev_var rfl)) ev_int)) (by rw [Bool.false_or, Bool.eq_iff_iff]; simp; omega)) (fun z => ?_) fun z => ?_
      · have h18 : ¬ e2.length ≤ 18 := of_decide_eq_false ((Bool.not_eq_true' _).mp z)
        exact xc_raise T.e_BadSeams.oex T.e_BadSeams.nv (ev_neg ev_int) (ip _ (by rw [if_neg h18]))
      have h18 : e2.length ≤ 18 := of_decide_eq_true ((Bool.not_eq_false' _).mp z)
      refine xs_setfQ (i := 0) (j := 4) rfl (by decide) (by simp) eq_newN T.m_beside.cls T.a_sewn (by simp) fun b vf1 => ?_
      refine xs_for (im_enumA (b := b2) (ds := e2) (ev_var rfl)) (fun k ρ => ∃ (s3 s5 : Sl) (sw : List (Sd × Sd)), ρ = [.own a (.ins CS dx vf1 [("sewn", .r (.ref b))]), .dat (seqD b1 e1), .dat (seqD b2 e2), s3, .gho b (moD b false (dSw sw)), s5] ∧ sw = sewn ((e2.take k).map smOf) ∧ (∀ x ∈ e2.take k, isSm (e1.map pnOf) x = true) ∧ fbS (e1.map pnOf) 0 [] e2 = fbS (e1.map pnOf) k sw (e2.drop k)) ⟨s3, .no, [], rfl, rfl, by simp, rfl⟩ (fun k d ρ1 hd' hI => ?_) (fun ρ1 hI => ?_)
      · obtain ⟨s3', s5, sw, rfl, hsw, hok, hfb⟩ := hI
        obtain ⟨x, hx, rfl⟩ := enumD_get hd'
        have hkl : k < e2.length := (List.getElem?_eq_some_iff.mp hx).1
        have hxe : e2[k] = x := (List.getElem?_eq_some_iff.mp hx).2
        rw [List.drop_eq_getElem_cons hkl, hxe] at hfb
        refine ⟨_, _, tg_two, ?_⟩
        rw [Nat.zero_add]
        have eseq : ∀ {ρ : Rho}, ρ[1]? = some (.dat (seqD b1 e1)) → Ev ⟨K, fxM a, G, H, E⟩ (tVar 1) ρ (Eq (.dat (seqD b1 ((e1.map pnOf).map dPn)))) := fun h => by
          rw [← em]
          exact ev_var h
        have hpre : (e1.map pnOf).length ≤ 1000 ∧ ∀ t ∈ e1.map pnOf, nearP 100 t := ⟨by rw [List.length_map]; omega, hnear⟩
        have badk : ((isSm (e1.map pnOf) x && ((sw.lookup (smOf x).1).isNone && (sw.lookup (smOf x).2).isNone)) = false) → initP C1 C2 (seqD b1 e1) (seqD b2 e2) (.ex C2 (.int (k : Nat))) := fun h => ip _ (by
          have : fbS (e1.map pnOf) 0 [] e2 = some k := by
            rw [hfb]
            unfold fbS
            rw [h]
            rfl
          rw [if_pos h18, this])
        cases hsm : isSm (e1.map pnOf) x with
        | false =>
          exact xs_when (S := ⟨K, fxM a, G, H, E⟩) (b := true) (et_orT ((et_not (et_B (ev_callE ((b1, e1.map pnOf), x) (ea_cons (eseq rfl) (ea_cons (ev_var rfl) ea_nil)) hpre))).imp fun b hb => by rw [← hb]; show true = !isSm (e1.map pnOf) x; rw [hsm]; rfl)) (fun _ => xc_raise T.e_BadSeams.oex T.e_BadSeams.nv (ev_var rfl) (badk (by rw [hsm]; rfl))) fun z => by cases z
        | true =>
          obtain ⟨exs, hso⟩ := isSm_get hsm
          generalize hsdef : smOf x = sm at exs hso badk hfb
          have key : ∀ {ρ : Rho} {lo hi : Option Int} {tl th : TO} {sd : Sd}, ρ[5]? = some (.dat x) → EvO ⟨K, fxM a, G, H, E⟩ tl ρ lo → EvO ⟨K, fxM a, G, H, E⟩ th ρ hi → cutD [.int (sm.1.1 : Nat), .int (sm.1.2 : Nat), .int (sm.2.1 : Nat), .int (sm.2.2 : Nat)] lo hi = [.int (sd.1 : Nat), .int (sd.2 : Nat)] → Ev ⟨K, fxM a, G, H, E⟩ (tSl (rSlA K) (tVar 5) tl th) ρ (Eq (.dat (dSd sd))) := fun {ρ lo hi tl th sd} h hl hh hc => (ev_cutA (ds := [.int (sm.1.1 : Nat), .int (sm.1.2 : Nat), .int (sm.2.1 : Nat), .int (sm.2.2 : Nat)]) ((ev_var h).cast (by rw [exs]; rfl)) hl hh).cast (by rw [hc]; rfl)
          have self : ∀ {ρ : Rho}, ρ[0]? = some (.own a (.ins CS dx vf1 [("sewn", .r (.ref b))])) → Ev ⟨K, fxM a, G, H, E⟩ (tFld K (tVar 0) "sewn") ρ (Eq (.raw (.ref b))) := fun h => ev_fldX (x := .r (.ref b)) h T.m_beside.cls T.a_sewn rfl
          have hin : ∀ {ρ : Rho} {ty : TE} {sd : Sd}, ρ[0]? = some (.own a (.ins CS dx vf1 [("sewn", .r (.ref b))])) → ρ[4]? = some (.gho b (moD b false (dSw sw))) → Ev ⟨K, fxM a, G, H, E⟩ ty ρ (Eq (.dat (dSd sd))) → Ev ⟨K, fxM a, G, H, E⟩ (tXIn K ty (tFld K (tVar 0) "sewn")) ρ (Eq (.dat (.bool (sw.lookup sd).isSome))) := fun h0 h4 hy => (ev_xin (dc_gho (self h0) h4) hy (key_sd _)).cast (by rw [gD_sw, Option.isSome_map])
          have c1 : cutD [.int (sm.1.1 : Nat), .int (sm.1.2 : Nat), .int (sm.2.1 : Nat), .int (sm.2.2 : Nat)] none (some 2) = [.int (sm.1.1 : Nat), .int (sm.1.2 : Nat)] := rfl
          have c2 : cutD [.int (sm.1.1 : Nat), .int (sm.1.2 : Nat), .int (sm.2.1 : Nat), .int (sm.2.2 : Nat)] (some 2) none = [.int (sm.2.1 : Nat), .int (sm.2.2 : Nat)] := rfl
          refine xs_when (b := (sw.lookup sm.1).isSome || (sw.lookup sm.2).isSome) (et_is (et_or (a := false) (et_is (et_not (et_B (ev_callE ((b1, e1.map pnOf), x) (ea_cons (eseq rfl) (ea_cons (ev_var rfl) ea_nil)) hpre))) (by show (!isSm (e1.map pnOf) x) = false; rw [hsm]; rfl)) fun _ => et_or (et_B (hin rfl rfl (key rfl eo_none (eo_some ev_int) c1))) fun _ => et_B (hin rfl rfl (key rfl (eo_some ev_int) eo_none c2))) (by rw [Bool.false_or])) (fun z => ?_) fun z => ?_
          · refine xc_raise T.e_BadSeams.oex T.e_BadSeams.nv (ev_var rfl) (badk ?_)
            rw [hsm, Bool.true_and, ← Option.not_isSome, ← Option.not_isSome, ← Bool.not_or, z]
            rfl
          rw [Bool.or_eq_false_iff] at z
          have n1 : sw.lookup sm.1 = none := by
            have := z.1
            cases h : sw.lookup sm.1 with
            | none => rfl
            | some v =>
              rw [h] at this
              cases this
          have n2 : sw.lookup sm.2 = none := by
            have := z.2
            cases h : sw.lookup sm.2 with
            | none => rfl
            | some v =>
              rw [h] at this
              cases this
          have hlt := (seamOk_iff.mp hso).2.1
          have n3 : (sw ++ [(sm.1, sm.2)]).lookup sm.2 = none := by
            rw [lookup_none, List.map_append, List.mem_append, not_or]
            refine ⟨lookup_none.mp n2, ?_⟩
            simp only [List.map_cons, List.map_nil, List.mem_singleton]
            intro e
            rw [e] at hlt
            omega
          have swl : sw.length ≤ 36 := by
            rw [hsw]
            unfold sewn
            rw [List.length_flatMap]
            have : ∀ l : List Sm, (l.map fun s : Sm => [(s.1, s.2), (s.2, s.1)].length).sum ≤ 2 * l.length := fun l => by
              induction l with
              | nil => simp
              | cons s l ih =>
                simp only [List.map_cons, List.sum_cons, List.length_cons, List.length_nil] at ih ⊢
                omega
            have h1 := this ((e2.take k).map smOf)
            have h2 : ((e2.take k).map smOf).length ≤ 18 := by
              rw [List.length_map, List.length_take]
              omega
            omega
          refine xs_xputG (j := 4) (a := b) (f := false) (ds := dSw sw) (dk := dSd sm.1) (d := dSd sm.2) (self rfl) rfl (key rfl (eo_some ev_int) eo_none c2) (key rfl eo_none (eo_some ev_int) c1) (key_sd _) (by unfold dSw; rw [List.length_map]; omega) ?_
          rw [pD_sw n1]
          refine xc_xputG (j := 4) (a := b) (f := false) (ds := dSw (sw ++ [(sm.1, sm.2)])) (dk := dSd sm.2) (d := dSd sm.1) (self rfl) rfl (key rfl eo_none (eo_some ev_int) c1) (key rfl (eo_some ev_int) eo_none c2) (key_sd _) (by unfold dSw; rw [List.length_map, List.length_append, List.length_singleton]; omega) ?_
          rw [pD_sw n3]
          have et : e2.take (k + 1) = e2.take k ++ [x] := by
            rw [List.take_add_one, hx]
            rfl
          refine ⟨_, _, sw ++ [(sm.1, sm.2)] ++ [(sm.2, sm.1)], rfl, ?_, fun y hy => ?_, ?_⟩
          · rw [et, List.map_append, sewn_app, ← hsw, List.append_assoc]
            simp only [List.map_cons, List.map_nil, hsdef]
            rfl
          · rw [et] at hy
            rcases List.mem_append.mp hy with q | q
            · exact hok y q
            · rw [List.mem_singleton.mp q]
              exact hsm
          · rw [hfb]
            conv => lhs; unfold fbS
            rw [hsdef, hsm, n1, n2, List.append_assoc]
            rfl
      · obtain ⟨s3', s5, sw, rfl, hsw, hok, hfb⟩ := hI
        rw [enumD_length, List.take_length] at hsw hok
        rw [enumD_length, List.drop_length] at hfb
        have hfb : fbS (e1.map pnOf) 0 [] e2 = none := hfb
        have ems : e2 = (e2.map smOf).map dSm := by
          rw [List.map_map]
          refine ((List.map_congr_left fun d hd => ?_).trans (List.map_id e2)).symm
          exact (isSm_get (hok d hd)).1.symm
        refine xs_setfE (i := 0) (d := .tuple e1) rfl (ev_tupA (b := b1) (ev_var rfl)) T.m_beside.cls T.a_panels (by simp) fun vf2 => ?_
        rw [putD_neg (by decide +kernel), show ∀ x : Fv, putD (Str.ofString "panels") x [] = [(Str.ofString "panels", x)] from fun _ => rfl]
        refine xs_setfE (i := 0) (d := .tuple e2) rfl (ev_tupA (b := b2) (ev_var rfl)) T.m_beside.cls T.a_seams (by simp) fun vf3 => ?_
        rw [putD_neg (by decide +kernel), putD_neg (by decide +kernel), show ∀ x : Fv, putD (Str.ofString "seams") x [] = [(Str.ofString "seams", x)] from fun _ => rfl]
        refine xs_lockF (i := 0) (j := 4) (a := b) (b := a) (f := false) (ds := dSw sw) (n := "sewn") rfl rfl rfl ?_
        rw [putD_pos]
        have efs : [(Str.ofString "sewn", Fv.k false (dSw sw)), (Str.ofString "panels", Fv.d (.tuple e1)), (Str.ofString "seams", Fv.d (.tuple e2))] = sailFs (e1.map pnOf) (e2.map smOf) := by
          unfold sailFs
          rw [← em, ← ems, ← hsw]
        rw [efs]
        refine xc_freezeO (i := 0) rfl ?_
        have hseam : ∀ s ∈ e2.map smOf, seamOk (e1.map pnOf) s = true := fun s hs => by
          obtain ⟨d, hd, rfl⟩ := List.mem_map.mp hs
          exact (isSm_get (hok d hd)).2
        refine xc_ifP (p := fun t => t = true ↔ ¬ ∀ p, p < e1.length → Rch (e2.map smOf) 0 p) (et_testP (evT_C0 (P := fun t => t = true ↔ ¬ ∀ p, p < e1.length → Rch (e2.map smOf) 0 p) (p := fun n => ∃ ds, n = ((ds : List (D × D)).length : Nat) ∧ ∃ ks : List Nat, ks.Nodup ∧ (∀ y ∈ ks, y < e1.length) ∧ (∀ y, y ∈ ks ↔ Rch (e2.map smOf) 0 y) ∧ ds = dSeen ks) (q := fun n => n = (e1.length : Nat)) (ev_lenXP (ev_methK (ev_varOb rfl) rfl (ea_cons ev_int ea_nil) fun ss' e => ⟨((e1.map pnOf, e2.map smOf), 0), by rw [← e]; rfl, ⟨by rw [List.length_map]; omega, hseam, by rw [List.length_map]; exact hz.1⟩, fun s h => ?_, fun C d h => ?_⟩)) ((ev_lenA (b := b1) (ds := e1) (ev_var rfl)).toI rfl) fun i j hi hj => ?_)) (fun ht => ?_) fun ht => ?_
        · obtain ⟨ks, h1, h2, h3, h4⟩ := h
          cases h4
          exact ⟨_, rfl, ks, h1, fun y hy => by have := h2 y hy; rw [List.length_map] at this; exact this, h3, rfl⟩
        · obtain ⟨ks, h1, h2, h3, h4⟩ := h
          cases h4
        · obtain ⟨ds, rfl, ks, h1, h2, h3, rfl⟩ := hi
          subst hj
          rw [decide_eq_true_eq, ← reach_all h1 h2 h3]
          unfold dSeen
          rw [List.length_map]
          omega
        · have hno := ht.mp rfl
          refine xc_raise T.e_BadSeams.oex T.e_BadSeams.nv (ev_neg ev_int) (ip _ ?_)
          rw [if_pos h18, hfb]
          exact .inr ⟨hno, rfl⟩
        · have hyes : ∀ p, p < e1.length → Rch (e2.map smOf) 0 p := Classical.byContradiction fun z => by
            have := ht.mpr z
            cases this
          refine xc_next ⟨sailFs (e1.map pnOf) (e2.map smOf), [], .inr rfl, fun p hp => (by cases hp), ip _ ?_⟩
          rw [if_pos h18, hfb]
          exact .inl ⟨hyes, rfl⟩

end
end K27

set_option Elab.async false
set_option linter.all false
set_option maxRecDepth 100000
set_option maxHeartbeats 4000000
namespace K27
open PySem PySem.Spec PyProof.Rows L2 Dl LamX StX RZ SM SD
section
variable {P : Program} {w : World} {K : PySem.W.Frag} {mg : Str → Option Value} {base : Heap} {C1 C2 C3 fI CS : Addr} (T : Tx P w K mg base C1 C2 C3 fI CS)
include T
omit T in
theorem at_pn2 {t : Pn} {k : Nat} (h : k < 3) : atI [dPt t.1, dPt t.2.1, dPt t.2.2] ((k : Int) - 2) = some (dPt (atC t ((k + 1) % 3))) := by
  match k, h with
  | 0, _ => rfl
  | 1, _ => rfl
  | 2, _ => rfl
theorem c__law_long : Cal P w K mg base 1 "_law_long" ["panel", "side"] (spI K fx0 (fun i : Pn × Nat => [.dat (dPn i.1), .dat (.int (i.2 : Nat))]) (fun i => nearP 100 i.1 ∧ i.2 < 3) (fun i => Eq (.ok (.dat (.int (lng i.1 i.2)))))) := by
  refine mk_cal T.d__law_long sc__law_long (fun _ => rfl) (fun _ _ _ _ _ _ us hl => match us, hl with | [_, _], _ => rfl) (fun f cdv A outer s H E hr i hp => ⟨_, (pss_cons (ps_par (i := 2) (j := 3) (by rfl) sc__law_long.nd rfl rfl (by decide) rfl rfl (pa_cons (pe_ix (r := rIxT K) ix_tup (pv 0) (pv 1) (fun _ _ => rfl)) (pa_cons (pe_ix (r := rIxT K) ix_tup (pv 0) (pe_op op_sub (pv 1) pe_int) (fun _ _ => rfl)) pa_nil)) (by rfl))
      (pss_one (ps_ret (pe_op op_add (pe_op op_pow (pe_op op_sub (pe_ix (r := rIxT K) ix_tup (pv 2) pe_int (fun _ _ => rfl)) (pe_ix (r := rIxT K) ix_tup (pv 3) pe_int (fun _ _ => rfl))) pe_int) (pe_op op_pow (pe_op op_sub (pe_ix (r := rIxT K) ix_tup (pv 2) pe_int (fun _ _ => rfl)) (pe_ix (r := rIxT K) ix_tup (pv 3) pe_int (fun _ _ => rfl))) pe_int))))), fun G => ?_⟩)
  obtain ⟨t, k⟩ := i
  obtain ⟨hn, hk⟩ := hp
  have hk' : k < 3 := hk
  refine xs_par (x := .dat (dPt (atC t k))) (y := .dat (dPt (atC t ((k + 1) % 3)))) (ea_cons (ev_ixU (ds := [dPt t.1, dPt t.2.1, dPt t.2.2]) (ev_var rfl) (ev_var rfl) (at_pn hk')) (ea_cons (ev_ixU (ds := [dPt t.1, dPt t.2.1, dPt t.2.2]) (ev_var rfl) (ev_I0 (ev_var rfl) ev_int) (at_pn2 hk')) ea_nil)) ?_
  have n1 := near_at hn k
  have n2 := near_at hn ((k + 1) % 3)
  show Xc _ _ _ (RetP (Eq (.ok (.dat (.int (sq (atC t k) (atC t ((k + 1) % 3))))))))
  generalize atC t k = p at n1 ⊢
  generalize atC t ((k + 1) % 3) = q at n2 ⊢
  obtain ⟨p1, p2⟩ := p
  obtain ⟨q1, q2⟩ := q
  obtain ⟨x1, x2, x3, x4⟩ := n1
  obtain ⟨y1, y2, y3, y4⟩ := n2
  simp only at x1 x2 x3 x4 y1 y2 y3 y4
  exact xc_ret (ev_I0 (ev_IC (ev_I0 (ev_ixU (ds := [.int p1, .int p2]) (ev_var rfl) ev_int rfl) (ev_ixU (ds := [.int q1, .int q2]) (ev_var rfl) ev_int rfl)) ev_int ⟨by decide, by decide, by omega⟩) (ev_IC (ev_I0 (ev_ixU (ds := [.int p1, .int p2]) (ev_var rfl) ev_int rfl) (ev_ixU (ds := [.int q1, .int q2]) (ev_var rfl) ev_int rfl)) ev_int ⟨by decide, by decide, by omega⟩)) rfl
theorem c__law_area : Cal P w K mg base 1 "_law_area" ["one", "middle", "other"] (spI K fx0 (fun i : Pn => [.dat (dPt i.1), .dat (dPt i.2.1), .dat (dPt i.2.2)]) (fun i => nearP 100000 i) (fun i => Eq (.ok (.dat (.int (cross i.1 i.2.1 i.2.2)))))) := by
  refine mk_cal T.d__law_area sc__law_area (fun _ => rfl) (fun _ _ _ _ _ _ us hl => match us, hl with | [_, _, _], _ => rfl) (fun f cdv A outer s H E hr i hp => ⟨_, (pss_one (ps_ret (pe_op op_sub (pe_op op_mul (pe_op op_sub (pe_ix (r := rIxT K) ix_tup (pv 1) pe_int (fun _ _ => rfl)) (pe_ix (r := rIxT K) ix_tup (pv 0) pe_int (fun _ _ => rfl))) (pe_op op_sub (pe_ix (r := rIxT K) ix_tup (pv 2) pe_int (fun _ _ => rfl)) (pe_ix (r := rIxT K) ix_tup (pv 0) pe_int (fun _ _ => rfl)))) (pe_op op_mul (pe_op op_sub (pe_ix (r := rIxT K) ix_tup (pv 1) pe_int (fun _ _ => rfl)) (pe_ix (r := rIxT K) ix_tup (pv 0) pe_int (fun _ _ => rfl))) (pe_op op_sub (pe_ix (r := rIxT K) ix_tup (pv 2) pe_int (fun _ _ => rfl)) (pe_ix (r := rIxT K) ix_tup (pv 0) pe_int (fun _ _ => rfl))))))), fun G => ?_⟩)
  obtain ⟨⟨a1, a2⟩, ⟨b1, b2⟩, ⟨c1, c2⟩⟩ := i
  obtain ⟨⟨x1, x2, x3, x4⟩, ⟨y1, y2, y3, y4⟩, ⟨z1, z2, z3, z4⟩⟩ := hp
  simp only at x1 x2 x3 x4 y1 y2 y3 y4 z1 z2 z3 z4
  have g : ∀ {i : Nat} {p : Pt} {ρ : Rho}, ρ[i]? = some (.dat (dPt p)) → Ev ⟨K, fx0, G, H, E⟩ (tOp (rIxT K) (tVar i) (tC (.int 0))) ρ (Eq (.dat (.int p.1))) ∧ Ev ⟨K, fx0, G, H, E⟩ (tOp (rIxT K) (tVar i) (tC (.int 1))) ρ (Eq (.dat (.int p.2))) := fun h => ⟨ev_ixU (ev_var h) ev_int rfl, ev_ixU (ev_var h) ev_int rfl⟩
  exact xc_ret (ev_I0 (ev_IC (ev_I0 (g (i := 1) rfl).1 (g (i := 0) rfl).1) (ev_I0 (g (i := 2) rfl).2 (g (i := 0) rfl).2) (.inl ⟨by show _ < b1 - a1; omega, by show b1 - a1 < _; omega⟩)) (ev_IC (ev_I0 (g (i := 1) rfl).2 (g (i := 0) rfl).2) (ev_I0 (g (i := 2) rfl).1 (g (i := 0) rfl).1) (.inl ⟨by show _ < b2 - a2; omega, by show b2 - a2 < _; omega⟩))) rfl
omit T in
theorem inD_sd (x : Sd) (l : List Sd) : inD (dSd x) (l.map dSd) = l.contains x := by
  unfold inD
  rw [List.any_map, List.contains_eq_any_beq]
  congr 1
  funext y
  show PyData.eqv (dSd y) (dSd x) = _
  unfold dSd
  simp only [PyData.eqv, PyData.eqvAll, Bool.and_true]
  rw [Bool.eq_iff_iff, beq_iff_eq, Bool.and_eq_true]
  obtain ⟨a, b⟩ := x
  obtain ⟨c, d⟩ := y
  simp only [beq_iff_eq, Prod.mk.injEq]
  omega
omit T in
theorem canLay_sds (l : List Sd) : PyData.canLayAll0 (l.map dSd) = true := by
  induction l with
  | nil => rfl
  | cons x l ih => simp [PyData.canLayAll0, PyData.canLay0, dSd, ih]
omit T in
theorem shaped_sd (x : Sd) : SeqAt.shaped (dSd x) = true := rfl
theorem c__law_free : Cal P w K mg base 1 "_law_free" ["panels", "seams"] (spZ fun z : Zb2 => spI K (fxB (bs2 z)) (fun i : SI => [.rd z.1 z.2.1 (i.1.map dPn), .rd z.2.2.1 z.2.2.2 (i.2.map dSm)]) (fun i => i.1.length ≤ 1000 ∧ i.2.length ≤ 1000) (fun i => Eq (.ok (.dat (.list ((freeL i.1.length i.2).map dSd)))))) := by
  refine mk_calZ T.d__law_free sc__law_free (fun _ _ => rfl) (fun _ _ _ _ _ _ us hl => match us, hl with | [_, _], _ => rfl) (fun z f cdv A outer s H E hr i hp => ⟨_, (pss_cons (ps_set (i := 2) sc__law_free.nd rfl (Or.inr rfl) (pe_op (r := rCatL K) op_catL (pe_lc (own := [("seam", 5)]) (by rfl) sc__law_free.nd (pi_list (pv 1)) (blkOk_by (N := ["panels", "seams", "sewn", "found", "panel", "seam", "side"]) (sc := defScope s__law_free) (own := [("seam", 5)]) (by decide +kernel)) (fun _ _ _ _ _ => (pg_name (i := 5) sc__law_free.nd rfl (by first | exact Or.inl rfl | exact Or.inr rfl))) (fun _ _ _ _ _ => pts_nil) (fun _ _ _ _ _ => (pe_slice (r := rSlA K) sl_tupA (pv 5) po_none (po_some pe_int)))) (pe_lc (own := [("seam", 5)]) (by rfl) sc__law_free.nd (pi_list (pv 1)) (blkOk_by (N := ["panels", "seams", "sewn", "found", "panel", "seam", "side"]) (sc := defScope s__law_free) (own := [("seam", 5)]) (by decide +kernel)) (fun _ _ _ _ _ => (pg_name (i := 5) sc__law_free.nd rfl (by first | exact Or.inl rfl | exact Or.inr rfl))) (fun _ _ _ _ _ => pts_nil) (fun _ _ _ _ _ => (pe_slice (r := rSlA K) sl_tupA (pv 5) (po_some pe_int) po_none)))))
      (pss_cons (ps_set (i := 3) sc__law_free.nd rfl (Or.inl rfl) (pe_lst pa_nil))
      (pss_cons (ps_for (passes_of rfl) rfl (pi_range1 (by rfl) T.b_range (pa_cons (pe_callB (r := fun xs H Q => ∃ p ys, xs = [.ref p] ∧ (SqL K H p ys ∨ SqT K H p ys) ∧ Q (.int ys.length) H) call_len_seq (by rfl) T.b_len (by decide +kernel) (pa_cons (pv 0) pa_nil)) pa_nil)) (pg_name (i := 4) sc__law_free.nd rfl (Or.inr rfl)) (pss_one (ps_set (i := 3) sc__law_free.nd rfl (Or.inl rfl) (pe_op (r := rCatL K) op_catL (pv 3) (pe_lc (own := [("side", 6)]) (by rfl) sc__law_free.nd (pi_range1 (by rfl) T.b_range (pa_cons pe_int pa_nil)) (blkOk_by (N := ["panels", "seams", "sewn", "found", "panel", "seam", "side"]) (sc := defScope s__law_free) (own := [("side", 6)]) (by decide +kernel)) (fun _ _ _ _ _ => (pg_name (i := 6) sc__law_free.nd rfl (by first | exact Or.inl rfl | exact Or.inr rfl))) (fun _ _ _ _ _ => (pts_one (pt_cmpR (r := rNotInS K) (op_notInS (u65 hr)) (pe_tup (pa_cons (pv 4) (pa_cons (pv 6) pa_nil))) (pv 2) (by rfl)))) (fun _ _ _ _ _ => (pe_tup (pa_cons (pv 4) (pa_cons (pv 6) pa_nil)))))))))
      (pss_one (ps_ret (pv 3)))))), fun G => ?_⟩)
  obtain ⟨a1, vs1, a2, vs2⟩ := z
  obtain ⟨ps, ss⟩ := i
  obtain ⟨h1, h2⟩ := hp
  have h1 : ps.length ≤ 1000 := h1
  have h2 : ss.length ≤ 1000 := h2
  have m1 : (a1, vs1) ∈ bs2 (a1, vs1, a2, vs2) := by simp [bs2]
  have m2 : (a2, vs2) ∈ bs2 (a1, vs1, a2, vs2) := by simp [bs2]
  have c1 : ∀ s : Sm, cutD [.int (s.1.1 : Nat), .int (s.1.2 : Nat), .int (s.2.1 : Nat), .int (s.2.2 : Nat)] none (some 2) = [.int (s.1.1 : Nat), .int (s.1.2 : Nat)] := fun _ => rfl
  have c2 : ∀ s : Sm, cutD [.int (s.1.1 : Nat), .int (s.1.2 : Nat), .int (s.2.1 : Nat), .int (s.2.2 : Nat)] (some 2) none = [.int (s.2.1 : Nat), .int (s.2.2 : Nat)] := fun _ => rfl
  refine xs_asg (S := ⟨K, fxB (bs2 (a1, vs1, a2, vs2)), G, H, E⟩) (s := .dat (.list ((used ss).map dSd))) ((ef_catL (ds := (ss.map Prod.fst).map dSd) (es := (ss.map Prod.snd).map dSd) (el_of ((ef_mapL (l := ss) (dα := dSm) (f := fun s => dSd s.1) (im_rd rfl m2) (by omega) fun s _ => ⟨[5], _, by simp, tg_name, (ev_cutA (ds := [.int (s.1.1 : Nat), .int (s.1.2 : Nat), .int (s.2.1 : Nat), .int (s.2.2 : Nat)]) (ev_var rfl) eo_none (eo_some ev_int)).cast (by rw [c1]; rfl)⟩).evE.cast (by rw [List.map_map]; rfl)))
    (el_of ((ef_mapL (l := ss) (dα := dSm) (f := fun s => dSd s.2) (im_rd rfl m2) (by omega) fun s _ => ⟨[5], _, by simp, tg_name, (ev_cutA (ds := [.int (s.1.1 : Nat), .int (s.1.2 : Nat), .int (s.2.1 : Nat), .int (s.2.2 : Nat)]) (ev_var rfl) (eo_some ev_int) eo_none).cast (by rw [c2]; rfl)⟩).evE.cast (by rw [List.map_map]; rfl))) (by simp; omega)).evE.cast (by unfold used; rw [List.map_append])) ?_
  refine xs_asg (s := .dat (.list [])) ev_lst0 ?_
  refine xs_for (im_rng1E (n := ps.length) ((ev_lenRd rfl m1).cast (by rw [List.length_map])) (by omega)) (fun k ρ => ∃ s4 : Sl, ρ = [.rd a1 vs1 (ps.map dPn), .rd a2 vs2 (ss.map dSm), .dat (.list ((used ss).map dSd)), .dat (.list ((freeL k ss).map dSd)), s4, .no, .no]) ⟨_, rfl⟩ (fun k d ρ1 hd hI => ?_) fun ρ1 hI => ?_
  · obtain ⟨s4, rfl⟩ := hI
    obtain ⟨hk, rfl⟩ := rngD_get hd
    rw [Int.zero_add]
    refine ⟨_, _, tg_name, ?_⟩
    have hfl := freeL_len k ss
    have hrl := rowF_len ss k
    refine xc_asg (s := .dat (.list ((freeL (k + 1) ss).map dSd))) ((ef_catL (ds := (freeL k ss).map dSd) (es := (rowF ss k).map dSd) (el_of (ev_var rfl)) (el_of ((ef_filterL (l := List.range 3) (dα := fun (x : Nat) => PyData.int (x : Int)) (c := fun s => !(used ss).contains (k, s)) (f := fun s => dSd (k, s)) (by
      have h := im_rng1E (S := ⟨K, fxB (bs2 (a1, vs1, a2, vs2)), G, H, E⟩) (te := tC (.int 3)) (ρ := [.rd a1 vs1 (ps.map dPn), .rd a2 vs2 (ss.map dSm), .dat (.list ((used ss).map dSd)), .dat (.list ((freeL k ss).map dSd)), .dat (.int (k : Nat)), .no, .no]) (n := 3) ev_int (by omega)
      rw [rng_nat] at h
      exact h) (by simp) fun s _ => ⟨[6], _, by simp, tg_name, et_is (et_test (ev_notInL (d := dSd (k, s)) (ev_tup2 (ev_var rfl) (ev_var rfl)) (el_of (ev_var rfl)) (shaped_sd _) (canLay_sds _))) (by rw [inD_sd]), fun _ => ev_tup2 (ev_var rfl) (ev_var rfl)⟩).evE.cast (by unfold rowF; rw [List.map_map]; rfl))) (by rw [List.length_map, List.length_map]; omega)).evE.cast (by rw [freeL_succ, List.map_append])) ?_
    exact ⟨_, rfl⟩
  · obtain ⟨s4, rfl⟩ := hI
    rw [rngD_length]
    exact xc_ret (ev_var rfl) rfl

end
end K27

set_option Elab.async false
set_option linter.all false
set_option maxRecDepth 100000
set_option maxHeartbeats 4000000
namespace K27
open PySem PySem.Spec PyProof.Rows L2 Dl LamX StX RZ SM SD
section
variable {P : Program} {w : World} {K : PySem.W.Frag} {mg : Str → Option Value} {base : Heap} {C1 C2 C3 fI CS : Addr} (T : Tx P w K mg base C1 C2 C3 fI CS)
include T
/-- a panel that the law has drawn -/
def GoodP (t : Pn) : Prop := 0 < cross t.1 t.2.1 t.2.2 ∧ nearP 2 t
omit T in
theorem cross_flip (a b c : Pt) : cross a c b = -cross a b c := by
  unfold cross
  rw [Int.mul_comm (c.1 - a.1), Int.mul_comm (c.2 - a.2)]
  omega
theorem c__law_drawn_panel : Cal P w K mg base 3 "_law_drawn_panel" ["row"] (spZ fun z : RowZ => spI K (rowFx K z) (fun _ : Unit => [.raw (.ref z.r)]) (fun _ => True) (fun _ r => ∃ t : Pn, GoodP t ∧ r = .ok (.dat (dPn t)))) := by
  have c__law_taken := c__law_taken T
  have c__law_area := c__law_area T
  refine mk_calZ T.d__law_drawn_panel sc__law_drawn_panel (fun _ _ => rfl) (fun _ _ _ _ _ _ us hl => match us, hl with | [_], _ => rfl) (fun z f cdv A outer s H E hr i _ => ⟨_, (pss_cons (ps_set (i := 1) sc__law_drawn_panel.nd rfl (Or.inl rfl) (pe_lst pa_nil))
      (pss_cons (ps_for (passes_of rfl) rfl (pi_range1 (by rfl) T.b_range (pa_cons pe_int pa_nil)) (pg_name (i := 2) sc__law_drawn_panel.nd rfl (Or.inl rfl)) (pss_cons (ps_setLc (i := 1) (own := [("j", 4)]) (by rfl) sc__law_drawn_panel.nd rfl rfl (sw_true rfl rfl rfl (by decide +kernel)) (pi_range1 (by rfl) T.b_range (pa_cons pe_int pa_nil)) (blkOk_by (N := ["row", "spots", "k", "area", "j"]) (sc := defScope s__law_drawn_panel) (own := [("j", 4)]) (by decide +kernel)) (fun _ _ _ _ _ => (pg_name (i := 4) sc__law_drawn_panel.nd rfl (by first | exact Or.inl rfl | exact Or.inr rfl))) (fun _ _ _ _ _ => pts_nil) (fun _ _ _ _ _ => (pe_tup (pa_cons (pe_cal c__law_taken (hr.mono (by first | decide | omega)) rfl (pa_cons (pv 0) (pa_cons pe_int pa_nil))) (pa_cons (pe_cal c__law_taken (hr.mono (by first | decide | omega)) rfl (pa_cons (pv 0) (pa_cons pe_int pa_nil))) pa_nil)))))
      (pss_cons (ps_set (i := 3) sc__law_drawn_panel.nd rfl (Or.inl rfl) (pe_cal c__law_area (hr.mono (by first | decide | omega)) rfl (pa_cons (pe_ix (r := rIxL K) ix_list (pv 1) pe_int (fun _ _ => rfl)) (pa_cons (pe_ix (r := rIxL K) ix_list (pv 1) pe_int (fun _ _ => rfl)) (pa_cons (pe_ix (r := rIxL K) ix_list (pv 1) pe_int (fun _ _ => rfl)) pa_nil)))))
      (pss_one (ps_if (pt_cmpR (r := rNeD K) (op_neD (u64 hr)) (pv 3) pe_int (nomark _)) (pss_one ps_break) pss_nil)))))
      (pss_cons (ps_if (pt_cmpR (r := rEqD K) (op_eqD (u64 hr)) (pv 3) pe_int (nomark _)) (pss_one (ps_ret (pe_tup (pa_cons (pe_tup (pa_cons pe_int (pa_cons pe_int pa_nil))) (pa_cons (pe_tup (pa_cons pe_int (pa_cons pe_int pa_nil))) (pa_cons (pe_tup (pa_cons pe_int (pa_cons pe_int pa_nil))) pa_nil)))))) pss_nil)
      (pss_one (ps_ret (pe_ifExp (pt_cmpR op_gt (pv 3) pe_int (nomark _)) (pe_callTy (T := "tuple") (r := fun xs H Q => ∃ p ys, xs = [.ref p] ∧ ((SqL K H p ys ∧ ∀ l, H l = none → Q (.ref l) (upd H l (.tup ys))) ∨ (SqT K H p ys ∧ Q (.ref p) H))) call_tuple_of (by rfl) T.b_tuple (by decide +kernel) (pa_cons (pv 1) pa_nil)) (pe_tup (pa_cons (pe_ix (r := rIxL K) ix_list (pv 1) pe_int (fun _ _ => rfl)) (pa_cons (pe_ix (r := rIxL K) ix_list (pv 1) pe_int (fun _ _ => rfl)) (pa_cons (pe_ix (r := rIxL K) ix_list (pv 1) pe_int (fun _ _ => rfl)) pa_nil)))))))))), fun G => ?_⟩)
  have tk : ∀ {ρ : Rho}, ρ[0]? = some (.raw (.ref z.r)) → EvI ⟨K, rowFx K z, G, H, E⟩ (tCall (spTaken K) [] E0 (tCons (tVar 0) (tCons (tC (.int 3)) tNil))) ρ (fun i => 0 ≤ i ∧ i ≤ 2) := fun h => (ev_takenI (z := z) (ev_varR h) (ev_int.toI (p := fun m => m = 3) rfl) fun m e => by omega).imp fun s ⟨i, e, h0, m, hm, hi⟩ => ⟨i, e, h0, by omega⟩
  refine xs_asg (S := ⟨K, rowFx K z, G, H, E⟩) (s := .dat (.list [])) ev_lst0 ?_
  refine xs_cut (Q := fun ρ => ∃ (t : Pn) (s2 : Sl), nearP 2 t ∧ (∀ p ∈ [t.1, t.2.1, t.2.2], 0 ≤ p.1 ∧ 0 ≤ p.2) ∧ ρ = [.raw (.ref z.r), .dat (.list [dPt t.1, dPt t.2.1, dPt t.2.2]), s2, .dat (.int (cross t.1 t.2.1 t.2.2)), .no]) (xc_forE (im_rng1E (n := 9) ev_int (by omega)) (fun k ρ => ∃ s1 s2 s3 : Sl, ρ = [.raw (.ref z.r), s1, s2, s3, .no] ∧ (0 < k → ∃ t : Pn, nearP 2 t ∧ (∀ p ∈ [t.1, t.2.1, t.2.2], 0 ≤ p.1 ∧ 0 ≤ p.2) ∧ s1 = .dat (.list [dPt t.1, dPt t.2.1, dPt t.2.2]) ∧ s3 = .dat (.int (cross t.1 t.2.1 t.2.2)))) ⟨_, _, _, rfl, fun h => absurd h (Nat.lt_irrefl 0)⟩ (fun k d ρ1 hd hI => ?_) fun ρ1 hI => ?_) fun ρ' hQ => ?_
  · obtain ⟨s1, s2, s3, rfl, _⟩ := hI
    refine ⟨_, _, tg_name, ?_⟩
    refine xs_asgP (ef_many (dα := dPt) (good := fun p : Pt => 0 ≤ p.1 ∧ p.1 ≤ 2 ∧ 0 ≤ p.2 ∧ p.2 ≤ 2) (N := fun n => n = 3) (fun n h => by omega) (im_rng1 (ev_int.toI ⟨by omega, by omega, rngD_length _ _⟩)) fun d => ⟨[4], _, by simp, tg_name, ?_⟩).ev ?_
    · refine (ev_tup2P (p := fun d => ∃ i, d = .int i ∧ 0 ≤ i ∧ i ≤ 2) (q := fun d => ∃ i, d = .int i ∧ 0 ≤ i ∧ i ≤ 2) ((tk rfl).imp fun s ⟨i, e, h⟩ => ⟨_, e, i, rfl, h⟩) ((tk rfl).imp fun s ⟨i, e, h⟩ => ⟨_, e, i, rfl, h⟩)).imp fun s ⟨ds, e, x, y, e2, ⟨i, ei, hi⟩, ⟨j, ej, hj⟩⟩ => ⟨(i, j), by rw [e, e2, ei, ej]; rfl, hi.1, hi.2, hj.1, hj.2⟩
    rintro _ ⟨_, rfl, pts, rfl, hl, hg⟩
    obtain ⟨a, b, c, rfl⟩ : ∃ a b c, pts = [a, b, c] := by
      match pts, hl with
      | [a, b, c], _ => exact ⟨a, b, c, rfl⟩
    have ga := hg a (by simp)
    have gb := hg b (by simp)
    have gc := hg c (by simp)
    have nr : ∀ {p : Pt}, 0 ≤ p.1 ∧ p.1 ≤ 2 ∧ 0 ≤ p.2 ∧ p.2 ≤ 2 → near 2 p := fun h => ⟨by omega, h.2.1, by omega, h.2.2.2⟩
    have hn : nearP 2 (a, b, c) := ⟨nr ga, nr gb, nr gc⟩
    have hnn : ∀ p ∈ [a, b, c], 0 ≤ p.1 ∧ 0 ≤ p.2 := fun p hp => by
      have := hg p hp
      exact ⟨this.1, this.2.2.1⟩
    have hy : ∀ {k : Nat} {d : D} {ρ : Rho}, ρ[1]? = some (.dat (.list [dPt a, dPt b, dPt c])) → atI [dPt a, dPt b, dPt c] (k : Int) = some d → Ev ⟨K, rowFx K z, G, H, E⟩ (tOp (rIxL K) (tVar 1) (tC (.int (k : Nat)))) ρ (Eq (.dat d)) := fun h e => ev_ixL (el_of (ev_var h)) ev_int e
    refine xs_asg (s := .dat (.int (cross a b c))) (ev_callE (a, b, c) (ea_cons (hy (k := 0) rfl rfl) (ea_cons (hy (k := 1) rfl rfl) (ea_cons (hy (k := 2) rfl rfl) ea_nil))) (nearP_mono hn (by decide))) ?_
    refine xc_if (et_B (ev_neI (ev_var rfl) ev_int)) (fun _ => ?_) fun _ => ?_
    · exact xc_break ⟨(a, b, c), _, hn, hnn, rfl⟩
    · exact xc_next ⟨_, _, _, rfl, fun _ => ⟨(a, b, c), hn, hnn, rfl, rfl⟩⟩
  · obtain ⟨s1, s2, s3, rfl, h⟩ := hI
    rw [rngD_length] at h
    obtain ⟨t, h1, h2, rfl, rfl⟩ := h (by decide)
    exact ⟨t, s2, h1, h2, rfl⟩
  obtain ⟨t, s2, hn, hnn, rfl⟩ := hQ
  obtain ⟨a, b, c⟩ := t
  have hy : ∀ {k : Nat} {d : D} {ρ : Rho}, ρ[1]? = some (.dat (.list [dPt a, dPt b, dPt c])) → atI [dPt a, dPt b, dPt c] (k : Int) = some d → Ev ⟨K, rowFx K z, G, H, E⟩ (tOp (rIxL K) (tVar 1) (tC (.int (k : Nat)))) ρ (Eq (.dat d)) := fun h e => ev_ixL (el_of (ev_var h)) ev_int e
  refine xs_when (b := decide (cross a b c = 0)) (et_test (ev_eqI (ev_var rfl) ev_int)) (fun _ => ?_) fun hz => ?_
  · exact xc_ret (ev_tup (ds := [dPt (0, 0), dPt (1, 0), dPt (0, 1)]) (ea_cons (ev_tup2 ev_int ev_int) (ea_cons (ev_tup2 ev_int ev_int) (ea_cons (ev_tup2 ev_int ev_int) ea_nil))) (by simp)) ⟨((0, 0), (1, 0), (0, 1)), ⟨by decide, ⟨⟨by decide, by decide, by decide, by decide⟩, ⟨by decide, by decide, by decide, by decide⟩, ⟨by decide, by decide, by decide, by decide⟩⟩⟩, rfl⟩
  have hz : ¬ cross a b c = 0 := of_decide_eq_false hz
  by_cases hp : 0 < cross a b c
  · exact xc_ret (ev_if (b := true) (et_is (et_test (ev_C0 (ev_var rfl) ev_int)) (decide_eq_true hp)) (fun _ => ev_tupL (ds := [dPt a, dPt b, dPt c]) (el_of (ev_var rfl))) fun z => by cases z) ⟨(a, b, c), ⟨hp, hn⟩, rfl⟩
  · refine xc_ret (ev_if (b := false) (et_is (et_test (ev_C0 (ev_var rfl) ev_int)) (decide_eq_false hp)) (fun z => by cases z) fun _ => ev_tup (ds := [dPt a, dPt c, dPt b]) (ea_cons (hy (k := 0) rfl rfl) (ea_cons (hy (k := 2) rfl rfl) (ea_cons (hy (k := 1) rfl rfl) ea_nil))) (by simp)) ⟨(a, c, b), ⟨?_, ⟨hn.1, hn.2.2, hn.2.1⟩⟩, rfl⟩
    show 0 < cross a c b
    rw [cross_flip]
    omega

end
end K27

set_option Elab.async false
set_option linter.all false
set_option maxRecDepth 100000
set_option maxHeartbeats 4000000
namespace K27
open PySem PySem.Spec PyProof.Rows L2 Dl LamX StX RZ SM SD
section
variable {P : Program} {w : World} {K : PySem.W.Frag} {mg : Str → Option Value} {base : Heap} {C1 C2 C3 fI CS : Addr} (T : Tx P w K mg base C1 C2 C3 fI CS)
include T
omit T in
theorem ms2 {α : Type} (le : α → α → Bool) (a b : α) : [a, b].mergeSort le = if le a b then [a, b] else [b, a] := by
  simp [List.mergeSort, List.MergeSort.Internal.splitInTwo, List.merge]
omit T in
theorem srt2 {l : List Sd} {u v : Sd} (hu : u ∈ l) (hv : v ∈ l) : ∃ a b : Sd, srtD [dSd u, dSd v] = [dSd a, dSd b] ∧ a ∈ l ∧ b ∈ l ∧ (a.1 < b.1 ∨ (a.1 = b.1 ∧ a.2 ≤ b.2)) := by
  unfold srtD
  rw [ms2]
  have e : PySem.W.dataLe false id (dSd u) (dSd v) = decide (u.1 < v.1 ∨ (u.1 = v.1 ∧ u.2 ≤ v.2)) := by
    show (!PySem.W.dataLt (dSd v) (dSd u)) = _
    unfold dSd
    rw [PySem.W.dataLt_ii, Bool.eq_iff_iff]
    simp
    omega
  rw [e]
  by_cases h : u.1 < v.1 ∨ (u.1 = v.1 ∧ u.2 ≤ v.2)
  · rw [decide_eq_true h, if_pos rfl]
    exact ⟨u, v, rfl, hu, hv, h⟩
  · rw [decide_eq_false h, if_neg (by decide)]
    exact ⟨v, u, rfl, hv, hu, by omega⟩
omit T in
theorem sortOk_sds (l : List Sd) (h : l.length ≤ 1000000) : SortOk (l.map dSd) := by
  refine ⟨PySem.W.AllAlike.of fun a b => (by simp [dSd, PySem.W.alike, PySem.W.alikeAll]), .inl (PySem.W.Sortable.tuples fun a => ⟨_, _, rfl⟩), by rw [List.length_map]; exact h, ?_, ?_⟩
  · clear h
    induction l with
    | nil => decide
    | cons x l ih =>
      rw [List.map_cons, PyData.depthAll]
      exact Nat.max_le.mpr ⟨by show (dSd x).depth ≤ 20; unfold dSd; simp [PyData.depth, PyData.depthAll], ih⟩
  · clear h
    induction l with
    | nil => rfl
    | cons x l ih =>
      rw [List.map_cons]
      simp only [PyData.hasDictAll, ih, Bool.or_false]
      rfl
theorem c__law_sail : Cal P w K mg base 4 "_law_sail" ["row", "many"] (spZ fun z : RowZ => spI K (rowFx K z) (fun m : Nat => [.raw (.ref z.r), .dat (.int (m : Nat))]) (fun m => 1 ≤ m ∧ m ≤ 12) (fun m r => ∃ (ps : List Pn) (ss : List Sm), Ok ps ss ∧ (∀ t ∈ ps, GoodP t) ∧ ps.length ≤ m ∧ r = .ok (.dat (.tuple [.list (ps.map dPn), .list (ss.map dSm)])))) := by
  have c__law_taken := c__law_taken T
  have c__law_pick := c__law_pick T
  have c__law_free := c__law_free T
  have c__law_long := c__law_long T
  have c__law_drawn_panel := c__law_drawn_panel T
  refine mk_calZ T.d__law_sail sc__law_sail (fun _ _ => rfl) (fun _ _ _ _ _ _ us hl => match us, hl with | [_, _], _ => rfl) (fun z f cdv A outer s H E hr m hp => ⟨_, (pss_cons (ps_asg (pe_tup (pa_cons (pe_lst (pa_cons (pe_cal c__law_drawn_panel (hr.mono (by first | decide | omega)) rfl (pa_cons (pv 0) pa_nil)) pa_nil)) (pa_cons (pe_lst pa_nil) pa_nil))) (pg_tup (by rfl) (pgs_cons (pg_name (i := 2) sc__law_sail.nd rfl (Or.inr rfl)) (pgs_cons (pg_name (i := 3) sc__law_sail.nd rfl (Or.inl rfl)) pgs_nil))))
      (pss_cons (ps_for (passes_of rfl) rfl (pi_range1 (by rfl) T.b_range (pa_cons (pe_cal c__law_taken (hr.mono (by first | decide | omega)) rfl (pa_cons (pv 0) (pa_cons (pv 1) pa_nil))) pa_nil)) (pg_name (i := 4) sc__law_sail.nd rfl (Or.inl rfl)) (pss_cons (ps_set (i := 5) sc__law_sail.nd rfl (Or.inr rfl) (pe_cal c__law_pick (hr.mono (by first | decide | omega)) rfl (pa_cons (pv 0) (pa_cons (pe_op (r := rCatL K) op_catL (pe_cal c__law_free (hr.mono (by first | decide | omega)) rfl (pa_cons (pv 2) (pa_cons (pv 3) pa_nil))) (pe_lst (pa_cons (pe_tup (pa_cons pe_int (pa_cons pe_int pa_nil))) pa_nil))) pa_nil))))
      (pss_cons (ps_set (i := 6) sc__law_sail.nd rfl (Or.inr rfl) (pe_cal c__law_drawn_panel (hr.mono (by first | decide | omega)) rfl (pa_cons (pv 0) pa_nil)))
      (pss_cons (ps_setLc (i := 7) (own := [("at", 11)]) (by rfl) sc__law_sail.nd rfl rfl (sw_true rfl rfl rfl (by decide +kernel)) (pi_range1 (by rfl) T.b_range (pa_cons pe_int pa_nil)) (blkOk_by (N := ["row", "many", "panels", "seams", "k", "side", "new", "same", "free", "one", "other", "at"]) (sc := defScope s__law_sail) (own := [("at", 11)]) (by decide +kernel)) (fun _ _ _ _ _ => (pg_name (i := 11) sc__law_sail.nd rfl (by first | exact Or.inl rfl | exact Or.inr rfl))) (fun _ _ _ _ _ => (pts_one (pt_cmpR (r := rEqD K) (op_eqD (u64 hr)) (pe_cal c__law_long (hr.mono (by first | decide | omega)) rfl (pa_cons (pv 6) (pa_cons (pv 11) pa_nil))) (pe_cal c__law_long (hr.mono (by first | decide | omega)) rfl (pa_cons (pe_ix (r := rIxL K) ix_list (pv 2) (pe_ix (r := rIxT K) ix_tup (pv 5) pe_int (fun _ _ => rfl)) (fun _ _ => rfl)) (pa_cons (pe_ix (r := rIxT K) ix_tup (pv 5) pe_int (fun _ _ => rfl)) pa_nil))) (nomark _)))) (fun _ _ _ _ _ => (pv 11)))
      (pss_one (ps_if (PW.pt (pw_and (pt_cmpR (r := rNeD K) (op_neD (u64 hr)) (pv 7) (pe_lst pa_nil) (nomark _)) (pw_and1 (pt_cmpR (r := rInS K) (op_inS (u65 hr)) (pv 5) (pe_cal c__law_free (hr.mono (by first | decide | omega)) rfl (pa_cons (pv 2) (pa_cons (pv 3) pa_nil))) (by rfl))))) (pss_cons (ps_expr (pe_bm PySem.F.plainAttrs_list PySem.F.slot_list_append PySem.F.type_list_append mt_append (pv 2) (pa_cons (pv 6) pa_nil)))
      (pss_one (ps_expr (pe_bm PySem.F.plainAttrs_list PySem.F.slot_list_append PySem.F.type_list_append mt_append (pv 3) (pa_cons (pe_op (r := rCatA K) op_catA (pv 5) (pe_tup (pa_cons (pe_op op_sub (pe_callB (r := fun xs H Q => ∃ p ys, xs = [.ref p] ∧ (SqL K H p ys ∨ SqT K H p ys) ∧ Q (.int ys.length) H) call_len_seq (by rfl) T.b_len (by decide +kernel) (pa_cons (pv 2) pa_nil)) pe_int) (pa_cons (pe_cal c__law_pick (hr.mono (by first | decide | omega)) rfl (pa_cons (pv 0) (pa_cons (pv 7) pa_nil))) pa_nil)))) pa_nil))))) pss_nil))))))
      (pss_cons (ps_for (passes_of rfl) rfl (pi_range1 (by rfl) T.b_range (pa_cons (pe_cal c__law_taken (hr.mono (by first | decide | omega)) rfl (pa_cons (pv 0) (pa_cons (pe_op op_mul pe_int (pv 1)) pa_nil))) pa_nil)) (pg_name (i := 4) sc__law_sail.nd rfl (Or.inl rfl)) (pss_cons (ps_set (i := 8) sc__law_sail.nd rfl (Or.inl rfl) (pe_cal c__law_free (hr.mono (by first | decide | omega)) rfl (pa_cons (pv 2) (pa_cons (pv 3) pa_nil))))
      (pss_one (ps_if (PW.pt (pw_and (pt_cmpR (r := rNeD K) (op_neD (u64 hr)) (pv 8) (pe_lst pa_nil) (nomark _)) (pw_and1 (pt_cmpR op_lt (pe_callB (r := fun xs H Q => ∃ p ys, xs = [.ref p] ∧ (SqL K H p ys ∨ SqT K H p ys) ∧ Q (.int ys.length) H) call_len_seq (by rfl) T.b_len (by decide +kernel) (pa_cons (pv 3) pa_nil)) pe_int (nomark _))))) (pss_cons (ps_asg (pe_callB (r := rSortD K) (cr_sortD (u64 hr)) (by rfl) T.b_sorted (by decide +kernel) (pa_cons (pe_lst (pa_cons (pe_cal c__law_pick (hr.mono (by first | decide | omega)) rfl (pa_cons (pv 0) (pa_cons (pv 8) pa_nil))) (pa_cons (pe_cal c__law_pick (hr.mono (by first | decide | omega)) rfl (pa_cons (pv 0) (pa_cons (pv 8) pa_nil))) pa_nil))) pa_nil)) (pg_lst (K := K) (n := 2) rfl rfl (pgs_cons (pg_name (i := 9) sc__law_sail.nd rfl (Or.inl rfl)) (pgs_cons (pg_name (i := 10) sc__law_sail.nd rfl (Or.inl rfl)) pgs_nil))))
      (pss_one (ps_if (PW.pt (pw_and (pt_cmpR (r := rNeD K) (op_neD (u64 hr)) (pv 9) (pv 10) (nomark _)) (pw_and1 (pt_cmpR (r := rEqD K) (op_eqD (u64 hr)) (pe_cal c__law_long (hr.mono (by first | decide | omega)) rfl (pa_cons (pe_ix (r := rIxL K) ix_list (pv 2) (pe_ix (r := rIxT K) ix_tup (pv 9) pe_int (fun _ _ => rfl)) (fun _ _ => rfl)) (pa_cons (pe_ix (r := rIxT K) ix_tup (pv 9) pe_int (fun _ _ => rfl)) pa_nil))) (pe_cal c__law_long (hr.mono (by first | decide | omega)) rfl (pa_cons (pe_ix (r := rIxL K) ix_list (pv 2) (pe_ix (r := rIxT K) ix_tup (pv 10) pe_int (fun _ _ => rfl)) (fun _ _ => rfl)) (pa_cons (pe_ix (r := rIxT K) ix_tup (pv 10) pe_int (fun _ _ => rfl)) pa_nil))) (nomark _))))) (pss_one (ps_expr (pe_bm PySem.F.plainAttrs_list PySem.F.slot_list_append PySem.F.type_list_append mt_append (pv 3) (pa_cons (pe_op (r := rCatA K) op_catA (pv 9) (pv 10)) pa_nil)))) pss_nil))) pss_nil))))
      (pss_one (ps_ret (pe_tup (pa_cons (pv 2) (pa_cons (pv 3) pa_nil)))))))), fun G => ?_⟩)
  obtain ⟨m1, m2⟩ := hp
  have drawn : ∀ {ρ : Rho}, ρ[0]? = some (.raw (.ref z.r)) → Ev ⟨K, rowFx K z, G, H, E⟩ (tCall (spZ fun z : RowZ => spI K (rowFx K z) (fun _ : Unit => [.raw (.ref z.r)]) (fun _ => True) (fun _ r => ∃ t : Pn, GoodP t ∧ r = .ok (.dat (dPn t)))) [] E0 (tCons (tVar 0) tNil)) ρ (fun s => ∃ d, s = .dat d ∧ ∃ t, d = dPn t ∧ GoodP t) := fun h => ev_callZ (fx := rowFx K) z (ea_cons (ev_varR h) ea_nil) fun ss e => ⟨(), e.symm, True.intro, fun s ⟨t, ht, e⟩ => ⟨_, Re.ok.inj e, t, rfl, ht⟩, fun C d ⟨_, _, e⟩ => by cases e⟩
  have tkI : ∀ {ρ : Rho} {te : TE} {q' : Int → Prop}, ρ[0]? = some (.raw (.ref z.r)) → EvI ⟨K, rowFx K z, G, H, E⟩ te ρ q' → (∀ m, q' m → 0 < m ∧ m < 1073741824) → EvI ⟨K, rowFx K z, G, H, E⟩ (tCall (spTaken K) [] E0 (tCons (tVar 0) (tCons te tNil))) ρ (fun x => 0 ≤ x ∧ ∃ m, q' m ∧ x < m) := fun h he hq => ev_takenI (z := z) (ev_varR h) he hq
  have free : ∀ {ρ : Rho} {ap as : Addr} {ps : List Pn} {ss : List Sm}, ρ[2]? = some (.own ap (.lst (ps.map dPn))) → ρ[3]? = some (.own as (.lst (ss.map dSm))) → Ok ps ss → Ev ⟨K, rowFx K z, G, H, E⟩ (tCall (spZ fun z : Zb2 => spI K (fxB (bs2 z)) (fun i : SI => [.rd z.1 z.2.1 (i.1.map dPn), .rd z.2.2.1 z.2.2.2 (i.2.map dSm)]) (fun i => i.1.length ≤ 1000 ∧ i.2.length ≤ 1000) (fun i => Eq (.ok (.dat (.list ((freeL i.1.length i.2).map dSd)))))) [] E0 (tCons (tVar 2) (tCons (tVar 3) tNil))) ρ (Eq (.dat (.list ((freeL ps.length ss).map dSd)))) := fun {ρ ap as ps ss} h2 h3 ok => ev_call2B (S := ⟨K, rowFx K z, G, H, E⟩) (args := fun (z : Zb2) (i : SI) => [.rd z.1 z.2.1 (i.1.map dPn), .rd z.2.2.1 z.2.2.2 (i.2.map dSm)]) (ps, ss) h2 h3 ⟨by have := ok.n2; show ps.length ≤ 1000; omega, by have := ok.m; show ss.length ≤ 1000; omega⟩ (fun _ _ => rfl) (fun s e => Re.ok.inj e) (fun C d e => by cases e)
  have gp : ∀ {ps : List Pn} {x : Nat}, x < ps.length → atI (ps.map dPn) (x : Int) = some (dPn (ps.getD x default)) := fun {ps x} h => at_nat (by rw [List.getElem?_map, List.getElem?_eq_getElem h]; simp [List.getD, h])
  have gn : ∀ {ps : List Pn} {ss : List Sm} {x : Nat}, Ok ps ss → x < ps.length → nearP 100 (ps.getD x default) := fun {ps ss x} ok h => by
    rw [show ps.getD x default = ps[x] by simp [List.getD, h]]
    exact (ok.pn _ (List.getElem_mem h)).2
  have long : ∀ {ρ : Rho} {j : Nat} {ap : Addr} {ps : List Pn} {ss : List Sm} {x : Sd}, ρ[2]? = some (.own ap (.lst (ps.map dPn))) → ρ[j]? = some (.dat (dSd x)) → Ok ps ss → x.1 < ps.length → x.2 < 3 → Ev ⟨K, rowFx K z, G, H, E⟩ (tCall (spI K fx0 (fun i : Pn × Nat => [.dat (dPn i.1), .dat (.int (i.2 : Nat))]) (fun i => nearP 100 i.1 ∧ i.2 < 3) (fun i => Eq (.ok (.dat (.int (lng i.1 i.2)))))) [] E0 (tCons (tOp (rIxL K) (tVar 2) (tOp (rIxT K) (tVar j) (tC (.int 0)))) (tCons (tOp (rIxT K) (tVar j) (tC (.int 1))) tNil))) ρ (Eq (.dat (.int (lng (ps.getD x.1 default) x.2)))) := fun {ρ j ap ps ss x} h2 hj ok x1 x2 => ev_callE (ps.getD x.1 default, x.2) (ea_cons (ev_ixL (el_own h2) (ev_ixU (ds := [.int (x.1 : Nat), .int (x.2 : Nat)]) (ev_var hj) ev_int rfl) (gp x1)) (ea_cons (ev_ixU (ds := [.int (x.1 : Nat), .int (x.2 : Nat)]) (ev_var hj) ev_int rfl) ea_nil)) ⟨gn ok x1, x2⟩
  refine xs_asg2F (S := ⟨K, rowFx K z, G, H, E⟩) (i := 2) (j := 3) (ef_lst1P (drawn rfl)) ef_nil (by decide) fun ap as ds es hds hes => ?_
  obtain ⟨_, rfl, t0, rfl, ht0⟩ := hds
  subst hes
  refine xs_cut (Q := fun ρ => ∃ (ps : List Pn) (ss : List Sm) (s4 s5 s6 s7 : Sl), Ok ps ss ∧ (∀ t ∈ ps, GoodP t) ∧ ps.length ≤ m ∧ ρ = [.raw (.ref z.r), .dat (.int (m : Nat)), .own ap (.lst (ps.map dPn)), .own as (.lst (ss.map dSm)), s4, s5, s6, s7, .no, .no, .no, .no]) (xc_for (p := fun ds => ds.length < m) (im_rng1 ((tkI rfl ((ev_var rfl).toI (p := fun i => i = (m : Int)) rfl) fun m e => by omega).imp fun s ⟨i, e, h0, m', hm, hi⟩ => ⟨i, e, h0, by omega, by rw [rngD_length]; omega⟩)) (fun ds k ρ => ∃ (ps : List Pn) (ss : List Sm) (s4 s5 s6 s7 : Sl), Ok ps ss ∧ (∀ t ∈ ps, GoodP t) ∧ ps.length ≤ 1 + k ∧ ss.length ≤ k ∧ ρ = [.raw (.ref z.r), .dat (.int (m : Nat)), .own ap (.lst (ps.map dPn)), .own as (.lst (ss.map dSm)), s4, s5, s6, s7, .no, .no, .no, .no])
    (fun ds hd => ⟨[t0], [], .no, .no, .no, .no, ok_one ht0.1 (nearP_mono ht0.2 (by decide)), fun t ht => by rw [List.mem_singleton.mp ht]; exact ht0, by simp, by simp, rfl⟩) (fun ds k d ρ1 hds hd hI => ?_) fun ds ρ1 hds hI => ?_) fun ρ' hQ => ?_
  · obtain ⟨ps, ss, s4, s5, s6, s7, ok, hg, hpl, hsl, rfl⟩ := hI
    have hk : k < ds.length := (List.getElem?_eq_some_iff.mp hd).1
    have n1 := ok.n1
    refine ⟨_, _, tg_name, ?_⟩
    have hfl := freeL_len ps.length ss
    have n2 := ok.n2
    refine xs_asgP (ev_pick (z := z) (l := (freeL ps.length ss ++ [(0, 0)]).map dSd) (ev_varR rfl) ((ef_catL (ds := (freeL ps.length ss).map dSd) (es := [dSd (0, 0)]) (el_of (free rfl rfl ok)) (el_of (ev_lst (ds := [dSd (0, 0)]) (ea_cons (ev_tup2 ev_int ev_int) ea_nil) (by simp))) (by simp; omega)).evE.cast (by rw [List.map_append]; rfl)) (by simp) (by simp; omega)) ?_
    rintro _ ⟨d', rfl, hd'⟩
    obtain ⟨x, hx, rfl⟩ := List.mem_map.mp hd'
    have hx2 : x.1 < ps.length ∧ x.2 < 3 := by
      rcases List.mem_append.mp hx with q | q
      · exact ⟨(mem_free.mp q).1, (mem_free.mp q).2.1⟩
      · rw [List.mem_singleton.mp q]
        exact ⟨n1, by decide⟩
    refine xs_asgP (drawn rfl) ?_
    rintro _ ⟨_, rfl, t, rfl, ht⟩
    have htn : nearP 100 t := nearP_mono ht.2 (by decide)
    refine xs_asg (s := .dat (.list (dNs ((List.range 3).filter fun k => decide (lng t k = lng (ps.getD x.1 default) x.2))))) ((ef_filterL (l := List.range 3) (dα := fun (x : Nat) => PyData.int (x : Int)) (c := fun k => decide (lng t k = lng (ps.getD x.1 default) x.2)) (f := fun (x : Nat) => PyData.int (x : Int)) (by
      rw [show (List.range 3).map (fun (x : Nat) => PyData.int (x : Int)) = rngD 0 3 from (rng_nat 3).symm]
      exact im_rng1E (n := 3) ev_int (by omega)) (by simp) fun k hk3 => ⟨[11], _, by simp, tg_name, et_test (ev_eqI (ev_callE (t, k) (ea_cons (ev_var rfl) (ea_cons (ev_var rfl) ea_nil)) ⟨htn, List.mem_range.mp hk3⟩) (long (j := 5) rfl rfl ok hx2.1 hx2.2)), fun _ => ev_var rfl⟩).evE) ?_
    generalize hsame : (List.range 3).filter (fun k => decide (lng t k = lng (ps.getD x.1 default) x.2)) = same
    have hsm : ∀ k ∈ same, k < 3 ∧ lng t k = lng (ps.getD x.1 default) x.2 := fun k hk => by
      rw [← hsame, List.mem_filter] at hk
      exact ⟨List.mem_range.mp hk.1, of_decide_eq_true hk.2⟩
    have hsl3 : same.length ≤ 3 := by
      rw [← hsame]
      exact Nat.le_trans (List.length_filter_le _ _) (by simp)
    refine xc_if (b := !decide (dNs same = []) && (freeL ps.length ss).contains x) (et_and (et_is (et_test (ev_neD (d := .list (dNs same)) (d' := .list []) (ev_var rfl) ev_lst0 (by
      have := shaped_ints (zs same)
      rw [zs_dNs] at this
      exact this) rfl)) (by rw [eqv_nilL])) fun _ => et_test (ev_inL (d := dSd x) (ev_var rfl) (el_of (free rfl rfl ok)) (shaped_sd _) (canLay_sds _) |>.cast (by rw [inD_sd]))) (fun hb => ?_) fun _ => ?_
    · rw [Bool.and_eq_true] at hb
      have hne : same ≠ [] := fun e => by
        rw [e] at hb
        exact absurd hb.1 (by simp [dNs])
      have hxf : x ∈ freeL ps.length ss := by simpa using hb.2
      refine xs_append (p := Eq (dPn t)) rfl ((ev_var (d := dPn t) rfl).imp fun s e => ⟨_, e.symm, rfl⟩) (by rw [List.length_map]; omega) fun d e => ?_
      subst e
      have hls : ss.length ≤ 18 := ok.m
      refine xc_append (p := fun d => ∃ k ∈ same, d = dSm (x, (ps.length, k))) rfl ((ev_catAP (ds := [.int (x.1 : Nat), .int (x.2 : Nat)]) (p := fun es => ∃ k ∈ same, es = [.int (ps.length : Nat), .int (k : Nat)]) (ev_var rfl) ((ev_tup2P (p := fun d => d = .int (ps.length : Nat)) (q := fun d => d ∈ dNs same) (((ev_I0 (ev_lenL (ds := ps.map dPn ++ [dPn t]) (el_own rfl)) ev_int).cast (by rw [List.length_append, List.length_map, List.length_singleton]; show Sl.dat (.int _) = .dat (.int _); congr 2; omega)).toP rfl) (ev_pick (z := z) (l := dNs same) (ev_varR rfl) (ev_var rfl) (by simp [dNs, hne]) (by unfold dNs; rw [List.length_map]; omega))).imp fun s ⟨ds, e, y1, y2, e2, hy1, hy2⟩ => ⟨ds, e, by
        unfold dNs at hy2
        obtain ⟨k, hk, rfl⟩ := List.mem_map.mp hy2
        exact ⟨k, hk, by rw [e2, hy1]⟩⟩) fun es ⟨k, _, e⟩ => by rw [e]; simp).imp fun s ⟨es, e, k, hk, e2⟩ => ⟨_, e, k, hk, by rw [e2]; rfl⟩) (by rw [List.length_map]; omega) fun d ⟨k, hk, e⟩ => ?_
      subst e
      obtain ⟨k3, hll⟩ := hsm k hk
      refine ⟨ps ++ [t], ss ++ [(x, (ps.length, k))], .dat d, .dat (dSd x), .dat (dPn t), .dat (.list (dNs same)), ok_grow ok ht.1 htn hxf k3 hll (by omega) (by omega), fun u hu => ?_, by simp; omega, by simp; omega, ?_⟩
      · rcases List.mem_append.mp hu with q | q
        · exact hg u q
        · rw [List.mem_singleton.mp q]
          exact ht
      · rw [List.map_append, List.map_append]
        rfl
    · exact xc_next ⟨ps, ss, _, _, _, _, ok, hg, by omega, by omega, rfl⟩
  · obtain ⟨ps, ss, s4, s5, s6, s7, ok, hg, hpl, hsl, rfl⟩ := hI
    exact ⟨ps, ss, s4, s5, s6, s7, ok, hg, by omega, rfl⟩
  obtain ⟨ps, ss, s4, s5, s6, s7, ok, hg, hpl, rfl⟩ := hQ
  have n1 := ok.n1
  have n2 := ok.n2
  refine xs_cut (Q := fun ρ => ∃ (ss : List Sm) (s4 s8 s9 s10 : Sl), Ok ps ss ∧ ρ = [.raw (.ref z.r), .dat (.int (m : Nat)), .own ap (.lst (ps.map dPn)), .own as (.lst (ss.map dSm)), s4, s5, s6, s7, s8, s9, s10, .no]) (xc_for (p := fun ds => ds.length < 1000) (im_rng1 ((tkI rfl ((ev_IC (ev_int) (ev_var rfl) (.inl ⟨by omega, by omega⟩)).toI (p := fun i => i = 2 * (m : Int)) rfl) fun m e => by omega).imp fun s ⟨i, e, h0, m', hm, hi⟩ => ⟨i, e, h0, by omega, by rw [rngD_length]; omega⟩)) (fun ds k ρ => ∃ (ss : List Sm) (s4 s8 s9 s10 : Sl), Ok ps ss ∧ ρ = [.raw (.ref z.r), .dat (.int (m : Nat)), .own ap (.lst (ps.map dPn)), .own as (.lst (ss.map dSm)), s4, s5, s6, s7, s8, s9, s10, .no])
    (fun ds hd => ⟨ss, s4, .no, .no, .no, ok, rfl⟩) (fun ds k d ρ1 hds hd hI => ?_) fun ds ρ1 hds hI => hI) fun ρ' hQ => ?_
  · obtain ⟨ss, s4, s8, s9, s10, ok, rfl⟩ := hI
    have hfl := freeL_len ps.length ss
    refine ⟨_, _, tg_name, ?_⟩
    refine xs_asg (free rfl rfl ok) ?_
    refine xc_if (b := !decide ((freeL ps.length ss).map dSd = []) && decide (ss.length < 18)) (et_and (et_is (et_test (ev_neD (d := .list ((freeL ps.length ss).map dSd)) (d' := .list []) (ev_var rfl) ev_lst0 (shaped_sc (t := .l 1000 kSd) (okS_lm (by omega) fun x _ => sc_sd x)) rfl)) (by rw [eqv_nilL])) fun _ => et_is (et_test (ev_C0 (ev_lenL (ds := ss.map dSm) (el_own rfl)) ev_int)) (by rw [List.length_map]; apply decide_eq_decide.mpr; omega)) (fun hb => ?_) fun _ => xc_next ⟨ss, _, _, _, _, ok, rfl⟩
    rw [Bool.and_eq_true] at hb
    have hne : freeL ps.length ss ≠ [] := fun e => by
      rw [e] at hb
      exact absurd hb.1 (by simp)
    have h18 : ss.length < 18 := of_decide_eq_true hb.2
    have pick : ∀ {ρ : Rho}, ρ[0]? = some (.raw (.ref z.r)) → ρ[8]? = some (.dat (.list ((freeL ps.length ss).map dSd))) → Ev ⟨K, rowFx K z, G, H, E⟩ _ ρ (fun s => ∃ d, s = .dat d ∧ d ∈ (freeL ps.length ss).map dSd) := fun h0 h8 => ev_pick (z := z) (E' := E0) (ti := tVar 0) (te := tVar 8) (l := (freeL ps.length ss).map dSd) (ev_varR h0) (ev_var h8) (by simp [hne]) (by rw [List.length_map]; omega)
    refine xs_asgTP (ev_sortP (p := fun ds => ∃ u v, u ∈ freeL ps.length ss ∧ v ∈ freeL ps.length ss ∧ ds = [u, v].map dSd) ((ev_lst2P (pick rfl rfl) (pick rfl rfl)).imp fun s ⟨ds, e, x, y, e2, hx, hy⟩ => by
      obtain ⟨u, hu, rfl⟩ := List.mem_map.mp hx
      obtain ⟨v, hv, rfl⟩ := List.mem_map.mp hy
      exact ⟨ds, e, u, v, hu, hv, e2⟩) fun ds ⟨u, v, _, _, e⟩ => by rw [e]; exact sortOk_sds [u, v] (by simp)) ?_
    rintro _ ⟨_, rfl, u, v, hu, hv, rfl⟩
    obtain ⟨a, b, es, ha, hb', hlt⟩ := srt2 hu hv
    rw [show srtD ([u, v].map dSd) = [dSd a, dSd b] from es]
    obtain ⟨a1, a2, a3⟩ := mem_free.mp ha
    obtain ⟨b1, b2, b3⟩ := mem_free.mp hb'
    refine ⟨_, _, tg_two', ?_⟩
    refine xc_if (b := !decide (a = b) && decide (lng (ps.getD a.1 default) a.2 = lng (ps.getD b.1 default) b.2)) (et_and (et_is (et_test (ev_neSc (d := dSd a) (e := dSd b) kSd (ev_var rfl) (ev_var rfl) (sc_sd _) (sc_sd _))) (by congr 1; exact decide_eq_decide.mpr dSd_inj)) fun _ => et_test (ev_eqI (long (j := 9) rfl rfl ok a1 a2) (long (j := 10) rfl rfl ok b1 b2))) (fun hc => ?_) fun _ => xc_next ⟨ss, _, _, _, _, ok, rfl⟩
    rw [Bool.and_eq_true] at hc
    have hab : a ≠ b := of_decide_eq_false ((Bool.not_eq_true' _).mp hc.1)
    have hll := of_decide_eq_true hc.2
    refine xc_append (p := fun d => d = dSm (a, b)) rfl (((ev_catA (ds := [.int (a.1 : Nat), .int (a.2 : Nat)]) (es := [.int (b.1 : Nat), .int (b.2 : Nat)]) (ev_var rfl) (ev_var rfl) (by simp)).toP (p := fun d => d = dSm (a, b)) rfl)) (by rw [List.length_map]; omega) fun d e => ?_
    subst e
    refine ⟨ss ++ [(a, b)], .dat d, .dat (.list ((freeL ps.length ss).map dSd)), .dat (dSd a), .dat (dSd b), ok_close ok ha hb' ?_ hll h18, by rw [List.map_append]; rfl⟩
    rcases hlt with q | ⟨q1, q2⟩
    · exact .inl q
    · refine .inr ⟨q1, ?_⟩
      rcases Nat.lt_or_eq_of_le q2 with q | q
      · exact q
      · exact absurd (Prod.ext q1 q) hab
  obtain ⟨ss, s4, s8, s9, s10, ok, rfl⟩ := hQ
  refine xs_freeze (i := 2) (a := ap) (ds := ps.map dPn) rfl ?_
  refine xs_freeze (i := 3) (a := as) (ds := ss.map dSm) rfl ?_
  exact xc_ret (ev_tup2 (ev_var rfl) (ev_var rfl)) ⟨ps, ss, ok, hg, hpl, rfl⟩

end
end K27

set_option linter.all false
/-! K27m: orders of sewing in plain words. -/
namespace K27
open SM
abbrev Ed := Nat × Nat
def stepG (g : List Nat) (e : Ed) : List Nat := g.map fun x => if x = g.getD e.1 0 then g.getD e.2 0 else x
def gr (n : Nat) (l : List Ed) : List Nat := l.foldl stepG (List.range n)
def jb (n : Nat) (l : List Ed) (e : Ed) : Bool := decide ((gr n l).getD e.1 0 ≠ (gr n l).getD e.2 0)
def jn (n : Nat) : List Ed → List Ed → List Bool
  | _, [] => []
  | d, e :: r => jb n d e :: jn n (d ++ [e]) r
theorem gr_snoc (n : Nat) (l : List Ed) (e : Ed) : gr n (l ++ [e]) = stepG (gr n l) e := by
  unfold gr
  rw [List.foldl_append]
  rfl
theorem gr_len (n : Nat) : ∀ l : List Ed, (gr n l).length = n := by
  have h : ∀ (l : List Ed) (g : List Nat), (l.foldl stepG g).length = g.length := by
    intro l
    induction l with
    | nil => intro g; rfl
    | cons e l ih =>
      intro g
      rw [List.foldl_cons, ih]
      unfold stepG
      rw [List.length_map]
  intro l
  unfold gr
  rw [h, List.length_range]
theorem jn_len (n : Nat) : ∀ (r d : List Ed), (jn n d r).length = r.length
  | [], _ => rfl
  | e :: r, d => by simp [jn, jn_len n r]
theorem jn_app (n : Nat) : ∀ (r d t : List Ed), jn n d (r ++ t) = jn n d r ++ jn n (d ++ r) t
  | [], d, t => by simp [jn]
  | e :: r, d, t => by
    rw [List.cons_append, jn, jn, jn_app n r]
    simp
theorem jn_snoc (n : Nat) (r d : List Ed) (e : Ed) : jn n d (r ++ [e]) = jn n d r ++ [jb n (d ++ r) e] := jn_app n r d [e]
/-- hanging together -/
inductive Cn (E : List Ed) (a : Nat) : Nat → Prop
  | refl : Cn E a a
  | step {b c : Nat} : Cn E a b → ((b, c) ∈ E ∨ (c, b) ∈ E) → Cn E a c
section
variable {E : List Ed} {a b c : Nat}
theorem Cn.trans (h : Cn E a b) (q : Cn E b c) : Cn E a c := by
  induction q with
  | refl => exact h
  | step _ e ih => exact .step ih e
theorem Cn.one (h : (a, b) ∈ E) : Cn E a b := .step .refl (.inl h)
theorem Cn.symm (h : Cn E a b) : Cn E b a := by
  induction h with
  | refl => exact .refl
  | step _ e ih => exact (Cn.step .refl e.symm).trans ih
theorem Cn.mono {F : List Ed} (s : ∀ e ∈ E, e ∈ F) (h : Cn E a b) : Cn F a b := by
  induction h with
  | refl => exact .refl
  | step _ e ih => exact .step ih (e.imp (s _) (s _))
end
theorem cn_snoc {E : List Ed} {u v i j : Nat} : Cn (E ++ [(u, v)]) i j ↔ Cn E i j ∨ (Cn E i u ∧ Cn E v j) ∨ (Cn E i v ∧ Cn E u j) := by
  constructor
  · intro h
    induction h with
    | refl => exact .inl .refl
    | step _ e ih =>
      rename_i b c _
      have key : ((b, c) ∈ E ∨ (c, b) ∈ E) ∨ (b = u ∧ c = v) ∨ (b = v ∧ c = u) := by
        simp only [List.mem_append, List.mem_singleton, Prod.mk.injEq] at e
        rcases e with (e | ⟨e1, e2⟩) | (e | ⟨e1, e2⟩)
        · exact .inl (.inl e)
        · exact .inr (.inl ⟨e1, e2⟩)
        · exact .inl (.inr e)
        · exact .inr (.inr ⟨e2, e1⟩)
      rcases key with e | ⟨rfl, rfl⟩ | ⟨rfl, rfl⟩
      · rcases ih with h | ⟨h1, h2⟩ | ⟨h1, h2⟩
        · exact .inl (.step h e)
        · exact .inr (.inl ⟨h1, .step h2 e⟩)
        · exact .inr (.inr ⟨h1, .step h2 e⟩)
      · rcases ih with h | ⟨h1, h2⟩ | ⟨h1, h2⟩
        · exact .inr (.inl ⟨h, .refl⟩)
        · exact .inr (.inl ⟨h1, .refl⟩)
        · exact .inl h1
      · rcases ih with h | ⟨h1, h2⟩ | ⟨h1, h2⟩
        · exact .inr (.inr ⟨h, .refl⟩)
        · exact .inl h1
        · exact .inr (.inr ⟨h1, .refl⟩)
  · have s : ∀ e ∈ E, e ∈ E ++ [(u, v)] := fun e h => List.mem_append_left _ h
    have uv : Cn (E ++ [(u, v)]) u v := .one (by simp)
    rintro (h | ⟨h1, h2⟩ | ⟨h1, h2⟩)
    · exact h.mono s
    · exact ((h1.mono s).trans uv).trans (h2.mono s)
    · exact ((h1.mono s).trans uv.symm).trans (h2.mono s)
def Rep (n : Nat) (l : List Ed) : Prop := ∀ i j, i < n → j < n → ((gr n l).getD i 0 = (gr n l).getD j 0 ↔ Cn l i j)
theorem getD_map' {f : Nat → Nat} {l : List Nat} {i : Nat} (h : i < l.length) : (l.map f).getD i 0 = f (l.getD i 0) := by
  simp [List.getD, h]
theorem rep_snoc {n : Nat} {l : List Ed} {e : Ed} (h1 : e.1 < n) (h2 : e.2 < n) (h : Rep n l) : Rep n (l ++ [e]) := by
  intro i j hi hj
  obtain ⟨u, v⟩ := e
  have hl := gr_len n l
  rw [gr_snoc, cn_snoc]
  unfold stepG
  rw [getD_map' (by omega), getD_map' (by omega), ← h i j hi hj, ← h i u hi h1, ← h v j h2 hj, ← h i v hi h2, ← h u j h1 hj]
  simp only
  generalize (gr n l).getD i 0 = x
  generalize (gr n l).getD j 0 = y
  generalize (gr n l).getD u 0 = p
  generalize (gr n l).getD v 0 = q
  by_cases e1 : x = p
  · by_cases e2 : y = p
    · simp [e1, e2]
    · rw [if_pos e1, if_neg e2]
      constructor
      · intro z
        exact .inr (.inl ⟨e1, z⟩)
      · rintro (z | ⟨_, z⟩ | ⟨z1, z2⟩)
        · exact absurd (z.symm.trans e1) e2
        · exact z
        · exact absurd z2.symm e2
  · by_cases e2 : y = p
    · rw [if_neg e1, if_pos e2]
      constructor
      · intro z
        exact .inr (.inr ⟨z, e2.symm⟩)
      · rintro (z | ⟨z, _⟩ | ⟨z, _⟩)
        · exact absurd (z.trans e2) e1
        · exact absurd z e1
        · exact z
    · rw [if_neg e1, if_neg e2]
      constructor
      · exact .inl
      · rintro (z | ⟨z, _⟩ | ⟨_, z⟩)
        · exact z
        · exact absurd z e1
        · exact absurd z.symm e2
theorem cn_nil {i j : Nat} : Cn [] i j ↔ i = j := by
  constructor
  · intro h
    cases h with
    | refl => rfl
    | step _ e => simp at e
  · rintro rfl
    exact .refl
theorem rep_nil (n : Nat) : Rep n [] := fun i j hi hj => by
  rw [cn_nil]
  simp [gr, List.getD, hi, hj]
def In (n : Nat) (l : List Ed) : Prop := ∀ e ∈ l, e.1 < n ∧ e.2 < n
theorem rep_app {n : Nat} : ∀ (r d : List Ed), In n r → Rep n d → Rep n (d ++ r)
  | [], d, _, h => by simpa using h
  | e :: r, d, hi, h => by
    have := rep_app r (d ++ [e]) (fun x hx => hi x (List.mem_cons_of_mem _ hx)) (rep_snoc (hi e List.mem_cons_self).1 (hi e List.mem_cons_self).2 h)
    simpa using this
theorem rep {n : Nat} {l : List Ed} (h : In n l) : Rep n l := by
  have := rep_app l [] h (rep_nil n)
  simpa using this
theorem jb_iff {n : Nat} {l : List Ed} {e : Ed} (h : In n l) (h1 : e.1 < n) (h2 : e.2 < n) : jb n l e = true ↔ ¬ Cn l e.1 e.2 := by
  unfold jb
  rw [decide_eq_true_eq, Ne, rep h e.1 e.2 h1 h2]
/-! how many join -/
def cnt (n : Nat) (g : List Nat) : Nat := ((List.range n).filter fun v => decide (v ∈ g)).length
theorem gr_lt {n : Nat} : ∀ (r d : List Ed), In n r → (∀ x ∈ gr n d, x < n) → ∀ x ∈ gr n (d ++ r), x < n
  | [], d, _, h => by simpa using h
  | e :: r, d, hi, h => by
    have := gr_lt r (d ++ [e]) (fun x hx => hi x (List.mem_cons_of_mem _ hx)) fun x hx => by
      rw [gr_snoc] at hx
      obtain ⟨y, hy, rfl⟩ := List.mem_map.mp hx
      split
      · have hl := gr_len n d
        have := (hi e List.mem_cons_self).2
        rw [show (gr n d).getD e.2 0 = (gr n d)[e.2] by simp [List.getD, hl, this]]
        exact h _ (List.getElem_mem _)
      · exact h y hy
    simpa using this
theorem filter_one {p q : Nat → Bool} {o : Nat} : ∀ {l : List Nat}, l.Nodup → o ∈ l → p o = true → q o = false → (∀ x, x ≠ o → q x = p x) → (l.filter p).length = (l.filter q).length + 1
  | x :: l, nd, ho, hp, hq, h => by
    have nd' := List.nodup_cons.mp nd
    rcases List.mem_cons.mp ho with e | ho
    · subst e
      rw [List.filter_cons_of_pos hp, List.filter_cons_of_neg (by rw [hq]; simp)]
      have : l.filter p = l.filter q := List.filter_congr fun y hy => (h y fun e => nd'.1 (e ▸ hy)).symm
      rw [this]
      rfl
    · have hx : x ≠ o := fun e => nd'.1 (e ▸ ho)
      have ih := filter_one nd'.2 ho hp hq h
      rw [List.filter_cons, List.filter_cons, h x hx]
      split <;> simp [ih]
theorem cnt_step {n : Nat} {l : List Ed} {e : Ed} (hl : In n l) (h1 : e.1 < n) (h2 : e.2 < n) : cnt n (gr n l) = cnt n (gr n (l ++ [e])) + (if jb n l e = true then 1 else 0) := by
  have hle := gr_len n l
  have m1 : (gr n l).getD e.1 0 ∈ gr n l := by
    rw [show (gr n l).getD e.1 0 = (gr n l)[e.1] by simp [List.getD, hle, h1]]
    exact List.getElem_mem _
  have m2 : (gr n l).getD e.2 0 ∈ gr n l := by
    rw [show (gr n l).getD e.2 0 = (gr n l)[e.2] by simp [List.getD, hle, h2]]
    exact List.getElem_mem _
  have lt : ∀ x ∈ gr n l, x < n := by
    have := gr_lt l [] hl (fun x hx => by simpa [gr] using hx)
    simpa using this
  rw [gr_snoc]
  unfold jb stepG cnt
  generalize gr n l = g at *
  by_cases q : g.getD e.1 0 = g.getD e.2 0
  · rw [q, if_neg (by simp)]
    have : g.map (fun x => if x = g.getD e.2 0 then g.getD e.2 0 else x) = g := by
      refine (List.map_congr_left fun x _ => ?_).trans (List.map_id g)
      split
      · rename_i h
        exact h.symm
      · rfl
    rw [this]
    rfl
  · rw [if_pos (by simpa using q)]
    refine filter_one List.nodup_range (o := g.getD e.1 0) (List.mem_range.mpr (lt _ m1)) (by simpa using m1) ?_ fun x hx => ?_
    · rw [decide_eq_false_iff_not]
      intro z
      obtain ⟨y, _, hy⟩ := List.mem_map.mp z
      split at hy
      · exact q hy.symm
      · rename_i h
        exact h hy
    · apply decide_eq_decide.mpr
      constructor
      · intro z
        obtain ⟨y, hy, e⟩ := List.mem_map.mp z
        split at e
        · rw [← e]
          exact m2
        · rw [← e]
          exact hy
      · intro z
        exact List.mem_map.mpr ⟨x, z, if_neg hx⟩
theorem cnt_jn {n : Nat} : ∀ (r d : List Ed), In n r → In n d → (jn n d r).count true + cnt n (gr n (d ++ r)) = cnt n (gr n d)
  | [], d, _, _ => by simp [jn]
  | e :: r, d, hr, hd => by
    have he := hr e List.mem_cons_self
    have ih := cnt_jn r (d ++ [e]) (fun x hx => hr x (List.mem_cons_of_mem _ hx)) fun x hx => by
      rcases List.mem_append.mp hx with h | h
      · exact hd x h
      · rw [List.mem_singleton.mp h]
        exact he
    have st := cnt_step hd he.1 he.2
    rw [List.append_assoc, List.singleton_append] at ih
    rw [jn, List.count_cons, st, ← ih]
    cases jb n d e <;> simp
    omega
theorem cnt_one {n : Nat} {l : List Ed} (h1 : 1 ≤ n) (hl : In n l) (hc : ∀ i, i < n → Cn l 0 i) : cnt n (gr n l) = 1 := by
  have hle := gr_len n l
  have lt : ∀ x ∈ gr n l, x < n := by
    have := gr_lt l [] hl (fun x hx => by simpa [gr] using hx)
    simpa using this
  have al : ∀ x ∈ gr n l, x = (gr n l).getD 0 0 := fun x hx => by
    obtain ⟨i, hi, rfl⟩ := List.getElem_of_mem hx
    have := (rep hl 0 i (by omega) (by omega)).mpr (hc i (by omega))
    rw [this]
    simp [List.getD, hi]
  have m0 : (gr n l).getD 0 0 ∈ gr n l := by
    have h0 : 0 < (gr n l).length := by omega
    rw [show (gr n l).getD 0 0 = (gr n l)[0] by simp [List.getD, List.getElem?_eq_getElem h0]]
    exact List.getElem_mem _
  unfold cnt
  have := filter_one (p := fun v => decide (v ∈ gr n l)) (q := fun _ => false) (o := (gr n l).getD 0 0) List.nodup_range (List.mem_range.mpr (lt _ m0)) (by simpa using m0) rfl fun x hx => by
    symm
    rw [decide_eq_false_iff_not]
    exact fun z => hx (al x z)
  rw [this]
  simp
theorem cnt_zero (n : Nat) : cnt n (gr n []) = n := by
  unfold cnt gr
  rw [List.filter_eq_self.mpr fun x hx => by simpa using hx]
  simp
theorem joins_count {n : Nat} {l : List Ed} (h1 : 1 ≤ n) (hl : In n l) (hc : ∀ i, i < n → Cn l 0 i) : (jn n [] l).count true = n - 1 := by
  have := cnt_jn l [] hl fun x hx => by cases hx
  rw [List.nil_append, cnt_one h1 hl hc, cnt_zero] at this
  omega
/-! orders -/
def edg (E : List Ed) (o : List Nat) : List Ed := o.map fun i => E.getD i (0, 0)
def J (n : Nat) (E : List Ed) (i : Nat) : Bool := (jn n [] E).getD i false
def tI (n : Nat) (E : List Ed) (m : Nat) : List Nat := (List.range m).filter fun i => J n E i
def nI (n : Nat) (E : List Ed) (m : Nat) : List Nat := (List.range m).filter fun i => !J n E i
def easy (n : Nat) (E : List Ed) : List Nat := tI n E E.length ++ nI n E E.length
theorem J_at {n : Nat} {E : List Ed} {i : Nat} (h : i < E.length) : J n E i = jb n (E.take i) (E.getD i (0, 0)) := by
  have e : E = E.take i ++ E.getD i (0, 0) :: E.drop (i + 1) := by
    rw [show E.getD i (0, 0) = E[i] by simp [List.getD, h], ← List.drop_eq_getElem_cons h, List.take_append_drop]
  unfold J
  conv => lhs; rw [e]
  rw [jn_app, List.getD, List.getElem?_append_right (by rw [jn_len, List.length_take]; omega), jn_len, List.length_take, Nat.min_eq_left (by omega), Nat.sub_self, jn]
  simp
theorem in_take {n i : Nat} {E : List Ed} (h : In n E) : In n (E.take i) := fun e he => h e (List.mem_of_mem_take he)
theorem in_edg {n : Nat} {E : List Ed} {o : List Nat} (h : In n E) (ho : ∀ i ∈ o, i < E.length) : In n (edg E o) := fun e he => by
  obtain ⟨i, hi, rfl⟩ := List.mem_map.mp he
  have := ho i hi
  rw [show E.getD i (0, 0) = E[i] by simp [List.getD, this]]
  exact h _ (List.getElem_mem _)
theorem getD_in {n i : Nat} {E : List Ed} (h : In n E) (hi : i < E.length) : (E.getD i (0, 0)).1 < n ∧ (E.getD i (0, 0)).2 < n := by
  rw [show E.getD i (0, 0) = E[i] by simp [List.getD, hi]]
  exact h _ (List.getElem_mem _)
theorem take_snoc {E : List Ed} {i : Nat} (hi : i < E.length) : E.take (i + 1) = E.take i ++ [E.getD i (0, 0)] := by
  rw [List.take_add_one, List.getD]
  simp [hi]
/-- the joining ones all join, and hang the same together -/
theorem tree {n : Nat} {E : List Ed} (hE : In n E) : ∀ i, i ≤ E.length → jn n [] (edg E (tI n E i)) = List.replicate (tI n E i).length true ∧ ∀ a b, Cn (E.take i) a b ↔ Cn (edg E (tI n E i)) a b
  | 0, _ => ⟨rfl, fun a b => by simp [tI, edg]⟩
  | i + 1, h => by
    obtain ⟨h1, h2⟩ := tree hE i (by omega)
    have hi : i < E.length := by omega
    obtain ⟨g1, g2⟩ := getD_in hE hi
    have inT : In n (edg E (tI n E i)) := in_edg hE fun j hj => by
      have := List.mem_range.mp (List.mem_filter.mp hj).1
      omega
    have et : tI n E (i + 1) = tI n E i ++ if J n E i = true then [i] else [] := by
      unfold tI
      rw [List.range_succ, List.filter_append]
      simp [List.filter_cons]
    rw [et, take_snoc hi]
    by_cases q : J n E i = true
    · rw [if_pos q]
      have e2 : edg E (tI n E i ++ [i]) = edg E (tI n E i) ++ [E.getD i (0, 0)] := by
        unfold edg
        rw [List.map_append]
        rfl
      rw [e2, jn_snoc, List.nil_append, h1, List.length_append, List.length_singleton, List.replicate_succ']
      have : jb n (edg E (tI n E i)) (E.getD i (0, 0)) = true := by
        rw [jb_iff inT g1 g2, ← h2]
        rw [J_at hi, jb_iff (in_take hE) g1 g2] at q
        exact q
      refine ⟨by rw [this], fun a b => ?_⟩
      generalize E.getD i (0, 0) = e
      obtain ⟨u, v⟩ := e
      rw [cn_snoc, cn_snoc, h2, h2, h2, h2, h2]
    · rw [if_neg q, List.append_nil]
      refine ⟨h1, fun a b => ?_⟩
      have hc : Cn (E.take i) (E.getD i (0, 0)).1 (E.getD i (0, 0)).2 := by
        rw [J_at hi, jb_iff (in_take hE) g1 g2] at q
        exact Classical.not_not.mp q
      rw [← h2]
      generalize E.getD i (0, 0) = e at hc
      obtain ⟨u, v⟩ := e
      rw [cn_snoc]
      constructor
      · rintro (z | ⟨z1, z2⟩ | ⟨z1, z2⟩)
        · exact z
        · exact (z1.trans hc).trans z2
        · exact (z1.trans hc.symm).trans z2
      · exact .inl
theorem jn_false {n : Nat} : ∀ (r d : List Ed), In n r → In n d → (∀ e ∈ r, Cn d e.1 e.2) → jn n d r = List.replicate r.length false
  | [], _, _, _, _ => rfl
  | e :: r, d, hr, hd, h => by
    have he := hr e List.mem_cons_self
    have ih := jn_false r (d ++ [e]) (fun x hx => hr x (List.mem_cons_of_mem _ hx)) (fun x hx => by
      rcases List.mem_append.mp hx with q | q
      · exact hd x q
      · rw [List.mem_singleton.mp q]
        exact he) fun x hx => (h x (List.mem_cons_of_mem _ hx)).mono fun y hy => List.mem_append_left _ hy
    rw [jn, ih, List.length_cons, List.replicate_succ]
    congr 1
    rw [Bool.eq_false_iff]
    intro z
    exact (jb_iff hd he.1 he.2).mp z (h e List.mem_cons_self)
theorem easy_joins {n : Nat} {E : List Ed} (hE : In n E) : jn n [] (edg E (easy n E)) = List.replicate (tI n E E.length).length true ++ List.replicate (nI n E E.length).length false := by
  obtain ⟨h1, h2⟩ := tree hE E.length (Nat.le_refl _)
  rw [List.take_length] at h2
  have il : ∀ (f : Nat → Bool), ∀ i ∈ (List.range E.length).filter f, i < E.length := fun f i hi => List.mem_range.mp (List.mem_filter.mp hi).1
  unfold easy
  have : edg E (tI n E E.length ++ nI n E E.length) = edg E (tI n E E.length) ++ edg E (nI n E E.length) := by
    unfold edg
    rw [List.map_append]
  rw [this, jn_app, h1, List.nil_append, jn_false (edg E (nI n E E.length)) (edg E (tI n E E.length)) (in_edg hE (il _)) (in_edg hE (il _)) fun e he => ?_]
  · unfold edg
    rw [List.length_map]
  · obtain ⟨i, hi, rfl⟩ := List.mem_map.mp he
    have hi := il _ i hi
    rw [← h2]
    refine .one ?_
    rw [show E.getD i (0, 0) = E[i] by simp [List.getD, hi]]
    exact List.getElem_mem _
theorem filter_split {f : Nat → Bool} {m : Nat} {p r : List Nat} {x : Nat} (h : (List.range m).filter f = p ++ x :: r) : p = (List.range x).filter f ∧ f x = true ∧ x < m := by
  have hx : x ∈ (List.range m).filter f := by rw [h]; simp
  have hm := List.mem_range.mp (List.mem_filter.mp hx).1
  refine ⟨?_, (List.mem_filter.mp hx).2, hm⟩
  have pw : ((List.range m).filter f).Pairwise (· < ·) := List.Pairwise.filter _ List.pairwise_lt_range
  rw [h, List.pairwise_append, List.pairwise_cons] at pw
  obtain ⟨_, ⟨q2, _⟩, q3⟩ := pw
  have e1 : ((List.range m).filter f).filter (fun y => decide (y < x)) = p := by
    rw [h, List.filter_append, List.filter_cons_of_neg (by simp), List.filter_eq_self.mpr fun y hy => by simpa using q3 y hy x (by simp), List.filter_eq_nil_iff.mpr fun y hy => by
      have := q2 y hy
      simp
      omega, List.append_nil]
  rw [← e1, List.filter_filter]
  have e2 : ∀ k, (List.range k).filter (fun a => decide (a < x) && f a) = (List.range (min k x)).filter f := by
    intro k
    induction k with
    | zero => simp
    | succ k ih =>
      rw [List.range_succ, List.filter_append, ih]
      by_cases q : k < x
      · rw [Nat.min_eq_left (by omega), Nat.min_eq_left (by omega), List.range_succ, List.filter_append]
        simp [List.filter_cons, q]
      · rw [Nat.min_eq_right (by omega), Nat.min_eq_right (by omega)]
        simp [List.filter_cons, q]
  rw [e2, Nat.min_eq_right (by omega)]
theorem lex_of : ∀ (a o : List Nat), a.length = o.length → (∀ p x r1 y r2, a = p ++ x :: r1 → o = p ++ y :: r2 → x ≤ y) → a = o ∨ a < o
  | [], [], _, _ => .inl rfl
  | [], _ :: _, h, _ => by simp at h
  | _ :: _, [], h, _ => by simp at h
  | x :: a, y :: o, h, hp => by
    have h0 := hp [] x a y o rfl rfl
    rcases Nat.lt_or_eq_of_le h0 with q | q
    · exact .inr (List.Lex.rel q)
    · subst q
      rcases lex_of a o (by simpa using h) fun p u r1 v r2 e1 e2 => hp (x :: p) u r1 v r2 (by rw [e1]; rfl) (by rw [e2]; rfl) with e | e
      · exact .inl (by rw [e])
      · exact .inr (List.Lex.cons e)
theorem easy_perm (n : Nat) (E : List Ed) : (easy n E).Perm (List.range E.length) := List.filter_append_perm _ _
theorem easy_least {n : Nat} {E : List Ed} (hE : In n E) {o : List Nat} (ho : o.Perm (List.range E.length)) {u v : Nat} (hj : jn n [] (edg E o) = List.replicate u true ++ List.replicate v false) (hu : u = (tI n E E.length).length) : easy n E = o ∨ easy n E < o := by
  refine lex_of _ _ ((easy_perm n E).length_eq.trans ho.length_eq.symm) fun p x r1 y r2 e1 e2 => ?_
  have nd : o.Nodup := ho.nodup_iff.mpr List.nodup_range
  have ny : y ∉ p := fun z => by
    rw [e2, List.nodup_append] at nd
    exact nd.2.2 y z y (by simp) rfl
  have lo : ∀ i ∈ o, i < E.length := fun i hi => List.mem_range.mp (ho.mem_iff.mp hi)
  have hy : y < E.length := lo y (by rw [e2]; simp)
  have lp : ∀ i ∈ p, i < E.length := fun i hi => lo i (by rw [e2]; simp [hi])
  refine Nat.le_of_not_lt fun hlt => ?_
  obtain ⟨g1, g2⟩ := getD_in hE hy
  unfold easy at e1
  rcases List.append_eq_append_iff.mp e1 with ⟨s, s1, s2⟩ | ⟨s, s1, s2⟩
  · -- behind the joining ones
    obtain ⟨q1, q2, q3⟩ := filter_split s2
    rw [s1] at ny
    rw [List.mem_append, not_or] at ny
    by_cases q : J n E y = true
    · exact ny.1 (List.mem_filter.mpr ⟨List.mem_range.mpr hy, q⟩)
    · exact ny.2 (by rw [q1]; exact List.mem_filter.mpr ⟨List.mem_range.mpr hlt, by simpa using q⟩)
  · cases s with
    | nil =>
      rw [List.nil_append] at s2
      rw [List.append_nil] at s1
      obtain ⟨q1, q2, q3⟩ := filter_split (p := []) (by rw [List.nil_append]; exact s2.symm)
      by_cases q : J n E y = true
      · exact ny (by rw [← s1]; exact List.mem_filter.mpr ⟨List.mem_range.mpr hy, q⟩)
      · have : y ∈ (List.range x).filter fun i => !J n E i := List.mem_filter.mpr ⟨List.mem_range.mpr hlt, by simpa using q⟩
        rw [← q1] at this
        cases this
    | cons x' s =>
      rw [List.cons_append, List.cons.injEq] at s2
      obtain ⟨rfl, _⟩ := s2
      obtain ⟨q1, q2, q3⟩ := filter_split s1
      have pl : p.length < u := by
        rw [hu, s1, List.length_append, List.length_cons]
        omega
      have hjb : jb n (edg E p) (E.getD y (0, 0)) = true := by
        have ee : edg E o = edg E p ++ E.getD y (0, 0) :: edg E r2 := by
          rw [e2]
          unfold edg
          rw [List.map_append]
          rfl
        have : (jn n [] (edg E o))[p.length]? = some (jb n (edg E p) (E.getD y (0, 0))) := by
          rw [ee, jn_app, List.getElem?_append_right (by rw [jn_len]; unfold edg; rw [List.length_map]; exact Nat.le_refl _), jn_len]
          unfold edg
          rw [List.length_map, Nat.sub_self]
          rfl
        rw [hj, List.getElem?_append_left (by rw [List.length_replicate]; exact pl), List.getElem?_replicate, if_pos pl] at this
        exact (Option.some.inj this).symm
      rw [jb_iff (in_edg hE lp) g1 g2] at hjb
      obtain ⟨_, t2⟩ := tree hE x (by omega)
      have ep : p = tI n E x := q1
      by_cases q : J n E y = true
      · exact ny (by rw [q1]; exact List.mem_filter.mpr ⟨List.mem_range.mpr hlt, q⟩)
      · rw [J_at hy, jb_iff (in_take hE) g1 g2] at q
        have := Classical.not_not.mp q
        refine hjb ?_
        rw [ep, ← t2]
        refine this.mono fun e he => ?_
        have : E.take y = (E.take x).take y := by rw [List.take_take, Nat.min_eq_left (by omega)]
        rw [this] at he
        exact List.mem_of_mem_take he
/-! all orders -/
def ins1 (k : Nat) (one : List Nat) : List (List Nat) := (List.range (one.length + 1)).map fun at' => one.take at' ++ [k] ++ one.drop at'
def ordL : Nat → List (List Nat)
  | 0 => [[]]
  | k + 1 => (ordL k).flatMap (ins1 k)
theorem ord_mem : ∀ {k : Nat} {l : List Nat}, l ∈ ordL k ↔ l.Perm (List.range k)
  | 0, l => by simp [ordL]
  | k + 1, l => by
    rw [ordL, List.mem_flatMap]
    constructor
    · rintro ⟨one, h1, h2⟩
      obtain ⟨i, _, rfl⟩ := List.mem_map.mp h2
      have := ord_mem.mp h1
      rw [List.range_succ, List.append_assoc, List.singleton_append]
      refine List.perm_middle.trans ?_
      rw [List.take_append_drop]
      exact (List.Perm.cons k this).trans (List.perm_append_singleton k _).symm
    · intro h
      have hk : k ∈ l := h.mem_iff.mpr (by simp)
      obtain ⟨s, t, rfl⟩ := List.append_of_mem hk
      refine ⟨s ++ t, ord_mem.mpr ?_, List.mem_map.mpr ⟨s.length, List.mem_range.mpr (by simp; omega), ?_⟩⟩
      · rw [List.range_succ] at h
        exact (List.perm_middle.symm.trans (h.trans (List.perm_append_singleton k _))).cons_inv
      · simp
/-! sorted bools -/
theorem sortedB : ∀ {l : List Bool}, l.Pairwise (fun a b => a = true → b = true) → l = List.replicate (l.count false) false ++ List.replicate (l.count true) true
  | [], _ => rfl
  | false :: l, h => by
    have ih := sortedB (List.pairwise_cons.mp h).2
    simp only [List.count_cons_self, List.count_cons_of_ne (show (false ≠ true) by decide), List.replicate_succ, List.cons_append]
    rw [← ih]
  | true :: l, h => by
    obtain ⟨h1, h2⟩ := List.pairwise_cons.mp h
    have al : ∀ b ∈ l, b = true := fun b hb => h1 b hb rfl
    have e := List.eq_replicate_iff.mpr ⟨rfl, al⟩
    rw [e, List.count_cons_of_ne (show (true ≠ false) by decide), List.count_cons_self, List.count_replicate_self]
    simp [List.count_replicate, List.replicate_succ]
/-! colours -/
def topc (one : List Nat) : Nat := one.foldl (fun a x => max a (x + 1)) 0
def okc (near : List Nat) (p : Nat) (one : List Nat) (c : Nat) : Bool := !(List.range p).any fun o => decide (one.getD o 0 = c) && near.contains o
def nxt (near : List Nat) (many p : Nat) (one : List Nat) : List (List Nat) := ((List.range (min many (topc one + 1))).filter (okc near p one)).map fun c => one ++ [c]
def colL (ss : List Sm) (many : Nat) : Nat → List (List Nat)
  | 0 => [[]]
  | p + 1 => (colL ss many p).flatMap (nxt (beside ss p) many p)
theorem topc_snoc (one : List Nat) (c : Nat) : topc (one ++ [c]) = max (topc one) (c + 1) := by
  unfold topc
  rw [List.foldl_append]
  rfl
theorem topc_ge : ∀ (one : List Nat) (a : Nat), a ≤ one.foldl (fun a x => max a (x + 1)) a ∧ ∀ x ∈ one, x < one.foldl (fun a x => max a (x + 1)) a
  | [], a => ⟨Nat.le_refl _, by simp⟩
  | x :: one, a => by
    obtain ⟨h1, h2⟩ := topc_ge one (max a (x + 1))
    rw [List.foldl_cons]
    refine ⟨by omega, fun y hy => ?_⟩
    rcases List.mem_cons.mp hy with rfl | hy
    · omega
    · exact h2 y hy
theorem col_len {ss : List Sm} {many : Nat} : ∀ {p : Nat} {one : List Nat}, one ∈ colL ss many p → one.length = p ∧ topc one ≤ p
  | 0, one, h => by
    rw [colL, List.mem_singleton] at h
    subst h
    exact ⟨rfl, Nat.le_refl _⟩
  | p + 1, one, h => by
    rw [colL, List.mem_flatMap] at h
    obtain ⟨o, h1, h2⟩ := h
    obtain ⟨c, h3, rfl⟩ := List.mem_map.mp h2
    obtain ⟨q1, q2⟩ := col_len h1
    have := List.mem_range.mp (List.mem_filter.mp h3).1
    rw [topc_snoc, List.length_append, List.length_singleton, q1]
    exact ⟨rfl, by omega⟩
def fac : Nat → Nat
  | 0 => 1
  | n + 1 => (n + 1) * fac n
theorem nxt_len {near : List Nat} {many p : Nat} {one : List Nat} (h : topc one ≤ p) : (nxt near many p one).length ≤ p + 1 := by
  unfold nxt
  rw [List.length_map]
  refine Nat.le_trans (List.length_filter_le _ _) ?_
  rw [List.length_range]
  omega
theorem flat_len {α β : Type} {f : α → List β} {b : Nat} : ∀ {l : List α}, (∀ x ∈ l, (f x).length ≤ b) → (l.flatMap f).length ≤ b * l.length
  | [], _ => by simp
  | x :: l, h => by
    have := flat_len (l := l) fun y hy => h y (List.mem_cons_of_mem _ hy)
    have h0 := h x List.mem_cons_self
    rw [List.flatMap_cons, List.length_append, List.length_cons, Nat.mul_succ]
    omega
theorem col_many {ss : List Sm} {many : Nat} : ∀ p : Nat, (colL ss many p).length ≤ fac p
  | 0 => Nat.le_refl _
  | p + 1 => by
    have ih := col_many (ss := ss) (many := many) p
    rw [colL]
    exact Nat.le_trans (flat_len fun x hx => nxt_len (col_len hx).2) (Nat.mul_le_mul_left _ ih)
theorem ord_len : ∀ k : Nat, (ordL k).length ≤ fac k
  | 0 => Nat.le_refl _
  | k + 1 => by
    have ih := ord_len k
    rw [ordL]
    refine Nat.le_trans (flat_len (b := k + 1) fun x hx => ?_) (Nat.mul_le_mul_left _ ih)
    unfold ins1
    rw [List.length_map, List.length_range, (ord_mem.mp hx).length_eq, List.length_range]
    exact Nat.le_refl _
/-- each its own colour -/
theorem topc_range : ∀ p : Nat, topc (List.range p) = p
  | 0 => rfl
  | p + 1 => by
    rw [List.range_succ, topc_snoc, topc_range p]
    omega
theorem col_own {ss : List Sm} {many : Nat} : ∀ p : Nat, p ≤ many → List.range p ∈ colL ss many p
  | 0, _ => by simp [colL]
  | p + 1, h => by
    rw [colL, List.mem_flatMap]
    refine ⟨List.range p, col_own p (by omega), List.mem_map.mpr ⟨p, List.mem_filter.mpr ⟨List.mem_range.mpr (by rw [topc_range]; omega), ?_⟩, by rw [List.range_succ]⟩⟩
    unfold okc
    rw [Bool.not_eq_true', Bool.eq_false_iff]
    intro z
    obtain ⟨o, ho, hz⟩ := List.any_eq_true.mp z
    have := List.mem_range.mp ho
    simp only [Bool.and_eq_true, decide_eq_true_eq] at hz
    rw [show (List.range p).getD o 0 = o by simp [List.getD, this]] at hz
    omega
/-- the law's own -/
def nearL (pairs : List Ed) (p : Nat) : List Nat := pairs.flatMap fun e => ([e.1, e.2].filter fun x => (decide (p = e.1) || decide (p = e.2)) && decide (x < p))
def okl (near : List Nat) (one : List Nat) (c : Nat) : Bool := !(near.map fun o => one.getD o 0).contains c
def nxtL (near : List Nat) (many : Nat) (one : List Nat) : List (List Nat) := ((List.range many).filter fun c => okl near one c && decide (c ≤ topc one)).map fun c => one ++ [c]
theorem filter_min {f : Nat → Bool} {t : Nat} : ∀ many : Nat, (List.range many).filter (fun c => f c && decide (c ≤ t)) = (List.range (min many (t + 1))).filter f
  | 0 => by simp
  | m + 1 => by
    rw [List.range_succ, List.filter_append, filter_min m]
    by_cases q : m ≤ t
    · rw [Nat.min_eq_left (by omega), Nat.min_eq_left (by omega), List.range_succ, List.filter_append]
      simp [List.filter_cons, q]
    · rw [Nat.min_eq_right (by omega), Nat.min_eq_right (by omega)]
      simp [List.filter_cons, q]
theorem near_iff {ss : List Sm} (nd : ((sewn ss).map Prod.fst).Nodup) (h3 : ∀ s ∈ ss, s.1.2 < 3 ∧ s.2.2 < 3) {p o : Nat} (ho : o < p) : o ∈ nearL (ss.map fun s => (s.1.1, s.2.1)) p ↔ o ∈ beside ss p := by
  unfold nearL
  rw [List.mem_flatMap]
  constructor
  · rintro ⟨e, he, ho2⟩
    obtain ⟨s, hs, rfl⟩ := List.mem_map.mp he
    obtain ⟨h1, h2⟩ := List.mem_filter.mp ho2
    simp only [Bool.and_eq_true, Bool.or_eq_true, decide_eq_true_eq] at h2
    simp only [List.mem_cons, List.not_mem_nil, or_false] at h1
    obtain ⟨t1, t2⟩ := h3 s hs
    rcases h1 with rfl | rfl
    · have hp : p = s.2.1 := by omega
      subst hp
      exact mem_beside nd t2 (sewn_mem.mpr ⟨s, hs, .inr rfl⟩)
    · have hp : p = s.1.1 := by omega
      subst hp
      exact mem_beside nd t1 (sewn_mem.mpr ⟨s, hs, .inl rfl⟩)
  · intro h
    obtain ⟨k, t, hk, hm⟩ := beside_mem h
    obtain ⟨s, hs, e⟩ := sewn_mem.mp hm
    refine ⟨_, List.mem_map.mpr ⟨s, hs, rfl⟩, List.mem_filter.mpr ?_⟩
    simp only [Prod.mk.injEq] at e
    rcases e with ⟨e1, e2⟩ | ⟨e1, e2⟩
    · rw [← e1, ← e2]
      simp [ho]
    · rw [← e1, ← e2]
      simp [ho]
theorem nxt_eq {ss : List Sm} (nd : ((sewn ss).map Prod.fst).Nodup) (h3 : ∀ s ∈ ss, s.1.2 < 3 ∧ s.2.2 < 3) {many p : Nat} (one : List Nat) : nxtL (nearL (ss.map fun s => (s.1.1, s.2.1)) p) many one = nxt (beside ss p) many p one := by
  unfold nxtL nxt
  rw [filter_min]
  congr 1
  refine List.filter_congr fun c _ => ?_
  unfold okl okc
  congr 1
  rw [Bool.eq_iff_iff, List.contains_iff_mem, List.any_eq_true, List.mem_map]
  constructor
  · rintro ⟨o, ho, e⟩
    have hlt : o < p := by
      obtain ⟨e', _, h2⟩ := List.mem_flatMap.mp ho
      have := (List.mem_filter.mp h2).2
      simp only [Bool.and_eq_true, decide_eq_true_eq] at this
      exact this.2
    exact ⟨o, List.mem_range.mpr hlt, by rw [e]; simp [(near_iff nd h3 hlt).mp ho]⟩
  · rintro ⟨o, ho, e⟩
    simp only [Bool.and_eq_true, decide_eq_true_eq, List.contains_iff_mem] at e
    exact ⟨o, (near_iff nd h3 (List.mem_range.mp ho)).mpr e.2, e.1⟩
/-! a sail -/
def prs (ss : List Sm) : List Ed := ss.map fun s => (s.1.1, s.2.1)
theorem in_prs {ps : List Pn} {ss : List Sm} (h : ∀ s ∈ ss, seamOk ps s = true) : In ps.length (prs ss) := fun e he => by
  obtain ⟨s, hs, rfl⟩ := List.mem_map.mp he
  obtain ⟨⟨h1, h2, _⟩, _⟩ := seamOk_iff.mp (h s hs)
  exact ⟨h1, h2⟩
theorem rch_cn {ss : List Sm} {p : Nat} (h : Rch ss 0 p) : Cn (prs ss) 0 p := by
  induction h with
  | start => exact .refl
  | step _ hq ih =>
    obtain ⟨k, t, hk, hm⟩ := beside_mem hq
    obtain ⟨s, hs, e⟩ := sewn_mem.mp hm
    refine .step ih ?_
    simp only [Prod.mk.injEq] at e
    rcases e with ⟨e1, e2⟩ | ⟨e1, e2⟩
    · exact .inl (List.mem_map.mpr ⟨s, hs, by rw [← e1, ← e2]⟩)
    · exact .inr (List.mem_map.mpr ⟨s, hs, by rw [← e1, ← e2]⟩)
theorem edg_perm {E : List Ed} {o : List Nat} (ho : o.Perm (List.range E.length)) : ∀ e ∈ E, e ∈ edg E o := fun e he => by
  obtain ⟨i, hi, rfl⟩ := List.getElem_of_mem he
  exact List.mem_map.mpr ⟨i, ho.mem_iff.mpr (List.mem_range.mpr hi), by simp [List.getD, hi]⟩
theorem sail_joins {ps : List Pn} {ss : List Sm} (h : Ok ps ss) {o : List Nat} (ho : o.Perm (List.range ss.length)) : (jn ps.length [] (edg (prs ss) o)).count true = ps.length - 1 := by
  have el : (prs ss).length = ss.length := by unfold prs; rw [List.length_map]
  rw [← el] at ho
  exact joins_count h.n1 (in_edg (in_prs h.ok) fun i hi => List.mem_range.mp (ho.mem_iff.mp hi)) fun i hi => (rch_cn (h.cn i hi)).mono (edg_perm ho)
end K27

set_option Elab.async false
set_option linter.all false
set_option maxRecDepth 100000
set_option maxHeartbeats 4000000
namespace K27
open PySem PySem.Spec PyProof.Rows L2 Dl LamX StX RZ SM SD
def shT (d : D) : Prop := ∀ ds, d = .tuple ds → ds.length ≤ 1000
/-- an order of m seams -/
def isOrd (m : Nat) (d : D) : Prop := ∃ o : List Nat, d = .tuple (dNs o) ∧ o.Perm (List.range m)
theorem ints_of {lo hi : Int} : ∀ {ds : List D}, 0 ≤ lo → ds.all (isWi lo hi) = true → ∃ o : List Nat, ds = dNs o ∧ ∀ x ∈ o, (x : Int) ≤ hi
  | [], _, _ => ⟨[], rfl, by simp⟩
  | d :: ds, h0, h => by
    rw [List.all_cons, Bool.and_eq_true] at h
    obtain ⟨i, rfl, i1, i2⟩ := isWi_int h.1
    obtain ⟨o, rfl, ho⟩ := ints_of h0 h.2
    refine ⟨i.toNat :: o, ?_, fun x hx => ?_⟩
    · show _ = PyData.int ((i.toNat : Nat) : Int) :: dNs o
      rw [Int.toNat_of_nonneg (by omega)]
    · rcases List.mem_cons.mp hx with rfl | hx
      · omega
      · exact ho x hx
theorem take_snoc' {α : Type} {l : List α} {i : Nat} {x : α} (h : l[i]? = some x) : l.take (i + 1) = l.take i ++ [x] := by
  rw [List.take_add_one, h]
  rfl
theorem edg_snoc (E : List Ed) (o : List Nat) (i : Nat) : edg E (o ++ [i]) = edg E o ++ [E.getD i (0, 0)] := by
  unfold edg
  rw [List.map_append]
  rfl
theorem eqv_i (i j : Nat) : (i : Int) = (j : Int) ↔ i = j := by omega
theorem at_sm {ss : List Sm} {i : Nat} (h : i < ss.length) : atI (ss.map dSm) (i : Int) = some (dSm (ss.getD i default)) := at_nat (by
  rw [List.getElem?_map, List.getElem?_eq_getElem h]
  simp [List.getD, h])
theorem prs_at {ss : List Sm} {i : Nat} (h : i < ss.length) : (prs ss).getD i (0, 0) = ((ss.getD i default).1.1, (ss.getD i default).2.1) := by
  unfold prs
  simp [List.getD, h]
section
variable {P : Program} {w : World} {K : PySem.W.Frag} {mg : Str → Option Value} {base : Heap} {C1 C2 C3 fI CS : Addr} (T : Tx P w K mg base C1 C2 C3 fI CS)
include T
open Classical in
theorem c_check_order : Cal P w K mg base 3 "check_order" ["sail", "order"] (spI K fx0 (fun i : SI × D => [obS CS i.1.1 i.1.2, .dat i.2]) (fun i => i.1.2.length ≤ 18 ∧ shT i.2) (fun i => Eq (if isOrd i.1.2.length i.2 then .ok (.dat .none) else .ex C3 i.2))) := by
  have c_is_within := c_is_within T
  refine mk_cal T.d_check_order sc_check_order (fun _ => rfl) (fun _ _ _ _ _ _ us hl => match us, hl with | [_, _], _ => rfl) (fun f cdv A outer s H E hr i hp => ⟨_, (pss_cons (ps_if (PW.pt (pw_or (pt_not (pt_val (pe_callB (r := rIsY K) call_isY (by rfl) T.b_isinstance (by decide +kernel) (pa_cons (pv 1) (pa_cons (pe_bltn (v := .ty "tuple") (u := .type "tuple") (by rfl) T.b_tuple (by decide +kernel) rfl) pa_nil))))) (pw_or1 (pt_not (pt_val (pe_callB (r := rAll K) (cr_all rfl) (by rfl) T.b_all (by decide +kernel) (pa_cons (pe_lc (own := [("index", 2)]) (by rfl) sc_check_order.nd (pi_tup (pv 1)) (blkOk_by (N := ["sail", "order", "index"]) (sc := defScope s_check_order) (own := [("index", 2)]) (by decide +kernel)) (fun _ _ _ _ _ => (pg_name (i := 2) sc_check_order.nd rfl (by first | exact Or.inl rfl | exact Or.inr rfl))) (fun _ _ _ _ _ => pts_nil) (fun _ _ _ _ _ => (pe_cal c_is_within (hr.mono (by first | decide | omega)) rfl (pa_cons (pv 2) (pa_cons pe_int (pa_cons (pe_op op_sub (pe_callB (r := fun xs H Q => ∃ p ys, xs = [.ref p] ∧ (SqL K H p ys ∨ SqT K H p ys) ∧ Q (.int ys.length) H) call_len_seq (by rfl) T.b_len (by decide +kernel) (pa_cons (pe_fld' (K := K) rfl (pv 0)) pa_nil)) pe_int) pa_nil)))))) pa_nil))))))) (pss_one (ps_err (k := 0) T.e_BadSeamOrder T.ini rfl (hr.mono (by first | decide | omega)) rfl (takes_of rfl rfl rfl rfl) (pv 1))) pss_nil)
      (pss_one (ps_if (pt_cmpR (r := rNeD K) (op_neD (u64 hr)) (pe_callB (r := rSortD K) (cr_sortD (u64 hr)) (by rfl) T.b_sorted (by decide +kernel) (pa_cons (pv 1) pa_nil)) (pe_listRg rfl (by rfl) T.b_list (prg_1 (by rfl) T.b_range (pe_callB (r := fun xs H Q => ∃ p ys, xs = [.ref p] ∧ (SqL K H p ys ∨ SqT K H p ys) ∧ Q (.int ys.length) H) call_len_seq (by rfl) T.b_len (by decide +kernel) (pa_cons (pe_fld' (K := K) rfl (pv 0)) pa_nil)))) (nomark _)) (pss_one (ps_err (k := 0) T.e_BadSeamOrder T.ini rfl (hr.mono (by first | decide | omega)) rfl (takes_of rfl rfl rfl rfl) (pv 1))) pss_nil))), fun G => ?_⟩)
  obtain ⟨⟨ps, ss⟩, d⟩ := i
  obtain ⟨hl, hs⟩ := hp
  have hl : ss.length ≤ 18 := hl
  have hs : shT d := hs
  show Xc _ _ _ (RetP (Eq (if isOrd ss.length d then .ok (.dat .none) else .ex C3 d)))
  have sm : ∀ {ρ : Rho}, ρ[0]? = some (obS CS ps ss) → Ev ⟨K, fx0, G, H, E⟩ (tFld K (tVar 0) "seams") ρ (Eq (.dat (.tuple (ss.map dSm)))) := fun h => ev_fldK (ev_varOb h) T.m_beside.cls T.a_seams sailFs_seams
  have ln : ∀ {ρ : Rho}, ρ[0]? = some (obS CS ps ss) → Ev ⟨K, fx0, G, H, E⟩ (tCB (fun xs H Q => ∃ p ys, xs = [.ref p] ∧ (SqL K H p ys ∨ SqT K H p ys) ∧ Q (.int ys.length) H) (tCons (tFld K (tVar 0) "seams") tNil)) ρ (Eq (.dat (.int (ss.length : Nat)))) := fun h => (ev_lenU (ds := ss.map dSm) (eu_of (sm h))).cast (by rw [List.length_map])
  by_cases ht : dTuple d = true
  · obtain ⟨ds, rfl⟩ : ∃ ds, d = .tuple ds := by
      cases d <;> simp [dTuple] at ht
      exact ⟨_, rfl⟩
    have hs := hs ds rfl
    have bad : ∀ r, r = .ex C3 (.tuple ds) → ¬ isOrd ss.length (.tuple ds) → (if isOrd ss.length (.tuple ds) then Re.ok (.dat .none) else .ex C3 (.tuple ds)) = r := fun r e h => by rw [if_neg h, e]
    refine xs_when (S := ⟨K, fx0, G, H, E⟩) (b := !ds.all (isWi 0 ((ss.length : Int) - 1))) (et_is (et_or (et_not (et_B (ev_isTuple (d := .tuple ds) (ev_var rfl)))) fun _ => et_not (et_B (ev_allMap (ds := ds) (p := isWi 0 ((ss.length : Int) - 1)) (im_tupE (ev_var rfl)) (by omega) fun x _ => ⟨[2], _, by simp, tg_name, (ev_callE (x, (0 : Int), (ss.length : Int) - 1) (ea_cons (ev_var rfl) (ea_cons ev_int (ea_cons (ev_I0 (ln rfl) ev_int) ea_nil))) True.intro).cast (by rw [isWithin_eq])⟩))) (by simp [dTuple])) (fun z => ?_) fun z => ?_
    · refine xc_raise T.e_BadSeamOrder.oex T.e_BadSeamOrder.nv (ev_var rfl) (bad _ rfl fun ⟨o, e, ho⟩ => ?_)
      rw [Bool.not_eq_true', Bool.eq_false_iff] at z
      refine z (List.all_eq_true.mpr fun x hx => ?_)
      rw [PyData.tuple.inj e] at hx
      obtain ⟨y, hy, rfl⟩ := List.mem_map.mp hx
      have := List.mem_range.mp (ho.mem_iff.mp hy)
      exact isWi_of (by omega) (by omega)
    · obtain ⟨o, rfl, ho⟩ := ints_of (Int.le_refl 0) ((Bool.not_eq_false' _).mp z)
      have hlo : o.length ≤ 1000 := by rw [dNs_len] at hs; exact hs
      have hpm : PyData.list (srtD (dNs o)) = .list (dNs (List.range ss.length)) ↔ o.Perm (List.range ss.length) := by rw [PyData.list.injEq, srtN_perm]
      refine xc_if (b := !decide (o.Perm (List.range ss.length))) (et_is (et_test (ev_neSc (d := .list (srtD (dNs o))) (e := .list (dNs (List.range ss.length))) (.l 1000 .z) (ef_sortU (eu_of (ev_var rfl)) (sort_scZ .z (sc_nats o) rfl (by omega))) ((ef_listRg (n := ss.length) (ln rfl) (by omega)).evE.cast (by rw [rng_dNs])) (okS_l (by rw [srtD_len, dNs_len]; exact hlo) fun d hd => sc_nats o d ((srtD_perm _).mem_iff.mp hd)) (okS_l (by rw [dNs_len, List.length_range]; omega) (sc_nats _)))) (by congr 1; exact decide_eq_decide.mpr hpm)) (fun z => ?_) fun z => ?_
      · have hz : ¬ o.Perm (List.range ss.length) := of_decide_eq_false ((Bool.not_eq_true' _).mp z)
        refine xc_raise T.e_BadSeamOrder.oex T.e_BadSeamOrder.nv (ev_var rfl) (bad _ rfl fun ⟨o', e, ho'⟩ => hz ?_)
        rw [dNs_inj.mp (PyData.tuple.inj e)]
        exact ho'
      · have hz : o.Perm (List.range ss.length) := of_decide_eq_true ((Bool.not_eq_false' _).mp z)
        exact xc_next (by show (if _ then _ else _) = _; rw [if_pos ⟨o, rfl, hz⟩])
  · refine xs_when (S := ⟨K, fx0, G, H, E⟩) (b := true) (et_orT ((et_not (et_B (ev_isTuple (d := d) (ev_var rfl)))).imp fun b hb => by rw [← hb, Bool.eq_false_iff.mpr ht]; rfl)) (fun _ => xc_raise T.e_BadSeamOrder.oex T.e_BadSeamOrder.nv (ev_var rfl) ?_) fun z => by cases z
    show (if _ then _ else _) = _
    rw [if_neg]
    rintro ⟨o, rfl, _⟩
    exact ht rfl
theorem c_told_joins : Cal P w K mg base 1 "told_joins" ["sail", "order"] (spI K fx0 (fun i : SI × Bool × List Nat => [obS CS i.1.1 i.1.2, .dat (seqD i.2.1 (dNs i.2.2))]) (fun i => (∀ s ∈ i.1.2, seamOk i.1.1 s = true) ∧ i.1.1.length ≤ 100 ∧ i.2.2.length ≤ 100 ∧ ∀ x ∈ i.2.2, x < i.1.2.length) (fun i => Eq (.ok (.dat (.list (dBs (jn i.1.1.length [] (edg (prs i.1.2) i.2.2)))))))) := by
  refine mk_cal T.d_told_joins sc_told_joins (fun _ => rfl) (fun _ _ _ _ _ _ us hl => match us, hl with | [_, _], _ => rfl) (fun f cdv A outer s H E hr i hp => ⟨_, (pss_cons (ps_set (i := 2) sc_told_joins.nd rfl (Or.inl rfl) (pe_listRg rfl (by rfl) T.b_list (prg_1 (by rfl) T.b_range (pe_callB (r := fun xs H Q => ∃ p ys, xs = [.ref p] ∧ (SqL K H p ys ∨ SqT K H p ys) ∧ Q (.int ys.length) H) call_len_seq (by rfl) T.b_len (by decide +kernel) (pa_cons (pe_fld' (K := K) rfl (pv 0)) pa_nil)))))
      (pss_cons (ps_set (i := 3) sc_told_joins.nd rfl (Or.inl rfl) (pe_lst pa_nil))
      (pss_cons (ps_for (passes_of rfl) rfl (pi_seqA (pv 1)) (pg_name (i := 4) sc_told_joins.nd rfl (Or.inl rfl)) (pss_cons (ps_asg (pe_tup (pa_cons (pe_ix (r := rIxL K) ix_list (pv 2) (pe_ix (r := rIxT K) ix_tup (pe_ix (r := rIxT K) ix_tup (pe_fld' (K := K) rfl (pv 0)) (pv 4) (fun _ _ => rfl)) pe_int (fun _ _ => rfl)) (fun _ _ => rfl)) (pa_cons (pe_ix (r := rIxL K) ix_list (pv 2) (pe_ix (r := rIxT K) ix_tup (pe_ix (r := rIxT K) ix_tup (pe_fld' (K := K) rfl (pv 0)) (pv 4) (fun _ _ => rfl)) pe_int (fun _ _ => rfl)) (fun _ _ => rfl)) pa_nil))) (pg_tup (by rfl) (pgs_cons (pg_name (i := 5) sc_told_joins.nd rfl (Or.inr rfl)) (pgs_cons (pg_name (i := 6) sc_told_joins.nd rfl (Or.inr rfl)) pgs_nil))))
      (pss_cons (ps_expr (pe_bm PySem.F.plainAttrs_list PySem.F.slot_list_append PySem.F.type_list_append mt_append (pv 3) (pa_cons (pe_cmpR (r := rNeD K) (op_neD (u64 hr)) (pv 5) (pv 6) (nomark _)) pa_nil)))
      (pss_one (ps_setLc (i := 2) (own := [("name", 7)]) (by rfl) sc_told_joins.nd rfl rfl (sw_true rfl rfl rfl (by decide +kernel)) (pi_list (pv 2)) (blkOk_by (N := ["sail", "order", "group", "found", "index", "old", "new", "name"]) (sc := defScope s_told_joins) (own := [("name", 7)]) (by decide +kernel)) (fun _ _ _ _ _ => (pg_name (i := 7) sc_told_joins.nd rfl (by first | exact Or.inl rfl | exact Or.inr rfl))) (fun _ _ _ _ _ => pts_nil) (fun _ _ _ _ _ => (pe_ifExp (pt_cmpR (r := rEqD K) (op_eqD (u64 hr)) (pv 7) (pv 5) (nomark _)) (pv 6) (pv 7))))))))
      (pss_one (ps_ret (pv 3)))))), fun G => ?_⟩)
  obtain ⟨⟨ps, ss⟩, b, o⟩ := i
  obtain ⟨hok, h1, h2, h3⟩ := hp
  have hok : ∀ s ∈ ss, seamOk ps s = true := hok
  have h1 : ps.length ≤ 100 := h1
  have h2 : o.length ≤ 100 := h2
  have h3 : ∀ x ∈ o, x < ss.length := h3
  have ln : ∀ {ρ : Rho}, ρ[0]? = some (obS CS ps ss) → Ev ⟨K, fx0, G, H, E⟩ (tCB (fun xs H Q => ∃ p ys, xs = [.ref p] ∧ (SqL K H p ys ∨ SqT K H p ys) ∧ Q (.int ys.length) H) (tCons (tFld K (tVar 0) "panels") tNil)) ρ (Eq (.dat (.int (ps.length : Nat)))) := fun h => (ev_lenU (ds := ps.map dPn) (eu_of (ev_fldK (ev_varOb h) T.m_beside.cls T.a_panels sailFs_panels))).cast (by rw [List.length_map])
  refine xs_asg (S := ⟨K, fx0, G, H, E⟩) (s := .dat (.list (dNs (gr ps.length [])))) ((ef_listRg (n := ps.length) (ln rfl) (by omega)).evE.cast (by rw [rng_dNs]; rfl)) ?_
  refine xs_asgF ef_nil fun af ds e => ?_
  subst e
  refine xs_for (im_seqA (b := b) (ds := dNs o) (ev_var rfl)) (fun k ρ => ∃ s4 s5 s6 : Sl, ρ = [obS CS ps ss, .dat (seqD b (dNs o)), .dat (.list (dNs (gr ps.length (edg (prs ss) (o.take k))))), .own af (.lst (dBs (jn ps.length [] (edg (prs ss) (o.take k))))), s4, s5, s6, .no]) ⟨.no, .no, .no, rfl⟩ (fun k d ρ1 hd hI => ?_) fun ρ1 hI => ?_
  · obtain ⟨s4, s5, s6, rfl⟩ := hI
    obtain ⟨x, hx, rfl⟩ : ∃ x : Nat, o[k]? = some x ∧ d = .int (x : Nat) := by
      unfold dNs at hd
      rw [List.getElem?_map] at hd
      obtain ⟨x, hx, rfl⟩ := Option.map_eq_some_iff.mp hd
      exact ⟨x, hx, rfl⟩
    have hxl : x < ss.length := h3 x (List.mem_of_getElem? hx)
    have ep := prs_at hxl
    have e1 := edg_snoc (prs ss) (o.take k) x
    rw [← take_snoc' hx, ep] at e1
    rw [e1, gr_snoc, jn_snoc, List.nil_append]
    obtain ⟨⟨q1, q2, _⟩, _⟩ := seamOk_iff.mp (hok (ss.getD x default) (by rw [show ss.getD x default = ss[x] by simp [List.getD, hxl]]; exact List.getElem_mem hxl))
    have gl := gr_len ps.length (edg (prs ss) (o.take k))
    have hat := at_sm hxl
    have jl := jn_len ps.length (edg (prs ss) (o.take k)) []
    have jl2 : (edg (prs ss) (o.take k)).length ≤ 100 := by unfold edg; rw [List.length_map, List.length_take]; omega
    generalize ss.getD x default = sm at q1 q2 hat
    generalize edg (prs ss) (o.take k) = E' at gl jl jl2
    have h00 : jb ps.length E' (sm.1.1, sm.2.1) = decide ((gr ps.length E').getD sm.1.1 0 ≠ (gr ps.length E').getD sm.2.1 0) := rfl
    rw [h00]
    have h01 : stepG (gr ps.length E') (sm.1.1, sm.2.1) = (gr ps.length E').map fun x => if x = (gr ps.length E').getD sm.1.1 0 then (gr ps.length E').getD sm.2.1 0 else x := rfl
    rw [h01]
    generalize jn ps.length [] E' = js at jl
    generalize gr ps.length E' = g at gl
    have e1 := at_dNs (l := g) (i := sm.1.1) (by omega)
    have e2 := at_dNs (l := g) (i := sm.2.1) (by omega)
    generalize g.getD sm.1.1 0 = u at e1
    generalize g.getD sm.2.1 0 = v at e2
    refine ⟨_, _, tg_name, ?_⟩
    have ix : ∀ {ρ : Rho} {m : Nat} {c : D}, ρ[0]? = some (obS CS ps ss) → ρ[4]? = some (.dat (.int (x : Nat))) → atI [.int (sm.1.1 : Nat), .int (sm.1.2 : Nat), .int (sm.2.1 : Nat), .int (sm.2.2 : Nat)] (m : Int) = some c → Ev ⟨K, fx0, G, H, E⟩ (tOp (rIxT K) (tOp (rIxT K) (tFld K (tVar 0) "seams") (tVar 4)) (tC (.int (m : Nat)))) ρ (Eq (.dat c)) := fun h0 h4 hc => ev_ixU (ds := [.int (sm.1.1 : Nat), .int (sm.1.2 : Nat), .int (sm.2.1 : Nat), .int (sm.2.2 : Nat)]) (ev_ixU (ds := ss.map dSm) (ev_fldK (ev_varOb h0) T.m_beside.cls T.a_seams sailFs_seams) (ev_var h4) hat) ev_int hc
    refine xs_asgT (d := .tuple [.int (u : Nat), .int (v : Nat)]) (ev_tup2 (ev_ixL (ds := dNs g) (el_of (ev_var rfl)) (ix (m := 0) rfl rfl rfl) e1) (ev_ixL (ds := dNs g) (el_of (ev_var rfl)) (ix (m := 2) rfl rfl rfl) e2)) tg_two ?_
    refine xs_append (i := 3) (p := fun d => d = .bool (decide (u ≠ v))) rfl ((ev_neI (i := (u : Int)) (j := (v : Int)) (ev_var rfl) (ev_var rfl)).imp fun s e => ⟨_, e.symm, by congr 1; rw [← decide_not]; exact decide_eq_decide.mpr (not_congr (eqv_i u v))⟩) (by unfold dBs; rw [List.length_map]; omega) fun d e => ?_
    subst e
    refine xc_asg (s := .dat (.list (dNs (g.map fun x => if x = u then v else x)))) ((ef_mapL (l := g) (dα := fun (x : Nat) => PyData.int (x : Int)) (f := fun x => .int ((if x = u then v else x : Nat) : Int)) (im_listE (ds := dNs g) (ev_var rfl)) (by omega) fun y _ => ⟨[7], _, by simp, tg_name, ev_if (b := decide (y = u)) (et_is (et_test (ev_eqI (i := (y : Int)) (j := (u : Int)) (ev_var rfl) (ev_var rfl))) (decide_eq_decide.mpr (eqv_i y u))) (fun z => (ev_var rfl).cast (by rw [if_pos (of_decide_eq_true z)])) fun z => (ev_var rfl).cast (by rw [if_neg (of_decide_eq_false z)])⟩).evE.cast (by unfold dNs; rw [List.map_map]; rfl)) ?_
    exact ⟨.dat (.int (x : Nat)), .dat (.int (u : Nat)), .dat (.int (v : Nat)), by unfold dBs; rw [List.map_append]; rfl⟩
  · obtain ⟨s4, s5, s6, rfl⟩ := hI
    rw [dNs_len, List.take_length]
    refine xs_freeze (i := 3) rfl ?_
    exact xc_ret (ev_var rfl) rfl
/-- what the two that ask for an order give -/
inductive OI where
  | ok (ps : List Pn) (ss : List Sm) (o : List Nat)
  | no (ps : List Pn) (ss : List Sm) (d : D)
def OI.args (CS : Addr) : OI → List Sl
  | .ok ps ss o => [obS CS ps ss, .dat (.tuple (dNs o))]
  | .no ps ss d => [obS CS ps ss, .dat d]
def OI.pre : OI → Prop
  | .ok ps ss o => Ok ps ss ∧ o.Perm (List.range ss.length)
  | .no ps ss d => ss.length ≤ 18 ∧ shT d ∧ ¬ isOrd ss.length d
def OI.r (C3 : Addr) (f : List Pn → List Sm → List Nat → D) : OI → Re
  | .ok ps ss o => .ok (.dat (f ps ss o))
  | .no _ _ d => .ex C3 d
def joinsV (ps : List Pn) (ss : List Sm) (o : List Nat) : D := .list (dBs (jn ps.length [] (edg (prs ss) o)))
def pcs (n : Int) : List Bool → List Int
  | [] => []
  | b :: l => (n - (if b then 1 else 0)) :: pcs (n - (if b then 1 else 0)) l
def piecesV (ps : List Pn) (ss : List Sm) (o : List Nat) : D := .list ((pcs ps.length (jn ps.length [] (edg (prs ss) o))).map PyData.int)
omit T in
theorem perm_lt {o : List Nat} {m : Nat} (h : o.Perm (List.range m)) : (∀ x ∈ o, x < m) ∧ o.length = m := ⟨fun x hx => List.mem_range.mp (h.mem_iff.mp hx), by rw [h.length_eq, List.length_range]⟩
theorem c_joins : Cal P w K mg base 4 "joins" ["sail", "order"] (spI K fx0 (OI.args CS) OI.pre (fun i => Eq (OI.r C3 joinsV i))) := by
  have c_check_order := c_check_order T
  have c_told_joins := c_told_joins T
  refine mk_cal T.d_joins sc_joins (fun i => by cases i <;> rfl) (fun _ _ _ _ _ _ us hl => match us, hl with | [_, _], _ => rfl) (fun f cdv A outer s H E hr i hp => ⟨_, (pss_cons (ps_expr (pe_calX c_check_order (hr.mono (by first | decide | omega)) rfl (pa_cons (pv 0) (pa_cons (pv 1) pa_nil)) (takes_of rfl rfl rfl rfl)))
      (pss_one (ps_ret (pe_cal c_told_joins (hr.mono (by first | decide | omega)) rfl (pa_cons (pv 0) (pa_cons (pv 1) pa_nil)))))), fun G => ?_⟩)
  cases i with
  | ok ps ss o =>
    obtain ⟨hk, ho⟩ := hp
    obtain ⟨o1, o2⟩ := perm_lt ho
    have h18 := hk.m
    have h12 := hk.n2
    refine xs_callX (S := ⟨K, fx0, G, H, E⟩) ((ps, ss), PyData.tuple (dNs o)) (ea_cons (ev_varOb rfl) (ea_cons (ev_var rfl) ea_nil)) ⟨hk.m, fun ds e => by cases e; rw [dNs_len]; omega⟩ (fun s _ => ?_) fun C d e => ?_
    · exact xc_ret (ev_callE ((ps, ss), false, o) (ea_cons (ev_varOb rfl) (ea_cons (ev_var rfl) ea_nil)) ⟨hk.ok, by show ps.length ≤ 100; omega, by show o.length ≤ 100; omega, o1⟩) rfl
    · simp only at e
      rw [if_pos ⟨o, rfl, ho⟩] at e
      cases e
  | no ps ss d =>
    obtain ⟨h1, h2, h3⟩ := hp
    refine xs_callX (S := ⟨K, fx0, G, H, E⟩) ((ps, ss), d) (ea_cons (ev_varOb rfl) (ea_cons (ev_var rfl) ea_nil)) ⟨h1, h2⟩ (fun s e => ?_) fun C d' e => ?_
    · simp only at e
      rw [if_neg h3] at e
      cases e
    · simp only at e
      rw [if_neg h3] at e
      exact e
theorem c_pieces_after : Cal P w K mg base 4 "pieces_after" ["sail", "order"] (spI K fx0 (OI.args CS) OI.pre (fun i => Eq (OI.r C3 piecesV i))) := by
  have c_check_order := c_check_order T
  have c_told_joins := c_told_joins T
  refine mk_cal T.d_pieces_after sc_pieces_after (fun i => by cases i <;> rfl) (fun _ _ _ _ _ _ us hl => match us, hl with | [_, _], _ => rfl) (fun f cdv A outer s H E hr i hp => ⟨_, (pss_cons (ps_expr (pe_calX c_check_order (hr.mono (by first | decide | omega)) rfl (pa_cons (pv 0) (pa_cons (pv 1) pa_nil)) (takes_of rfl rfl rfl rfl)))
      (pss_cons (ps_set (i := 2) sc_pieces_after.nd rfl (Or.inl rfl) (pe_lst pa_nil))
      (pss_cons (ps_set (i := 3) sc_pieces_after.nd rfl (Or.inl rfl) (pe_callB (r := fun xs H Q => ∃ p ys, xs = [.ref p] ∧ (SqL K H p ys ∨ SqT K H p ys) ∧ Q (.int ys.length) H) call_len_seq (by rfl) T.b_len (by decide +kernel) (pa_cons (pe_fld' (K := K) rfl (pv 0)) pa_nil)))
      (pss_cons (ps_for (passes_of rfl) rfl (pi_list (pe_cal c_told_joins (hr.mono (by first | decide | omega)) rfl (pa_cons (pv 0) (pa_cons (pv 1) pa_nil)))) (pg_name (i := 4) sc_pieces_after.nd rfl (Or.inl rfl)) (pss_cons (ps_aug (i := 3) sc_pieces_after.nd rfl (.inl rfl) (pe_ifExp (pt_val (pv 4)) pe_int pe_int) ip_sub)
      (pss_one (ps_expr (pe_bm PySem.F.plainAttrs_list PySem.F.slot_list_append PySem.F.type_list_append mt_append (pv 2) (pa_cons (pv 3) pa_nil))))))
      (pss_one (ps_ret (pv 2))))))), fun G => ?_⟩)
  cases i with
  | ok ps ss o =>
    obtain ⟨hk, ho⟩ := hp
    obtain ⟨o1, o2⟩ := perm_lt ho
    have h18 := hk.m
    have h12 := hk.n2
    refine xs_callX (S := ⟨K, fx0, G, H, E⟩) ((ps, ss), PyData.tuple (dNs o)) (ea_cons (ev_varOb rfl) (ea_cons (ev_var rfl) ea_nil)) ⟨hk.m, fun ds e => by cases e; rw [dNs_len]; omega⟩ (fun s _ => ?_) fun C d e => ?_
    · refine xs_asgF ef_nil fun af ds e => ?_
      subst e
      refine xs_asg (s := .dat (.int (ps.length : Nat))) ((ev_lenU (ds := ps.map dPn) (eu_of (ev_fldK (ev_varOb rfl) T.m_beside.cls T.a_panels sailFs_panels))).cast (by rw [List.length_map])) ?_
      have hjl : (jn ps.length [] (edg (prs ss) o)).length ≤ 100 := by rw [jn_len]; unfold edg; rw [List.length_map]; omega
      refine xs_for (im_listE (ds := dBs (jn ps.length [] (edg (prs ss) o))) (ev_callE ((ps, ss), false, o) (ea_cons (ev_varOb rfl) (ea_cons (ev_var rfl) ea_nil)) ⟨hk.ok, by show ps.length ≤ 100; omega, by show o.length ≤ 100; omega, o1⟩)) (fun k ρ => ∃ (s4 : Sl) (l : List Int) (n : Int), l.length = k ∧ pcs ps.length (jn ps.length [] (edg (prs ss) o)) = l ++ pcs n ((jn ps.length [] (edg (prs ss) o)).drop k) ∧ ρ = [obS CS ps ss, .dat (.tuple (dNs o)), .own af (.lst (l.map PyData.int)), .dat (.int n), s4]) ⟨.no, [], ps.length, rfl, rfl, rfl⟩ (fun k d ρ1 hd hI => ?_) fun ρ1 hI => ?_
      · obtain ⟨s4, l, n, hl, hp, rfl⟩ := hI
        obtain ⟨b, hb, rfl⟩ : ∃ b : Bool, (jn ps.length [] (edg (prs ss) o))[k]? = some b ∧ d = .bool b := by
          unfold dBs at hd
          rw [List.getElem?_map] at hd
          obtain ⟨x, hx, rfl⟩ := Option.map_eq_some_iff.mp hd
          exact ⟨x, hx, rfl⟩
        have hk2 := (List.getElem?_eq_some_iff.mp hb).1
        rw [List.drop_eq_getElem_cons hk2, (List.getElem?_eq_some_iff.mp hb).2, pcs] at hp
        refine ⟨_, _, tg_name, ?_⟩
        refine xs_aug (a := n) (b := if b then 1 else 0) rfl (ev_if (b := b) (et_B (ev_var rfl)) (fun z => ev_int.cast (by rw [z]; rfl)) fun z => ev_int.cast (by rw [z]; rfl)) ?_
        refine xc_append (i := 2) (p := fun d => d = .int (n - (if b then 1 else 0))) rfl ((ev_var (d := .int (n - (if b then 1 else 0))) rfl).imp fun s e => ⟨_, e.symm, rfl⟩) (by rw [List.length_map]; omega) fun d e => ?_
        subst e
        exact ⟨_, l ++ [n - (if b then 1 else 0)], n - (if b then 1 else 0), by simp [hl], by rw [hp]; simp, by rw [List.map_append]; rfl⟩
      · obtain ⟨s4, l, n, hl, hp, rfl⟩ := hI
        unfold dBs at hp
        rw [List.length_map, List.drop_length, pcs, List.append_nil] at hp
        refine xs_freeze (i := 2) rfl ?_
        exact xc_ret (ev_var rfl) (by show Re.ok (.dat (piecesV ps ss o)) = _; unfold piecesV; rw [hp])
    · simp only at e
      rw [if_pos ⟨o, rfl, ho⟩] at e
      cases e
  | no ps ss d =>
    obtain ⟨h1, h2, h3⟩ := hp
    refine xs_callX (S := ⟨K, fx0, G, H, E⟩) ((ps, ss), d) (ea_cons (ev_varOb rfl) (ea_cons (ev_var rfl) ea_nil)) ⟨h1, h2⟩ (fun s e => ?_) fun C d' e => ?_
    · simp only at e
      rw [if_neg h3] at e
      cases e
    · simp only at e
      rw [if_neg h3] at e
      exact e
omit T in
theorem at_dBs {l : List Bool} {i : Nat} (h : i < l.length) : atI (dBs l) (i : Int) = some (.bool (l.getD i false)) := at_nat (by
  unfold dBs
  rw [List.getElem?_map, List.getElem?_eq_getElem h]
  simp [List.getD, h])
theorem c_easy_order : Cal P w K mg base 2 "easy_order" ["sail"] (spI K fx0 (fun i : SI => [obS CS i.1 i.2]) (fun i => Ok i.1 i.2) (fun i => Eq (.ok (.dat (.tuple (dNs (easy i.1.length (prs i.2)))))))) := by
  have c_told_joins := c_told_joins T
  refine mk_cal T.d_easy_order sc_easy_order (fun _ => rfl) (fun _ _ _ _ _ _ us hl => match us, hl with | [_], _ => rfl) (fun f cdv A outer s H E hr i hk => ⟨_, (pss_cons (ps_set (i := 1) sc_easy_order.nd rfl (Or.inl rfl) (pe_listRg rfl (by rfl) T.b_list (prg_1 (by rfl) T.b_range (pe_callB (r := fun xs H Q => ∃ p ys, xs = [.ref p] ∧ (SqL K H p ys ∨ SqT K H p ys) ∧ Q (.int ys.length) H) call_len_seq (by rfl) T.b_len (by decide +kernel) (pa_cons (pe_fld' (K := K) rfl (pv 0)) pa_nil)))))
      (pss_cons (ps_set (i := 2) sc_easy_order.nd rfl (Or.inr rfl) (pe_cal c_told_joins (hr.mono (by first | decide | omega)) rfl (pa_cons (pv 0) (pa_cons (pv 1) pa_nil))))
      (pss_cons (ps_setLc (i := 3) (own := [("index", 4)]) (by rfl) sc_easy_order.nd rfl rfl (sw_true rfl rfl rfl (by decide +kernel)) (pi_list (pv 1)) (blkOk_by (N := ["sail", "every", "is_joining", "easy", "index"]) (sc := defScope s_easy_order) (own := [("index", 4)]) (by decide +kernel)) (fun _ _ _ _ _ => (pg_name (i := 4) sc_easy_order.nd rfl (by first | exact Or.inl rfl | exact Or.inr rfl))) (fun _ _ _ _ _ => (pts_one (pt_val (pe_ix (r := rIxL K) ix_list (pv 2) (pv 4) (fun _ _ => rfl))))) (fun _ _ _ _ _ => (pv 4)))
      (pss_one (ps_ret (pe_callTy (T := "tuple") (r := fun xs H Q => ∃ p ys, xs = [.ref p] ∧ ((SqL K H p ys ∧ ∀ l, H l = none → Q (.ref l) (upd H l (.tup ys))) ∨ (SqT K H p ys ∧ Q (.ref p) H))) call_tuple_of (by rfl) T.b_tuple (by decide +kernel) (pa_cons (pe_lst (pa_star' (K := K) rfl (pv 3) (pa_star' (K := K) rfl (pe_lc (own := [("index", 4)]) (by rfl) sc_easy_order.nd (pi_list (pv 1)) (blkOk_by (N := ["sail", "every", "is_joining", "easy", "index"]) (sc := defScope s_easy_order) (own := [("index", 4)]) (by decide +kernel)) (fun _ _ _ _ _ => (pg_name (i := 4) sc_easy_order.nd rfl (by first | exact Or.inl rfl | exact Or.inr rfl))) (fun _ _ _ _ _ => (pts_one (pt_not (pt_val (pe_ix (r := rIxL K) ix_list (pv 2) (pv 4) (fun _ _ => rfl)))))) (fun _ _ _ _ _ => (pv 4))) pa_nil))) pa_nil))))))), fun G => ?_⟩)
  obtain ⟨ps, ss⟩ := i
  have hk : Ok ps ss := hk
  have h18 := hk.m
  have h12 := hk.n2
  have el : (prs ss).length = ss.length := by unfold prs; rw [List.length_map]
  refine xs_asg (S := ⟨K, fx0, G, H, E⟩) (s := .dat (.list (dNs (List.range ss.length)))) ((ef_listRg (n := ss.length) ((ev_lenU (ds := ss.map dSm) (eu_of (ev_fldK (ev_varOb rfl) T.m_beside.cls T.a_seams sailFs_seams))).cast (by rw [List.length_map])) (by omega)).evE.cast (by rw [rng_dNs])) ?_
  have ee : edg (prs ss) (List.range ss.length) = prs ss := by
    unfold edg
    rw [← el]
    refine List.ext_getElem (by simp) fun i h1 h2 => ?_
    simp [List.getD, h2]
  refine xs_asg (s := .dat (.list (dBs (jn ps.length [] (prs ss))))) ((ev_callE ((ps, ss), true, List.range ss.length) (ea_cons (ev_varOb rfl) (ea_cons (ev_var rfl) ea_nil)) ⟨hk.ok, by show ps.length ≤ 100; omega, by show (List.range ss.length).length ≤ 100; rw [List.length_range]; omega, fun x hx => List.mem_range.mp hx⟩).cast (by simp only; rw [ee])) ?_
  have jl : (jn ps.length [] (prs ss)).length = ss.length := by rw [jn_len, el]
  have fl : ∀ (c : Nat → Bool) {ρ : Rho} {tt : TT}, ρ[1]? = some (.dat (.list (dNs (List.range ss.length)))) → (∀ x : Nat, x < ss.length → EvT ⟨K, fx0, G, H, E⟩ tt ((wipeR ρ [4]).set 4 (.dat (.int (x : Nat)))) (Eq (c x))) → ρ.length = 5 → Ev ⟨K, fx0, G, H, E⟩ (tLc (iList K (tVar 1)) (gName 4) tt (tVar 4) [4]) ρ (Eq (.dat (.list (dNs ((List.range ss.length).filter c))))) := fun c {ρ tt} h1 ht hl => (ef_filterL (l := List.range ss.length) (dα := fun (x : Nat) => PyData.int (x : Int)) (c := c) (f := fun (x : Nat) => PyData.int (x : Int)) (im_listE (ds := dNs (List.range ss.length)) (ev_var h1)) (by rw [List.length_range]; omega) fun x hx => ⟨[4], _, by simp, tg_name, ht x (List.mem_range.mp hx), fun _ => ev_var (by
      match ρ, hl with
      | [_, _, _, _, _], _ => rfl)⟩).evE
  refine xs_asg (s := .dat (.list (dNs (tI ps.length (prs ss) ss.length)))) (fl (fun i => J ps.length (prs ss) i) rfl (fun x hx => et_B (ev_ixL (ds := dBs (jn ps.length [] (prs ss))) (el_of (ev_var rfl)) (ev_var rfl) (at_dBs (by omega)))) rfl) ?_
  refine xc_ret (ev_tupL (ds := dNs (easy ps.length (prs ss))) (el_of ((ev_lst (ds := dNs (easy ps.length (prs ss))) ?_ ?_)))) rfl
  · refine EvA.imp (ea_star (el_of (ev_var rfl)) (ea_star (el_of (fl (fun i => !J ps.length (prs ss) i) rfl (fun x hx => et_not (et_B (ev_ixL (ds := dBs (jn ps.length [] (prs ss))) (el_of (ev_var rfl)) (ev_var rfl) (at_dBs (by omega))))) rfl)) ea_nil)) fun xs e => ?_
    rw [← e]
    unfold easy nI dNs
    rw [el]
    simp [tI]
  · rw [dNs_len, (easy_perm _ _).length_eq, List.length_range, el]
    omega
end
end K27

set_option Elab.async false
set_option linter.all false
set_option maxRecDepth 100000
set_option maxHeartbeats 4000000
namespace K27
open PySem PySem.Spec PyProof.Rows L2 Dl LamX StX RZ SM SD
theorem top_max : ∀ (r : List Nat) (a : Nat), ((r.foldl (fun a x => max a (x + 1)) (a + 1) : Nat) : Int) = (r.map fun (x : Nat) => (x : Int)).foldl max (a : Int) + 1
  | [], a => rfl
  | x :: r, a => by
    have := top_max r (max a x)
    rw [List.foldl_cons, List.map_cons, List.foldl_cons, show max (a + 1) (x + 1) = max a x + 1 by omega, this]
    congr 2
    omega
theorem max_top (one : List Nat) : ∃ y ys, dNs one ++ [.int (-1)] = y :: ys ∧ PySem.W.maxD y ys = .int ((topc one : Int) - 1) := by
  cases one with
  | nil => exact ⟨_, _, rfl, rfl⟩
  | cons x r =>
    refine ⟨.int (x : Int), dNs r ++ [.int (-1)], rfl, ?_⟩
    have e : dNs r ++ [PyData.int (-1)] = ((r.map fun (x : Nat) => (x : Int)) ++ [-1]).map PyData.int := by
      unfold dNs
      rw [List.map_append, List.map_map]
      rfl
    rw [e, PySem.W.maxD_ints, List.foldl_append]
    have := top_max r x
    have h2 : topc (x :: r) = r.foldl (fun a x => max a (x + 1)) (x + 1) := by
      unfold topc
      rw [List.foldl_cons, Nat.zero_max]
    rw [h2, this]
    have h3 : 1 ≤ r.foldl (fun a x => max a (x + 1)) (x + 1) := Nat.le_trans (by omega) (topc_ge r (x + 1)).1
    show PyData.int (max _ (-1)) = _
    congr 1
    omega
theorem maxO_top (one : List Nat) : maxO (.int (-1)) (dNs one) = .int ((topc one : Int) - 1) := by
  cases one with
  | nil => rfl
  | cons x r =>
    show PySem.W.maxD (.int (x : Int)) (dNs r) = _
    rw [show dNs r = r.map fun (x : Nat) => PyData.int (x : Int) from rfl, maxD_nat, ← show ((topc (x :: r) : Int) - 1) = (r.map fun (x : Nat) => (x : Int)).foldl max (x : Int) from ?_]
    have h2 : topc (x :: r) = r.foldl (fun a x => max a (x + 1)) (x + 1) := by
      unfold topc
      rw [List.foldl_cons, Nat.zero_max]
    rw [h2, top_max]
    omega
theorem sc_dT {l : List Nat} {k : Nat} (h : l.length ≤ k) : okS (dT l) (.u k .z) = true := okS_u (by rw [dNs_len]; exact h) (sc_nats l)
def colV (ss : List Sm) (many n : Nat) : D := minO ((colL ss many n).map dT)
theorem colV_none (ss : List Sm) (many n : Nat) : Dl.isNone (colV ss many n) = decide (colL ss many n = []) := by
  unfold colV
  rw [isNone_minO _ fun d hd => by
    obtain ⟨x, _, rfl⟩ := List.mem_map.mp hd
    exact fun z => by cases z]
  simp
theorem min_cols {l : List (List Nat)} {k : Nat} (h : ∀ o ∈ l, o.length ≤ k) : MinOk (l.map dT) := min_sc (.u k .z) (fun d hd => by
  obtain ⟨x, hx, rfl⟩ := List.mem_map.mp hd
  exact sc_dT (h x hx)) (by simp) (by simp [dpS])
/-- the least that do -/
def bestV (ss : List Sm) (n : Nat) (free : Bool) (k : Nat) : D := (List.range k).foldl (fun b j => if Dl.isNone b && free then colV ss (j + 1) n else b) .none
theorem bestV_succ (ss : List Sm) (n : Nat) (free : Bool) (k : Nat) : bestV ss n free (k + 1) = if Dl.isNone (bestV ss n free k) && free then colV ss (k + 1) n else bestV ss n free k := by
  unfold bestV
  rw [List.range_succ, List.foldl_append]
  rfl
theorem bestV_no (ss : List Sm) (n : Nat) : ∀ k, bestV ss n false k = .none
  | 0 => rfl
  | k + 1 => by rw [bestV_succ, bestV_no ss n k]; rfl
theorem bestV_none {ss : List Sm} {n : Nat} : ∀ k, (∀ j < k, colL ss (j + 1) n = []) → Dl.isNone (bestV ss n true k) = true
  | 0, _ => rfl
  | k + 1, h => by
    rw [bestV_succ, bestV_none k fun j hj => h j (by omega), Bool.true_and, if_pos rfl, colV_none, h k (by omega)]
    rfl
theorem bestV_at {ss : List Sm} {n m : Nat} (h : ∀ j < m, colL ss (j + 1) n = []) (h2 : colL ss (m + 1) n ≠ []) : ∀ k, m < k → bestV ss n true k = colV ss (m + 1) n
  | 0, hk => by omega
  | k + 1, hk => by
    rw [bestV_succ]
    by_cases e : m = k
    · subst e
      rw [bestV_none m h]
      rfl
    · rw [bestV_at h h2 k (by omega), colV_none, decide_eq_false h2]
      rfl
theorem fac_mono {a b : Nat} (h : a ≤ b) : fac a ≤ fac b := by
  induction h with
  | refl => exact Nat.le_refl _
  | step h ih => exact Nat.le_trans ih (by rw [fac]; exact Nat.le_mul_of_pos_left _ (by omega))
section
variable {P : Program} {w : World} {K : PySem.W.Frag} {mg : Str → Option Value} {base : Heap} {C1 C2 C3 fI CS : Addr} (T : Tx P w K mg base C1 C2 C3 fI CS)
include T
theorem c_all_colours : Cal P w K mg base 2 "all_colours" ["sail", "many"] (spI K fx0 (fun i : SI × Nat => [obS CS i.1.1 i.1.2, .dat (.int (i.2 : Nat))]) (fun i => i.1.1.length ≤ 8 ∧ i.2 ≤ 1000) (fun i => Eq (.ok (.dat (colV i.1.2 i.2 i.1.1.length))))) := by
  have c_Sail_beside := c_Sail_beside T
  refine mk_cal T.d_all_colours sc_all_colours (fun _ => rfl) (fun _ _ _ _ _ _ us hl => match us, hl with | [_, _], _ => rfl) (fun f cdv A outer s H E hr i hp => ⟨_, (pss_cons (ps_set (i := 2) sc_all_colours.nd rfl (Or.inl rfl) (pe_lst (pa_cons (pe_tup pa_nil) pa_nil)))
      (pss_cons (ps_for (passes_of rfl) rfl (pi_range1 (by rfl) T.b_range (pa_cons (pe_callB (r := fun xs H Q => ∃ p ys, xs = [.ref p] ∧ (SqL K H p ys ∨ SqT K H p ys) ∧ Q (.int ys.length) H) call_len_seq (by rfl) T.b_len (by decide +kernel) (pa_cons (pe_fld' (K := K) rfl (pv 0)) pa_nil)) pa_nil)) (pg_name (i := 3) sc_all_colours.nd rfl (Or.inl rfl)) (pss_cons (ps_set (i := 4) sc_all_colours.nd rfl (Or.inr rfl) (pe_calM c_Sail_beside (hr.mono (by first | decide | omega)) (pv 0) (pa_cons (pv 3) pa_nil)))
      (pss_cons (ps_set (i := 5) sc_all_colours.nd rfl (Or.inl rfl) (pe_lst pa_nil))
      (pss_cons (ps_for (passes_of rfl) rfl (pi_list (pv 2)) (pg_name (i := 6) sc_all_colours.nd rfl (Or.inr rfl)) (pss_one (ps_for (passes_of rfl) rfl (pi_range1 (by rfl) T.b_range (pa_cons (pe_callB (call_min2 rfl) (by rfl) T.b_min (by decide +kernel) (pa_cons (pv 1) (pa_cons (pe_op op_add (pe_callBK (cr_maxDt rfl (u64 hr)) rfl T.b_max (by decide +kernel) (pa_cons (pv 6) pa_nil) (pk_cons (pe_un un_neg pe_int) pk_nil)) pe_int) pa_nil))) pa_nil)) (pg_name (i := 7) sc_all_colours.nd rfl (Or.inr rfl)) (pss_one (ps_if (pt_not (pt_val (pe_callB (r := rAny K) (cr_any rfl) (by rfl) T.b_any (by decide +kernel) (pa_cons (pe_lc (own := [("other", 8)]) (by rfl) sc_all_colours.nd (pi_range1 (by rfl) T.b_range (pa_cons (pv 3) pa_nil)) (blkOk_by (N := ["sail", "many", "found", "panel", "near", "longer", "one", "colour", "other"]) (sc := defScope s_all_colours) (own := [("other", 8)]) (by decide +kernel)) (fun _ _ _ _ _ => (pg_name (i := 8) sc_all_colours.nd rfl (by first | exact Or.inl rfl | exact Or.inr rfl))) (fun _ _ _ _ _ => pts_nil) (fun _ _ _ _ _ => (pe_and (pe_cmpR (r := rEqD K) (op_eqD (u64 hr)) (pe_ix (r := rIxT K) ix_tup (pv 6) (pv 8) (fun _ _ => rfl)) (pv 7) (nomark _)) (pe_one (pe_cmpR (r := rInS K) (op_inS (u65 hr)) (pv 8) (pv 4) (by rfl)))))) pa_nil)))) (pss_one (ps_expr (pe_bm PySem.F.plainAttrs_list PySem.F.slot_list_append PySem.F.type_list_append mt_append (pv 5) (pa_cons (pe_tup (pa_star' (K := K) rfl (pv 6) (pa_cons (pv 7) pa_nil))) pa_nil)))) pss_nil)))))
      (pss_one (ps_set (i := 2) sc_all_colours.nd rfl (Or.inl rfl) (pv 5)))))))
      (pss_one (ps_ret (pe_callBK (cr_minDf rfl (u64 hr)) rfl T.b_min (by decide +kernel) (pa_cons (pv 2) pa_nil) (pk_cons pe_non pk_nil)))))), fun G => ?_⟩)
  obtain ⟨⟨ps, ss⟩, many⟩ := i
  obtain ⟨h8, hm⟩ := hp
  have h8 : ps.length ≤ 8 := h8
  have hm : many ≤ 1000 := hm
  refine xs_asg (S := ⟨K, fx0, G, H, E⟩) (s := .dat (.list ((colL ss many 0).map dT))) (ev_lst (ds := [.tuple []]) (ea_cons (ev_tup (ds := []) ea_nil (by simp)) ea_nil) (by simp)) ?_
  refine xs_for (im_rngN (n := ps.length) ((ev_lenU (ds := ps.map dPn) (eu_of (ev_fldK (ev_varOb rfl) T.m_beside.cls T.a_panels sailFs_panels))).cast (by rw [List.length_map])) (by omega)) (fun p ρ => ∃ s3 s4 s5 s6 s7 : Sl, ρ = [obS CS ps ss, .dat (.int (many : Nat)), .dat (.list ((colL ss many p).map dT)), s3, s4, s5, s6, s7, .no]) ⟨_, _, _, _, _, rfl⟩ (fun p d ρ1 hd hI => ?_) fun ρ1 hI => ?_
  · obtain ⟨s3, s4, s5, s6, s7, rfl⟩ := hI
    obtain ⟨p', hp', rfl⟩ := dNs_get hd
    obtain ⟨hpn, hpe⟩ : p < ps.length ∧ p' = p := by
      have := (List.getElem?_eq_some_iff.mp hp')
      obtain ⟨h1, h2⟩ := this
      rw [List.length_range] at h1
      exact ⟨h1, by rw [← h2]; simp⟩
    subst hpe
    refine ⟨_, _, tg_name, ?_⟩
    refine xs_asg (s := .dat (.list (dNs (beside ss p')))) (ev_methK (ev_varOb rfl) rfl (ea_cons (ev_var rfl) ea_nil) fun ss' e => ⟨((ps, ss), p'), by rw [← e]; rfl, True.intro, fun s h => (by cases h; rfl), fun C d h => by cases h⟩) ?_
    refine xs_asgF ef_nil fun al ds e => ?_
    subst e
    have hlen : ∀ o ∈ colL ss many p', o.length = p' ∧ topc o ≤ p' := fun o ho => col_len ho
    have hmany : (colL ss many p').length ≤ fac 8 := Nat.le_trans (col_many p') (fac_mono (by omega))
    have hfac : fac 8 = 40320 := by decide
    generalize hnear : beside ss p' = near
    generalize hcol : colL ss many p' = cs at hlen hmany
    have hcs : colL ss many (p' + 1) = cs.flatMap (nxt near many p') := by rw [colL, hnear, hcol]
    rw [hcs]
    refine xs_for (im_listE (ds := cs.map dT) (ev_var rfl)) (fun i ρ => ∃ s6 s7 : Sl, ρ = [obS CS ps ss, .dat (.int (many : Nat)), .dat (.list (cs.map dT)), .dat (.int (p' : Nat)), .dat (.list (dNs near)), .own al (.lst (((cs.take i).flatMap (nxt near many p')).map dT)), s6, s7, .no]) ⟨_, _, rfl⟩ (fun i d ρ1 hd hI => ?_) fun ρ1 hI => ?_
    · obtain ⟨s6, s7, rfl⟩ := hI
      obtain ⟨one, hone, rfl⟩ := map_get hd
      have hmem := List.mem_of_getElem? hone
      obtain ⟨ol, ot⟩ := hlen one hmem
      have il := (List.getElem?_eq_some_iff.mp hone).1
      refine ⟨_, _, tg_name, ?_⟩
      have hL : ((cs.take i).flatMap (nxt near many p')).length ≤ 400000 := by
        refine Nat.le_trans (flat_len (b := p' + 1) fun x hx => nxt_len (hlen x (List.mem_of_mem_take hx)).2) ?_
        have : (cs.take i).length ≤ 40320 := by rw [List.length_take]; omega
        calc (p' + 1) * (cs.take i).length ≤ 9 * 40320 := Nat.mul_le_mul (by omega) this
          _ ≤ 400000 := by decide
      rw [take_get hone, List.flatMap_append]
      generalize (cs.take i).flatMap (nxt near many p') = L at hL
      have e1 : [one].flatMap (nxt near many p') = nxt near many p' one := by simp
      rw [e1]
      have hM : min many (topc one + 1) ≤ 10 := by omega
      refine xc_forE (im_rngN (n := min many (topc one + 1)) (((ev_cb (ea_cons (ev_var rfl) (ea_cons (ev_I0 (ev_maxDt (ds := dNs one) (d := .int (-1)) (eu_of (ev_var rfl)) (ev_neg ev_int) (min_sc .z (sc_nats one) (by simp)) |>.cast (by rw [maxO_top])) ev_int) ea_nil)) cb_min2)).cast (by congr 2; omega)) (by omega)) (fun j ρ => ∃ s7 : Sl, ρ = [obS CS ps ss, .dat (.int (many : Nat)), .dat (.list (cs.map dT)), .dat (.int (p' : Nat)), .dat (.list (dNs near)), .own al (.lst ((L ++ (((List.range (min many (topc one + 1))).take j).filter (okc near p' one)).map fun c => one ++ [c]).map dT)), .dat (dT one), s7, .no]) ⟨s7, by simp⟩ (fun j d ρ1 hd hI => ?_) fun ρ1 hI => ?_
      · obtain ⟨s7, rfl⟩ := hI
        obtain ⟨c, hc, rfl⟩ := dNs_get hd
        have hjl := (List.getElem?_eq_some_iff.mp hc).1
        rw [List.length_range] at hjl
        refine ⟨_, _, tg_name, ?_⟩
        have ok_at : ∀ o < p', atI (dNs one) (o : Int) = some (.int (one.getD o 0 : Nat)) := fun o ho => at_dNs (by omega)
        refine xc_if (b := okc near p' one c) (et_not (et_B (ev_anyL (l := List.range p') (dα := fun (x : Nat) => PyData.int (x : Int)) (p := fun o => decide (one.getD o 0 = c) && near.contains o) (im_rngN (ev_var rfl) (by omega)) (by rw [List.length_range]; omega) fun o ho => ⟨[8], _, by simp, tg_name, ev_andV ((ev_eqI (i := (one.getD o 0 : Nat)) (j := (c : Nat)) (ev_ixU (ds := dNs one) (ev_var rfl) (ev_var rfl) (ok_at o (List.mem_range.mp ho))) (ev_var rfl)).cast (by congr 2; exact decide_eq_decide.mpr (eqv_i _ _))) fun _ => (ev_inL (d := .int (o : Nat)) (ev_var rfl) (el_of (ev_var rfl)) rfl (lay_nats near)).cast (by rw [inD_nat])⟩))) (fun z => ?_) fun z => ?_
        · refine xc_append (i := 5) (p := fun d => d = dT (one ++ [c])) rfl ((ev_tup (ds := dNs one ++ [.int (c : Nat)]) ((ea_starU (eu_of (ev_var rfl)) (ea_cons (ev_var rfl) ea_nil)).imp fun xs e => by rw [← e, List.map_append]; rfl) (by rw [List.length_append, dNs_len, List.length_singleton]; omega)).imp fun s e => ⟨_, e.symm, by unfold dT; rw [dNs_app]; rfl⟩) ?_ fun d e => ?_
          · rw [List.length_map, List.length_append, List.length_map]
            have := List.length_filter_le (okc near p' one) ((List.range (min many (topc one + 1))).take j)
            rw [List.length_take, List.length_range] at this
            omega
          subst e
          refine ⟨.dat (.int (c : Nat)), ?_⟩
          rw [take_get hc, List.filter_append, List.filter_cons_of_pos z, List.filter_nil]
          simp only [List.map_append, List.append_assoc, List.map_cons, List.map_nil]
          rfl
        · refine xc_next ⟨.dat (.int (c : Nat)), ?_⟩
          rw [take_get hc, List.filter_append, List.filter_cons_of_neg (by rw [z]; simp), List.filter_nil, List.append_nil]
          rfl
      · obtain ⟨s7, rfl⟩ := hI
        refine ⟨.dat (dT one), s7, ?_⟩
        rw [dNs_len, List.take_length]
        rfl
    · obtain ⟨s6, s7, rfl⟩ := hI
      rw [List.length_map, List.take_length]
      refine xc_freeze (i := 5) rfl ?_
      exact xc_asg (ev_var rfl) ⟨_, _, _, _, _, rfl⟩
  · obtain ⟨s3, s4, s5, s6, s7, rfl⟩ := hI
    rw [dNs_len, List.length_range]
    exact xc_ret (ev_minDf (el_of (ev_var rfl)) ev_non (min_cols fun o ho => Nat.le_of_eq (col_len ho).1)) rfl
/-- no seam of one panel -/
def freeB (ss : List Sm) : Bool := !ss.any fun s => decide (s.1.1 = s.2.1)
theorem c_colours : Cal P w K mg base 3 "colours" ["sail"] (spI K fx0 (fun i : SI => [obS CS i.1 i.2]) (fun i => i.1.length ≤ 8 ∧ 1 ≤ i.1.length ∧ i.2.length ≤ 18) (fun i => Eq (.ok (.dat (bestV i.2 i.1.length (freeB i.2) 12))))) := by
  have c_all_colours := c_all_colours T
  refine mk_cal T.d_colours sc_colours (fun _ => rfl) (fun _ _ _ _ _ _ us hl => match us, hl with | [_], _ => rfl) (fun f cdv A outer s H E hr i hp => ⟨_, (pss_cons (ps_if (pt_val (pe_callB (r := rAny K) (cr_any rfl) (by rfl) T.b_any (by decide +kernel) (pa_cons (pe_lc (own := [("seam", 2)]) (by rfl) sc_colours.nd (pi_tup (pe_fld' (K := K) rfl (pv 0))) (blkOk_by (N := ["sail", "many", "seam"]) (sc := defScope s_colours) (own := [("seam", 2)]) (by decide +kernel)) (fun _ _ _ _ _ => (pg_name (i := 2) sc_colours.nd rfl (by first | exact Or.inl rfl | exact Or.inr rfl))) (fun _ _ _ _ _ => pts_nil) (fun _ _ _ _ _ => (pe_cmpR (r := rEqD K) (op_eqD (u64 hr)) (pe_ix (r := rIxT K) ix_tup (pv 2) pe_int (fun _ _ => rfl)) (pe_ix (r := rIxT K) ix_tup (pv 2) pe_int (fun _ _ => rfl)) (nomark _)))) pa_nil))) (pss_one (ps_ret pe_non)) pss_nil)
      (pss_cons (ps_set (i := 1) sc_colours.nd rfl (Or.inl rfl) pe_int)
      (pss_cons (ps_while (passes_of rfl) (pt_cmpR op_isN (pe_cal c_all_colours (hr.mono (by first | decide | omega)) rfl (pa_cons (pv 0) (pa_cons (pv 1) pa_nil))) pe_non (nomark _)) (pss_one (ps_aug (i := 1) sc_colours.nd rfl (.inl rfl) pe_int ip_add)))
      (pss_one (ps_ret (pe_cal c_all_colours (hr.mono (by first | decide | omega)) rfl (pa_cons (pv 0) (pa_cons (pv 1) pa_nil)))))))), fun G => ?_⟩)
  obtain ⟨ps, ss⟩ := i
  obtain ⟨h8, h1, h18⟩ := hp
  have h8 : ps.length ≤ 8 := h8
  have h1 : 1 ≤ ps.length := h1
  have h18 : ss.length ≤ 18 := h18
  show Xc _ _ _ (RetP (Eq (.ok (.dat (bestV ss ps.length (freeB ss) 12)))))
  refine xs_when (S := ⟨K, fx0, G, H, E⟩) (b := ss.any fun s => decide (s.1.1 = s.2.1)) (et_B (ev_anyL (l := ss) (dα := dSm) (im_tupE (ev_fldK (ev_varOb rfl) T.m_beside.cls T.a_seams sailFs_seams)) (by omega) fun s _ => ⟨[2], _, by simp, tg_name, (ev_eqI (i := (s.1.1 : Nat)) (j := (s.2.1 : Nat)) (ev_ixU (ds := [.int (s.1.1 : Nat), .int (s.1.2 : Nat), .int (s.2.1 : Nat), .int (s.2.2 : Nat)]) (ev_var rfl) ev_int rfl) (ev_ixU (ds := [.int (s.1.1 : Nat), .int (s.1.2 : Nat), .int (s.2.1 : Nat), .int (s.2.2 : Nat)]) (ev_var rfl) ev_int rfl)).cast (by congr 2; exact decide_eq_decide.mpr (eqv_i _ _))⟩)) (fun z => ?_) fun z => ?_
  · have e : freeB ss = false := by unfold freeB; rw [z]; rfl
    rw [e, bestV_no]
    exact xc_ret ev_non rfl
  have e : freeB ss = true := by unfold freeB; rw [z]; rfl
  rw [e]
  have own : colL ss ps.length ps.length ≠ [] := fun h => by
    have := col_own (ss := ss) (many := ps.length) ps.length (Nat.le_refl _)
    rw [h] at this
    cases this
  refine xs_asg (s := .dat (.int ((0 + 1 : Nat) : Int))) ev_int ?_
  refine xs_while (I := fun m ρ => ∃ j : Nat, j < ps.length ∧ m = ps.length - j ∧ (∀ i < j, colL ss (i + 1) ps.length = []) ∧ ρ = [obS CS ps ss, .dat (.int ((j + 1 : Nat) : Int)), .no]) ps.length ⟨0, h1, rfl, fun i hi => by omega, rfl⟩ fun m ρ1 hI => ?_
  obtain ⟨j, hj, rfl, hall, rfl⟩ := hI
  have call : ∀ {ρ : Rho}, ρ[0]? = some (obS CS ps ss) → ρ[1]? = some (.dat (.int ((j + 1 : Nat) : Int))) → Ev ⟨K, fx0, G, H, E⟩ (tCall (spI K fx0 (fun i : SI × Nat => [obS CS i.1.1 i.1.2, .dat (.int (i.2 : Nat))]) (fun i => i.1.1.length ≤ 8 ∧ i.2 ≤ 1000) (fun i => Eq (.ok (.dat (colV i.1.2 i.2 i.1.1.length))))) [] E0 (tCons (tVar 0) (tCons (tVar 1) tNil))) ρ (Eq (.dat (colV ss (j + 1) ps.length))) := fun h0 h1 => ev_callE ((ps, ss), j + 1) (ea_cons (ev_varOb h0) (ea_cons (ev_var h1) ea_nil)) ⟨h8, by show j + 1 ≤ 1000; omega⟩
  refine (et_test (ev_isN (call rfl rfl))).imp fun b hb => ?_
  rw [← hb, colV_none]
  by_cases hn : colL ss (j + 1) ps.length = []
  · rw [decide_eq_true hn, if_pos rfl]
    have hne : j + 1 ≠ ps.length := fun q => own (q ▸ hn)
    refine xc_aug (a := ((j + 1 : Nat) : Int)) (b := 1) rfl ev_int ⟨ps.length - (j + 1), by omega, j + 1, by omega, rfl, fun i hi => ?_, ?_⟩
    · by_cases q : i = j
      · rw [q]
        exact hn
      · exact hall i (by omega)
    · rfl
  · rw [decide_eq_false hn, if_neg (by decide)]
    refine xc_ret (call rfl rfl) ?_
    show Re.ok (.dat (bestV ss ps.length true 12)) = _
    rw [bestV_at hall hn 12 (by omega)]
end
end K27

set_option Elab.async false
set_option linter.all false
set_option maxRecDepth 100000
set_option maxHeartbeats 4000000
namespace K27
open PySem PySem.Spec PyProof.Rows L2 Dl LamX StX RZ SM SD
section
variable {P : Program} {w : World} {K : PySem.W.Frag} {mg : Str → Option Value} {base : Heap} {C1 C2 C3 fI CS : Addr} (T : Tx P w K mg base C1 C2 C3 fI CS)
include T
theorem c__law_shuffled : Cal P w K mg base 2 "_law_shuffled" ["row", "things"] (spZ fun z : RowZ => spI K (rowFx K z) (fun l : List Nat => [.raw (.ref z.r), .dat (.list (dNs l))]) (fun l => l.length ≤ 100) (fun l r => ∃ o : List Nat, o.Perm l ∧ r = .ok (.dat (.list (dNs o))))) := by
  have c__law_taken := c__law_taken T
  refine mk_calZ T.d__law_shuffled sc__law_shuffled (fun _ _ => rfl) (fun _ _ _ _ _ _ us hl => match us, hl with | [_, _], _ => rfl) (fun z f cdv A outer s H E hr l hp => ⟨_, (pss_cons (ps_set (i := 2) sc__law_shuffled.nd rfl (Or.inl rfl) (pe_lst pa_nil))
      (pss_cons (ps_for (passes_of rfl) rfl (pi_list (pv 1)) (pg_name (i := 3) sc__law_shuffled.nd rfl (Or.inl rfl)) (pss_cons (ps_set (i := 4) sc__law_shuffled.nd rfl (Or.inl rfl) (pe_cal c__law_taken (hr.mono (by first | decide | omega)) rfl (pa_cons (pv 0) (pa_cons (pe_op op_add (pe_callB (r := fun xs H Q => ∃ p ys, xs = [.ref p] ∧ (SqL K H p ys ∨ SqT K H p ys) ∧ Q (.int ys.length) H) call_len_seq (by rfl) T.b_len (by decide +kernel) (pa_cons (pv 2) pa_nil)) pe_int) pa_nil))))
      (pss_one (ps_set (i := 2) sc__law_shuffled.nd rfl (Or.inl rfl) (pe_op (r := rCatL K) op_catL (pe_op (r := rCatL K) op_catL (pe_slice (r := rSlL K) sl_list (pv 2) po_none (po_some (pv 4))) (pe_lst (pa_cons (pv 3) pa_nil))) (pe_slice (r := rSlL K) sl_list (pv 2) (po_some (pv 4)) po_none))))))
      (pss_one (ps_ret (pv 2))))), fun G => ?_⟩)
  have hp : l.length ≤ 100 := hp
  refine xs_asg (S := ⟨K, rowFx K z, G, H, E⟩) (s := .dat (.list (dNs []))) ev_lst0 ?_
  refine xs_for (im_listE (ds := dNs l) (ev_var rfl)) (fun k ρ => ∃ (s3 s4 : Sl) (o : List Nat), o.Perm (l.take k) ∧ ρ = [.raw (.ref z.r), .dat (.list (dNs l)), .dat (.list (dNs o)), s3, s4]) ⟨.no, .no, [], by simp, rfl⟩ (fun k d ρ1 hd hI => ?_) fun ρ1 hI => ?_
  · obtain ⟨s3, s4, o, ho, rfl⟩ := hI
    obtain ⟨x, hx, rfl⟩ := dNs_get hd
    have hk := (List.getElem?_eq_some_iff.mp hx).1
    have hol : o.length = k := by rw [ho.length_eq, List.length_take]; omega
    refine ⟨_, _, tg_name, ?_⟩
    refine xs_asgP (ev_takenI (z := z) (ev_varR rfl) ((ev_I0 (ev_lenL (ds := dNs o) (el_of (ev_var rfl))) ev_int).toI (p := fun i => i = (k : Int) + 1) (by rw [dNs_len, hol])) fun m e => by omega) ?_
    rintro _ ⟨i, rfl, i0, m, hm, him⟩
    obtain ⟨at', rfl⟩ : ∃ n : Nat, i = n := ⟨i.toNat, by omega⟩
    have hat : at' ≤ o.length := by omega
    refine xc_asg (s := .dat (.list (dNs (o.take at' ++ [x] ++ o.drop at')))) ((ef_catL (ds := dNs (o.take at') ++ [.int (x : Nat)]) (es := dNs (o.drop at')) (el_of ((ef_catL (ds := dNs (o.take at')) (es := [.int (x : Nat)]) (el_of ((ef_cut (lo := none) (hi := some (at' : Int)) (el_of (ev_var rfl)) eo_none (eo_some (ev_var rfl))).evE.cast (by rw [cut_take _ _ (by rw [dNs_len]; exact hat)]; unfold dNs; rw [List.map_take]))) (el_of (ev_lst (ds := [.int (x : Nat)]) (ea_cons (ev_var rfl) ea_nil) (by simp))) (by rw [dNs_len, List.length_take]; simp; omega)).evE)) (el_of ((ef_cut (lo := some (at' : Int)) (hi := none) (el_of (ev_var rfl)) (eo_some (ev_var rfl)) eo_none).evE.cast (by rw [cut_drop _ _ (by rw [dNs_len]; exact hat)]; unfold dNs; rw [List.map_drop]))) (by rw [List.length_append, dNs_len, dNs_len, List.length_take, List.length_drop]; simp; omega)).evE.cast (by rw [dNs_app, dNs_app]; rfl)) ?_
    refine ⟨.dat (.int (x : Nat)), .dat (.int (at' : Nat)), _, ?_, rfl⟩
    rw [take_get hx, List.append_assoc, List.singleton_append]
    refine List.perm_middle.trans ?_
    rw [List.take_append_drop]
    exact (List.Perm.cons x ho).trans (List.perm_append_singleton x _).symm
  · obtain ⟨s3, s4, o, ho, rfl⟩ := hI
    rw [dNs_len, List.take_length] at ho
    exact xc_ret (ev_var rfl) ⟨o, ho, rfl⟩
theorem c__law_joins : Cal P w K mg base 1 "_law_joins" ["panels", "seams", "order"] (spI K fx0 (fun i : SI × List Nat => [.dat (.list (i.1.1.map dPn)), .dat (.list (i.1.2.map dSm)), .dat (dT i.2)]) (fun i => (∀ s ∈ i.1.2, seamOk i.1.1 s = true) ∧ i.1.1.length ≤ 100 ∧ i.2.length ≤ 100 ∧ ∀ x ∈ i.2, x < i.1.2.length) (fun i => Eq (.ok (.dat (joinsV i.1.1 i.1.2 i.2))))) := by
  refine mk_cal T.d__law_joins sc__law_joins (fun _ => rfl) (fun _ _ _ _ _ _ us hl => match us, hl with | [_, _, _], _ => rfl) (fun f cdv A outer s H E hr i hp => ⟨_, (pss_cons (ps_par (i := 3) (j := 4) (by rfl) sc__law_joins.nd rfl rfl (by decide) rfl rfl (pa_cons (pe_listRg rfl (by rfl) T.b_list (prg_1 (by rfl) T.b_range (pe_callB (r := fun xs H Q => ∃ p ys, xs = [.ref p] ∧ (SqL K H p ys ∨ SqT K H p ys) ∧ Q (.int ys.length) H) call_len_seq (by rfl) T.b_len (by decide +kernel) (pa_cons (pv 0) pa_nil)))) (pa_cons (pe_lst pa_nil) pa_nil)) (by rfl))
      (pss_cons (ps_for (passes_of rfl) rfl (pi_tup (pv 2)) (pg_name (i := 5) sc__law_joins.nd rfl (Or.inl rfl)) (pss_cons (ps_asg (pe_tup (pa_cons (pe_ix (r := rIxL K) ix_list (pv 3) (pe_ix (r := rIxT K) ix_tup (pe_ix (r := rIxL K) ix_list (pv 1) (pv 5) (fun _ _ => rfl)) pe_int (fun _ _ => rfl)) (fun _ _ => rfl)) (pa_cons (pe_ix (r := rIxL K) ix_list (pv 3) (pe_ix (r := rIxT K) ix_tup (pe_ix (r := rIxL K) ix_list (pv 1) (pv 5) (fun _ _ => rfl)) pe_int (fun _ _ => rfl)) (fun _ _ => rfl)) pa_nil))) (pg_tup (by rfl) (pgs_cons (pg_name (i := 6) sc__law_joins.nd rfl (Or.inr rfl)) (pgs_cons (pg_name (i := 7) sc__law_joins.nd rfl (Or.inr rfl)) pgs_nil))))
      (pss_cons (ps_expr (pe_bm PySem.F.plainAttrs_list PySem.F.slot_list_append PySem.F.type_list_append mt_append (pv 4) (pa_cons (pe_cmpR (r := rNeD K) (op_neD (u64 hr)) (pv 6) (pv 7) (nomark _)) pa_nil)))
      (pss_one (ps_setLc (i := 3) (own := [("name", 8)]) (by rfl) sc__law_joins.nd rfl rfl (sw_true rfl rfl rfl (by decide +kernel)) (pi_list (pv 3)) (blkOk_by (N := ["panels", "seams", "order", "group", "found", "at", "old", "new", "name"]) (sc := defScope s__law_joins) (own := [("name", 8)]) (by decide +kernel)) (fun _ _ _ _ _ => (pg_name (i := 8) sc__law_joins.nd rfl (by first | exact Or.inl rfl | exact Or.inr rfl))) (fun _ _ _ _ _ => pts_nil) (fun _ _ _ _ _ => (pe_ifExp (pt_cmpR (r := rEqD K) (op_eqD (u64 hr)) (pv 8) (pv 6) (nomark _)) (pv 7) (pv 8))))))))
      (pss_one (ps_ret (pv 4))))), fun G => ?_⟩)
  obtain ⟨⟨ps, ss⟩, o⟩ := i
  obtain ⟨hok, h1, h2, h3⟩ := hp
  have hok : ∀ s ∈ ss, seamOk ps s = true := hok
  have h1 : ps.length ≤ 100 := h1
  have h2 : o.length ≤ 100 := h2
  have h3 : ∀ x ∈ o, x < ss.length := h3
  refine xs_parPQ (S := ⟨K, fx0, G, H, E⟩) (p := fun s => s = .dat (.list (dNs (gr ps.length [])))) (m := fun _ => .lst []) ((((ef_listRg (n := ps.length) ((ev_lenL (ds := ps.map dPn) (el_of (ev_var rfl))).cast (by rw [List.length_map])) (by omega)).evE.cast (by rw [rng_dNs]; rfl)).imp fun s e => e.symm)) (EvF.toQ ef_nil) fun s af e => ?_
  subst e
  refine xs_for (im_tupE (ds := dNs o) (ev_var rfl)) (fun k ρ => ∃ s5 s6 s7 : Sl, ρ = [.dat (.list (ps.map dPn)), .dat (.list (ss.map dSm)), .dat (dT o), .dat (.list (dNs (gr ps.length (edg (prs ss) (o.take k))))), .own af (.lst (dBs (jn ps.length [] (edg (prs ss) (o.take k))))), s5, s6, s7, .no]) ⟨.no, .no, .no, rfl⟩ (fun k d ρ1 hd hI => ?_) fun ρ1 hI => ?_
  · obtain ⟨s4, s5, s6, rfl⟩ := hI
    obtain ⟨x, hx, rfl⟩ := dNs_get hd
    have hxl : x < ss.length := h3 x (List.mem_of_getElem? hx)
    have ep := prs_at hxl
    have e1 := edg_snoc (prs ss) (o.take k) x
    rw [← take_snoc' hx, ep] at e1
    rw [e1, gr_snoc, jn_snoc, List.nil_append]
    obtain ⟨⟨q1, q2, _⟩, _⟩ := seamOk_iff.mp (hok (ss.getD x default) (by rw [show ss.getD x default = ss[x] by simp [List.getD, hxl]]; exact List.getElem_mem hxl))
    have gl := gr_len ps.length (edg (prs ss) (o.take k))
    have hat := at_sm hxl
    have jl := jn_len ps.length (edg (prs ss) (o.take k)) []
    have jl2 : (edg (prs ss) (o.take k)).length ≤ 100 := by unfold edg; rw [List.length_map, List.length_take]; omega
    generalize ss.getD x default = sm at q1 q2 hat
    generalize edg (prs ss) (o.take k) = E' at gl jl jl2
    have h00 : jb ps.length E' (sm.1.1, sm.2.1) = decide ((gr ps.length E').getD sm.1.1 0 ≠ (gr ps.length E').getD sm.2.1 0) := rfl
    rw [h00]
    have h01 : stepG (gr ps.length E') (sm.1.1, sm.2.1) = (gr ps.length E').map fun x => if x = (gr ps.length E').getD sm.1.1 0 then (gr ps.length E').getD sm.2.1 0 else x := rfl
    rw [h01]
    generalize jn ps.length [] E' = js at jl
    generalize gr ps.length E' = g at gl
    have e1 := at_dNs (l := g) (i := sm.1.1) (by omega)
    have e2 := at_dNs (l := g) (i := sm.2.1) (by omega)
    generalize g.getD sm.1.1 0 = u at e1
    generalize g.getD sm.2.1 0 = v at e2
    refine ⟨_, _, tg_name, ?_⟩
    have ix : ∀ {ρ : Rho} {m : Nat} {c : D}, ρ[1]? = some (.dat (.list (ss.map dSm))) → ρ[5]? = some (.dat (.int (x : Nat))) → atI [.int (sm.1.1 : Nat), .int (sm.1.2 : Nat), .int (sm.2.1 : Nat), .int (sm.2.2 : Nat)] (m : Int) = some c → Ev ⟨K, fx0, G, H, E⟩ (tOp (rIxT K) (tOp (rIxL K) (tVar 1) (tVar 5)) (tC (.int (m : Nat)))) ρ (Eq (.dat c)) := fun h0 h4 hc => ev_ixU (ds := [.int (sm.1.1 : Nat), .int (sm.1.2 : Nat), .int (sm.2.1 : Nat), .int (sm.2.2 : Nat)]) (ev_ixL (ds := ss.map dSm) (el_of (ev_var h0)) (ev_var h4) hat) ev_int hc
    refine xs_asgT (d := .tuple [.int (u : Nat), .int (v : Nat)]) (ev_tup2 (ev_ixL (ds := dNs g) (el_of (ev_var rfl)) (ix (m := 0) rfl rfl rfl) e1) (ev_ixL (ds := dNs g) (el_of (ev_var rfl)) (ix (m := 2) rfl rfl rfl) e2)) tg_two ?_
    refine xs_append (i := 4) (p := fun d => d = .bool (decide (u ≠ v))) rfl ((ev_neI (i := (u : Int)) (j := (v : Int)) (ev_var rfl) (ev_var rfl)).imp fun s e => ⟨_, e.symm, by congr 1; rw [← decide_not]; exact decide_eq_decide.mpr (not_congr (eqv_i u v))⟩) (by unfold dBs; rw [List.length_map]; omega) fun d e => ?_
    subst e
    refine xc_asg (s := .dat (.list (dNs (g.map fun x => if x = u then v else x)))) ((ef_mapL (l := g) (dα := fun (x : Nat) => PyData.int (x : Int)) (f := fun x => .int ((if x = u then v else x : Nat) : Int)) (im_listE (ds := dNs g) (ev_var rfl)) (by omega) fun y _ => ⟨[8], _, by simp, tg_name, ev_if (b := decide (y = u)) (et_is (et_test (ev_eqI (i := (y : Int)) (j := (u : Int)) (ev_var rfl) (ev_var rfl))) (decide_eq_decide.mpr (eqv_i y u))) (fun z => (ev_var rfl).cast (by rw [if_pos (of_decide_eq_true z)])) fun z => (ev_var rfl).cast (by rw [if_neg (of_decide_eq_false z)])⟩).evE.cast (by unfold dNs; rw [List.map_map]; rfl)) ?_
    exact ⟨.dat (.int (x : Nat)), .dat (.int (u : Nat)), .dat (.int (v : Nat)), by unfold dBs; rw [List.map_append]; rfl⟩
  · obtain ⟨s4, s5, s6, rfl⟩ := hI
    rw [dNs_len, List.take_length]
    refine xs_freeze (i := 4) rfl ?_
    exact xc_ret (ev_var rfl) rfl
theorem c__law_orders : Cal P w K mg base 1 "_law_orders" ["many"] (spI K fx0 (fun m : Nat => [.dat (.int (m : Nat))]) (fun m => m ≤ 5) (fun m => Eq (.ok (.dat (.list (srtD ((ordL m).map dT))))))) := by
  refine mk_cal T.d__law_orders sc__law_orders (fun _ => rfl) (fun _ _ _ _ _ _ us hl => match us, hl with | [_], _ => rfl) (fun f cdv A outer s H E hr m hp => ⟨_, (pss_cons (ps_set (i := 1) sc__law_orders.nd rfl (Or.inl rfl) (pe_lst (pa_cons (pe_tup pa_nil) pa_nil)))
      (pss_cons (ps_for (passes_of rfl) rfl (pi_range1 (by rfl) T.b_range (pa_cons (pv 0) pa_nil)) (pg_name (i := 2) sc__law_orders.nd rfl (Or.inr rfl)) (pss_cons (ps_set (i := 3) sc__law_orders.nd rfl (Or.inl rfl) (pe_lst pa_nil))
      (pss_cons (ps_for (passes_of rfl) rfl (pi_list (pv 1)) (pg_name (i := 4) sc__law_orders.nd rfl (Or.inr rfl)) (pss_one (ps_set (i := 3) sc__law_orders.nd rfl (Or.inl rfl) (pe_op (r := rCatL K) op_catL (pv 3) (pe_lc (own := [("at", 5)]) (by rfl) sc__law_orders.nd (pi_range1 (by rfl) T.b_range (pa_cons (pe_op op_add (pe_callB (r := fun xs H Q => ∃ p ys, xs = [.ref p] ∧ (SqL K H p ys ∨ SqT K H p ys) ∧ Q (.int ys.length) H) call_len_seq (by rfl) T.b_len (by decide +kernel) (pa_cons (pv 4) pa_nil)) pe_int) pa_nil)) (blkOk_by (N := ["many", "found", "k", "longer", "one", "at"]) (sc := defScope s__law_orders) (own := [("at", 5)]) (by decide +kernel)) (fun _ _ _ _ _ => (pg_name (i := 5) sc__law_orders.nd rfl (by first | exact Or.inl rfl | exact Or.inr rfl))) (fun _ _ _ _ _ => pts_nil) (fun _ _ _ _ _ => (pe_op (r := rCatA K) op_catA (pe_op (r := rCatA K) op_catA (pe_slice (r := rSlA K) sl_tupA (pv 4) po_none (po_some (pv 5))) (pe_tup (pa_cons (pv 2) pa_nil))) (pe_slice (r := rSlA K) sl_tupA (pv 4) (po_some (pv 5)) po_none))))))))
      (pss_one (ps_set (i := 1) sc__law_orders.nd rfl (Or.inl rfl) (pv 3))))))
      (pss_one (ps_ret (pe_callB (r := rSortD K) (cr_sortD (u64 hr)) (by rfl) T.b_sorted (by decide +kernel) (pa_cons (pv 1) pa_nil)))))), fun G => ?_⟩)
  have hp : m ≤ 5 := hp
  refine xs_asg (S := ⟨K, fx0, G, H, E⟩) (s := .dat (.list ((ordL 0).map dT))) (ev_lst (ds := [.tuple []]) (ea_cons (ev_tup (ds := []) ea_nil (by simp)) ea_nil) (by simp)) ?_
  have hfac : fac 5 = 120 := by decide
  refine xs_for (im_rngN (n := m) (ev_var rfl) (by omega)) (fun k ρ => ∃ s2 s3 s4 : Sl, ρ = [.dat (.int (m : Nat)), .dat (.list ((ordL k).map dT)), s2, s3, s4, .no]) ⟨_, _, _, rfl⟩ (fun k d ρ1 hd hI => ?_) fun ρ1 hI => ?_
  · obtain ⟨s2, s3, s4, rfl⟩ := hI
    obtain ⟨k', hk', rfl⟩ := dNs_get hd
    obtain ⟨hkm, hke⟩ : k < m ∧ k' = k := by
      obtain ⟨h1, h2⟩ := List.getElem?_eq_some_iff.mp hk'
      rw [List.length_range] at h1
      exact ⟨h1, by rw [← h2]; simp⟩
    subst hke
    refine ⟨_, _, tg_name, ?_⟩
    refine xs_asg (s := .dat (.list ([].map dT))) ev_lst0 ?_
    have hlen : ∀ o ∈ ordL k', o.length = k' := fun o ho => by rw [(ord_mem.mp ho).length_eq, List.length_range]
    have hmany : (ordL k').length ≤ 120 := Nat.le_trans (ord_len k') (by rw [← hfac]; exact fac_mono (by omega))
    have hcs : ordL (k' + 1) = (ordL k').flatMap (ins1 k') := rfl
    rw [hcs]
    generalize ordL k' = cs at hlen hmany
    refine xs_for (im_listE (ds := cs.map dT) (ev_var rfl)) (fun i ρ => ∃ s4 : Sl, ρ = [.dat (.int (m : Nat)), .dat (.list (cs.map dT)), .dat (.int (k' : Nat)), .dat (.list (((cs.take i).flatMap (ins1 k')).map dT)), s4, .no]) ⟨_, rfl⟩ (fun i d ρ1 hd hI => ?_) fun ρ1 hI => ?_
    · obtain ⟨s4, rfl⟩ := hI
      obtain ⟨one, hone, rfl⟩ := map_get hd
      have ol := hlen one (List.mem_of_getElem? hone)
      have hL : ((cs.take i).flatMap (ins1 k')).length ≤ 1000 := by
        refine Nat.le_trans (flat_len (b := 6) fun x hx => by unfold ins1; rw [List.length_map, List.length_range, hlen x (List.mem_of_mem_take hx)]; omega) ?_
        rw [List.length_take]
        omega
      have il1 : (ins1 k' one).length ≤ 6 := by unfold ins1; rw [List.length_map, List.length_range]; omega
      refine ⟨_, _, tg_name, ?_⟩
      rw [take_get hone, List.flatMap_append]
      generalize (cs.take i).flatMap (ins1 k') = L at hL
      have e1 : [one].flatMap (ins1 k') = ins1 k' one := by simp
      rw [e1]
      refine xc_asg (s := .dat (.list ((L ++ ins1 k' one).map dT))) ((ef_catL (ds := L.map dT) (es := (ins1 k' one).map dT) (el_of (ev_var rfl)) (el_of ((ef_mapL (l := List.range (one.length + 1)) (dα := fun (x : Nat) => PyData.int (x : Int)) (f := fun a => dT (one.take a ++ [k'] ++ one.drop a)) (im_rngN (n := one.length + 1) ((ev_I0 (ev_lenU (ds := dNs one) (eu_of (ev_var rfl))) ev_int).cast (by rw [dNs_len]; rfl)) (by omega)) (by rw [List.length_range]; omega) fun a ha => ⟨[5], _, by simp, tg_name, ?_⟩).evE.cast (by unfold ins1; rw [List.map_map]; rfl))) (by rw [List.length_map, List.length_map]; omega)).evE.cast (by rw [List.map_append])) ⟨_, rfl⟩
      have hal : a ≤ one.length := by have := List.mem_range.mp ha; omega
      exact (ev_catA (ds := dNs (one.take a) ++ [.int (k' : Nat)]) (es := dNs (one.drop a)) (ev_catA (ds := dNs (one.take a)) (es := [.int (k' : Nat)]) ((ev_cutA (ds := dNs one) (lo := none) (hi := some (a : Int)) (ev_var rfl) eo_none (eo_some (ev_var rfl))).cast (by rw [cut_take _ _ (by rw [dNs_len]; exact hal)]; unfold dNs; rw [List.map_take])) (ev_tup1 (ev_var rfl)) (by rw [dNs_len, List.length_take]; simp; omega)) ((ev_cutA (ds := dNs one) (lo := some (a : Int)) (hi := none) (ev_var rfl) (eo_some (ev_var rfl)) eo_none).cast (by rw [cut_drop _ _ (by rw [dNs_len]; exact hal)]; unfold dNs; rw [List.map_drop])) (by rw [List.length_append, dNs_len, dNs_len, List.length_take, List.length_drop]; simp; omega)).cast (by unfold dT; rw [dNs_app, dNs_app]; rfl)
    · obtain ⟨s4, rfl⟩ := hI
      rw [List.length_map, List.take_length]
      exact xc_asg (ev_var rfl) ⟨_, _, _, rfl⟩
  · obtain ⟨s2, s3, s4, rfl⟩ := hI
    rw [dNs_len, List.length_range]
    refine xc_ret (ef_sortL (el_of (ev_var rfl)) ?_) rfl
    have hmany : (ordL m).length ≤ 120 := Nat.le_trans (ord_len m) (by rw [← hfac]; exact fac_mono (by omega))
    have hlen : ∀ o ∈ ordL m, o.length = m := fun o ho => by rw [(ord_mem.mp ho).length_eq, List.length_range]
    have hall : ∀ d ∈ (ordL m).map dT, okS d (.u 5 .z) = true := fun d hd => by
      obtain ⟨o, ho, rfl⟩ := List.mem_map.mp hd
      exact sc_dT (by rw [hlen o ho]; exact hp)
    rcases Nat.eq_zero_or_pos m with h0 | h0
    · subst h0
      exact ⟨fun d hd e he => okS_alike (hall d hd) (hall e he), .inr ⟨dT [], rfl, fun z => by cases z⟩, by simp [ordL], Nat.le_trans (okL_dp (okL_iff.mpr hall)) (by decide), okL_nd (okL_iff.mpr hall)⟩
    · refine sort_sc (.u 5 .z) hall (.inl fun d hd => ?_) (by rw [List.length_map]; omega)
      obtain ⟨o, ho, rfl⟩ := List.mem_map.mp hd
      have := hlen o ho
      cases o with
      | nil => simp at this; omega
      | cons x r => exact ⟨_, _, rfl⟩
theorem c__law_colours : Cal P w K mg base 1 "_law_colours" ["panels", "pairs", "many"] (spI K fx0 (fun i : SI × Nat => [.dat (.list (i.1.1.map dPn)), .dat (.list ((prs i.1.2).map dSd)), .dat (.int (i.2 : Nat))]) (fun i => Ok i.1.1 i.1.2 ∧ i.1.1.length ≤ 8 ∧ i.2 ≤ 1000) (fun i => Eq (.ok (.dat (colV i.1.2 i.2 i.1.1.length))))) := by
  refine mk_cal T.d__law_colours sc__law_colours (fun _ => rfl) (fun _ _ _ _ _ _ us hl => match us, hl with | [_, _, _], _ => rfl) (fun f cdv A outer s H E hr i hp => ⟨_, (pss_cons (ps_set (i := 3) sc__law_colours.nd rfl (Or.inl rfl) (pe_lst (pa_cons (pe_tup pa_nil) pa_nil)))
      (pss_cons (ps_for (passes_of rfl) rfl (pi_range1 (by rfl) T.b_range (pa_cons (pe_callB (r := fun xs H Q => ∃ p ys, xs = [.ref p] ∧ (SqL K H p ys ∨ SqT K H p ys) ∧ Q (.int ys.length) H) call_len_seq (by rfl) T.b_len (by decide +kernel) (pa_cons (pv 0) pa_nil)) pa_nil)) (pg_name (i := 4) sc__law_colours.nd rfl (Or.inr rfl)) (pss_cons (ps_par (i := 5) (j := 6) (by rfl) sc__law_colours.nd rfl rfl (by decide) rfl rfl (pa_cons (pe_lst pa_nil) (pa_cons (pe_lst pa_nil) pa_nil)) (by rfl))
      (pss_cons (ps_for (passes_of rfl) rfl (pi_list (pv 1)) (pg_name (i := 7) sc__law_colours.nd rfl (Or.inr rfl)) (pss_one (ps_set (i := 5) sc__law_colours.nd rfl (Or.inl rfl) (pe_op (r := rCatL K) op_catL (pv 5) (pe_lc (own := [("one", 8)]) (by rfl) sc__law_colours.nd (pi_tup (pv 7)) (blkOk_by (N := ["panels", "pairs", "many", "found", "panel", "near", "longer", "pair", "one", "colour", "other"]) (sc := defScope s__law_colours) (own := [("one", 8)]) (by decide +kernel)) (fun _ _ _ _ _ => (pg_name (i := 8) sc__law_colours.nd rfl (by first | exact Or.inl rfl | exact Or.inr rfl))) (fun _ _ _ _ _ => (pts_one (PW.pt (pw_and (pt_cmpR (r := rInS K) (op_inS (u65 hr)) (pv 4) (pv 7) (by rfl)) (pw_and1 (pt_cmpR op_lt (pv 8) (pv 4) (nomark _))))))) (fun _ _ _ _ _ => (pv 8)))))))
      (pss_cons (ps_for (passes_of rfl) rfl (pi_list (pv 3)) (pg_name (i := 8) sc__law_colours.nd rfl (Or.inr rfl)) (pss_one (ps_for (passes_of rfl) rfl (pi_range1 (by rfl) T.b_range (pa_cons (pv 2) pa_nil)) (pg_name (i := 9) sc__law_colours.nd rfl (Or.inl rfl)) (pss_one (ps_if (PW.pt (pw_and (pt_cmpR (r := rNotInS K) (op_notInS (u65 hr)) (pv 9) (pe_lc (own := [("other", 10)]) (by rfl) sc__law_colours.nd (pi_list (pv 5)) (blkOk_by (N := ["panels", "pairs", "many", "found", "panel", "near", "longer", "pair", "one", "colour", "other"]) (sc := defScope s__law_colours) (own := [("other", 10)]) (by decide +kernel)) (fun _ _ _ _ _ => (pg_name (i := 10) sc__law_colours.nd rfl (by first | exact Or.inl rfl | exact Or.inr rfl))) (fun _ _ _ _ _ => pts_nil) (fun _ _ _ _ _ => (pe_ix (r := rIxT K) ix_tup (pv 8) (pv 10) (fun _ _ => rfl)))) (by rfl)) (pw_and1 (pt_cmpR op_le (pv 9) (pe_op op_add (pe_callB (cr_maxA rfl (u64 hr)) (by rfl) T.b_max (by decide +kernel) (pa_cons (pe_op (r := rCatA K) op_catA (pv 8) (pe_tup (pa_cons (pe_un un_neg pe_int) pa_nil))) pa_nil)) pe_int) (nomark _))))) (pss_one (ps_expr (pe_bm PySem.F.plainAttrs_list PySem.F.slot_list_append PySem.F.type_list_append mt_append (pv 6) (pa_cons (pe_op (r := rCatA K) op_catA (pv 8) (pe_tup (pa_cons (pv 9) pa_nil))) pa_nil)))) pss_nil)))))
      (pss_one (ps_set (i := 3) sc__law_colours.nd rfl (Or.inl rfl) (pv 6)))))))
      (pss_one (ps_ret (pe_ifExp (pt_cmpR (r := rNeD K) (op_neD (u64 hr)) (pv 3) (pe_lst pa_nil) (nomark _)) (pe_callB (cr_minA rfl (u64 hr)) (by rfl) T.b_min (by decide +kernel) (pa_cons (pv 3) pa_nil)) pe_non))))), fun G => ?_⟩)
  obtain ⟨⟨ps, ss⟩, many⟩ := i
  obtain ⟨hk, h8, hm⟩ := hp
  have hk : Ok ps ss := hk
  have h8 : ps.length ≤ 8 := h8
  have hm : many ≤ 1000 := hm
  have h18 := hk.m
  have h3 : ∀ s ∈ ss, s.1.2 < 3 ∧ s.2.2 < 3 := fun s hs => by
    obtain ⟨⟨_, _, h1, h2⟩, _⟩ := seamOk_iff.mp (hk.ok s hs)
    exact ⟨h1, h2⟩
  have pl : (prs ss).length = ss.length := by unfold prs; rw [List.length_map]
  refine xs_asg (S := ⟨K, fx0, G, H, E⟩) (s := .dat (.list ((colL ss many 0).map dT))) (ev_lst (ds := [.tuple []]) (ea_cons (ev_tup (ds := []) ea_nil (by simp)) ea_nil) (by simp)) ?_
  refine xs_for (im_rngN (n := ps.length) ((ev_lenL (ds := ps.map dPn) (el_of (ev_var rfl))).cast (by rw [List.length_map])) (by omega)) (fun p ρ => ∃ s4 s5 s6 s7 s8 s9 : Sl, ρ = [.dat (.list (ps.map dPn)), .dat (.list ((prs ss).map dSd)), .dat (.int (many : Nat)), .dat (.list ((colL ss many p).map dT)), s4, s5, s6, s7, s8, s9, .no]) ⟨_, _, _, _, _, _, rfl⟩ (fun p d ρ1 hd hI => ?_) fun ρ1 hI => ?_
  · obtain ⟨s4, s5, s6, s7, s8, s9, rfl⟩ := hI
    obtain ⟨p', hp', rfl⟩ := dNs_get hd
    obtain ⟨hpn, hpe⟩ : p < ps.length ∧ p' = p := by
      obtain ⟨h1, h2⟩ := List.getElem?_eq_some_iff.mp hp'
      rw [List.length_range] at h1
      exact ⟨h1, by rw [← h2]; simp⟩
    subst hpe
    refine ⟨_, _, tg_name, ?_⟩
    refine xs_parPQ (p := fun s => s = .dat (.list (dNs (nearL [] p')))) (m := fun _ => .lst []) (ev_lst0.imp fun s e => e.symm) (EvF.toQ ef_nil) fun s al e => ?_
    subst e
    refine xs_for (im_listE (ds := (prs ss).map dSd) (ev_var rfl)) (fun i ρ => ∃ s7 : Sl, ρ = [.dat (.list (ps.map dPn)), .dat (.list ((prs ss).map dSd)), .dat (.int (many : Nat)), .dat (.list ((colL ss many p').map dT)), .dat (.int (p' : Nat)), .dat (.list (dNs (nearL ((prs ss).take i) p'))), .own al (.lst []), s7, s8, s9, .no]) ⟨_, rfl⟩ (fun i d ρ1 hd hI => ?_) fun ρ1 hI => ?_
    · obtain ⟨s7, rfl⟩ := hI
      obtain ⟨e, he, rfl⟩ := map_get hd
      refine ⟨_, _, tg_name, ?_⟩
      have hL : (nearL ((prs ss).take i) p').length ≤ 100 := by
        unfold nearL
        refine Nat.le_trans (flat_len (b := 2) fun x hx => List.length_filter_le _ _) ?_
        rw [List.length_take]
        omega
      have e1 : nearL ((prs ss).take (i + 1)) p' = nearL ((prs ss).take i) p' ++ ([e.1, e.2].filter fun x => (decide (p' = e.1) || decide (p' = e.2)) && decide (x < p')) := by
        unfold nearL
        rw [take_get he, List.flatMap_append]
        simp
      rw [e1]
      generalize nearL ((prs ss).take i) p' = L at hL
      have fl := List.length_filter_le (fun x => (decide (p' = e.1) || decide (p' = e.2)) && decide (x < p')) [e.1, e.2]
      refine xc_asg (s := .dat (.list (dNs (L ++ ([e.1, e.2].filter fun x => (decide (p' = e.1) || decide (p' = e.2)) && decide (x < p')))))) ((ef_catL (ds := dNs L) (es := dNs ([e.1, e.2].filter fun x => (decide (p' = e.1) || decide (p' = e.2)) && decide (x < p'))) (el_of (ev_var rfl)) (el_of (ef_filterL (l := [e.1, e.2]) (dα := fun (x : Nat) => PyData.int (x : Int)) (c := fun x => (decide (p' = e.1) || decide (p' = e.2)) && decide (x < p')) (f := fun (x : Nat) => PyData.int (x : Int)) (im_tupE (ds := [.int (e.1 : Nat), .int (e.2 : Nat)]) (ev_var rfl)) (by simp) fun x _ => ⟨[8], _, by simp, tg_name, ?_, fun _ => ev_var rfl⟩).evE) (by rw [dNs_len, dNs_len]; simp at fl; omega)).evE.cast (by rw [dNs_app])) ⟨.dat (dSd e), rfl⟩
      refine et_is (et_and (et_B (ev_inU (d := .int (p' : Nat)) (ds := dNs [e.1, e.2]) (ev_var rfl) (eu_of (ev_var rfl)) rfl (lay_nats _))) fun _ => et_test (ev_C0 (ev_var rfl) (ev_var rfl))) ?_
      rw [inD_nat]
      congr 1
      · simp
      · apply decide_eq_decide.mpr
        omega
    obtain ⟨s7, rfl⟩ := hI
    rw [List.length_map, List.take_length]
    have hlen : ∀ o ∈ colL ss many p', o.length = p' ∧ topc o ≤ p' := fun o ho => col_len ho
    have hmany : (colL ss many p').length ≤ fac 8 := Nat.le_trans (col_many p') (fac_mono (by omega))
    have hfac : fac 8 = 40320 := by decide
    have hnx : ∀ one, nxtL (nearL (prs ss) p') many one = nxt (beside ss p') many p' one := fun one => nxt_eq hk.nd h3 one
    have hnl : ∀ o ∈ nearL (prs ss) p', o < p' := fun o ho => by
      unfold nearL at ho
      obtain ⟨e, _, h2⟩ := List.mem_flatMap.mp ho
      have := (List.mem_filter.mp h2).2
      simp only [Bool.and_eq_true, decide_eq_true_eq] at this
      exact this.2
    have hnll : (nearL (prs ss) p').length ≤ 100 := by
      unfold nearL
      refine Nat.le_trans (flat_len (b := 2) fun x hx => List.length_filter_le _ _) ?_
      omega
    have hcs : colL ss many (p' + 1) = (colL ss many p').flatMap (nxtL (nearL (prs ss) p') many) := by
      rw [colL]
      exact congrArg (fun f => (colL ss many p').flatMap f) (funext fun one => (hnx one).symm)
    have hnn : ∀ one ∈ colL ss many p', (nxtL (nearL (prs ss) p') many one).length ≤ p' + 1 := fun one ho => by
      rw [hnx]
      exact nxt_len (hlen one ho).2
    rw [hcs]
    generalize nearL (prs ss) p' = near at hnn hnl hnll
    generalize colL ss many p' = cs at hlen hmany hnn
    refine xs_for (im_listE (ds := cs.map dT) (ev_var rfl)) (fun i ρ => ∃ s8 s9 : Sl, ρ = [.dat (.list (ps.map dPn)), .dat (.list ((prs ss).map dSd)), .dat (.int (many : Nat)), .dat (.list (cs.map dT)), .dat (.int (p' : Nat)), .dat (.list (dNs near)), .own al (.lst (((cs.take i).flatMap (nxtL near many)).map dT)), s7, s8, s9, .no]) ⟨_, _, rfl⟩ (fun i d ρ1 hd hI => ?_) fun ρ1 hI => ?_
    · obtain ⟨s8, s9, rfl⟩ := hI
      obtain ⟨one, hone, rfl⟩ := map_get hd
      have hmem := List.mem_of_getElem? hone
      obtain ⟨ol, ot⟩ := hlen one hmem
      have hn1 := hnn one hmem
      refine ⟨_, _, tg_name, ?_⟩
      have hL : ((cs.take i).flatMap (nxtL near many)).length ≤ 400000 := by
        refine Nat.le_trans (flat_len (b := p' + 1) fun x hx => hnn x (List.mem_of_mem_take hx)) ?_
        have : (cs.take i).length ≤ 40320 := by rw [List.length_take]; omega
        calc (p' + 1) * (cs.take i).length ≤ 9 * 40320 := Nat.mul_le_mul (by omega) this
          _ ≤ 400000 := by decide
      rw [take_get hone, List.flatMap_append]
      generalize (cs.take i).flatMap (nxtL near many) = L at hL
      have e1 : [one].flatMap (nxtL near many) = nxtL near many one := by simp
      rw [e1]
      have ok_at : ∀ o ∈ near, atI (dNs one) (o : Int) = some (.int (one.getD o 0 : Nat)) := fun o ho => at_dNs (by have := hnl o ho; omega)
      obtain ⟨y, ys, ey, em⟩ := max_top one
      refine xc_forE (im_rngN (n := many) (ev_var rfl) (by omega)) (fun j ρ => ∃ s9 : Sl, ρ = [.dat (.list (ps.map dPn)), .dat (.list ((prs ss).map dSd)), .dat (.int (many : Nat)), .dat (.list (cs.map dT)), .dat (.int (p' : Nat)), .dat (.list (dNs near)), .own al (.lst ((L ++ (((List.range many).take j).filter (fun c => okl near one c && decide (c ≤ topc one))).map fun c => one ++ [c]).map dT)), s7, .dat (dT one), s9, .no]) ⟨s9, by simp⟩ (fun j d ρ1 hd hI => ?_) fun ρ1 hI => ?_
      · obtain ⟨s9, rfl⟩ := hI
        obtain ⟨c, hc, rfl⟩ := dNs_get hd
        have hjl := (List.getElem?_eq_some_iff.mp hc).1
        rw [List.length_range] at hjl
        refine ⟨_, _, tg_name, ?_⟩
        refine xc_if (b := okl near one c && decide (c ≤ topc one)) (et_and (et_is (et_B (ev_notInL (d := .int (c : Nat)) (ds := dNs (near.map fun o => one.getD o 0)) (ev_var rfl) (el_of ?_) rfl (lay_nats _))) (by rw [inD_nat]; rfl)) fun _ => et_is (et_test (ev_C0 (ev_var rfl) (ev_I0 ((ev_maxA (.inr (eu_of ((ev_catA (ds := dNs one) (es := [.int (-1)]) (ev_var rfl) (ev_tup1 (ev_neg ev_int)) (by rw [dNs_len]; simp; omega)).cast (by rw [ey])))) (min_sc .z (fun d hd => by
            rw [← ey] at hd
            rcases List.mem_append.mp hd with q | q
            · exact sc_nats one d q
            · rw [List.mem_singleton.mp q]
              rfl) (by simp))).cast (by rw [em])) ev_int))) (by apply decide_eq_decide.mpr; omega)) (fun z => ?_) fun z => ?_
        · exact Ev.cast (EvF.evE (ef_mapL (l := near) (dα := fun (x : Nat) => PyData.int (x : Int)) (f := fun o => .int (one.getD o 0 : Nat)) (im_listE (ds := dNs near) (ev_var rfl)) (by omega) fun o ho => ⟨[10], _, by simp, tg_name, ev_ixU (ds := dNs one) (ev_var rfl) (ev_var rfl) (ok_at o ho)⟩)) (by unfold dNs; rw [List.map_map]; rfl)
        · refine xc_append (i := 6) (p := fun d => d = dT (one ++ [c])) rfl ((ev_catA (ds := dNs one) (es := [.int (c : Nat)]) (ev_var rfl) (ev_tup1 (ev_var rfl)) (by rw [dNs_len]; simp; omega)).imp fun s e => ⟨_, e.symm, by unfold dT; rw [dNs_app]; rfl⟩) ?_ fun d e => ?_
          · rw [List.length_map, List.length_append, List.length_map]
            have := List.length_filter_le (fun c => okl near one c && decide (c ≤ topc one)) ((List.range many).take j)
            rw [List.length_take, List.length_range] at this
            omega
          subst e
          refine ⟨.dat (.int (c : Nat)), ?_⟩
          rw [take_get hc, List.filter_append, List.filter_cons_of_pos (p := fun c => okl near one c && decide (c ≤ topc one)) z, List.filter_nil]
          simp only [List.map_append, List.append_assoc, List.map_cons, List.map_nil]
          rfl
        · refine xc_next ⟨.dat (.int (c : Nat)), ?_⟩
          rw [take_get hc, List.filter_append, List.filter_cons_of_neg (p := fun c => okl near one c && decide (c ≤ topc one)) (by rw [z]; simp), List.filter_nil, List.append_nil]
          rfl
      · obtain ⟨s9, rfl⟩ := hI
        refine ⟨.dat (dT one), s9, ?_⟩
        rw [dNs_len, List.take_length]
        rfl
    · obtain ⟨s8, s9, rfl⟩ := hI
      rw [List.length_map, List.take_length]
      refine xc_freeze (i := 6) rfl ?_
      exact xc_asg (ev_var rfl) ⟨_, _, _, _, _, _, rfl⟩
  · obtain ⟨s4, s5, s6, s7, s8, s9, rfl⟩ := hI
    rw [dNs_len, List.length_range]
    have hlen : ∀ o ∈ colL ss many ps.length, o.length ≤ 8 := fun o ho => by have := (col_len ho).1; omega
    have hmany : (colL ss many ps.length).length ≤ fac 8 := Nat.le_trans (col_many ps.length) (fac_mono h8)
    have hfac : fac 8 = 40320 := by decide
    refine xc_ret (ev_if (b := !decide ((colL ss many ps.length).map dT = [])) (et_is (et_test (ev_neD (d := .list ((colL ss many ps.length).map dT)) (d' := .list []) (ev_var rfl) ev_lst0 (shaped_sc (t := .l 40320 (.u 8 .z)) (okS_lm (by omega) fun o ho => sc_dT (hlen o ho))) rfl)) (by rw [eqv_nilL])) (fun z => ?_) fun z => ?_) rfl
    · obtain ⟨y, ys, e⟩ := min_of (ds := (colL ss many ps.length).map dT) (by simpa using z)
      have hmo := min_cols hlen
      have hv : colV ss many ps.length = PySem.W.minD y ys := by unfold colV; rw [e]; rfl
      show Ev _ _ _ (Eq (.dat (colV ss many ps.length)))
      rw [hv]
      rw [e] at hmo
      exact ev_minA (.inl (el_of ((ev_var rfl).cast (by rw [e])))) hmo
    · have e : (colL ss many ps.length).map dT = [] := by simpa using z
      show Ev _ _ _ (Eq (.dat (colV ss many ps.length)))
      have hv : colV ss many ps.length = .none := by unfold colV; rw [e]; rfl
      rw [hv]
      exact ev_non
end
end K27

set_option Elab.async false
set_option linter.all false
set_option maxRecDepth 100000
set_option maxHeartbeats 4000000
namespace K27
open PySem PySem.Spec PyProof.Rows L2 Dl LamX StX RZ SM SD
theorem rev_sort (bs : List Bool) : (srtD (dBs bs)).reverse = dBs (List.replicate (bs.count true) true ++ List.replicate (bs.count false) false) := by
  have e : srtD (dBs bs) = dBs (bs.mergeSort fun a b => !a || b) := srtD_map fun a _ b _ => by rw [dle_bool]
  have pm := List.mergeSort_perm bs fun a b => !a || b
  have pw := List.pairwise_mergeSort (le := fun a b : Bool => !a || b) (fun a b c => by cases a <;> cases b <;> cases c <;> simp) (fun a b => by cases a <;> cases b <;> simp) bs
  have sb := sortedB (pw.imp fun {a b} h ha => by subst ha; simpa using h)
  rw [pm.count_eq, pm.count_eq] at sb
  rw [e, sb]
  unfold dBs
  rw [← List.map_reverse, List.reverse_append, List.reverse_replicate, List.reverse_replicate]
def desc (bs : List Bool) : Bool := decide (bs = List.replicate (bs.count true) true ++ List.replicate (bs.count false) false)
theorem desc_of {a b : Nat} : desc (List.replicate a true ++ List.replicate b false) = true := by
  unfold desc
  rw [decide_eq_true_eq]
  congr 1
  · congr 1
    simp [List.count_replicate]
  · congr 1
    simp [List.count_replicate]
theorem desc_iff (bs : List Bool) : (PyData.list (dBs bs) = .list (srtD (dBs bs)).reverse) ↔ desc bs = true := by
  rw [PyData.list.injEq, rev_sort, dBs_inj]
  unfold desc
  rw [decide_eq_true_eq]
theorem prs_len (ss : List Sm) : (prs ss).length = ss.length := by
  unfold prs
  rw [List.length_map]
theorem easy_perm' (n : Nat) (ss : List Sm) : (easy n (prs ss)).Perm (List.range ss.length) := by
  have := easy_perm n (prs ss)
  rwa [prs_len] at this
theorem easy_desc {ps : List Pn} {ss : List Sm} (h : Ok ps ss) : desc (jn ps.length [] (edg (prs ss) (easy ps.length (prs ss)))) = true := by
  rw [easy_joins (in_prs h.ok)]
  exact desc_of
theorem good_first {ps : List Pn} {ss : List Sm} (h : Ok ps ss) : ∃ r, (((ordL ss.length).mergeSort fun a b => !decide (b < a)).filter fun o => desc (jn ps.length [] (edg (prs ss) o))) = easy ps.length (prs ss) :: r := by
  refine first_least (c := fun o => desc (jn ps.length [] (edg (prs ss) o))) (ord_mem.mpr (easy_perm' _ _)) (easy_desc h) fun o ho hd => ?_
  have hp := ord_mem.mp ho
  have hd := of_decide_eq_true hd
  rw [sail_joins h hp] at hd
  have he := sail_joins h (easy_perm' ps.length ss)
  rw [easy_joins (in_prs h.ok), List.count_append] at he
  simp [List.count_replicate] at he
  refine easy_least (in_prs h.ok) (by rw [prs_len]; exact hp) hd ?_
  omega
theorem pcs_len : ∀ (l : List Bool) (n : Int), (pcs n l).length = l.length
  | [], _ => rfl
  | b :: l, n => by rw [pcs, List.length_cons, List.length_cons, pcs_len l]
theorem sum_ones (l : List Bool) : ((l.filter id).map fun _ => (1 : Int)).sum = (l.count true : Nat) := by
  induction l with
  | nil => rfl
  | cons b l ih =>
    cases b
    · rw [List.filter_cons_of_neg (by simp), ih, List.count_cons_of_ne (by decide)]
    · rw [List.filter_cons_of_pos (by simp), List.map_cons, List.sum_cons, ih, List.count_cons_self]
      omega
theorem colV_is (ss : List Sm) (many n : Nat) : colV ss many n = .none ∨ ∃ o : List Nat, o.length = n ∧ colV ss many n = dT o := by
  unfold colV
  cases e : (colL ss many n).map dT with
  | nil => exact .inl rfl
  | cons y ys =>
    refine .inr ?_
    have := minD_mem y ys
    rw [← e] at this
    obtain ⟨o, ho, h⟩ := List.mem_map.mp this
    exact ⟨o, (col_len ho).1, h.symm⟩
theorem bestV_is (ss : List Sm) (n : Nat) (f : Bool) : ∀ k, bestV ss n f k = .none ∨ ∃ o : List Nat, o.length = n ∧ bestV ss n f k = dT o
  | 0 => .inl rfl
  | k + 1 => by
    rw [bestV_succ]
    split
    · exact colV_is ss (k + 1) n
    · exact bestV_is ss n f k
def oddV (m : Nat) : List D := [.none, .list (dNs (List.range m)), dT [m], dT (List.replicate (m + 1) 0), .tuple [.int (-1)], .int 5]
theorem odd_ok {m : Nat} (h : m ≤ 18) : ∀ d ∈ oddV m, ¬ isOrd m d ∧ shT d ∧ ShowOk (.tuple [.str "order", d]) := by
  intro d hd
  simp only [oddV, List.mem_cons, List.not_mem_nil, or_false] at hd
  have sm : ∀ {l : List Nat}, (∀ x ∈ l, x ≤ 100) → ∀ d ∈ dNs l, okS d .i = true := fun hl d hd => by
    obtain ⟨x, hx, rfl⟩ := List.mem_map.mp hd
    have := hl x hx
    simp [okS]
    omega
  have sh : ∀ {d : D} {t : Sc}, okS d t = true → nzS t = true → lnS t ≤ 1000000 → dpS t ≤ 10 → ShowOk (.tuple [.str "order", d]) := fun {d t} h1 h2 h3 h4 => show_sc (.t [.s 5, t]) (by
    have hw : okS (.str "order") (.s 5) = true := by decide +kernel
    simp only [okS, okTs, Bool.and_true, h1] at hw ⊢
    exact hw) rfl (by simp [nzS, nzT, h2]) (by simp [lnS, lnT]; omega) (by simp [dpS, dpT]; omega)
  rcases hd with rfl | rfl | rfl | rfl | rfl | rfl
  · exact ⟨fun ⟨o, e, _⟩ => (by cases e), fun ds e => (by cases e), sh (t := .n) rfl rfl (by decide) (by decide)⟩
  · refine ⟨fun ⟨o, e, _⟩ => (by cases e), fun ds e => (by cases e), sh (t := .l 18 .i) (okS_l (by rw [dNs_len, List.length_range]; exact h) (sm fun x hx => by have := List.mem_range.mp hx; omega)) rfl (by decide) (by decide)⟩
  · refine ⟨fun ⟨o, e, ho⟩ => ?_, fun ds e => (by cases e; simp [dNs]), sh (t := .u 18 .i) (okS_u (by simp [dNs]) (sm fun x hx => by rw [List.mem_singleton.mp hx]; omega)) rfl (by decide) (by decide)⟩
    have := dT_inj.mp e
    subst this
    have := List.mem_range.mp (ho.mem_iff.mp (List.mem_singleton.mpr rfl))
    omega
  · refine ⟨fun ⟨o, e, ho⟩ => ?_, fun ds e => (by cases e; rw [dNs_len, List.length_replicate]; omega), sh (t := .u 19 .i) (okS_u (by rw [dNs_len, List.length_replicate]; omega) (sm fun x hx => by rw [(List.mem_replicate.mp hx).2]; omega)) rfl (by decide) (by decide)⟩
    have := dT_inj.mp e
    subst this
    have := ho.length_eq
    simp at this
  · refine ⟨fun ⟨o, e, ho⟩ => ?_, fun ds e => (by cases e; simp), sh (t := .t [.i]) rfl rfl (by decide) (by decide)⟩
    have h1 : dNs o = [.int (-1)] := (PyData.tuple.inj e).symm
    have h2 : (PyData.int (-1)) ∈ dNs o := by rw [h1]; simp
    obtain ⟨x, _, hx⟩ := List.mem_map.mp h2
    have := PyData.int.inj hx
    omega
  · exact ⟨fun ⟨o, e, _⟩ => (by cases e), fun ds e => (by cases e), sh (t := .i) rfl rfl (by decide) (by decide)⟩
theorem rep1 (n : Nat) : (List.replicate n [PyData.int 0]).flatten = dNs (List.replicate n 0) := by
  induction n with
  | zero => rfl
  | succ n ih =>
    rw [List.replicate_succ, List.flatten_cons, ih, List.replicate_succ]
    rfl
section
variable {P : Program} {w : World} {K : PySem.W.Frag} {mg : Str → Option Value} {base : Heap} {C1 C2 C3 fI CS : Addr} (T : Tx P w K mg base C1 C2 C3 fI CS)
include T
theorem told_order : Told K C3 "order" [(C3, "order")] := by
  obtain ⟨b1, h1, t1, f1⟩ := T.told3
  cases b1 with
  | true => exact absurd (t1 rfl).2 (by decide)
  | false =>
    obtain ⟨b2, h2, t2, f2⟩ := f1 rfl
    cases b2 with
    | true => exact absurd (t2 rfl).2 (by decide)
    | false => exact f2 rfl
theorem c_ask {N : List Str} {sc : Scope} {fa c Tb : Addr} {A : Around} {s : Shared} {H : Hp} {E : XK} (tb : TabB base mg c Tb) :
    ∃ g, AskOk (cxOf (L2.CX P w) P w K mg base N "law" sc fa (.ref c) A [] s H E) "_law_refused" "ask" ["ask", "e"] g c Tb (TRef K [(C3, "order")]) := by
  refine ask_ok T.d__law_refused sc__law_refused (.inl rfl) tb (by decide) (fun _ _ _ _ _ _ us hl => match us, hl with | [_], _ => rfl) fun g cdg => ?_
  refine ref_gives (by decide) rfl fun s H => ?_
  exact HdsN.cons ⟨rfl, by decide, .inl T.e_BadSeamOrder.gC⟩ (fun a oe cls d pn hz hf => pss_one (ps_ret (pe_tup (pa_cons pe_str (pa_cons (pe_xf T.e_BadSeamOrder.xf T.e_BadSeamOrder.nv hz hf (pv 1)) pa_nil))))) .nil
omit T in
theorem evx_ask {fx : Fx} {G0 B : Hp} {E0' : XK} {ρ : Rho} {ta : TA} {v : V} {f1 f2 : Addr} {ps : List Pn} {ss : List Sm} {d : D} (hj : ρ[16]? = some (.raw v)) (hv : v = .ref f1 ∨ v = .ref f2) (ha : EvA ⟨K, fx, G0, B, E0'⟩ ta ρ (Eq [obS CS ps ss, .dat d])) (hp : OI.pre (.no ps ss d)) :
    EvX ⟨K, fx, G0, B, E0'⟩ (fun E => tAlt (tCallL 16 f1 (spI K fx0 (OI.args CS) OI.pre (fun i => Eq (OI.r C3 joinsV i))) [] E ta) (tCallL 16 f2 (spI K fx0 (OI.args CS) OI.pre (fun i => Eq (OI.r C3 piecesV i))) [] E ta)) ρ (fun _ => False) (fun C' d' => C' = C3 ∧ d' = d) := by
  rcases hv with rfl | rfl
  · exact evx_alt1 (evx_callLV (.no ps ss d) hj ha hp rfl)
  · exact evx_alt2 (evx_callLV (.no ps ss d) hj ha hp rfl)
open Classical in
theorem law_body {fa c Tb a : Addr} {s : Shared} {H : Hp} {ns : List Int} (tb : TabB base mg c Tb) (hr : Room 27 (callerA.deeper (envOfC "law" (defScope s_law) s.heap.objs.size fa (.ref c)))) (hT : H Tb = some (.tbl #[])) (naT : a ≠ Tb) (hS : SqL K H a (ns.map V.int)) :
    ∃ t, PSs (cxOf (L2.CX P w) P w K mg base ["script", "row", "panels", "seams", "turn", "order", "due", "left", "pieces", "is_one", "easy", "told", "good", "pairs", "best", "many", "ask", "odd", "sail", "seam", "pair", "one"] "law" (defScope s_law) fa (.ref c) callerA [] s H (fun _ _ _ => False)) (defBody s_law) t ∧ t { nx := fun _ H' => V.non = .bl true, rt := fun v _ => v = .bl true } (L2.start ["script", "row", "panels", "seams", "turn", "order", "due", "left", "pieces", "is_one", "easy", "told", "good", "pairs", "best", "many", "ask", "odd", "sail", "seam", "pair", "one"] [.ref a]) H := by
  have c__law_taken := c__law_taken T
  have c__law_pick := c__law_pick T
  have c__law_alike := c__law_alike T 4
  have c__law_sail := c__law_sail T
  have c__law_shuffled := c__law_shuffled T
  have c__law_joins := c__law_joins T
  have c__law_orders := c__law_orders T
  have c__law_colours := c__law_colours T
  have c_Sail := c_Sail T
  have c_joins := c_joins T
  have c_pieces_after := c_pieces_after T
  have c_easy_order := c_easy_order T
  have c_colours := c_colours T
  obtain ⟨f1, _, _, g_joins⟩ := T.d_joins
  obtain ⟨f2, _, _, g_pieces_after⟩ := T.d_pieces_after
  obtain ⟨ga, O⟩ := c_ask T (N := ["script", "row", "panels", "seams", "turn", "order", "due", "left", "pieces", "is_one", "easy", "told", "good", "pairs", "best", "many", "ask", "odd", "sail", "seam", "pair", "one"]) (sc := defScope s_law) (fa := fa) (A := callerA) (s := s) (H := H) (E := fun _ _ _ => False) tb
  have hgu : (callerA.deeper (envOfC "law" (defScope s_law) s.heap.objs.size fa (.ref c))).guards = some [] := rfl
  refine ⟨_, (pss_cons (ps_set (i := 1) sc_law.nd rfl (Or.inl rfl) (pe_lst (pa_cons (pv 0) (pa_cons pe_int (pa_cons pe_int (pa_cons pe_int pa_nil))))))
      (pss_cons (ps_asg (pe_cal c__law_sail (hr.mono (by first | decide | omega)) rfl (pa_cons (pv 1) (pa_cons (pe_op op_add pe_int (pe_cal c__law_taken (hr.mono (by first | decide | omega)) rfl (pa_cons (pv 1) (pa_cons pe_int pa_nil)))) pa_nil))) (pg_tup (by rfl) (pgs_cons (pg_name (i := 2) sc_law.nd rfl (Or.inr rfl)) (pgs_cons (pg_name (i := 3) sc_law.nd rfl (Or.inr rfl)) pgs_nil))))
      (pss_cons (ps_set (i := 18) sc_law.nd rfl (Or.inr rfl) (pe_calK c_Sail (hr.mono (by first | decide | omega)) rfl (pa_cons (pv 2) (pa_cons (pv 3) pa_nil))))
      (pss_cons (ps_for (passes_of rfl) rfl (pi_range1 (by rfl) T.b_range (pa_cons pe_int pa_nil)) (pg_name (i := 4) sc_law.nd rfl (Or.inl rfl)) (pss_cons (ps_set (i := 5) sc_law.nd rfl (Or.inl rfl) (pe_callTy (T := "tuple") (r := fun xs H Q => ∃ p ys, xs = [.ref p] ∧ ((SqL K H p ys ∧ ∀ l, H l = none → Q (.ref l) (upd H l (.tup ys))) ∨ (SqT K H p ys ∧ Q (.ref p) H))) call_tuple_of (by rfl) T.b_tuple (by decide +kernel) (pa_cons (pe_cal c__law_shuffled (hr.mono (by first | decide | omega)) rfl (pa_cons (pv 1) (pa_cons (pe_listRg rfl (by rfl) T.b_list (prg_1 (by rfl) T.b_range (pe_callB (r := fun xs H Q => ∃ p ys, xs = [.ref p] ∧ (SqL K H p ys ∨ SqT K H p ys) ∧ Q (.int ys.length) H) call_len_seq (by rfl) T.b_len (by decide +kernel) (pa_cons (pv 3) pa_nil)))) pa_nil))) pa_nil)))
      (pss_cons (ps_par3 (i := 6) (j := 7) (l := 8) (by rfl) sc_law.nd rfl rfl rfl (by decide) (by decide) (by decide) rfl rfl rfl (pa_cons (pe_cal c__law_joins (hr.mono (by first | decide | omega)) rfl (pa_cons (pv 2) (pa_cons (pv 3) (pa_cons (pv 5) pa_nil)))) (pa_cons (pe_callB (r := fun xs H Q => ∃ p ys, xs = [.ref p] ∧ (SqL K H p ys ∨ SqT K H p ys) ∧ Q (.int ys.length) H) call_len_seq (by rfl) T.b_len (by decide +kernel) (pa_cons (pv 2) pa_nil)) (pa_cons (pe_lst pa_nil) pa_nil))) (by rfl))
      (pss_cons (ps_for (passes_of rfl) rfl (pi_list (pv 6)) (pg_name (i := 9) sc_law.nd rfl (Or.inl rfl)) (pss_cons (ps_set (i := 7) sc_law.nd rfl (Or.inl rfl) (pe_op op_sub (pv 7) (pe_ifExp (pt_val (pv 9)) pe_int pe_int)))
      (pss_one (ps_expr (pe_bm PySem.F.plainAttrs_list PySem.F.slot_list_append PySem.F.type_list_append mt_append (pv 8) (pa_cons (pv 7) pa_nil))))))
      (pss_one (ps_if (PW.pt (pw_or (pt_not (pt_val (pe_cal c__law_alike (hr.mono (by first | decide | omega)) rfl (pa_cons (pe_cal c_joins (hr.mono (by first | decide | omega)) rfl (pa_cons (pv 18) (pa_cons (pv 5) pa_nil))) (pa_cons (pv 6) pa_nil))))) (pw_or (pt_not (pt_val (pe_cal c__law_alike (hr.mono (by first | decide | omega)) rfl (pa_cons (pe_cal c_pieces_after (hr.mono (by first | decide | omega)) rfl (pa_cons (pv 18) (pa_cons (pv 5) pa_nil))) (pa_cons (pv 8) pa_nil))))) (pw_or1 (pt_cmpR (r := rNeD K) (op_neD (u64 hr)) (pe_callB (r := rSum K) (cr_sum rfl) (by rfl) T.b_sum (by decide +kernel) (pa_cons (pe_lc (own := [("one", 21)]) (by rfl) sc_law.nd (pi_list (pv 6)) (blkOk_by (N := ["script", "row", "panels", "seams", "turn", "order", "due", "left", "pieces", "is_one", "easy", "told", "good", "pairs", "best", "many", "ask", "odd", "sail", "seam", "pair", "one"]) (sc := defScope s_law) (own := [("one", 21)]) (by decide +kernel)) (fun _ _ _ _ _ => (pg_name (i := 21) sc_law.nd rfl (by first | exact Or.inl rfl | exact Or.inr rfl))) (fun _ _ _ _ _ => (pts_one (pt_val (pv 21)))) (fun _ _ _ _ _ => pe_int)) pa_nil)) (pe_op op_sub (pe_callB (r := fun xs H Q => ∃ p ys, xs = [.ref p] ∧ (SqL K H p ys ∨ SqT K H p ys) ∧ Q (.int ys.length) H) call_len_seq (by rfl) T.b_len (by decide +kernel) (pa_cons (pv 2) pa_nil)) pe_int) (nomark _)))))) (pss_one (ps_ret pe_bl)) pss_nil))))))
      (pss_cons (ps_set (i := 10) sc_law.nd rfl (Or.inl rfl) (pe_cal c_easy_order (hr.mono (by first | decide | omega)) rfl (pa_cons (pv 18) pa_nil)))
      (pss_cons (ps_set (i := 11) sc_law.nd rfl (Or.inl rfl) (pe_cal c__law_joins (hr.mono (by first | decide | omega)) rfl (pa_cons (pv 2) (pa_cons (pv 3) (pa_cons (pv 10) pa_nil)))))
      (pss_cons (ps_if (PW.pt (pw_or (pt_cmpR (r := rNeD K) (op_neD (u64 hr)) (pe_callB (r := rSortD K) (cr_sortD (u64 hr)) (by rfl) T.b_sorted (by decide +kernel) (pa_cons (pv 10) pa_nil)) (pe_listRg rfl (by rfl) T.b_list (prg_1 (by rfl) T.b_range (pe_callB (r := fun xs H Q => ∃ p ys, xs = [.ref p] ∧ (SqL K H p ys ∨ SqT K H p ys) ∧ Q (.int ys.length) H) call_len_seq (by rfl) T.b_len (by decide +kernel) (pa_cons (pv 3) pa_nil)))) (nomark _)) (pw_or (pt_not (pt_val (pe_callB (r := rIsY K) call_isY (by rfl) T.b_isinstance (by decide +kernel) (pa_cons (pv 10) (pa_cons (pe_bltn (v := .ty "tuple") (u := .type "tuple") (by rfl) T.b_tuple (by decide +kernel) rfl) pa_nil))))) (pw_or1 (pt_cmpR (r := rNeD K) (op_neD (u64 hr)) (pv 11) (pe_revL' (K := K) rfl (pe_callB (r := rSortD K) (cr_sortD (u64 hr)) (by rfl) T.b_sorted (by decide +kernel) (pa_cons (pv 11) pa_nil))) (nomark _)))))) (pss_one (ps_ret pe_bl)) pss_nil)
      (pss_cons (ps_if (pt_cmpR op_lt (pe_callB (r := fun xs H Q => ∃ p ys, xs = [.ref p] ∧ (SqL K H p ys ∨ SqT K H p ys) ∧ Q (.int ys.length) H) call_len_seq (by rfl) T.b_len (by decide +kernel) (pa_cons (pv 3) pa_nil)) pe_int (nomark _)) (pss_cons (ps_setLc (i := 12) (own := [("order", 5)]) (by rfl) sc_law.nd rfl rfl (sw_true rfl rfl rfl (by decide +kernel)) (pi_list (pe_cal c__law_orders (hr.mono (by first | decide | omega)) rfl (pa_cons (pe_callB (r := fun xs H Q => ∃ p ys, xs = [.ref p] ∧ (SqL K H p ys ∨ SqT K H p ys) ∧ Q (.int ys.length) H) call_len_seq (by rfl) T.b_len (by decide +kernel) (pa_cons (pv 3) pa_nil)) pa_nil))) (blkOk_by (N := ["script", "row", "panels", "seams", "turn", "order", "due", "left", "pieces", "is_one", "easy", "told", "good", "pairs", "best", "many", "ask", "odd", "sail", "seam", "pair", "one"]) (sc := defScope s_law) (own := [("order", 5)]) (by decide +kernel)) (fun _ _ _ _ _ => (pg_name (i := 5) sc_law.nd rfl (by first | exact Or.inl rfl | exact Or.inr rfl))) (fun _ _ _ _ _ => (pts_one (pt_cmpR (r := rEqD K) (op_eqD (u64 hr)) (pe_cal c__law_joins (hr.mono (by first | decide | omega)) rfl (pa_cons (pv 2) (pa_cons (pv 3) (pa_cons (pv 5) pa_nil)))) (pe_revL' (K := K) rfl (pe_callB (r := rSortD K) (cr_sortD (u64 hr)) (by rfl) T.b_sorted (by decide +kernel) (pa_cons (pe_cal c__law_joins (hr.mono (by first | decide | omega)) rfl (pa_cons (pv 2) (pa_cons (pv 3) (pa_cons (pv 5) pa_nil)))) pa_nil))) (nomark _)))) (fun _ _ _ _ _ => (pv 5)))
      (pss_one (ps_if (pt_cmpR (r := rNeD K) (op_neD (u64 hr)) (pv 10) (pe_ix (r := rIxL K) ix_list (pv 12) pe_int (fun _ _ => rfl)) (nomark _)) (pss_one (ps_ret pe_bl)) pss_nil))) pss_nil)
      (pss_cons (ps_setLc (i := 13) (own := [("seam", 19)]) (by rfl) sc_law.nd rfl rfl (sw_true rfl rfl rfl (by decide +kernel)) (pi_list (pv 3)) (blkOk_by (N := ["script", "row", "panels", "seams", "turn", "order", "due", "left", "pieces", "is_one", "easy", "told", "good", "pairs", "best", "many", "ask", "odd", "sail", "seam", "pair", "one"]) (sc := defScope s_law) (own := [("seam", 19)]) (by decide +kernel)) (fun _ _ _ _ _ => (pg_name (i := 19) sc_law.nd rfl (by first | exact Or.inl rfl | exact Or.inr rfl))) (fun _ _ _ _ _ => pts_nil) (fun _ _ _ _ _ => (pe_tup (pa_cons (pe_ix (r := rIxT K) ix_tup (pv 19) pe_int (fun _ _ => rfl)) (pa_cons (pe_ix (r := rIxT K) ix_tup (pv 19) pe_int (fun _ _ => rfl)) pa_nil)))))
      (pss_cons (ps_set (i := 14) sc_law.nd rfl (Or.inl rfl) pe_non)
      (pss_cons (ps_for (passes_of rfl) rfl (pi_range2 (by rfl) T.b_range (pa_cons pe_int (pa_cons pe_int pa_nil))) (pg_name (i := 15) sc_law.nd rfl (Or.inl rfl)) (pss_one (ps_if (PW.pt (pw_and (pt_cmpR op_isN (pv 14) pe_non (nomark _)) (pw_and1 (pt_cmpR (r := rEqD K) (op_eqD (u64 hr)) (pe_lc (own := [("pair", 20)]) (by rfl) sc_law.nd (pi_list (pv 13)) (blkOk_by (N := ["script", "row", "panels", "seams", "turn", "order", "due", "left", "pieces", "is_one", "easy", "told", "good", "pairs", "best", "many", "ask", "odd", "sail", "seam", "pair", "one"]) (sc := defScope s_law) (own := [("pair", 20)]) (by decide +kernel)) (fun _ _ _ _ _ => (pg_name (i := 20) sc_law.nd rfl (by first | exact Or.inl rfl | exact Or.inr rfl))) (fun _ _ _ _ _ => (pts_one (pt_cmpR (r := rEqD K) (op_eqD (u64 hr)) (pe_ix (r := rIxT K) ix_tup (pv 20) pe_int (fun _ _ => rfl)) (pe_ix (r := rIxT K) ix_tup (pv 20) pe_int (fun _ _ => rfl)) (nomark _)))) (fun _ _ _ _ _ => (pv 20))) (pe_lst pa_nil) (nomark _))))) (pss_one (ps_set (i := 14) sc_law.nd rfl (Or.inl rfl) (pe_cal c__law_colours (hr.mono (by first | decide | omega)) rfl (pa_cons (pv 2) (pa_cons (pv 13) (pa_cons (pv 15) pa_nil)))))) pss_nil)))
      (pss_cons (ps_if (pt_not (pt_val (pe_cal c__law_alike (hr.mono (by first | decide | omega)) rfl (pa_cons (pe_cal c_colours (hr.mono (by first | decide | omega)) rfl (pa_cons (pv 18) pa_nil)) (pa_cons (pv 14) pa_nil))))) (pss_one (ps_ret pe_bl)) pss_nil)
      (pss_cons (ps_set (i := 17) sc_law.nd rfl (Or.inr rfl) (pe_cal c__law_pick (hr.mono (by first | decide | omega)) rfl (pa_cons (pv 1) (pa_cons (pe_lst (pa_cons pe_non (pa_cons (pe_listRg rfl (by rfl) T.b_list (prg_1 (by rfl) T.b_range (pe_callB (r := fun xs H Q => ∃ p ys, xs = [.ref p] ∧ (SqL K H p ys ∨ SqT K H p ys) ∧ Q (.int ys.length) H) call_len_seq (by rfl) T.b_len (by decide +kernel) (pa_cons (pv 3) pa_nil)))) (pa_cons (pe_tup (pa_cons (pe_callB (r := fun xs H Q => ∃ p ys, xs = [.ref p] ∧ (SqL K H p ys ∨ SqT K H p ys) ∧ Q (.int ys.length) H) call_len_seq (by rfl) T.b_len (by decide +kernel) (pa_cons (pv 3) pa_nil)) pa_nil)) (pa_cons (pe_op (r := rRepA K) (op_repA rfl) (pe_tup (pa_cons pe_int pa_nil)) (pe_op op_add (pe_callB (r := fun xs H Q => ∃ p ys, xs = [.ref p] ∧ (SqL K H p ys ∨ SqT K H p ys) ∧ Q (.int ys.length) H) call_len_seq (by rfl) T.b_len (by decide +kernel) (pa_cons (pv 3) pa_nil)) pe_int)) (pa_cons (pe_tup (pa_cons (pe_un un_neg pe_int) pa_nil)) (pa_cons pe_int pa_nil))))))) pa_nil))))
      (pss_cons (ps_for (passes_of rfl) rfl (pi_list (pe_lst (pa_cons (pe_gref rfl g_joins) (pa_cons (pe_gref rfl g_pieces_after) pa_nil)))) (pg_name (i := 16) sc_law.nd rfl (Or.inr rfl)) (pss_one (ps_if (pt_cmpR op_ne (pe_callB (r := rReprX K) (cr_reprX hgu (u64 hr)) (by rfl) T.b_repr (by decide +kernel) (pa_cons (pe_lam (k := 25) O rfl (hr.mono (by first | decide | omega)) (lamS_by (sc := defScope s_law) (by decide +kernel)) rfl (fun _ _ _ _ _ => rfl) (fun A2 outer2 s2 H2 E2 f2 c2 hr => (pe_alt (pe_calL (i := 16) c_joins g_joins (hr.mono (by first | decide | omega)) rfl (by first | exact Or.inl rfl | exact Or.inr (Or.inl rfl) | exact Or.inr (Or.inr rfl)) (pa_cons (pv 18) (pa_cons (pv 17) pa_nil)) (takes_of rfl rfl rfl rfl)) (pe_calL (i := 16) c_pieces_after g_pieces_after (hr.mono (by first | decide | omega)) rfl (by first | exact Or.inl rfl | exact Or.inr (Or.inl rfl) | exact Or.inr (Or.inr rfl)) (pa_cons (pv 18) (pa_cons (pv 17) pa_nil)) (takes_of rfl rfl rfl rfl))))) pa_nil)) (pe_callB (r := rReprX K) (cr_reprX hgu (u64 hr)) (by rfl) T.b_repr (by decide +kernel) (pa_cons (pe_tup (pa_cons pe_str (pa_cons (pv 17) pa_nil))) pa_nil)) (nomark _)) (pss_one (ps_ret pe_bl)) pss_nil)))
      (pss_one (ps_ret pe_bl)))))))))))))))), ?_⟩
  refine xs_row rfl fun p hp => ?_
  obtain ⟨t, k0⟩ := law_start (q := (cxOf (L2.CX P w) P w K mg base ["script", "row", "panels", "seams", "turn", "order", "due", "left", "pieces", "is_one", "easy", "told", "good", "pairs", "best", "many", "ask", "odd", "sail", "seam", "pair", "one"] "law" (defScope s_law) fa (.ref c) callerA [] s H (fun _ _ _ => False)).env.qual ++ "<lambda>") hT hS hp 0 127 (by omega) (by omega) (by omega) 0
  have env0 : Env ⟨K, rowFx K ⟨p, a, Tb, (cxOf (L2.CX P w) P w K mg base ["script", "row", "panels", "seams", "turn", "order", "due", "left", "pieces", "is_one", "easy", "told", "good", "pairs", "best", "many", "ask", "odd", "sail", "seam", "pair", "one"] "law" (defScope s_law) fa (.ref c) callerA [] s H (fun _ _ _ => False)).env.qual ++ "<lambda>", ns, t⟩, fun _ => none, upd H p (rowHO a 0 127 0), fun _ _ _ => False⟩ (fun _ => none) (upd H p (rowHO a 0 127 0)) ((L2.start ["script", "row", "panels", "seams", "turn", "order", "due", "left", "pieces", "is_one", "easy", "told", "good", "pairs", "best", "many", "ask", "odd", "sail", "seam", "pair", "one"] [.ref a]).set 1 (some (.ref p))) [.raw (.ref a), .raw (.ref p), .no, .no, .no, .no, .no, .no, .no, .no, .no, .no, .no, .no, .no, .no, .no, .no, .no, .no, .no, .no] :=
    (env_start (vs := [.ref a]) (ss := [.raw (.ref a)]) 21 (.cons rfl .nil)).set 1 (s := .raw (.ref p)) rfl
  refine xc_start k0 env0 ?_
  clear env0 k0
  generalize (cxOf (L2.CX P w) P w K mg base ["script", "row", "panels", "seams", "turn", "order", "due", "left", "pieces", "is_one", "easy", "told", "good", "pairs", "best", "many", "ask", "odd", "sail", "seam", "pair", "one"] "law" (defScope s_law) fa (.ref c) callerA [] s H (fun _ _ _ => False)).env.qual ++ "<lambda>" = q
  generalize upd H p (rowHO a 0 127 0) = B
  have tkI : ∀ {ρ : Rho} {te : TE} {q' : Int → Prop}, ρ[1]? = some (.raw (.ref p)) → EvI ⟨K, rowFx K ⟨p, a, Tb, q, ns, t⟩, fun _ => none, B, fun _ _ _ => False⟩ te ρ q' → (∀ m, q' m → 0 < m ∧ m < 1073741824) → EvI ⟨K, rowFx K ⟨p, a, Tb, q, ns, t⟩, fun _ => none, B, fun _ _ _ => False⟩ (tCall (spTaken K) [] E0 (tCons (tVar 1) (tCons te tNil))) ρ (fun x => 0 ≤ x ∧ ∃ m, q' m ∧ x < m) := fun h he hq => ev_takenI (z := ⟨p, a, Tb, q, ns, t⟩) (ev_varR h) he hq
  refine xs_asgTP (p := fun d => ∃ (ps : List Pn) (ss : List Sm), Ok ps ss ∧ ps.length ≤ 8 ∧ d = .tuple [.list (ps.map dPn), .list (ss.map dSm)]) (ev_callZ (fx := rowFx K) ⟨p, a, Tb, q, ns, t⟩ (ea_two (Pa := Eq (.raw (.ref p))) (Pb := fun s => ∃ i : Int, s = .dat (.int i) ∧ (1 ≤ i ∧ i ≤ 8)) (ev_varR rfl) (evI_0 (p := fun i => i = 1) (s := fun i => 1 ≤ i ∧ i ≤ 8) (ev_int.toI rfl) (tkI rfl (ev_int.toI (p := fun i => i = 8) rfl) fun m e => by omega) fun i j hi ⟨h0, m, hm, hj⟩ => by omega)) fun sl ⟨x, y, e, ex, i, ey, h1, h2⟩ => ⟨i.toNat, by rw [e, ← ex, ey]; show [Sl.raw _, Sl.dat (.int i)] = [Sl.raw _, Sl.dat (.int ((i.toNat : Nat) : Int))]; rw [Int.toNat_of_nonneg (by omega)], ⟨by omega, by omega⟩, fun s ⟨ps, ss, ok, _, hl, e⟩ => ⟨_, Re.ok.inj e, ps, ss, ok, by omega, rfl⟩, fun C d ⟨_, _, _, _, _, e⟩ => by cases e⟩) ?_
  rintro _ ⟨ps, ss, ok, h8, rfl⟩
  refine ⟨_, _, tg_two, ?_⟩
  have h18 := ok.m
  have h12 := ok.n2
  have h1 := ok.n1
  refine xs_asgP (p := fun s => s = obS CS ps ss) (ev_make (ea_cons (ev_var rfl) (ea_cons (ev_var rfl) ea_nil)) fun sl e => ⟨(.list (ps.map dPn), .list (ss.map dSm)), e.symm, True.intro, fun fs g h => by
    have := init_ok true true ok _ h
    cases this
    rfl, fun C' d h => by
    have := init_ok true true ok _ h
    cases this⟩) ?_
  rintro _ rfl
  have lenS : ∀ {ρ : Rho}, ρ[3]? = some (.dat (.list (ss.map dSm))) → Ev ⟨K, rowFx K ⟨p, a, Tb, q, ns, t⟩, fun _ => none, B, fun _ _ _ => False⟩ (tCB (fun xs H Q => ∃ p ys, xs = [.ref p] ∧ (SqL K H p ys ∨ SqT K H p ys) ∧ Q (.int ys.length) H) (tCons (tVar 3) tNil)) ρ (Eq (.dat (.int (ss.length : Nat)))) := fun h => (ev_lenL (ds := ss.map dSm) (el_of (ev_var h))).cast (by rw [List.length_map])
  have lenP : ∀ {ρ : Rho}, ρ[2]? = some (.dat (.list (ps.map dPn))) → Ev ⟨K, rowFx K ⟨p, a, Tb, q, ns, t⟩, fun _ => none, B, fun _ _ _ => False⟩ (tCB (fun xs H Q => ∃ p ys, xs = [.ref p] ∧ (SqL K H p ys ∨ SqT K H p ys) ∧ Q (.int ys.length) H) (tCons (tVar 2) tNil)) ρ (Eq (.dat (.int (ps.length : Nat)))) := fun h => (ev_lenL (ds := ps.map dPn) (el_of (ev_var h))).cast (by rw [List.length_map])
  have rngS : ∀ {ρ : Rho}, ρ[3]? = some (.dat (.list (ss.map dSm))) → Ev ⟨K, rowFx K ⟨p, a, Tb, q, ns, t⟩, fun _ => none, B, fun _ _ _ => False⟩ (tLstRg (tRg1 (tCB (fun xs H Q => ∃ p ys, xs = [.ref p] ∧ (SqL K H p ys ∨ SqT K H p ys) ∧ Q (.int ys.length) H) (tCons (tVar 3) tNil)))) ρ (Eq (.dat (.list (dNs (List.range ss.length))))) := fun h => (ef_listRg (n := ss.length) (lenS h) (by omega)).evE.cast (by rw [rng_dNs])
  have jns : ∀ {ρ : Rho} {j : Nat} {o : List Nat}, ρ[2]? = some (.dat (.list (ps.map dPn))) → ρ[3]? = some (.dat (.list (ss.map dSm))) → ρ[j]? = some (.dat (dT o)) → o.Perm (List.range ss.length) → Ev ⟨K, rowFx K ⟨p, a, Tb, q, ns, t⟩, fun _ => none, B, fun _ _ _ => False⟩ (tCall (spI K fx0 (fun i : SI × List Nat => [.dat (.list (i.1.1.map dPn)), .dat (.list (i.1.2.map dSm)), .dat (dT i.2)]) (fun i => (∀ s ∈ i.1.2, seamOk i.1.1 s = true) ∧ i.1.1.length ≤ 100 ∧ i.2.length ≤ 100 ∧ ∀ x ∈ i.2, x < i.1.2.length) (fun i => Eq (.ok (.dat (joinsV i.1.1 i.1.2 i.2))))) [] E0 (tCons (tVar 2) (tCons (tVar 3) (tCons (tVar j) tNil)))) ρ (Eq (.dat (joinsV ps ss o))) := fun {ρ j o} h2 h3 hj ho => ev_callE ((ps, ss), o) (ea_cons (ev_var h2) (ea_cons (ev_var h3) (ea_cons (ev_var hj) ea_nil))) ⟨ok.ok, by show ps.length ≤ 100; omega, by show o.length ≤ 100; rw [(perm_lt ho).2]; omega, (perm_lt ho).1⟩
  refine xs_cut (Q := fun ρ => ∃ s4 s5 s6 s7 s8 s9 : Sl, ρ = [.raw (.ref a), .raw (.ref p), .dat (.list (ps.map dPn)), .dat (.list (ss.map dSm)), s4, s5, s6, s7, s8, s9, .no, .no, .no, .no, .no, .no, .no, .no, obS CS ps ss, .no, .no, .no]) (xc_forE (im_rng1E (n := 4) ev_int (by omega)) (fun k ρ => ∃ s4 s5 s6 s7 s8 s9 : Sl, ρ = [.raw (.ref a), .raw (.ref p), .dat (.list (ps.map dPn)), .dat (.list (ss.map dSm)), s4, s5, s6, s7, s8, s9, .no, .no, .no, .no, .no, .no, .no, .no, obS CS ps ss, .no, .no, .no]) ⟨_, _, _, _, _, _, rfl⟩ (fun k d ρ1 hd hI => ?_) fun ρ1 hI => hI) fun ρ' hQ => ?_
  · obtain ⟨s4, s5, s6, s7, s8, s9, rfl⟩ := hI
    refine ⟨_, _, tg_name, ?_⟩
    refine xs_asgP (p := fun s => ∃ o : List Nat, o.Perm (List.range ss.length) ∧ s = .dat (dT o)) ((ev_tupLP (p := fun ds => ∃ o : List Nat, o.Perm (List.range ss.length) ∧ ds = dNs o) (ev_callZ (fx := rowFx K) ⟨p, a, Tb, q, ns, t⟩ (ea_cons (ev_varR rfl) (ea_cons (rngS rfl) ea_nil)) fun sl e => ⟨List.range ss.length, e.symm, by show (List.range ss.length).length ≤ 100; rw [List.length_range]; omega, fun s ⟨o, ho, e⟩ => ⟨_, Re.ok.inj e, o, ho, rfl⟩, fun C d ⟨_, _, e⟩ => by cases e⟩)).imp fun s ⟨ds, e, o, ho, e2⟩ => ⟨o, ho, by rw [e, e2]; rfl⟩) ?_
    rintro _ ⟨o, ho, rfl⟩
    obtain ⟨ho1, ho2⟩ := perm_lt ho
    have hcnt := sail_joins ok ho
    have hjl : (jn ps.length [] (edg (prs ss) o)).length ≤ 18 := by rw [jn_len]; unfold edg; rw [List.length_map]; omega
    refine xs_par3Q (x := .dat (joinsV ps ss o)) (y := .dat (.int (ps.length : Nat))) (m := fun _ => .lst []) (jns (j := 5) rfl rfl rfl ho) (lenP rfl) (EvF.toQ ef_nil) fun ap => ?_
    refine xs_cut (Q := fun ρ => ∃ s7 s9 : Sl, ρ = [.raw (.ref a), .raw (.ref p), .dat (.list (ps.map dPn)), .dat (.list (ss.map dSm)), .dat d, .dat (dT o), .dat (joinsV ps ss o), s7, .own ap (.lst ((pcs ps.length (jn ps.length [] (edg (prs ss) o))).map PyData.int)), s9, .no, .no, .no, .no, .no, .no, .no, .no, obS CS ps ss, .no, .no, .no]) (xc_forE (im_listE (ds := dBs (jn ps.length [] (edg (prs ss) o))) (ev_var rfl)) (fun k ρ => ∃ (s9 : Sl) (l : List Int) (n : Int), l.length = k ∧ pcs ps.length (jn ps.length [] (edg (prs ss) o)) = l ++ pcs n ((jn ps.length [] (edg (prs ss) o)).drop k) ∧ ρ = [.raw (.ref a), .raw (.ref p), .dat (.list (ps.map dPn)), .dat (.list (ss.map dSm)), .dat d, .dat (dT o), .dat (joinsV ps ss o), .dat (.int n), .own ap (.lst (l.map PyData.int)), s9, .no, .no, .no, .no, .no, .no, .no, .no, obS CS ps ss, .no, .no, .no]) ⟨s9, [], ps.length, rfl, rfl, rfl⟩ (fun k d' ρ1 hd hI => ?_) fun ρ1 hI => ?_) fun ρ' hQ => ?_
    · obtain ⟨s9, l, n, hl, hp, rfl⟩ := hI
      obtain ⟨b, hb, rfl⟩ := map_get hd
      have hk2 := (List.getElem?_eq_some_iff.mp hb).1
      rw [List.drop_eq_getElem_cons hk2, (List.getElem?_eq_some_iff.mp hb).2, pcs] at hp
      refine ⟨_, _, tg_name, ?_⟩
      refine xs_asg (s := .dat (.int (n - (if b then 1 else 0)))) (ev_I0 (ev_var rfl) (ev_if (b := b) (et_B (ev_var rfl)) (fun z => ev_int.cast (by rw [z]; rfl)) fun z => ev_int.cast (by rw [z]; rfl))) ?_
      refine xc_append (i := 8) (p := fun d => d = .int (n - (if b then 1 else 0))) rfl ((ev_var (d := .int (n - (if b then 1 else 0))) rfl).imp fun s e => ⟨_, e.symm, rfl⟩) (by rw [List.length_map]; omega) fun d e => ?_
      subst e
      exact ⟨_, l ++ [n - (if b then 1 else 0)], n - (if b then 1 else 0), by simp [hl], by rw [hp]; simp, by rw [List.map_append]; rfl⟩
    · obtain ⟨s9, l, n, hl, hp, rfl⟩ := hI
      rw [dBs_len, List.drop_length, pcs, List.append_nil] at hp
      exact ⟨_, _, by rw [hp]⟩
    obtain ⟨s7, s9, rfl⟩ := hQ
    refine xc_freeze (i := 8) rfl ?_
    refine xc_if (b := false) (et_no (et_or (a := false) (et_is (et_not (et_B (ev_callE (joinsV ps ss o) (ea_cons (ev_callV (.ok ps ss o) (ea_cons (ev_varOb rfl) (ea_cons (ev_var rfl) ea_nil)) ⟨ok, ho⟩ (s := .dat (joinsV ps ss o)) rfl) (ea_cons (ev_var rfl) ea_nil)) (flp_sc 4 (t := .l 18 .b) (okS_l (by rw [dBs_len]; exact hjl) (sc_bools _)) (by decide) (by decide))))) rfl) fun _ => et_or (a := false) (et_is (et_not (et_B (ev_callE (piecesV ps ss o) (ea_cons (ev_callV (.ok ps ss o) (ea_cons (ev_varOb rfl) (ea_cons (ev_var rfl) ea_nil)) ⟨ok, ho⟩ (s := .dat (piecesV ps ss o)) rfl) (ea_cons (ev_var rfl) ea_nil)) (flp_sc 4 (t := .l 18 .z) (okS_lm (by rw [pcs_len]; exact hjl) fun _ _ => rfl) (by decide) (by decide))))) rfl) fun _ => et_test (ev_neI (i := ((ps.length - 1 : Nat) : Int)) (j := (ps.length : Int) - 1) ((ev_sum (ns := ((jn ps.length [] (edg (prs ss) o)).filter id).map fun _ => 1) (EvF.evE (ef_filterL (l := jn ps.length [] (edg (prs ss) o)) (dα := PyData.bool) (c := id) (f := fun _ => .int 1) (im_listE (ds := dBs (jn ps.length [] (edg (prs ss) o))) (ev_var rfl)) (by omega) fun b _ => ⟨[21], _, by simp, tg_name, et_B (ev_var rfl), fun _ => ev_int⟩) |> fun h => h.cast (by rw [List.map_map]; rfl))).cast (by rw [sum_ones, hcnt])) (ev_I0 (lenP rfl) ev_int))) (by simp; omega)) (fun z => by cases z) fun _ => xc_next ⟨_, _, _, _, _, _, rfl⟩
  obtain ⟨s4, s5, s6, s7, s8, s9, rfl⟩ := hQ
  have ep := easy_perm' ps.length ss
  obtain ⟨ep1, ep2⟩ := perm_lt ep
  have ed := easy_desc ok
  refine xs_asg (s := .dat (dT (easy ps.length (prs ss)))) (ev_callE (ps, ss) (ea_cons (ev_varOb rfl) ea_nil) ok) ?_
  obtain ⟨gr', hgood⟩ := good_first ok
  generalize hes : easy ps.length (prs ss) = es at ep ep1 ep2 ed hgood
  have jl : ∀ {o : List Nat}, o.Perm (List.range ss.length) → (jn ps.length [] (edg (prs ss) o)).length ≤ 18 := fun {o} ho => by rw [jn_len]; unfold edg; rw [List.length_map, (perm_lt ho).2]; omega
  have sB : ∀ {o : List Nat}, o.Perm (List.range ss.length) → SortOk (dBs (jn ps.length [] (edg (prs ss) o))) := fun ho => sort_scZ .b (sc_bools _) rfl (by rw [dBs_len]; have := jl ho; omega)
  have kB : ∀ {o : List Nat}, o.Perm (List.range ss.length) → okS (joinsV ps ss o) (.l 18 .b) = true ∧ okS (.list (srtD (dBs (jn ps.length [] (edg (prs ss) o)))).reverse) (.l 18 .b) = true := fun ho => ⟨okS_l (by rw [dBs_len]; exact jl ho) (sc_bools _), okS_l (by rw [List.length_reverse, srtD_len, dBs_len]; exact jl ho) fun d hd => sc_bools _ d ((srtD_perm _).mem_iff.mp (List.mem_reverse.mp hd))⟩
  refine xs_asg (s := .dat (joinsV ps ss es)) (jns (j := 10) rfl rfl rfl ep) ?_
  refine xs_when (b := false) (et_no (et_or (a := false) (et_is (et_test (ev_neSc (d := .list (srtD (dNs es))) (e := .list (dNs (List.range ss.length))) (.l 18 .z) (ef_sortU (eu_of (ev_var rfl)) (sort_scZ .z (sc_nats _) rfl (by rw [dNs_len]; omega))) (rngS rfl) (okS_l (by rw [srtD_len, dNs_len]; omega) fun d hd => sc_nats _ d ((srtD_perm _).mem_iff.mp hd)) (okS_l (by rw [dNs_len, List.length_range]; omega) (sc_nats _)))) (by rw [decide_eq_true (by rw [srtN_perm.mpr ep])]; rfl)) fun _ => et_or (a := false) (et_is (et_not (et_B (ev_isTuple (d := dT es) (ev_var rfl)))) rfl) fun _ => et_test (ev_neSc (d := joinsV ps ss es) (e := .list (srtD (dBs (jn ps.length [] (edg (prs ss) es)))).reverse) (.l 18 .b) (ev_var rfl) (ef_rev (el_of (ef_sortL (ds := dBs (jn ps.length [] (edg (prs ss) es))) (el_of (ev_var rfl)) (sB ep)))).evE (kB ep).1 (kB ep).2)) (by rw [show joinsV ps ss es = .list (srtD (dBs (jn ps.length [] (edg (prs ss) es)))).reverse from (desc_iff _).mpr ed]; simp)) (fun z => by cases z) fun _ => ?_
  refine xs_cut (Q := fun ρ => ∃ s12 : Sl, ρ = [.raw (.ref a), .raw (.ref p), .dat (.list (ps.map dPn)), .dat (.list (ss.map dSm)), s4, s5, s6, s7, s8, s9, .dat (dT es), .dat (joinsV ps ss es), s12, .no, .no, .no, .no, .no, obS CS ps ss, .no, .no, .no]) (xc_if (b := decide (ss.length < 6)) (et_is (et_test (ev_C0 (lenS rfl) ev_int)) (by apply decide_eq_decide.mpr; omega)) (fun z => ?_) fun _ => xc_next ⟨_, rfl⟩) fun ρ' hQ => ?_
  · have z6 : ss.length < 6 := of_decide_eq_true z
    have hfac : fac 5 = 120 := by decide
    have hol := ord_len ss.length
    have hof : fac ss.length ≤ fac 5 := fac_mono (by omega)
    refine xs_asg (s := .dat (.list ((es :: gr').map dT))) (Ev.cast (EvF.evE (ef_filterL (l := (ordL ss.length).mergeSort fun a b => !decide (b < a)) (dα := dT) (c := fun o => desc (jn ps.length [] (edg (prs ss) o))) (f := dT) (im_listE (Ev.cast (ev_callE ss.length (ea_cons (lenS rfl) ea_nil) (by show ss.length ≤ 5; omega)) (by rw [srt_dT]))) (by rw [List.length_mergeSort]; omega) fun o ho => ⟨[5], _, by simp, tg_name, ?_, fun _ => ev_var rfl⟩)) (by rw [hgood])) ?_
    · have hp' : o.Perm (List.range ss.length) := ord_mem.mp (List.mem_mergeSort.mp ho)
      refine et_is (et_test (ev_eqSc (d := joinsV ps ss o) (e := .list (srtD (dBs (jn ps.length [] (edg (prs ss) o)))).reverse) (.l 18 .b) (jns (j := 5) rfl rfl rfl hp') (ef_rev (el_of (ef_sortL (ds := dBs (jn ps.length [] (edg (prs ss) o))) (el_of (jns (j := 5) rfl rfl rfl hp')) (sB hp')))).evE (kB hp').1 (kB hp').2)) ?_
      rw [Bool.eq_iff_iff, decide_eq_true_eq]
      exact desc_iff _
    refine xc_if (b := false) (et_no (et_test (ev_neSc (d := dT es) (e := dT es) (.u 18 .z) (ev_var rfl) (ev_ixL (ds := (es :: gr').map dT) (i := ((0 : Nat) : Int)) (el_of (ev_var rfl)) ev_int (at_nat rfl)) (sc_dT (by omega)) (sc_dT (by omega)))) (by simp)) (fun z => by cases z) fun _ => xc_next ⟨_, rfl⟩
  obtain ⟨s12, rfl⟩ := hQ
  refine xs_asg (s := .dat (.list ((prs ss).map dSd))) (Ev.cast (EvF.evE (ef_mapL (l := ss) (dα := dSm) (f := fun s => dSd (s.1.1, s.2.1)) (im_listE (ev_var rfl)) (by omega) fun s _ => ⟨[19], _, by simp, tg_name, ev_tup2 (ev_ixU (ds := [.int (s.1.1 : Nat), .int (s.1.2 : Nat), .int (s.2.1 : Nat), .int (s.2.2 : Nat)]) (ev_var rfl) ev_int rfl) (ev_ixU (ds := [.int (s.1.1 : Nat), .int (s.1.2 : Nat), .int (s.2.1 : Nat), .int (s.2.2 : Nat)]) (ev_var rfl) ev_int rfl)⟩)) (by unfold prs; rw [List.map_map]; rfl)) ?_
  refine xs_asg (s := .dat (bestV ss ps.length (freeB ss) 0)) ev_non ?_
  refine xs_for (im_rng2E (lo := 1) (hi := 13) ev_int ev_int (by omega) (by omega)) (fun k ρ => ∃ s15 : Sl, ρ = [.raw (.ref a), .raw (.ref p), .dat (.list (ps.map dPn)), .dat (.list (ss.map dSm)), s4, s5, s6, s7, s8, s9, .dat (dT es), .dat (joinsV ps ss es), s12, .dat (.list ((prs ss).map dSd)), .dat (bestV ss ps.length (freeB ss) k), s15, .no, .no, obS CS ps ss, .no, .no, .no]) ⟨_, rfl⟩ (fun k d ρ1 hd hI => ?_) fun ρ1 hI => ?_
  · obtain ⟨s15, rfl⟩ := hI
    obtain ⟨hk, rfl⟩ := rngD_get hd
    have hk : k < 12 := hk
    refine ⟨_, _, tg_name, ?_⟩
    have efree : decide ((((prs ss).filter fun e => decide (e.1 = e.2)).map dSd) = []) = freeB ss := by
      unfold freeB prs
      rw [Bool.eq_iff_iff, decide_eq_true_eq, List.map_eq_nil_iff, List.filter_eq_nil_iff, Bool.not_eq_true', Bool.eq_false_iff, Ne, List.any_eq_true]
      constructor
      · rintro h ⟨s, hs, e⟩
        exact h _ (List.mem_map.mpr ⟨s, hs, rfl⟩) e
      · intro h e he z
        obtain ⟨s, hs, rfl⟩ := List.mem_map.mp he
        exact h ⟨s, hs, z⟩
    rw [bestV_succ]
    refine xc_if (b := Dl.isNone (bestV ss ps.length (freeB ss) k) && freeB ss) (et_and (et_test (ev_isN (ev_var rfl))) fun _ => et_is (et_test (ev_eqD (d := .list (((prs ss).filter fun e => decide (e.1 = e.2)).map dSd)) (d' := .list []) (EvF.evE (ef_filterL (l := prs ss) (dα := dSd) (c := fun e => decide (e.1 = e.2)) (f := dSd) (im_listE (ev_var rfl)) (by rw [prs_len]; omega) fun e _ => ⟨[20], _, by simp, tg_name, et_is (et_test (ev_eqI (i := (e.1 : Nat)) (j := (e.2 : Nat)) (ev_ixU (ds := [.int (e.1 : Nat), .int (e.2 : Nat)]) (ev_var rfl) ev_int rfl) (ev_ixU (ds := [.int (e.1 : Nat), .int (e.2 : Nat)]) (ev_var rfl) ev_int rfl))) (decide_eq_decide.mpr (eqv_i _ _)), fun _ => ev_var rfl⟩)) ev_lst0 (shaped_sc (t := .l 18 kSd) (okS_lm (Nat.le_trans (List.length_filter_le _ _) (by rw [prs_len]; omega)) fun x _ => sc_sd x)) rfl)) (by rw [eqv_nilL]; exact efree)) (fun z => ?_) fun z => ?_
    · rw [if_pos z]
      exact xc_asg (ev_callE ((ps, ss), k + 1) (ea_cons (ev_var rfl) (ea_cons (ev_var rfl) (ea_cons ((ev_var (d := .int (1 + (k : Int))) rfl).cast (by show Sl.dat (.int _) = .dat (.int _); congr 2; omega)) ea_nil))) ⟨ok, h8, by show k + 1 ≤ 1000; omega⟩) ⟨_, rfl⟩
    · rw [if_neg (by rw [z]; decide)]
      exact xc_next ⟨_, rfl⟩
  obtain ⟨s15, rfl⟩ := hI
  rw [rngD_length, show (13 - 1 : Int).toNat = 12 from rfl]
  have hflp : FlP 4 (bestV ss ps.length (freeB ss) 12) := by
    rcases bestV_is ss ps.length (freeB ss) 12 with e | ⟨o, ho, e⟩
    · rw [e]
      exact True.intro
    · rw [e]
      exact flp_sc 4 (sc_dT (k := 8) (by omega)) (by decide) (by decide)
  refine xs_when (b := false) (et_no (et_not (et_B (ev_callE (bestV ss ps.length (freeB ss) 12) (ea_cons (ev_callE (ps, ss) (ea_cons (ev_varOb rfl) ea_nil) ⟨h8, h1, h18⟩) (ea_cons (ev_var rfl) ea_nil)) hflp))) rfl) (fun z => by cases z) fun _ => ?_
  refine xs_asgP (ev_pick (z := ⟨p, a, Tb, q, ns, t⟩) (l := oddV ss.length) (ev_varR rfl) (ev_lst (ds := oddV ss.length) (ea_cons ev_non (ea_cons (rngS rfl) (ea_cons (ev_tup1 (lenS rfl)) (ea_cons (Ev.cast (ev_repA (ds := [.int 0]) (n := ss.length + 1) (ev_tup1 ev_int) (Ev.cast (ev_I0 (lenS rfl) ev_int) rfl) (by simp) (by omega) (by omega) (by simp)) (by rw [rep1]; rfl)) (ea_cons (ev_tup1 (ev_neg ev_int)) (ea_cons ev_int ea_nil)))))) (by simp [oddV])) (by simp [oddV]) (by simp [oddV])) ?_
  rintro _ ⟨odd, rfl, hodd⟩
  obtain ⟨o1, o2, o3⟩ := odd_ok h18 odd hodd
  refine xs_forR (ws := [.ref f1, .ref f2]) (ea_cons ev_raw (ea_cons ev_raw ea_nil)) (by simp) (fun _ ρ => ∃ s16 : Sl, ρ = [.raw (.ref a), .raw (.ref p), .dat (.list (ps.map dPn)), .dat (.list (ss.map dSm)), s4, s5, s6, s7, s8, s9, .dat (dT es), .dat (joinsV ps ss es), s12, .dat (.list ((prs ss).map dSd)), .dat (bestV ss ps.length (freeB ss) 12), s15, s16, .dat odd, obS CS ps ss, .no, .no, .no]) ⟨_, rfl⟩ (fun i v ρ1 hv hI => ?_) fun ρ1 hI => ?_
  · obtain ⟨s16, rfl⟩ := hI
    have hv' : v = .ref f1 ∨ v = .ref f2 := by
      have := List.mem_of_getElem? hv
      simpa using this
    exact xc_if (b := false) (et_no (et_test (ev_neS (ev_show (ev_ref (told_order T) (evx_ask (ps := ps) (ss := ss) rfl hv' (ea_cons (ev_varOb rfl) (ea_cons (ev_var rfl) ea_nil)) ⟨h18, o2, o1⟩)) o3) (ev_show (ev_tup2 ev_str (ev_var rfl)) o3))) (by simp)) (fun z => by cases z) fun _ => xc_next ⟨_, rfl⟩
  · obtain ⟨s16, rfl⟩ := hI
    exact xc_ret ev_bl rfl
end
end K27

set_option Elab.async false
set_option linter.all false
set_option maxRecDepth 100000
set_option maxHeartbeats 4000000
namespace K27
open PySem PySem.Spec PyProof.Rows L2 Dl LamX StX
theorem all_mk {P : Program} {w : World} {K : PySem.W.Frag} {h : Heap} {mg : Str → Option Value} {fa : Addr} (X : K.In h) (G : h.Ns mainGlobals mg) (hfa : mg "law" = some (.ref fa))
    {f__wall : Addr} {oc__wall kV__wall dc__wall pm__wall ct__wall cd__wall : Value} {od__wall an__wall : Option Addr} {sl__wall : Array (Option Value)}
    {f_is_integer : Addr} {oc_is_integer kV_is_integer dc_is_integer pm_is_integer ct_is_integer cd_is_integer : Value} {od_is_integer an_is_integer : Option Addr} {sl_is_integer : Array (Option Value)}
    {f_is_within : Addr} {oc_is_within kV_is_within dc_is_within pm_is_within ct_is_within cd_is_within : Value} {od_is_within an_is_within : Option Addr} {sl_is_within : Array (Option Value)}
    {f_is_row : Addr} {oc_is_row kV_is_row dc_is_row pm_is_row ct_is_row cd_is_row : Value} {od_is_row an_is_row : Option Addr} {sl_is_row : Array (Option Value)}
    {f_is_tuple_of : Addr} {oc_is_tuple_of kV_is_tuple_of dc_is_tuple_of pm_is_tuple_of ct_is_tuple_of cd_is_tuple_of : Value} {od_is_tuple_of an_is_tuple_of : Option Addr} {sl_is_tuple_of : Array (Option Value)}
    {f_check_order : Addr} {oc_check_order kV_check_order dc_check_order pm_check_order ct_check_order cd_check_order : Value} {od_check_order an_check_order : Option Addr} {sl_check_order : Array (Option Value)}
    {f_told_joins : Addr} {oc_told_joins kV_told_joins dc_told_joins pm_told_joins ct_told_joins cd_told_joins : Value} {od_told_joins an_told_joins : Option Addr} {sl_told_joins : Array (Option Value)}
    {f_joins : Addr} {oc_joins kV_joins dc_joins pm_joins ct_joins cd_joins : Value} {od_joins an_joins : Option Addr} {sl_joins : Array (Option Value)}
    {f_pieces_after : Addr} {oc_pieces_after kV_pieces_after dc_pieces_after pm_pieces_after ct_pieces_after cd_pieces_after : Value} {od_pieces_after an_pieces_after : Option Addr} {sl_pieces_after : Array (Option Value)}
    {f_easy_order : Addr} {oc_easy_order kV_easy_order dc_easy_order pm_easy_order ct_easy_order cd_easy_order : Value} {od_easy_order an_easy_order : Option Addr} {sl_easy_order : Array (Option Value)}
    {f_all_colours : Addr} {oc_all_colours kV_all_colours dc_all_colours pm_all_colours ct_all_colours cd_all_colours : Value} {od_all_colours an_all_colours : Option Addr} {sl_all_colours : Array (Option Value)}
    {f_colours : Addr} {oc_colours kV_colours dc_colours pm_colours ct_colours cd_colours : Value} {od_colours an_colours : Option Addr} {sl_colours : Array (Option Value)}
    {f_is_point : Addr} {oc_is_point kV_is_point dc_is_point pm_is_point ct_is_point cd_is_point : Value} {od_is_point an_is_point : Option Addr} {sl_is_point : Array (Option Value)}
    {f_crossed : Addr} {oc_crossed kV_crossed dc_crossed pm_crossed ct_crossed cd_crossed : Value} {od_crossed an_crossed : Option Addr} {sl_crossed : Array (Option Value)}
    {f_is_panel : Addr} {oc_is_panel kV_is_panel dc_is_panel pm_is_panel ct_is_panel cd_is_panel : Value} {od_is_panel an_is_panel : Option Addr} {sl_is_panel : Array (Option Value)}
    {f_long_of : Addr} {oc_long_of kV_long_of dc_long_of pm_long_of ct_long_of cd_long_of : Value} {od_long_of an_long_of : Option Addr} {sl_long_of : Array (Option Value)}
    {f_is_seam : Addr} {oc_is_seam kV_is_seam dc_is_seam pm_is_seam ct_is_seam cd_is_seam : Value} {od_is_seam an_is_seam : Option Addr} {sl_is_seam : Array (Option Value)}
    {f__law_taken : Addr} {oc__law_taken kV__law_taken dc__law_taken pm__law_taken ct__law_taken cd__law_taken : Value} {od__law_taken an__law_taken : Option Addr} {sl__law_taken : Array (Option Value)}
    {f__law_pick : Addr} {oc__law_pick kV__law_pick dc__law_pick pm__law_pick ct__law_pick cd__law_pick : Value} {od__law_pick an__law_pick : Option Addr} {sl__law_pick : Array (Option Value)}
    {f__law_alike : Addr} {oc__law_alike kV__law_alike dc__law_alike pm__law_alike ct__law_alike cd__law_alike : Value} {od__law_alike an__law_alike : Option Addr} {sl__law_alike : Array (Option Value)}
    {f__law_long : Addr} {oc__law_long kV__law_long dc__law_long pm__law_long ct__law_long cd__law_long : Value} {od__law_long an__law_long : Option Addr} {sl__law_long : Array (Option Value)}
    {f__law_area : Addr} {oc__law_area kV__law_area dc__law_area pm__law_area ct__law_area cd__law_area : Value} {od__law_area an__law_area : Option Addr} {sl__law_area : Array (Option Value)}
    {f__law_free : Addr} {oc__law_free kV__law_free dc__law_free pm__law_free ct__law_free cd__law_free : Value} {od__law_free an__law_free : Option Addr} {sl__law_free : Array (Option Value)}
    {f__law_drawn_panel : Addr} {oc__law_drawn_panel kV__law_drawn_panel dc__law_drawn_panel pm__law_drawn_panel ct__law_drawn_panel cd__law_drawn_panel : Value} {od__law_drawn_panel an__law_drawn_panel : Option Addr} {sl__law_drawn_panel : Array (Option Value)}
    {f__law_sail : Addr} {oc__law_sail kV__law_sail dc__law_sail pm__law_sail ct__law_sail cd__law_sail : Value} {od__law_sail an__law_sail : Option Addr} {sl__law_sail : Array (Option Value)}
    {f__law_shuffled : Addr} {oc__law_shuffled kV__law_shuffled dc__law_shuffled pm__law_shuffled ct__law_shuffled cd__law_shuffled : Value} {od__law_shuffled an__law_shuffled : Option Addr} {sl__law_shuffled : Array (Option Value)}
    {f__law_joins : Addr} {oc__law_joins kV__law_joins dc__law_joins pm__law_joins ct__law_joins cd__law_joins : Value} {od__law_joins an__law_joins : Option Addr} {sl__law_joins : Array (Option Value)}
    {f__law_orders : Addr} {oc__law_orders kV__law_orders dc__law_orders pm__law_orders ct__law_orders cd__law_orders : Value} {od__law_orders an__law_orders : Option Addr} {sl__law_orders : Array (Option Value)}
    {f__law_colours : Addr} {oc__law_colours kV__law_colours dc__law_colours pm__law_colours ct__law_colours cd__law_colours : Value} {od__law_colours an__law_colours : Option Addr} {sl__law_colours : Array (Option Value)}
    {f__law_refused : Addr} {oc__law_refused kV__law_refused dc__law_refused pm__law_refused ct__law_refused cd__law_refused : Value} {od__law_refused an__law_refused : Option Addr} {sl__law_refused : Array (Option Value)}
    {f_law : Addr} {oc_law kV_law dc_law pm_law ct_law : Value} {od_law an_law : Option Addr} {sl_law : Array (Option Value)} {cL TL : Addr}
    {oe18 : Option Addr} {vs18 : Array Value} {sl18 : Array (Option Value)} {x18 : Str} {t18 t7 t10 : Tok} {i7 i10 : Int} {b9 : Bool}
    {t_MOST_PLACE : Tok}
    {t_MOST_PANELS : Tok}
    {t_MOST_SEAMS : Tok}
    {fI TI : Addr} {ocI kVI dcI pmI cdI ctI : Value} {odI anI odT : Option Addr} {slI slT : Array (Option Value)} {ocT : Value} {nT : Nat}
    {C1 N_C1 : Addr} {nm_C1 q_C1 : Str} {bs_C1 bm_C1 sub_C1 : List Value} {sn_C1 : List Str} {ab_C1 : Bool} {col_C1 : Option Bool} {dd_C1 : Option Addr} {m0_C1 m1_C1 m2_C1 m3_C1 m5_C1 : Option Value}
    {C2 N_C2 : Addr} {nm_C2 q_C2 : Str} {bs_C2 bm_C2 sub_C2 : List Value} {sn_C2 : List Str} {ab_C2 : Bool} {col_C2 : Option Bool} {dd_C2 : Option Addr} {m0_C2 m1_C2 m2_C2 m3_C2 m5_C2 : Option Value}
    {C3 N_C3 : Addr} {nm_C3 q_C3 : Str} {bs_C3 bm_C3 sub_C3 : List Value} {sn_C3 : List Str} {ab_C3 : Bool} {col_C3 : Option Bool} {dd_C3 : Option Addr} {m0_C3 m1_C3 m2_C3 m3_C3 m5_C3 : Option Value}
    {CS : Addr}
    {f_Sail___init__ : Addr} {oc_Sail___init__ kV_Sail___init__ dc_Sail___init__ pm_Sail___init__ ct_Sail___init__ cd_Sail___init__ : Value} {od_Sail___init__ an_Sail___init__ : Option Addr} {sl_Sail___init__ : Array (Option Value)}
    {f_Sail___eq__ : Addr} {oc_Sail___eq__ kV_Sail___eq__ dc_Sail___eq__ pm_Sail___eq__ ct_Sail___eq__ cd_Sail___eq__ : Value} {od_Sail___eq__ an_Sail___eq__ : Option Addr} {sl_Sail___eq__ : Array (Option Value)}
    {f_Sail_beside : Addr} {oc_Sail_beside kV_Sail_beside dc_Sail_beside pm_Sail_beside ct_Sail_beside cd_Sail_beside : Value} {od_Sail_beside an_Sail_beside : Option Addr} {sl_Sail_beside : Array (Option Value)}
    {f_Sail_reached : Addr} {oc_Sail_reached kV_Sail_reached dc_Sail_reached pm_Sail_reached ct_Sail_reached cd_Sail_reached : Value} {od_Sail_reached an_Sail_reached : Option Addr} {sl_Sail_reached : Array (Option Value)}
    {f_Sail_sides : Addr} {oc_Sail_sides kV_Sail_sides dc_Sail_sides pm_Sail_sides ct_Sail_sides cd_Sail_sides : Value} {od_Sail_sides an_Sail_sides : Option Addr} {sl_Sail_sides : Array (Option Value)}
    {f_Sail_near_corners : Addr} {oc_Sail_near_corners kV_Sail_near_corners dc_Sail_near_corners pm_Sail_near_corners ct_Sail_near_corners cd_Sail_near_corners : Value} {od_Sail_near_corners an_Sail_near_corners : Option Addr} {sl_Sail_near_corners : Array (Option Value)}
    {f_Sail_point_of : Addr} {oc_Sail_point_of kV_Sail_point_of dc_Sail_point_of pm_Sail_point_of ct_Sail_point_of cd_Sail_point_of : Value} {od_Sail_point_of an_Sail_point_of : Option Addr} {sl_Sail_point_of : Array (Option Value)}
    (a__wall : PySem.W.nsIn K mainGlobals "_wall" = some (some (.ref f__wall)))
    (l__wall : K.lookup f__wall = some ⟨oc__wall, od__wall, .func (PySem.W.fnOf "_wall" "_wall" (defArgs s__wall) (defBody s__wall) (defScope s__wall) .none kV__wall dc__wall pm__wall an__wall cd__wall ct__wall), sl__wall⟩)
    (c__wall : PySem.W.codeIn K cd__wall "_wall" = true)
    (k__wall : PySem.W.keepIn K (.ref f__wall) = true)
    (a_is_integer : PySem.W.nsIn K mainGlobals "is_integer" = some (some (.ref f_is_integer)))
    (l_is_integer : K.lookup f_is_integer = some ⟨oc_is_integer, od_is_integer, .func (PySem.W.fnOf "is_integer" "is_integer" (defArgs s_is_integer) (defBody s_is_integer) (defScope s_is_integer) .none kV_is_integer dc_is_integer pm_is_integer an_is_integer cd_is_integer ct_is_integer), sl_is_integer⟩)
    (c_is_integer : PySem.W.codeIn K cd_is_integer "is_integer" = true)
    (k_is_integer : PySem.W.keepIn K (.ref f_is_integer) = true)
    (a_is_within : PySem.W.nsIn K mainGlobals "is_within" = some (some (.ref f_is_within)))
    (l_is_within : K.lookup f_is_within = some ⟨oc_is_within, od_is_within, .func (PySem.W.fnOf "is_within" "is_within" (defArgs s_is_within) (defBody s_is_within) (defScope s_is_within) .none kV_is_within dc_is_within pm_is_within an_is_within cd_is_within ct_is_within), sl_is_within⟩)
    (c_is_within : PySem.W.codeIn K cd_is_within "is_within" = true)
    (k_is_within : PySem.W.keepIn K (.ref f_is_within) = true)
    (a_is_row : PySem.W.nsIn K mainGlobals "is_row" = some (some (.ref f_is_row)))
    (l_is_row : K.lookup f_is_row = some ⟨oc_is_row, od_is_row, .func (PySem.W.fnOf "is_row" "is_row" (defArgs s_is_row) (defBody s_is_row) (defScope s_is_row) .none kV_is_row dc_is_row pm_is_row an_is_row cd_is_row ct_is_row), sl_is_row⟩)
    (c_is_row : PySem.W.codeIn K cd_is_row "is_row" = true)
    (k_is_row : PySem.W.keepIn K (.ref f_is_row) = true)
    (a_is_tuple_of : PySem.W.nsIn K mainGlobals "is_tuple_of" = some (some (.ref f_is_tuple_of)))
    (l_is_tuple_of : K.lookup f_is_tuple_of = some ⟨oc_is_tuple_of, od_is_tuple_of, .func (PySem.W.fnOf "is_tuple_of" "is_tuple_of" (defArgs s_is_tuple_of) (defBody s_is_tuple_of) (defScope s_is_tuple_of) .none kV_is_tuple_of dc_is_tuple_of pm_is_tuple_of an_is_tuple_of cd_is_tuple_of ct_is_tuple_of), sl_is_tuple_of⟩)
    (c_is_tuple_of : PySem.W.codeIn K cd_is_tuple_of "is_tuple_of" = true)
    (k_is_tuple_of : PySem.W.keepIn K (.ref f_is_tuple_of) = true)
    (a_check_order : PySem.W.nsIn K mainGlobals "check_order" = some (some (.ref f_check_order)))
    (l_check_order : K.lookup f_check_order = some ⟨oc_check_order, od_check_order, .func (PySem.W.fnOf "check_order" "check_order" (defArgs s_check_order) (defBody s_check_order) (defScope s_check_order) .none kV_check_order dc_check_order pm_check_order an_check_order cd_check_order ct_check_order), sl_check_order⟩)
    (c_check_order : PySem.W.codeIn K cd_check_order "check_order" = true)
    (k_check_order : PySem.W.keepIn K (.ref f_check_order) = true)
    (a_told_joins : PySem.W.nsIn K mainGlobals "told_joins" = some (some (.ref f_told_joins)))
    (l_told_joins : K.lookup f_told_joins = some ⟨oc_told_joins, od_told_joins, .func (PySem.W.fnOf "told_joins" "told_joins" (defArgs s_told_joins) (defBody s_told_joins) (defScope s_told_joins) .none kV_told_joins dc_told_joins pm_told_joins an_told_joins cd_told_joins ct_told_joins), sl_told_joins⟩)
    (c_told_joins : PySem.W.codeIn K cd_told_joins "told_joins" = true)
    (k_told_joins : PySem.W.keepIn K (.ref f_told_joins) = true)
    (a_joins : PySem.W.nsIn K mainGlobals "joins" = some (some (.ref f_joins)))
    (l_joins : K.lookup f_joins = some ⟨oc_joins, od_joins, .func (PySem.W.fnOf "joins" "joins" (defArgs s_joins) (defBody s_joins) (defScope s_joins) .none kV_joins dc_joins pm_joins an_joins cd_joins ct_joins), sl_joins⟩)
    (c_joins : PySem.W.codeIn K cd_joins "joins" = true)
    (k_joins : PySem.W.keepIn K (.ref f_joins) = true)
    (a_pieces_after : PySem.W.nsIn K mainGlobals "pieces_after" = some (some (.ref f_pieces_after)))
    (l_pieces_after : K.lookup f_pieces_after = some ⟨oc_pieces_after, od_pieces_after, .func (PySem.W.fnOf "pieces_after" "pieces_after" (defArgs s_pieces_after) (defBody s_pieces_after) (defScope s_pieces_after) .none kV_pieces_after dc_pieces_after pm_pieces_after an_pieces_after cd_pieces_after ct_pieces_after), sl_pieces_after⟩)
    (c_pieces_after : PySem.W.codeIn K cd_pieces_after "pieces_after" = true)
    (k_pieces_after : PySem.W.keepIn K (.ref f_pieces_after) = true)
    (a_easy_order : PySem.W.nsIn K mainGlobals "easy_order" = some (some (.ref f_easy_order)))
    (l_easy_order : K.lookup f_easy_order = some ⟨oc_easy_order, od_easy_order, .func (PySem.W.fnOf "easy_order" "easy_order" (defArgs s_easy_order) (defBody s_easy_order) (defScope s_easy_order) .none kV_easy_order dc_easy_order pm_easy_order an_easy_order cd_easy_order ct_easy_order), sl_easy_order⟩)
    (c_easy_order : PySem.W.codeIn K cd_easy_order "easy_order" = true)
    (k_easy_order : PySem.W.keepIn K (.ref f_easy_order) = true)
    (a_all_colours : PySem.W.nsIn K mainGlobals "all_colours" = some (some (.ref f_all_colours)))
    (l_all_colours : K.lookup f_all_colours = some ⟨oc_all_colours, od_all_colours, .func (PySem.W.fnOf "all_colours" "all_colours" (defArgs s_all_colours) (defBody s_all_colours) (defScope s_all_colours) .none kV_all_colours dc_all_colours pm_all_colours an_all_colours cd_all_colours ct_all_colours), sl_all_colours⟩)
    (c_all_colours : PySem.W.codeIn K cd_all_colours "all_colours" = true)
    (k_all_colours : PySem.W.keepIn K (.ref f_all_colours) = true)
    (a_colours : PySem.W.nsIn K mainGlobals "colours" = some (some (.ref f_colours)))
    (l_colours : K.lookup f_colours = some ⟨oc_colours, od_colours, .func (PySem.W.fnOf "colours" "colours" (defArgs s_colours) (defBody s_colours) (defScope s_colours) .none kV_colours dc_colours pm_colours an_colours cd_colours ct_colours), sl_colours⟩)
    (c_colours : PySem.W.codeIn K cd_colours "colours" = true)
    (k_colours : PySem.W.keepIn K (.ref f_colours) = true)
    (a_is_point : PySem.W.nsIn K mainGlobals "is_point" = some (some (.ref f_is_point)))
    (l_is_point : K.lookup f_is_point = some ⟨oc_is_point, od_is_point, .func (PySem.W.fnOf "is_point" "is_point" (defArgs s_is_point) (defBody s_is_point) (defScope s_is_point) .none kV_is_point dc_is_point pm_is_point an_is_point cd_is_point ct_is_point), sl_is_point⟩)
    (c_is_point : PySem.W.codeIn K cd_is_point "is_point" = true)
    (k_is_point : PySem.W.keepIn K (.ref f_is_point) = true)
    (a_crossed : PySem.W.nsIn K mainGlobals "crossed" = some (some (.ref f_crossed)))
    (l_crossed : K.lookup f_crossed = some ⟨oc_crossed, od_crossed, .func (PySem.W.fnOf "crossed" "crossed" (defArgs s_crossed) (defBody s_crossed) (defScope s_crossed) .none kV_crossed dc_crossed pm_crossed an_crossed cd_crossed ct_crossed), sl_crossed⟩)
    (c_crossed : PySem.W.codeIn K cd_crossed "crossed" = true)
    (k_crossed : PySem.W.keepIn K (.ref f_crossed) = true)
    (a_is_panel : PySem.W.nsIn K mainGlobals "is_panel" = some (some (.ref f_is_panel)))
    (l_is_panel : K.lookup f_is_panel = some ⟨oc_is_panel, od_is_panel, .func (PySem.W.fnOf "is_panel" "is_panel" (defArgs s_is_panel) (defBody s_is_panel) (defScope s_is_panel) .none kV_is_panel dc_is_panel pm_is_panel an_is_panel cd_is_panel ct_is_panel), sl_is_panel⟩)
    (c_is_panel : PySem.W.codeIn K cd_is_panel "is_panel" = true)
    (k_is_panel : PySem.W.keepIn K (.ref f_is_panel) = true)
    (a_long_of : PySem.W.nsIn K mainGlobals "long_of" = some (some (.ref f_long_of)))
    (l_long_of : K.lookup f_long_of = some ⟨oc_long_of, od_long_of, .func (PySem.W.fnOf "long_of" "long_of" (defArgs s_long_of) (defBody s_long_of) (defScope s_long_of) .none kV_long_of dc_long_of pm_long_of an_long_of cd_long_of ct_long_of), sl_long_of⟩)
    (c_long_of : PySem.W.codeIn K cd_long_of "long_of" = true)
    (k_long_of : PySem.W.keepIn K (.ref f_long_of) = true)
    (a_is_seam : PySem.W.nsIn K mainGlobals "is_seam" = some (some (.ref f_is_seam)))
    (l_is_seam : K.lookup f_is_seam = some ⟨oc_is_seam, od_is_seam, .func (PySem.W.fnOf "is_seam" "is_seam" (defArgs s_is_seam) (defBody s_is_seam) (defScope s_is_seam) .none kV_is_seam dc_is_seam pm_is_seam an_is_seam cd_is_seam ct_is_seam), sl_is_seam⟩)
    (c_is_seam : PySem.W.codeIn K cd_is_seam "is_seam" = true)
    (k_is_seam : PySem.W.keepIn K (.ref f_is_seam) = true)
    (a__law_taken : PySem.W.nsIn K mainGlobals "_law_taken" = some (some (.ref f__law_taken)))
    (l__law_taken : K.lookup f__law_taken = some ⟨oc__law_taken, od__law_taken, .func (PySem.W.fnOf "_law_taken" "_law_taken" (defArgs s__law_taken) (defBody s__law_taken) (defScope s__law_taken) .none kV__law_taken dc__law_taken pm__law_taken an__law_taken cd__law_taken ct__law_taken), sl__law_taken⟩)
    (c__law_taken : PySem.W.codeIn K cd__law_taken "_law_taken" = true)
    (k__law_taken : PySem.W.keepIn K (.ref f__law_taken) = true)
    (a__law_pick : PySem.W.nsIn K mainGlobals "_law_pick" = some (some (.ref f__law_pick)))
    (l__law_pick : K.lookup f__law_pick = some ⟨oc__law_pick, od__law_pick, .func (PySem.W.fnOf "_law_pick" "_law_pick" (defArgs s__law_pick) (defBody s__law_pick) (defScope s__law_pick) .none kV__law_pick dc__law_pick pm__law_pick an__law_pick cd__law_pick ct__law_pick), sl__law_pick⟩)
    (c__law_pick : PySem.W.codeIn K cd__law_pick "_law_pick" = true)
    (k__law_pick : PySem.W.keepIn K (.ref f__law_pick) = true)
    (a__law_alike : PySem.W.nsIn K mainGlobals "_law_alike" = some (some (.ref f__law_alike)))
    (l__law_alike : K.lookup f__law_alike = some ⟨oc__law_alike, od__law_alike, .func (PySem.W.fnOf "_law_alike" "_law_alike" (defArgs s__law_alike) (defBody s__law_alike) (defScope s__law_alike) .none kV__law_alike dc__law_alike pm__law_alike an__law_alike cd__law_alike ct__law_alike), sl__law_alike⟩)
    (c__law_alike : PySem.W.codeIn K cd__law_alike "_law_alike" = true)
    (k__law_alike : PySem.W.keepIn K (.ref f__law_alike) = true)
    (a__law_long : PySem.W.nsIn K mainGlobals "_law_long" = some (some (.ref f__law_long)))
    (l__law_long : K.lookup f__law_long = some ⟨oc__law_long, od__law_long, .func (PySem.W.fnOf "_law_long" "_law_long" (defArgs s__law_long) (defBody s__law_long) (defScope s__law_long) .none kV__law_long dc__law_long pm__law_long an__law_long cd__law_long ct__law_long), sl__law_long⟩)
    (c__law_long : PySem.W.codeIn K cd__law_long "_law_long" = true)
    (k__law_long : PySem.W.keepIn K (.ref f__law_long) = true)
    (a__law_area : PySem.W.nsIn K mainGlobals "_law_area" = some (some (.ref f__law_area)))
    (l__law_area : K.lookup f__law_area = some ⟨oc__law_area, od__law_area, .func (PySem.W.fnOf "_law_area" "_law_area" (defArgs s__law_area) (defBody s__law_area) (defScope s__law_area) .none kV__law_area dc__law_area pm__law_area an__law_area cd__law_area ct__law_area), sl__law_area⟩)
    (c__law_area : PySem.W.codeIn K cd__law_area "_law_area" = true)
    (k__law_area : PySem.W.keepIn K (.ref f__law_area) = true)
    (a__law_free : PySem.W.nsIn K mainGlobals "_law_free" = some (some (.ref f__law_free)))
    (l__law_free : K.lookup f__law_free = some ⟨oc__law_free, od__law_free, .func (PySem.W.fnOf "_law_free" "_law_free" (defArgs s__law_free) (defBody s__law_free) (defScope s__law_free) .none kV__law_free dc__law_free pm__law_free an__law_free cd__law_free ct__law_free), sl__law_free⟩)
    (c__law_free : PySem.W.codeIn K cd__law_free "_law_free" = true)
    (k__law_free : PySem.W.keepIn K (.ref f__law_free) = true)
    (a__law_drawn_panel : PySem.W.nsIn K mainGlobals "_law_drawn_panel" = some (some (.ref f__law_drawn_panel)))
    (l__law_drawn_panel : K.lookup f__law_drawn_panel = some ⟨oc__law_drawn_panel, od__law_drawn_panel, .func (PySem.W.fnOf "_law_drawn_panel" "_law_drawn_panel" (defArgs s__law_drawn_panel) (defBody s__law_drawn_panel) (defScope s__law_drawn_panel) .none kV__law_drawn_panel dc__law_drawn_panel pm__law_drawn_panel an__law_drawn_panel cd__law_drawn_panel ct__law_drawn_panel), sl__law_drawn_panel⟩)
    (c__law_drawn_panel : PySem.W.codeIn K cd__law_drawn_panel "_law_drawn_panel" = true)
    (k__law_drawn_panel : PySem.W.keepIn K (.ref f__law_drawn_panel) = true)
    (a__law_sail : PySem.W.nsIn K mainGlobals "_law_sail" = some (some (.ref f__law_sail)))
    (l__law_sail : K.lookup f__law_sail = some ⟨oc__law_sail, od__law_sail, .func (PySem.W.fnOf "_law_sail" "_law_sail" (defArgs s__law_sail) (defBody s__law_sail) (defScope s__law_sail) .none kV__law_sail dc__law_sail pm__law_sail an__law_sail cd__law_sail ct__law_sail), sl__law_sail⟩)
    (c__law_sail : PySem.W.codeIn K cd__law_sail "_law_sail" = true)
    (k__law_sail : PySem.W.keepIn K (.ref f__law_sail) = true)
    (a__law_shuffled : PySem.W.nsIn K mainGlobals "_law_shuffled" = some (some (.ref f__law_shuffled)))
    (l__law_shuffled : K.lookup f__law_shuffled = some ⟨oc__law_shuffled, od__law_shuffled, .func (PySem.W.fnOf "_law_shuffled" "_law_shuffled" (defArgs s__law_shuffled) (defBody s__law_shuffled) (defScope s__law_shuffled) .none kV__law_shuffled dc__law_shuffled pm__law_shuffled an__law_shuffled cd__law_shuffled ct__law_shuffled), sl__law_shuffled⟩)
    (c__law_shuffled : PySem.W.codeIn K cd__law_shuffled "_law_shuffled" = true)
    (k__law_shuffled : PySem.W.keepIn K (.ref f__law_shuffled) = true)
    (a__law_joins : PySem.W.nsIn K mainGlobals "_law_joins" = some (some (.ref f__law_joins)))
    (l__law_joins : K.lookup f__law_joins = some ⟨oc__law_joins, od__law_joins, .func (PySem.W.fnOf "_law_joins" "_law_joins" (defArgs s__law_joins) (defBody s__law_joins) (defScope s__law_joins) .none kV__law_joins dc__law_joins pm__law_joins an__law_joins cd__law_joins ct__law_joins), sl__law_joins⟩)
    (c__law_joins : PySem.W.codeIn K cd__law_joins "_law_joins" = true)
    (k__law_joins : PySem.W.keepIn K (.ref f__law_joins) = true)
    (a__law_orders : PySem.W.nsIn K mainGlobals "_law_orders" = some (some (.ref f__law_orders)))
    (l__law_orders : K.lookup f__law_orders = some ⟨oc__law_orders, od__law_orders, .func (PySem.W.fnOf "_law_orders" "_law_orders" (defArgs s__law_orders) (defBody s__law_orders) (defScope s__law_orders) .none kV__law_orders dc__law_orders pm__law_orders an__law_orders cd__law_orders ct__law_orders), sl__law_orders⟩)
    (c__law_orders : PySem.W.codeIn K cd__law_orders "_law_orders" = true)
    (k__law_orders : PySem.W.keepIn K (.ref f__law_orders) = true)
    (a__law_colours : PySem.W.nsIn K mainGlobals "_law_colours" = some (some (.ref f__law_colours)))
    (l__law_colours : K.lookup f__law_colours = some ⟨oc__law_colours, od__law_colours, .func (PySem.W.fnOf "_law_colours" "_law_colours" (defArgs s__law_colours) (defBody s__law_colours) (defScope s__law_colours) .none kV__law_colours dc__law_colours pm__law_colours an__law_colours cd__law_colours ct__law_colours), sl__law_colours⟩)
    (c__law_colours : PySem.W.codeIn K cd__law_colours "_law_colours" = true)
    (k__law_colours : PySem.W.keepIn K (.ref f__law_colours) = true)
    (a__law_refused : PySem.W.nsIn K mainGlobals "_law_refused" = some (some (.ref f__law_refused)))
    (l__law_refused : K.lookup f__law_refused = some ⟨oc__law_refused, od__law_refused, .func (PySem.W.fnOf "_law_refused" "_law_refused" (defArgs s__law_refused) (defBody s__law_refused) (defScope s__law_refused) .none kV__law_refused dc__law_refused pm__law_refused an__law_refused cd__law_refused ct__law_refused), sl__law_refused⟩)
    (c__law_refused : PySem.W.codeIn K cd__law_refused "_law_refused" = true)
    (k__law_refused : PySem.W.keepIn K (.ref f__law_refused) = true)
    (a_law : PySem.W.nsIn K mainGlobals "law" = some (some (.ref f_law)))
    (l_law : K.lookup f_law = some ⟨oc_law, od_law, .func (PySem.W.fnOf "law" "law" (defArgs s_law) (defBody s_law) (defScope s_law) .none kV_law dc_law pm_law an_law (.ref cL) ct_law), sl_law⟩)
    (c_law : PySem.W.codeIn K (.ref cL) "law" = true)
    (k_law : PySem.W.keepIn K (.ref f_law) = true)
    (lc : K.lookup cL = some ⟨.type "code", oe18, .fields vs18, sl18⟩)
    (v11 : vs18[11]? = some (.ref TL))
    (v18 : vs18.getD 18 .none = .str x18 t18)
    (v7 : vs18.getD 7 .none = .int i7 t7)
    (v9 : vs18.getD 9 .none = .bool b9)
    (v10 : vs18.getD 10 .none = .int i10 t10)
    (nCT : (cL != TL) = true)
    (noT : K.lookup TL = none)
    (n_isinstance : PySem.W.nsIn K mainGlobals "isinstance" = some none)
    (n_len : PySem.W.nsIn K mainGlobals "len" = some none)
    (n_all : PySem.W.nsIn K mainGlobals "all" = some none)
    (n_any : PySem.W.nsIn K mainGlobals "any" = some none)
    (n_enumerate : PySem.W.nsIn K mainGlobals "enumerate" = some none)
    (n_range : PySem.W.nsIn K mainGlobals "range" = some none)
    (n_int : PySem.W.nsIn K mainGlobals "int" = some none)
    (n_bool : PySem.W.nsIn K mainGlobals "bool" = some none)
    (n_str : PySem.W.nsIn K mainGlobals "str" = some none)
    (n_list : PySem.W.nsIn K mainGlobals "list" = some none)
    (n_tuple : PySem.W.nsIn K mainGlobals "tuple" = some none)
    (n_dict : PySem.W.nsIn K mainGlobals "dict" = some none)
    (n_repr : PySem.W.nsIn K mainGlobals "repr" = some none)
    (n_max : PySem.W.nsIn K mainGlobals "max" = some none)
    (n_min : PySem.W.nsIn K mainGlobals "min" = some none)
    (n_sum : PySem.W.nsIn K mainGlobals "sum" = some none)
    (n_sorted : PySem.W.nsIn K mainGlobals "sorted" = some none)
    (i_MOST_PLACE : PySem.W.nsIn K mainGlobals "MOST_PLACE" = some (some (.int 100 t_MOST_PLACE)))
    (i_MOST_PANELS : PySem.W.nsIn K mainGlobals "MOST_PANELS" = some (some (.int 12 t_MOST_PANELS)))
    (i_MOST_SEAMS : PySem.W.nsIn K mainGlobals "MOST_SEAMS" = some (some (.int 18 t_MOST_SEAMS)))
    (x_C1 : PySem.W.nsIn K mainGlobals "BadPanels" = some (some (.ref C1)))
    (xl_C1 : K.lookup C1 = some (excClassObj nm_C1 q_C1 C1 N_C1 bs_C1 bm_C1 true sn_C1 sub_C1 ab_C1 col_C1 dd_C1 m0_C1 m1_C1 m2_C1 m3_C1 m5_C1 "ValueError.__new__"))
    (xr_C1 : PySem.HandSPX.refsVE bm_C1 = true)
    (xs_C1 : PySem.W.findIn K (.ref C1) "__setattr__" = some (some (.builtin "object.__setattr__")))
    (xe_C1 : PySem.W.subIn K (.ref C1) (.type "BaseException") = some true)
    (xt_C1 : PySem.W.typeIn K (.ref C1) = some (.type "type"))
    (xk_C1 : PySem.W.keepIn K (.ref C1) = true)
    (xv_C1 : PySem.W.findIn K (.ref C1) "value" = some none)
    (xi_C1 : PySem.W.findIn K (.ref C1) "__init__" = some (some (.ref fI)))
    (tI : PySem.W.typeIn K (.ref fI) = some (.type "function"))
    (xa_C1 : PySem.W.findIn K (.ref C1) "__getattribute__" = some (some (.builtin "BaseException.__getattribute__")))
    (xg_C1 : PySem.W.findIn K (.ref C1) "__getattr__" = some none)
    (xh_C1 : PySem.W.hasDictIn K C1 = true)
    (xc_C1 : PySem.W.isClsIn K C1 = true)
    (xx_C1_C1 : PySem.W.subIn K (.ref C1) (.ref C1) = some true)
    (x_C2 : PySem.W.nsIn K mainGlobals "BadSeams" = some (some (.ref C2)))
    (xl_C2 : K.lookup C2 = some (excClassObj nm_C2 q_C2 C2 N_C2 bs_C2 bm_C2 true sn_C2 sub_C2 ab_C2 col_C2 dd_C2 m0_C2 m1_C2 m2_C2 m3_C2 m5_C2 "ValueError.__new__"))
    (xr_C2 : PySem.HandSPX.refsVE bm_C2 = true)
    (xs_C2 : PySem.W.findIn K (.ref C2) "__setattr__" = some (some (.builtin "object.__setattr__")))
    (xe_C2 : PySem.W.subIn K (.ref C2) (.type "BaseException") = some true)
    (xt_C2 : PySem.W.typeIn K (.ref C2) = some (.type "type"))
    (xk_C2 : PySem.W.keepIn K (.ref C2) = true)
    (xv_C2 : PySem.W.findIn K (.ref C2) "value" = some none)
    (xi_C2 : PySem.W.findIn K (.ref C2) "__init__" = some (some (.ref fI)))
    (xa_C2 : PySem.W.findIn K (.ref C2) "__getattribute__" = some (some (.builtin "BaseException.__getattribute__")))
    (xg_C2 : PySem.W.findIn K (.ref C2) "__getattr__" = some none)
    (xh_C2 : PySem.W.hasDictIn K C2 = true)
    (xc_C2 : PySem.W.isClsIn K C2 = true)
    (xx_C2_C1 : PySem.W.subIn K (.ref C2) (.ref C1) = some false)
    (xx_C2_C2 : PySem.W.subIn K (.ref C2) (.ref C2) = some true)
    (x_C3 : PySem.W.nsIn K mainGlobals "BadSeamOrder" = some (some (.ref C3)))
    (xl_C3 : K.lookup C3 = some (excClassObj nm_C3 q_C3 C3 N_C3 bs_C3 bm_C3 true sn_C3 sub_C3 ab_C3 col_C3 dd_C3 m0_C3 m1_C3 m2_C3 m3_C3 m5_C3 "ValueError.__new__"))
    (xr_C3 : PySem.HandSPX.refsVE bm_C3 = true)
    (xs_C3 : PySem.W.findIn K (.ref C3) "__setattr__" = some (some (.builtin "object.__setattr__")))
    (xe_C3 : PySem.W.subIn K (.ref C3) (.type "BaseException") = some true)
    (xt_C3 : PySem.W.typeIn K (.ref C3) = some (.type "type"))
    (xk_C3 : PySem.W.keepIn K (.ref C3) = true)
    (xv_C3 : PySem.W.findIn K (.ref C3) "value" = some none)
    (xi_C3 : PySem.W.findIn K (.ref C3) "__init__" = some (some (.ref fI)))
    (xa_C3 : PySem.W.findIn K (.ref C3) "__getattribute__" = some (some (.builtin "BaseException.__getattribute__")))
    (xg_C3 : PySem.W.findIn K (.ref C3) "__getattr__" = some none)
    (xh_C3 : PySem.W.hasDictIn K C3 = true)
    (xc_C3 : PySem.W.isClsIn K C3 = true)
    (xx_C3_C1 : PySem.W.subIn K (.ref C3) (.ref C1) = some false)
    (xx_C3_C2 : PySem.W.subIn K (.ref C3) (.ref C2) = some false)
    (xx_C3_C3 : PySem.W.subIn K (.ref C3) (.ref C3) = some true)
    (lI : K.lookup fI = some ⟨ocI, odI, .func (PySem.W.fnOf "__init__" "SailError.__init__" (defArgs s_SailError___init__) (defBody s_SailError___init__) (defScope s_SailError___init__) (.ref TI) kVI dcI pmI anI cdI ctI), slI⟩)
    (cI : PySem.W.codeIn K cdI "SailError.__init__" = true)
    (kI : PySem.W.keepIn K (.ref fI) = true)
    (lT : K.lookup TI = some ⟨ocT, odT, .seq #[.none] nT, slT⟩)
    (g_CS : PySem.W.nsIn K mainGlobals "Sail" = some (some (.ref CS)))
    (pg_CS : PySem.W.plainGet K CS Str.empty = true)
    (hd_CS : PySem.W.hasDictIn K CS = true)
    (po_CS : PySem.W.plainOver K CS = true)
    (sa_CS : PySem.W.findIn K (.ref CS) "__setattr__" = some (some (.builtin "object.__setattr__")))
    (mk_CS : PySem.W.makesIn K CS = true)
    (kp_CS : PySem.W.keepIn K (.ref CS) = true)
    (na_CS_sewn : PySem.W.findIn K (.ref CS) "sewn" = some none)
    (na_CS_panels : PySem.W.findIn K (.ref CS) "panels" = some none)
    (na_CS_seams : PySem.W.findIn K (.ref CS) "seams" = some none)
    (at_Sail___init__ : PySem.W.findIn K (.ref CS) "__init__" = some (some (.ref f_Sail___init__)))
    (fn_Sail___init__ : PySem.W.isFn K (.ref f_Sail___init__) = true)
    (l_Sail___init__ : K.lookup f_Sail___init__ = some ⟨oc_Sail___init__, od_Sail___init__, .func (PySem.W.fnOf "__init__" "Sail.__init__" (defArgs s_Sail___init__) (defBody s_Sail___init__) (defScope s_Sail___init__) .none kV_Sail___init__ dc_Sail___init__ pm_Sail___init__ an_Sail___init__ cd_Sail___init__ ct_Sail___init__), sl_Sail___init__⟩)
    (c_Sail___init__ : PySem.W.codeIn K cd_Sail___init__ "Sail.__init__" = true)
    (k_Sail___init__ : PySem.W.keepIn K (.ref f_Sail___init__) = true)
    (at_Sail___eq__ : PySem.W.findIn K (.ref CS) "__eq__" = some (some (.ref f_Sail___eq__)))
    (fn_Sail___eq__ : PySem.W.isFn K (.ref f_Sail___eq__) = true)
    (l_Sail___eq__ : K.lookup f_Sail___eq__ = some ⟨oc_Sail___eq__, od_Sail___eq__, .func (PySem.W.fnOf "__eq__" "Sail.__eq__" (defArgs s_Sail___eq__) (defBody s_Sail___eq__) (defScope s_Sail___eq__) .none kV_Sail___eq__ dc_Sail___eq__ pm_Sail___eq__ an_Sail___eq__ cd_Sail___eq__ ct_Sail___eq__), sl_Sail___eq__⟩)
    (c_Sail___eq__ : PySem.W.codeIn K cd_Sail___eq__ "Sail.__eq__" = true)
    (k_Sail___eq__ : PySem.W.keepIn K (.ref f_Sail___eq__) = true)
    (at_Sail_beside : PySem.W.findIn K (.ref CS) "beside" = some (some (.ref f_Sail_beside)))
    (fn_Sail_beside : PySem.W.isFn K (.ref f_Sail_beside) = true)
    (l_Sail_beside : K.lookup f_Sail_beside = some ⟨oc_Sail_beside, od_Sail_beside, .func (PySem.W.fnOf "beside" "Sail.beside" (defArgs s_Sail_beside) (defBody s_Sail_beside) (defScope s_Sail_beside) .none kV_Sail_beside dc_Sail_beside pm_Sail_beside an_Sail_beside cd_Sail_beside ct_Sail_beside), sl_Sail_beside⟩)
    (c_Sail_beside : PySem.W.codeIn K cd_Sail_beside "Sail.beside" = true)
    (k_Sail_beside : PySem.W.keepIn K (.ref f_Sail_beside) = true)
    (at_Sail_reached : PySem.W.findIn K (.ref CS) "reached" = some (some (.ref f_Sail_reached)))
    (fn_Sail_reached : PySem.W.isFn K (.ref f_Sail_reached) = true)
    (l_Sail_reached : K.lookup f_Sail_reached = some ⟨oc_Sail_reached, od_Sail_reached, .func (PySem.W.fnOf "reached" "Sail.reached" (defArgs s_Sail_reached) (defBody s_Sail_reached) (defScope s_Sail_reached) .none kV_Sail_reached dc_Sail_reached pm_Sail_reached an_Sail_reached cd_Sail_reached ct_Sail_reached), sl_Sail_reached⟩)
    (c_Sail_reached : PySem.W.codeIn K cd_Sail_reached "Sail.reached" = true)
    (k_Sail_reached : PySem.W.keepIn K (.ref f_Sail_reached) = true)
    (at_Sail_sides : PySem.W.findIn K (.ref CS) "sides" = some (some (.ref f_Sail_sides)))
    (fn_Sail_sides : PySem.W.isFn K (.ref f_Sail_sides) = true)
    (l_Sail_sides : K.lookup f_Sail_sides = some ⟨oc_Sail_sides, od_Sail_sides, .func (PySem.W.fnOf "sides" "Sail.sides" (defArgs s_Sail_sides) (defBody s_Sail_sides) (defScope s_Sail_sides) .none kV_Sail_sides dc_Sail_sides pm_Sail_sides an_Sail_sides cd_Sail_sides ct_Sail_sides), sl_Sail_sides⟩)
    (c_Sail_sides : PySem.W.codeIn K cd_Sail_sides "Sail.sides" = true)
    (k_Sail_sides : PySem.W.keepIn K (.ref f_Sail_sides) = true)
    (at_Sail_near_corners : PySem.W.findIn K (.ref CS) "near_corners" = some (some (.ref f_Sail_near_corners)))
    (fn_Sail_near_corners : PySem.W.isFn K (.ref f_Sail_near_corners) = true)
    (l_Sail_near_corners : K.lookup f_Sail_near_corners = some ⟨oc_Sail_near_corners, od_Sail_near_corners, .func (PySem.W.fnOf "near_corners" "Sail.near_corners" (defArgs s_Sail_near_corners) (defBody s_Sail_near_corners) (defScope s_Sail_near_corners) .none kV_Sail_near_corners dc_Sail_near_corners pm_Sail_near_corners an_Sail_near_corners cd_Sail_near_corners ct_Sail_near_corners), sl_Sail_near_corners⟩)
    (c_Sail_near_corners : PySem.W.codeIn K cd_Sail_near_corners "Sail.near_corners" = true)
    (k_Sail_near_corners : PySem.W.keepIn K (.ref f_Sail_near_corners) = true)
    (at_Sail_point_of : PySem.W.findIn K (.ref CS) "point_of" = some (some (.ref f_Sail_point_of)))
    (fn_Sail_point_of : PySem.W.isFn K (.ref f_Sail_point_of) = true)
    (l_Sail_point_of : K.lookup f_Sail_point_of = some ⟨oc_Sail_point_of, od_Sail_point_of, .func (PySem.W.fnOf "point_of" "Sail.point_of" (defArgs s_Sail_point_of) (defBody s_Sail_point_of) (defScope s_Sail_point_of) .none kV_Sail_point_of dc_Sail_point_of pm_Sail_point_of an_Sail_point_of cd_Sail_point_of ct_Sail_point_of), sl_Sail_point_of⟩)
    (c_Sail_point_of : PySem.W.codeIn K cd_Sail_point_of "Sail.point_of" = true)
    (k_Sail_point_of : PySem.W.keepIn K (.ref f_Sail_point_of) = true) : ∃ c T, LawFn K fa c T ∧ LawRun P w K mg fa c T := by
  have e := hfa.symm.trans (PySem.W.mg_of X G a_law)
  cases e
  have T : ∀ base, Tx P w K mg base C1 C2 C3 fI CS := fun base =>
    { d__wall := ⟨f__wall, _, fun_mk l__wall c__wall k__wall, PySem.W.mg_of X G a__wall⟩,
      d_is_integer := ⟨f_is_integer, _, fun_mk l_is_integer c_is_integer k_is_integer, PySem.W.mg_of X G a_is_integer⟩,
      d_is_within := ⟨f_is_within, _, fun_mk l_is_within c_is_within k_is_within, PySem.W.mg_of X G a_is_within⟩,
      d_is_row := ⟨f_is_row, _, fun_mk l_is_row c_is_row k_is_row, PySem.W.mg_of X G a_is_row⟩,
      d_is_tuple_of := ⟨f_is_tuple_of, _, fun_mk l_is_tuple_of c_is_tuple_of k_is_tuple_of, PySem.W.mg_of X G a_is_tuple_of⟩,
      d_check_order := ⟨f_check_order, _, fun_mk l_check_order c_check_order k_check_order, PySem.W.mg_of X G a_check_order⟩,
      d_told_joins := ⟨f_told_joins, _, fun_mk l_told_joins c_told_joins k_told_joins, PySem.W.mg_of X G a_told_joins⟩,
      d_joins := ⟨f_joins, _, fun_mk l_joins c_joins k_joins, PySem.W.mg_of X G a_joins⟩,
      d_pieces_after := ⟨f_pieces_after, _, fun_mk l_pieces_after c_pieces_after k_pieces_after, PySem.W.mg_of X G a_pieces_after⟩,
      d_easy_order := ⟨f_easy_order, _, fun_mk l_easy_order c_easy_order k_easy_order, PySem.W.mg_of X G a_easy_order⟩,
      d_all_colours := ⟨f_all_colours, _, fun_mk l_all_colours c_all_colours k_all_colours, PySem.W.mg_of X G a_all_colours⟩,
      d_colours := ⟨f_colours, _, fun_mk l_colours c_colours k_colours, PySem.W.mg_of X G a_colours⟩,
      d_is_point := ⟨f_is_point, _, fun_mk l_is_point c_is_point k_is_point, PySem.W.mg_of X G a_is_point⟩,
      d_crossed := ⟨f_crossed, _, fun_mk l_crossed c_crossed k_crossed, PySem.W.mg_of X G a_crossed⟩,
      d_is_panel := ⟨f_is_panel, _, fun_mk l_is_panel c_is_panel k_is_panel, PySem.W.mg_of X G a_is_panel⟩,
      d_long_of := ⟨f_long_of, _, fun_mk l_long_of c_long_of k_long_of, PySem.W.mg_of X G a_long_of⟩,
      d_is_seam := ⟨f_is_seam, _, fun_mk l_is_seam c_is_seam k_is_seam, PySem.W.mg_of X G a_is_seam⟩,
      d__law_taken := ⟨f__law_taken, _, fun_mk l__law_taken c__law_taken k__law_taken, PySem.W.mg_of X G a__law_taken⟩,
      d__law_pick := ⟨f__law_pick, _, fun_mk l__law_pick c__law_pick k__law_pick, PySem.W.mg_of X G a__law_pick⟩,
      d__law_alike := ⟨f__law_alike, _, fun_mk l__law_alike c__law_alike k__law_alike, PySem.W.mg_of X G a__law_alike⟩,
      d__law_long := ⟨f__law_long, _, fun_mk l__law_long c__law_long k__law_long, PySem.W.mg_of X G a__law_long⟩,
      d__law_area := ⟨f__law_area, _, fun_mk l__law_area c__law_area k__law_area, PySem.W.mg_of X G a__law_area⟩,
      d__law_free := ⟨f__law_free, _, fun_mk l__law_free c__law_free k__law_free, PySem.W.mg_of X G a__law_free⟩,
      d__law_drawn_panel := ⟨f__law_drawn_panel, _, fun_mk l__law_drawn_panel c__law_drawn_panel k__law_drawn_panel, PySem.W.mg_of X G a__law_drawn_panel⟩,
      d__law_sail := ⟨f__law_sail, _, fun_mk l__law_sail c__law_sail k__law_sail, PySem.W.mg_of X G a__law_sail⟩,
      d__law_shuffled := ⟨f__law_shuffled, _, fun_mk l__law_shuffled c__law_shuffled k__law_shuffled, PySem.W.mg_of X G a__law_shuffled⟩,
      d__law_joins := ⟨f__law_joins, _, fun_mk l__law_joins c__law_joins k__law_joins, PySem.W.mg_of X G a__law_joins⟩,
      d__law_orders := ⟨f__law_orders, _, fun_mk l__law_orders c__law_orders k__law_orders, PySem.W.mg_of X G a__law_orders⟩,
      d__law_colours := ⟨f__law_colours, _, fun_mk l__law_colours c__law_colours k__law_colours, PySem.W.mg_of X G a__law_colours⟩,
      d__law_refused := ⟨f__law_refused, _, fun_mk l__law_refused c__law_refused k__law_refused, PySem.W.mg_of X G a__law_refused⟩,
      b_isinstance := PySem.W.mg_none_of X G n_isinstance,
      b_len := PySem.W.mg_none_of X G n_len,
      b_all := PySem.W.mg_none_of X G n_all,
      b_any := PySem.W.mg_none_of X G n_any,
      b_enumerate := PySem.W.mg_none_of X G n_enumerate,
      b_range := PySem.W.mg_none_of X G n_range,
      b_int := PySem.W.mg_none_of X G n_int,
      b_bool := PySem.W.mg_none_of X G n_bool,
      b_str := PySem.W.mg_none_of X G n_str,
      b_list := PySem.W.mg_none_of X G n_list,
      b_tuple := PySem.W.mg_none_of X G n_tuple,
      b_dict := PySem.W.mg_none_of X G n_dict,
      b_repr := PySem.W.mg_none_of X G n_repr,
      b_max := PySem.W.mg_none_of X G n_max,
      b_min := PySem.W.mg_none_of X G n_min,
      b_sum := PySem.W.mg_none_of X G n_sum,
      b_sorted := PySem.W.mg_none_of X G n_sorted,
      k_MOST_PLACE := ⟨_, PySem.W.mg_of X G i_MOST_PLACE⟩,
      k_MOST_PANELS := ⟨_, PySem.W.mg_of X G i_MOST_PANELS⟩,
      k_MOST_SEAMS := ⟨_, PySem.W.mg_of X G i_MOST_SEAMS⟩,
      e_BadPanels := ⟨PySem.W.mg_of X G x_C1, ⟨⟨_, _, _, _, _, _, _, _, _, _, _, _, _, _, _, xl_C1, xr_C1⟩, xs_C1, xe_C1, xt_C1, xk_C1⟩, xv_C1, xi_C1, tI, ⟨xa_C1, xg_C1, xe_C1, xh_C1⟩⟩,
      told1 := ⟨true, exm_of xe_C1 xc_C1 xt_C1 xx_C1_C1, fun _ => ⟨rfl, rfl⟩, fun z => by cases z⟩,
      e_BadSeams := ⟨PySem.W.mg_of X G x_C2, ⟨⟨_, _, _, _, _, _, _, _, _, _, _, _, _, _, _, xl_C2, xr_C2⟩, xs_C2, xe_C2, xt_C2, xk_C2⟩, xv_C2, xi_C2, tI, ⟨xa_C2, xg_C2, xe_C2, xh_C2⟩⟩,
      told2 := ⟨false, exm_of xe_C1 xc_C1 xt_C1 xx_C2_C1, (fun z => by cases z), fun _ => ⟨true, exm_of xe_C2 xc_C2 xt_C2 xx_C2_C2, fun _ => ⟨rfl, rfl⟩, fun z => by cases z⟩⟩,
      e_BadSeamOrder := ⟨PySem.W.mg_of X G x_C3, ⟨⟨_, _, _, _, _, _, _, _, _, _, _, _, _, _, _, xl_C3, xr_C3⟩, xs_C3, xe_C3, xt_C3, xk_C3⟩, xv_C3, xi_C3, tI, ⟨xa_C3, xg_C3, xe_C3, xh_C3⟩⟩,
      told3 := ⟨false, exm_of xe_C1 xc_C1 xt_C1 xx_C3_C1, (fun z => by cases z), fun _ => ⟨false, exm_of xe_C2 xc_C2 xt_C2 xx_C3_C2, (fun z => by cases z), fun _ => ⟨true, exm_of xe_C3 xc_C3 xt_C3 xx_C3_C3, fun _ => ⟨rfl, rfl⟩, fun z => by cases z⟩⟩⟩,
      ini := iniF_mk (st := s_SailError___init__) ⟨⟨_, _, _, _, _, _, _, _, _, _, rfl, lI, cI, .inr ⟨by simp, _, _, [.none], _, rfl, lT, rfl, .cons rfl .nil⟩, .inl rfl⟩, kI⟩ sc_SailError___init__ rfl rfl (fun _ _ _ _ _ _ _ us its h1 h2 => match us, its, h1, h2 with | [_, _], [_], _, _ => ⟨_, rfl, rfl⟩),
      a_sewn := na_CS_sewn,
      a_panels := na_CS_panels,
      a_seams := na_CS_seams,
      k_Sail := ⟨⟨f_Sail___init__, _, fun_mk l_Sail___init__ c_Sail___init__ k_Sail___init__, ⟨mk_CS, at_Sail___init__, fn_Sail___init__, kp_CS⟩⟩, PySem.W.mg_of X G g_CS⟩,
      m___eq__ := ⟨⟨f_Sail___eq__, _, fun_mk l_Sail___eq__ c_Sail___eq__ k_Sail___eq__, ⟨at_Sail___eq__, fn_Sail___eq__, k_Sail___eq__⟩⟩, ⟨pg_CS, hd_CS, po_CS, sa_CS⟩⟩,
      m_beside := ⟨⟨f_Sail_beside, _, fun_mk l_Sail_beside c_Sail_beside k_Sail_beside, ⟨at_Sail_beside, fn_Sail_beside, k_Sail_beside⟩⟩, ⟨pg_CS, hd_CS, po_CS, sa_CS⟩⟩,
      m_reached := ⟨⟨f_Sail_reached, _, fun_mk l_Sail_reached c_Sail_reached k_Sail_reached, ⟨at_Sail_reached, fn_Sail_reached, k_Sail_reached⟩⟩, ⟨pg_CS, hd_CS, po_CS, sa_CS⟩⟩,
      m_sides := ⟨⟨f_Sail_sides, _, fun_mk l_Sail_sides c_Sail_sides k_Sail_sides, ⟨at_Sail_sides, fn_Sail_sides, k_Sail_sides⟩⟩, ⟨pg_CS, hd_CS, po_CS, sa_CS⟩⟩,
      m_near_corners := ⟨⟨f_Sail_near_corners, _, fun_mk l_Sail_near_corners c_Sail_near_corners k_Sail_near_corners, ⟨at_Sail_near_corners, fn_Sail_near_corners, k_Sail_near_corners⟩⟩, ⟨pg_CS, hd_CS, po_CS, sa_CS⟩⟩,
      m_point_of := ⟨⟨f_Sail_point_of, _, fun_mk l_Sail_point_of c_Sail_point_of k_Sail_point_of, ⟨at_Sail_point_of, fn_Sail_point_of, k_Sail_point_of⟩⟩, ⟨pg_CS, hd_CS, po_CS, sa_CS⟩⟩ }
  have F := fun_mk (st := s_law) l_law c_law k_law
  refine ⟨cL, TL, lawFn_mk l_law rfl lc v11 v18 v7 v9 v10 nCT noT, law_run (k := 27) F rfl sc_law (F.binds (ps := ["script"]) fun _ _ _ _ _ _ us hl => match us, hl with | [_], _ => rfl) ⟨rfl, by decide, by decide⟩ fun base s H a ns KB hG tb hr hT naT hS hl hz => ?_⟩
  exact law_body (T base) tb hr hT naT hS
end K27

set_option Elab.async false
set_option linter.all false
open PySem PySem.W PyProof.Rows
set_option maxRecDepth 100000 in
set_option maxHeartbeats 0 in
theorem PySem.Challenge.cw_sailcut_k27_whole_sewing_holds : PySem.Challenge.rw_sailcut_k27_whole_sewing.Holds := by
  w_on; o_law; k_head; (case hw => w_witness2)
  k_fill
  refine Dl.walk_end rfl rfl (by decide +kernel) (fun w h Y => PySem.W.km_in_of Y) ?F
  case F =>
    intro w mg fa h KX G hmg
    refine' K27.all_mk KX G hmg ?a__wall ?l__wall ?c__wall ?k__wall ?a_is_integer ?l_is_integer ?c_is_integer ?k_is_integer ?a_is_within ?l_is_within ?c_is_within ?k_is_within ?a_is_row ?l_is_row ?c_is_row ?k_is_row ?a_is_tuple_of ?l_is_tuple_of ?c_is_tuple_of ?k_is_tuple_of ?a_check_order ?l_check_order ?c_check_order ?k_check_order ?a_told_joins ?l_told_joins ?c_told_joins ?k_told_joins ?a_joins ?l_joins ?c_joins ?k_joins ?a_pieces_after ?l_pieces_after ?c_pieces_after ?k_pieces_after ?a_easy_order ?l_easy_order ?c_easy_order ?k_easy_order ?a_all_colours ?l_all_colours ?c_all_colours ?k_all_colours ?a_colours ?l_colours ?c_colours ?k_colours ?a_is_point ?l_is_point ?c_is_point ?k_is_point ?a_crossed ?l_crossed ?c_crossed ?k_crossed ?a_is_panel ?l_is_panel ?c_is_panel ?k_is_panel ?a_long_of ?l_long_of ?c_long_of ?k_long_of ?a_is_seam ?l_is_seam ?c_is_seam ?k_is_seam ?a__law_taken ?l__law_taken ?c__law_taken ?k__law_taken ?a__law_pick ?l__law_pick ?c__law_pick ?k__law_pick ?a__law_alike ?l__law_alike ?c__law_alike ?k__law_alike ?a__law_long ?l__law_long ?c__law_long ?k__law_long ?a__law_area ?l__law_area ?c__law_area ?k__law_area ?a__law_free ?l__law_free ?c__law_free ?k__law_free ?a__law_drawn_panel ?l__law_drawn_panel ?c__law_drawn_panel ?k__law_drawn_panel ?a__law_sail ?l__law_sail ?c__law_sail ?k__law_sail ?a__law_shuffled ?l__law_shuffled ?c__law_shuffled ?k__law_shuffled ?a__law_joins ?l__law_joins ?c__law_joins ?k__law_joins ?a__law_orders ?l__law_orders ?c__law_orders ?k__law_orders ?a__law_colours ?l__law_colours ?c__law_colours ?k__law_colours ?a__law_refused ?l__law_refused ?c__law_refused ?k__law_refused ?a_law ?l_law ?c_law ?k_law ?lc ?v11 ?v18 ?v7 ?v9 ?v10 ?nCT ?noT ?n_isinstance ?n_len ?n_all ?n_any ?n_enumerate ?n_range ?n_int ?n_bool ?n_str ?n_list ?n_tuple ?n_dict ?n_repr ?n_max ?n_min ?n_sum ?n_sorted ?i_MOST_PLACE ?i_MOST_PANELS ?i_MOST_SEAMS ?x_C1 ?xl_C1 ?xr_C1 ?xs_C1 ?xe_C1 ?xt_C1 ?xk_C1 ?xv_C1 ?xi_C1 ?tI ?xa_C1 ?xg_C1 ?xh_C1 ?xc_C1 ?xx_C1_C1 ?x_C2 ?xl_C2 ?xr_C2 ?xs_C2 ?xe_C2 ?xt_C2 ?xk_C2 ?xv_C2 ?xi_C2 ?xa_C2 ?xg_C2 ?xh_C2 ?xc_C2 ?xx_C2_C1 ?xx_C2_C2 ?x_C3 ?xl_C3 ?xr_C3 ?xs_C3 ?xe_C3 ?xt_C3 ?xk_C3 ?xv_C3 ?xi_C3 ?xa_C3 ?xg_C3 ?xh_C3 ?xc_C3 ?xx_C3_C1 ?xx_C3_C2 ?xx_C3_C3 ?lI ?cI ?kI ?lT ?g_CS ?pg_CS ?hd_CS ?po_CS ?sa_CS ?mk_CS ?kp_CS ?na_CS_sewn ?na_CS_panels ?na_CS_seams ?at_Sail___init__ ?fn_Sail___init__ ?l_Sail___init__ ?c_Sail___init__ ?k_Sail___init__ ?at_Sail___eq__ ?fn_Sail___eq__ ?l_Sail___eq__ ?c_Sail___eq__ ?k_Sail___eq__ ?at_Sail_beside ?fn_Sail_beside ?l_Sail_beside ?c_Sail_beside ?k_Sail_beside ?at_Sail_reached ?fn_Sail_reached ?l_Sail_reached ?c_Sail_reached ?k_Sail_reached ?at_Sail_sides ?fn_Sail_sides ?l_Sail_sides ?c_Sail_sides ?k_Sail_sides ?at_Sail_near_corners ?fn_Sail_near_corners ?l_Sail_near_corners ?c_Sail_near_corners ?k_Sail_near_corners ?at_Sail_point_of ?fn_Sail_point_of ?l_Sail_point_of ?c_Sail_point_of ?k_Sail_point_of
    (case a__wall => k_is)
    (case l__wall => k_is)
    (case c__wall => k_is)
    (case k__wall => k_is)
    (case a_is_integer => k_is)
    (case l_is_integer => k_is)
    (case c_is_integer => k_is)
    (case k_is_integer => k_is)
    (case a_is_within => k_is)
    (case l_is_within => k_is)
    (case c_is_within => k_is)
    (case k_is_within => k_is)
    (case a_is_row => k_is)
    (case l_is_row => k_is)
    (case c_is_row => k_is)
    (case k_is_row => k_is)
    (case a_is_tuple_of => k_is)
    (case l_is_tuple_of => k_is)
    (case c_is_tuple_of => k_is)
    (case k_is_tuple_of => k_is)
    (case a_check_order => k_is)
    (case l_check_order => k_is)
    (case c_check_order => k_is)
    (case k_check_order => k_is)
    (case a_told_joins => k_is)
    (case l_told_joins => k_is)
    (case c_told_joins => k_is)
    (case k_told_joins => k_is)
    (case a_joins => k_is)
    (case l_joins => k_is)
    (case c_joins => k_is)
    (case k_joins => k_is)
    (case a_pieces_after => k_is)
    (case l_pieces_after => k_is)
    (case c_pieces_after => k_is)
    (case k_pieces_after => k_is)
    (case a_easy_order => k_is)
    (case l_easy_order => k_is)
    (case c_easy_order => k_is)
    (case k_easy_order => k_is)
    (case a_all_colours => k_is)
    (case l_all_colours => k_is)
    (case c_all_colours => k_is)
    (case k_all_colours => k_is)
    (case a_colours => k_is)
    (case l_colours => k_is)
    (case c_colours => k_is)
    (case k_colours => k_is)
    (case a_is_point => k_is)
    (case l_is_point => k_is)
    (case c_is_point => k_is)
    (case k_is_point => k_is)
    (case a_crossed => k_is)
    (case l_crossed => k_is)
    (case c_crossed => k_is)
    (case k_crossed => k_is)
    (case a_is_panel => k_is)
    (case l_is_panel => k_is)
    (case c_is_panel => k_is)
    (case k_is_panel => k_is)
    (case a_long_of => k_is)
    (case l_long_of => k_is)
    (case c_long_of => k_is)
    (case k_long_of => k_is)
    (case a_is_seam => k_is)
    (case l_is_seam => k_is)
    (case c_is_seam => k_is)
    (case k_is_seam => k_is)
    (case a__law_taken => k_is)
    (case l__law_taken => k_is)
    (case c__law_taken => k_is)
    (case k__law_taken => k_is)
    (case a__law_pick => k_is)
    (case l__law_pick => k_is)
    (case c__law_pick => k_is)
    (case k__law_pick => k_is)
    (case a__law_alike => k_is)
    (case l__law_alike => k_is)
    (case c__law_alike => k_is)
    (case k__law_alike => k_is)
    (case a__law_long => k_is)
    (case l__law_long => k_is)
    (case c__law_long => k_is)
    (case k__law_long => k_is)
    (case a__law_area => k_is)
    (case l__law_area => k_is)
    (case c__law_area => k_is)
    (case k__law_area => k_is)
    (case a__law_free => k_is)
    (case l__law_free => k_is)
    (case c__law_free => k_is)
    (case k__law_free => k_is)
    (case a__law_drawn_panel => k_is)
    (case l__law_drawn_panel => k_is)
    (case c__law_drawn_panel => k_is)
    (case k__law_drawn_panel => k_is)
    (case a__law_sail => k_is)
    (case l__law_sail => k_is)
    (case c__law_sail => k_is)
    (case k__law_sail => k_is)
    (case a__law_shuffled => k_is)
    (case l__law_shuffled => k_is)
    (case c__law_shuffled => k_is)
    (case k__law_shuffled => k_is)
    (case a__law_joins => k_is)
    (case l__law_joins => k_is)
    (case c__law_joins => k_is)
    (case k__law_joins => k_is)
    (case a__law_orders => k_is)
    (case l__law_orders => k_is)
    (case c__law_orders => k_is)
    (case k__law_orders => k_is)
    (case a__law_colours => k_is)
    (case l__law_colours => k_is)
    (case c__law_colours => k_is)
    (case k__law_colours => k_is)
    (case a__law_refused => k_is)
    (case l__law_refused => k_is)
    (case c__law_refused => k_is)
    (case k__law_refused => k_is)
    (case a_law => k_is)
    (case l_law => k_is)
    (case c_law => k_is)
    (case k_law => k_is)
    (case lc => k_is)
    (case v11 => rfl)
    (case v18 => rfl)
    (case v7 => rfl)
    (case v9 => rfl)
    (case v10 => rfl)
    (case nCT => decide)
    (case noT => kernel_rfl)
    (case n_isinstance => k_is)
    (case n_len => k_is)
    (case n_all => k_is)
    (case n_any => k_is)
    (case n_enumerate => k_is)
    (case n_range => k_is)
    (case n_int => k_is)
    (case n_bool => k_is)
    (case n_str => k_is)
    (case n_list => k_is)
    (case n_tuple => k_is)
    (case n_dict => k_is)
    (case n_repr => k_is)
    (case n_max => k_is)
    (case n_min => k_is)
    (case n_sum => k_is)
    (case n_sorted => k_is)
    (case i_MOST_PLACE => k_is)
    (case i_MOST_PANELS => k_is)
    (case i_MOST_SEAMS => k_is)
    (case x_C1 => k_is)
    (case xl_C1 => k_is)
    (case xr_C1 => decide +kernel)
    (case xs_C1 => k_is)
    (case xe_C1 => k_is)
    (case xt_C1 => k_is)
    (case xk_C1 => k_is)
    (case xv_C1 => k_is)
    (case xi_C1 => k_is)
    (case tI => k_is)
    (case xa_C1 => k_is)
    (case xg_C1 => k_is)
    (case xh_C1 => k_is)
    (case xc_C1 => k_is)
    (case xx_C1_C1 => k_is)
    (case x_C2 => k_is)
    (case xl_C2 => k_is)
    (case xr_C2 => decide +kernel)
    (case xs_C2 => k_is)
    (case xe_C2 => k_is)
    (case xt_C2 => k_is)
    (case xk_C2 => k_is)
    (case xv_C2 => k_is)
    (case xi_C2 => k_is)
    (case xa_C2 => k_is)
    (case xg_C2 => k_is)
    (case xh_C2 => k_is)
    (case xc_C2 => k_is)
    (case xx_C2_C1 => k_is)
    (case xx_C2_C2 => k_is)
    (case x_C3 => k_is)
    (case xl_C3 => k_is)
    (case xr_C3 => decide +kernel)
    (case xs_C3 => k_is)
    (case xe_C3 => k_is)
    (case xt_C3 => k_is)
    (case xk_C3 => k_is)
    (case xv_C3 => k_is)
    (case xi_C3 => k_is)
    (case xa_C3 => k_is)
    (case xg_C3 => k_is)
    (case xh_C3 => k_is)
    (case xc_C3 => k_is)
    (case xx_C3_C1 => k_is)
    (case xx_C3_C2 => k_is)
    (case xx_C3_C3 => k_is)
    (case lI => k_is)
    (case cI => k_is)
    (case kI => k_is)
    (case lT => k_is)
    (case g_CS => k_is)
    (case pg_CS => k_is)
    (case hd_CS => k_is)
    (case po_CS => k_is)
    (case sa_CS => k_is)
    (case mk_CS => k_is)
    (case kp_CS => k_is)
    (case na_CS_sewn => k_is)
    (case na_CS_panels => k_is)
    (case na_CS_seams => k_is)
    (case at_Sail___init__ => k_is)
    (case fn_Sail___init__ => k_is)
    (case l_Sail___init__ => k_is)
    (case c_Sail___init__ => k_is)
    (case k_Sail___init__ => k_is)
    (case at_Sail___eq__ => k_is)
    (case fn_Sail___eq__ => k_is)
    (case l_Sail___eq__ => k_is)
    (case c_Sail___eq__ => k_is)
    (case k_Sail___eq__ => k_is)
    (case at_Sail_beside => k_is)
    (case fn_Sail_beside => k_is)
    (case l_Sail_beside => k_is)
    (case c_Sail_beside => k_is)
    (case k_Sail_beside => k_is)
    (case at_Sail_reached => k_is)
    (case fn_Sail_reached => k_is)
    (case l_Sail_reached => k_is)
    (case c_Sail_reached => k_is)
    (case k_Sail_reached => k_is)
    (case at_Sail_sides => k_is)
    (case fn_Sail_sides => k_is)
    (case l_Sail_sides => k_is)
    (case c_Sail_sides => k_is)
    (case k_Sail_sides => k_is)
    (case at_Sail_near_corners => k_is)
    (case fn_Sail_near_corners => k_is)
    (case l_Sail_near_corners => k_is)
    (case c_Sail_near_corners => k_is)
    (case k_Sail_near_corners => k_is)
    (case at_Sail_point_of => k_is)
    (case fn_Sail_point_of => k_is)
    (case l_Sail_point_of => k_is)
    (case c_Sail_point_of => k_is)
    (case k_Sail_point_of => k_is)
