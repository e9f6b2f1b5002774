import PyProof.Rows.All
import Wide.All
import OpenK.AllK
import Wide.FinOn
import HandS.ForMost
import HandS.ForExc
import HandS.Walk
import HandS.Deep
import HandS.Lambda
import HandS.EndTab
import HandS.TryMany
import HandS.ExcInit
import HandS.ExcField
import HandS.IsInst
import HandS.Gcd
import HandS.Wide
import HandS.TupAny
import HandS.CallLocal
import PyProof.ReprReads
import KE.KeyNested
import KE.KDictKeyed
import KE.GoesMore
import KE.KNestM
import HandS.EndOwn
import HandS.Style
import HandS.Defaults
import KE.DataCmp
import KE.DataMinMax
import KE.DatumOrd
import HandS.Star
import HandS.SortKw
import HandS.Dict
import HandS.Iter
import HandS.TupLen
import HandS.Zip
import HandS.More
import KE.SortData
import HandS.TupMul
import HandS.TupLe
import KE.KUnpack
import HandS.Conv
import HandS.DictTup
import HandS.DictComp
import KE.KDictDisplayH
import KE.KDictWalk
import HandS.OwnEq
import PySem.Challenge.RW_sailcut_k11_whole_sails
set_option Elab.async false
set_option linter.all false
set_option maxRecDepth 100000
set_option maxHeartbeats 4000000
/-! Dl: a layer of plain data over the hand layer: what a value stands for, and what a reading gives, told without the heap. -/
namespace Dl
open PySem PySem.Spec PyProof.Rows L2
abbrev D := PyData
def kD : Key → D
  | .inl i => .int i
  | .inr x => .str x
/-! ### dicts whose keys are tuples of ints, nested -/
mutual
/-- the key that the data are -/
def nk : D → NestedKey
  | .int i => .num i
  | .str x => .text x
  | .tuple ds => .tup (nkAll ds)
  | _ => .none
def nkAll : List D → List NestedKey
  | [] => []
  | d :: ds => nk d :: nkAll ds
end
mutual
/-- data that are keys here: ints, tuples of such -/
def okN : D → Bool
  | .int _ => true
  | .tuple ds => okNs ds
  | _ => false
def okNs : List D → Bool
  | [] => true
  | d :: ds => okN d && okNs ds
end
/-- data that are a tuple, and a key -/
def okT : D → Bool
  | .tuple ds => okNs ds && decide ((nkAll ds).length ≤ 1000000) && decide (NestedKey.depthAll (nkAll ds) ≤ 7)
  | _ => false
def entX (w : World) (x : NestedKey × Addr × Value) : DictEntry := ⟨x.1.hash w, .ref x.2.1, x.2.2⟩
def phiX (a : Addr) (xs : List (NestedKey × Addr × Value)) : Heap → Prop := fun h => xs.length ≤ sizeLine ∧ (a == sysModules) = false ∧ ∃ o es ep, h.get? a = some o ∧ o.ExactDict ∧ o.data = .dict es ep ∧ (∀ w, es.toList = xs.map (entX w)) ∧ (xs.map (·.1)).Nodup
/-- the dict at a, its keys tuples -/
def DX (a : Addr) (xs : List (NestedKey × Addr × Value)) : HO := .ext (phiX a xs)
mutual
/-- the value v stands for the data d, as far as G is known -/
inductive R (K : PySem.W.Frag) (G : Hp) : V → D → Prop
  | non : R K G .non .none
  | bl (b : Bool) : R K G (.bl b) (.bool b)
  | int (i : Int) : R K G (.int i) (.int i)
  | str (x : Str) : R K G (.str x) (.str x)
  | lst {a : Addr} {xs : List V} {ds : List D} : SqL K G a xs → RA K G xs ds → R K G (.ref a) (.list ds)
  | tup {a : Addr} {xs : List V} {ds : List D} : SqT K G a xs → RA K G xs ds → R K G (.ref a) (.tuple ds)
  | dic {a : Addr} {o : Obj} {ks : List (Key × V)} {ds : List (D × D)} : G a = some (.frz o (.dK ks)) → RK K G ks ds → R K G (.ref a) (.dict ds)
  | dicN {a : Addr} {o : Obj} {xs : List (NestedKey × Addr × Value)} {ds : List (D × D)} : G a = some (.frz o (DX a xs)) → ds ≠ [] → RN K G xs ds → R K G (.ref a) (.dict ds)
inductive RA (K : PySem.W.Frag) (G : Hp) : List V → List D → Prop
  | nil : RA K G [] []
  | cons {v : V} {vs : List V} {d : D} {ds : List D} : R K G v d → RA K G vs ds → RA K G (v :: vs) (d :: ds)
inductive RK (K : PySem.W.Frag) (G : Hp) : List (Key × V) → List (D × D) → Prop
  | nil : RK K G [] []
  | cons {k : Key} {v : V} {ks : List (Key × V)} {d : D} {ds : List (D × D)} : R K G v d → RK K G ks ds → RK K G ((k, v) :: ks) ((kD k, d) :: ds)
inductive RN (K : PySem.W.Frag) (G : Hp) : List (NestedKey × Addr × Value) → List (D × D) → Prop
  | nil : RN K G [] []
  | cons {k : NestedKey} {b : Addr} {u : Value} {v : V} {xs : List (NestedKey × Addr × Value)} {dk d : D} {ds : List (D × D)} : okT dk = true → k = nk dk → R K G (.ref b) dk → RelV v u → R K G v d → RN K G xs ds → RN K G ((k, b, u) :: xs) ((dk, d) :: ds)
end
section
variable {K : PySem.W.Frag} {G G' H H' : Hp}
theorem sameT {a : Addr} {xs : List V} (e : Same G G') (h : SqT K G a xs) : SqT K G' a xs := by
  rcases h with (h | ⟨o, h⟩) | h
  · exact .inl (.inl (e _ _ h))
  · exact .inl (.inr ⟨o, e _ _ h⟩)
  · exact .inr h
mutual
theorem R.mono (e : Same G G') : ∀ {v : V} {d : D}, R K G v d → R K G' v d
  | _, _, .non => .non
  | _, _, .bl b => .bl b
  | _, _, .int i => .int i
  | _, _, .str x => .str x
  | _, _, .lst h r => .lst (e.seq h) (RA.mono e r)
  | _, _, .tup h r => .tup (sameT e h) (RA.mono e r)
  | _, _, .dic h r => .dic (e _ _ h) (RK.mono e r)
  | _, _, .dicN h n r => .dicN (e _ _ h) n (RN.mono e r)
theorem RA.mono (e : Same G G') : ∀ {vs : List V} {ds : List D}, RA K G vs ds → RA K G' vs ds
  | _, _, .nil => .nil
  | _, _, .cons h r => .cons (R.mono e h) (RA.mono e r)
theorem RK.mono (e : Same G G') : ∀ {ks : List (Key × V)} {ds : List (D × D)}, RK K G ks ds → RK K G' ks ds
  | _, _, .nil => .nil
  | _, _, .cons h r => .cons (R.mono e h) (RK.mono e r)
theorem RN.mono (e : Same G G') : ∀ {xs : List (NestedKey × Addr × Value)} {ds : List (D × D)}, RN K G xs ds → RN K G' xs ds
  | _, _, .nil => .nil
  | _, _, .cons h1 h2 h3 h4 h5 r => .cons h1 h2 (R.mono e h3) h4 (R.mono e h5) (RN.mono e r)
end
theorem RK.length : ∀ {ks : List (Key × V)} {ds : List (D × D)}, RK K G ks ds → ks.length = ds.length
  | _, _, .nil => rfl
  | _, _, .cons _ r => congrArg (· + 1) (RK.length r)
theorem RN.length : ∀ {xs : List (NestedKey × Addr × Value)} {ds : List (D × D)}, RN K G xs ds → xs.length = ds.length
  | _, _, .nil => rfl
  | _, _, .cons _ _ _ _ _ r => congrArg (· + 1) (RN.length r)
theorem RA.length : ∀ {vs : List V} {ds : List D}, RA K G vs ds → vs.length = ds.length
  | _, _, .nil => rfl
  | _, _, .cons _ r => congrArg (· + 1) (RA.length r)
theorem RA.get : ∀ {vs : List V} {ds : List D} {i : Nat} {d : D}, RA K G vs ds → ds[i]? = some d → ∃ v, vs[i]? = some v ∧ R K G v d
  | _, _, _, _, .nil, h => by simp at h
  | _, _, 0, _, .cons q _, h => by
    simp only [List.getElem?_cons_zero, Option.some.injEq] at h
    subst h
    exact ⟨_, rfl, q⟩
  | _, _, i + 1, _, .cons _ r, h => by
    simp only [List.getElem?_cons_succ] at h
    obtain ⟨v, h1, h2⟩ := RA.get r h
    exact ⟨v, by simpa using h1, h2⟩
theorem RA.getV : ∀ {vs : List V} {ds : List D} {i : Nat} {v : V}, RA K G vs ds → vs[i]? = some v → ∃ d, ds[i]? = some d ∧ R K G v d
  | _, _, _, _, .nil, h => by simp at h
  | _, _, 0, _, .cons q _, h => by
    simp only [List.getElem?_cons_zero, Option.some.injEq] at h
    subst h
    exact ⟨_, rfl, q⟩
  | _, _, i + 1, _, .cons _ r, h => by
    simp only [List.getElem?_cons_succ] at h
    obtain ⟨v, h1, h2⟩ := RA.getV r h
    exact ⟨v, by simpa using h1, h2⟩
theorem RA.append : ∀ {vs : List V} {ds : List D} {ws : List V} {es : List D}, RA K G vs ds → RA K G ws es → RA K G (vs ++ ws) (ds ++ es)
  | _, _, _, _, .nil, q => q
  | _, _, _, _, .cons h r, q => .cons h (RA.append r q)
theorem RA.snoc {vs : List V} {ds : List D} {v : V} {d : D} (h : RA K G vs ds) (q : R K G v d) : RA K G (vs ++ [v]) (ds ++ [d]) := h.append (.cons q .nil)
theorem RA.take : ∀ {vs : List V} {ds : List D} (n : Nat), RA K G vs ds → RA K G (vs.take n) (ds.take n)
  | _, _, 0, _ => .nil
  | _, _, _ + 1, .nil => .nil
  | _, _, n + 1, .cons h r => .cons h (RA.take n r)
theorem RA.drop : ∀ {vs : List V} {ds : List D} (n : Nat), RA K G vs ds → RA K G (vs.drop n) (ds.drop n)
  | _, _, 0, r => r
  | _, _, _ + 1, .nil => .nil
  | _, _, n + 1, .cons _ r => RA.drop n r
theorem RA.reverse : ∀ {vs : List V} {ds : List D}, RA K G vs ds → RA K G vs.reverse ds.reverse
  | _, _, .nil => .nil
  | _, _, .cons h r => by
    rw [List.reverse_cons, List.reverse_cons]
    exact (RA.reverse r).snoc h
theorem RA.ints : ∀ {vs : List V} {ns : List Int}, RA K G vs (ns.map PyData.int) → vs = ns.map V.int
  | [], [], _ => rfl
  | _ :: _, n :: ns, h => by
    cases h with
    | cons h1 h2 =>
      cases h1
      rw [RA.ints h2] <;> rfl
theorem RA.of_ints : ∀ ns : List Int, RA K G (ns.map V.int) (ns.map PyData.int)
  | [] => .nil
  | n :: ns => .cons (.int n) (RA.of_ints ns)
theorem RA.bools : ∀ {vs : List V} {bs : List Bool}, RA K G vs (bs.map PyData.bool) → vs = bs.map V.bl
  | [], [], _ => rfl
  | _ :: _, n :: ns, h => by
    cases h with
    | cons h1 h2 =>
      cases h1
      rw [RA.bools h2] <;> rfl
/-- data without a dict -/
theorem noDp_list {ds : List D} (h : PyData.hasDict (.list ds) = false) : PyData.hasDictAll ds = false := by simpa only [PyData.hasDict] using h
theorem noDp_tuple {ds : List D} (h : PyData.hasDict (.tuple ds) = false) : PyData.hasDictAll ds = false := by simpa only [PyData.hasDict] using h
mutual
theorem R.dp : ∀ {v : V} {d : D}, R K G v d → d.hasDict = false → Dp K G v d
  | _, _, .non, _ => .non
  | _, _, .bl b, _ => .bl b
  | _, _, .int i, _ => .int i
  | _, _, .str x, _ => .str x
  | _, _, .lst h r, n => .lst h (RA.dp r (noDp_list n))
  | _, _, .tup h r, n => .tup h (RA.dp r (noDp_tuple n))
  | _, _, .dic _ _, n => by simp only [PyData.hasDict] at n; exact absurd n (by decide)
  | _, _, .dicN _ _ _, n => by simp only [PyData.hasDict] at n; exact absurd n (by decide)
theorem RA.dp : ∀ {vs : List V} {ds : List D}, RA K G vs ds → PyData.hasDictAll ds = false → DpAll K G vs ds
  | _, _, .nil, _ => .nil
  | _, _, .cons h r, n => by
    simp only [PyData.hasDictAll, Bool.or_eq_false_iff] at n
    exact .cons (R.dp h n.1) (RA.dp r n.2)
end
end

/-! ### what may change beside -/
def Fixd : HO → Prop
  | .ext φ => ∃ c q, HO.ext φ = LamX.CodeO c q
  | .frz _ _ => True
  | .tup _ => True
  | .tbl _ => True
  | _ => False
def isTup : HO → Prop
  | .tup _ => True
  | _ => False
/-- vol: the places that calls may write at; inv: what holds of them; mine: what this body itself was handed to write at -/
structure Fx where
  vol : Addr → Prop
  mine : Addr → Prop
  inv : Hp → Prop
  ext : ∀ {H H' : Hp}, (∀ a o, vol a ∨ Fixd o → H a = some o → H' a = some o) → inv H → inv H'
  there : ∀ {H : Hp} {a : Addr}, inv H → vol a → ∃ o, H a = some o ∧ ¬ isTup o
def fx0 : Fx := ⟨fun _ => False, fun _ => False, fun _ => True, fun _ _ => True.intro, fun _ h => h.elim⟩
/-- nothing but one place of one's own -/
def fxM (a : Addr) : Fx := ⟨fun _ => False, fun b => b = a, fun _ => True, fun _ _ => True.intro, fun _ h => h.elim⟩
/-- what a proof of a body stands in: the written part, what may change, what was known and what stood at the entry, the wish of what is raised -/
structure Cf where
  K : PySem.W.Frag
  fx : Fx
  G0 : Hp
  B : Hp
  E : XK
structure Kn (fx : Fx) (G H : Hp) : Prop where
  gh : Same G H
  inv : fx.inv H
  vn : ∀ a, fx.vol a → G a = none
structure Grow (fx : Fx) (G H G' H' : Hp) : Prop where
  gg : Same G G'
  gh : Same G' H'
  hh : ∀ a o, ¬ fx.vol a → H a = some o → H' a = some o
  nn : ∀ a o, H a = some o → ¬ isTup o → G a = none → G' a = none
section
variable {fx : Fx} {G H G1 H1 G2 H2 : Hp}
theorem Kn.fresh (k : Kn fx G H) {p : Addr} (h : H p = none) : ¬ fx.vol p := fun v => by
  obtain ⟨o, e, _⟩ := fx.there k.inv v
  rw [h] at e
  cases e
theorem Kn.freeG (k : Kn fx G H) {p : Addr} (h : H p = none) : G p = none := k.gh.free h
theorem Grow.refl (k : Kn fx G H) : Grow fx G H G H := ⟨Same.refl G, k.gh, fun _ _ _ h => h, fun _ _ _ _ h => h⟩
theorem Kn.grow (k : Kn fx G H) (g : Grow fx G H G1 H1) (i : fx.inv H1) : Kn fx G1 H1 :=
  ⟨g.gh, i, fun a v => by
    obtain ⟨o, e, n⟩ := fx.there k.inv v
    exact g.nn a o e n (k.vn a v)⟩
theorem Grow.trans (g : Grow fx G H G1 H1) (k1 : Kn fx G1 H1) (k2 : Kn fx G2 H2) (g2 : Grow fx G1 H1 G2 H2) : Grow fx G H G2 H2 :=
  ⟨g.gg.trans g2.gg, g2.gh, fun a o v h => g2.hh a o v (g.hh a o v h), fun a o h nt n => by
    by_cases v : fx.vol a
    · exact k2.vn a v
    · exact g2.nn a o (g.hh a o v h) nt (g.nn a o h nt n)⟩
theorem Kn.same (k : Kn fx G H) (e : Same H H1) : Kn fx G H1 := ⟨k.gh.trans e, fx.ext (fun a o _ h => e a o h) k.inv, k.vn⟩
/-- new objects that nothing tells of -/
theorem Grow.same (k : Kn fx G H) (e : Same H H1) : Grow fx G H G H1 := ⟨Same.refl G, k.gh.trans e, fun a o _ h => e a o h, fun _ _ _ _ h => h⟩
theorem same_new {H : Hp} {p : Addr} {o : HO} (h : H p = none) : Same H (upd H p o) := fun a u e => by
  rw [upd_ne (ne_of_none e h)]
  exact e
theorem same_upd2 {G H : Hp} {p : Addr} {o : HO} (e : Same G H) : Same (upd G p o) (upd H p o) := fun a u h => by
  by_cases ha : a = p
  · subst ha
    rw [upd_same] at h ⊢
    exact h
  · rw [upd_ne ha] at h ⊢
    exact e a u h
/-- a new object, known from now on -/
theorem Grow.new (k : Kn fx G H) {p : Addr} (o : HO) (h : H p = none) : Grow fx G H (upd G p o) (upd H p o) :=
  ⟨same_new (k.freeG h), same_upd2 k.gh, fun a u _ e => same_new h a u e, fun a w ha nt n => by
    rw [upd_ne (ne_of_none ha h)]
    exact n⟩
theorem Kn.new (k : Kn fx G H) {p : Addr} (o : HO) (h : H p = none) : Kn fx (upd G p o) (upd H p o) :=
  k.grow (Grow.new k o h) (fx.ext (fun a u _ e => same_new h a u e) k.inv)
/-- what a callee that writes nothing leaves -/
theorem Grow.lift (g : Grow fx0 G H G1 H1) : Grow fx G H G1 H1 := ⟨g.gg, g.gh, fun a o _ h => g.hh a o (fun z => z) h, g.nn⟩
theorem Grow.hs (g : Grow fx0 G H G1 H1) : Same H H1 := fun a o h => g.hh a o (fun z => z) h
theorem Kn.low (k : Kn fx G H) : Kn fx0 G H := ⟨k.gh, True.intro, fun _ v => v.elim⟩
theorem Kn.lift (k : Kn fx G H) (g : Grow fx0 G H G1 H1) : Kn fx G1 H1 := k.grow g.lift (fx.ext (fun a o _ h => g.hs a o h) k.inv)
end

/-! ### what a name holds -/
/-- what a field holds -/
inductive Fv where
  | d (x : D)
  | r (v : V)
  | k (f : Bool) (ds : List (D × D))
abbrev Fs := List (Str × Fv)
inductive Mo where
  | lst (ds : List D)
  | dK (ds : List (D × D))
  | dN (a : Addr) (ds : List (D × D))
  | ins (C dx : Addr) (vf : List (Str × V)) (fs : Fs)
/-- a known dict, f tells its kind: keys ints and texts, or tuples -/
def KnD (K : PySem.W.Frag) (G : Hp) (a : Addr) : Bool → List (D × D) → Prop
  | true, ds => ∃ o ks, G a = some (.frz o (.dK ks)) ∧ RK K G ks ds
  | false, ds => ∃ o xs, G a = some (.frz o (DX a xs)) ∧ RN K G xs ds
theorem KnD.mono {K : PySem.W.Frag} {G G' : Hp} (e : Same G G') {a : Addr} {f : Bool} {ds : List (D × D)} (h : KnD K G a f ds) : KnD K G' a f ds := by
  cases f with
  | true =>
    obtain ⟨o, ks, h1, h2⟩ := h
    exact ⟨o, ks, e _ _ h1, h2.mono e⟩
  | false =>
    obtain ⟨o, xs, h1, h2⟩ := h
    exact ⟨o, xs, e _ _ h1, h2.mono e⟩
/-- nothing told; data; a value; a known dict; an object that never changes; a list that stands still while this body runs; a thing of one's own; a thing of one's own that the slot merely stands for -/
inductive Sl where
  | no
  | dat (d : D)
  | raw (v : V)
  | dic (f : Bool) (ds : List (D × D))
  | ob (o : Option Addr) (C : Addr) (fs : Fs)
  | rd (a : Addr) (vs : List V) (ds : List D)
  | own (a : Addr) (m : Mo)
  | gho (a : Addr) (m : Mo)
abbrev Rho := List Sl
def Sl.named : Sl → Prop
  | .no => False
  | .gho _ _ => False
  | _ => True
def Sl.holds : Sl → Option (Addr × Mo)
  | .own a m => some (a, m)
  | .gho a m => some (a, m)
  | _ => none
def RFv (K : PySem.W.Frag) (G : Hp) (v : V) : Fv → Prop
  | .d x => R K G v x
  | .r w => v = w
  | .k f ds => ∃ a, v = .ref a ∧ KnD K G a f ds
/-- fields -/
inductive FA (K : PySem.W.Frag) (G : Hp) : List (Str × V) → Fs → Prop
  | nil : FA K G [] []
  | cons {f : Str} {v : V} {x : Fv} {vs : List (Str × V)} {fs : Fs} : RFv K G v x → FA K G vs fs → FA K G ((f, v) :: vs) ((f, x) :: fs)
theorem RFv.mono {K : PySem.W.Frag} {G G' : Hp} (e : Same G G') {v : V} {x : Fv} (h : RFv K G v x) : RFv K G' v x := by
  cases x with
  | d x => exact R.mono e h
  | r w => exact h
  | k f ds =>
    obtain ⟨a, e1, e2⟩ := h
    exact ⟨a, e1, e2.mono e⟩
theorem FA.mono {K : PySem.W.Frag} {G G' : Hp} (e : Same G G') : ∀ {vs : List (Str × V)} {ds : Fs}, FA K G vs ds → FA K G' vs ds
  | _, _, .nil => .nil
  | _, _, .cons h r => .cons (h.mono e) (FA.mono e r)
def Mo.isIns : Mo → Prop
  | .ins _ _ _ _ => True
  | _ => False
def MoOk (K : PySem.W.Frag) (G : Hp) : HO → Mo → Prop
  | .lst vs, .lst ds => RA K G vs ds
  | .dK ks, .dK ds => RK K G ks ds
  | .ext φ, .dN a ds => ∃ xs, φ = phiX a xs ∧ RN K G xs ds
  | .ins C dx vs, .ins C' dx' vf ds => (C = C' ∧ dx = dx' ∧ vs = vf) ∧ FA K G vf ds
  | _, _ => False
def RS (K : PySem.W.Frag) (G : Hp) (v : V) : Sl → Prop
  | .dat d => R K G v d
  | .raw w => v = w
  | .dic f ds => ∃ a, v = .ref a ∧ KnD K G a f ds
  | .ob o C fs => ∃ a dx vf, v = .ref a ∧ G a = some (.ins C dx vf) ∧ FA K G vf fs ∧ ∀ b, o = some b → a = b
  | .rd a vs ds => v = .ref a ∧ RA K G vs ds
  | _ => False
inductive RSs (K : PySem.W.Frag) (G : Hp) : List V → List Sl → Prop
  | nil : RSs K G [] []
  | cons {v : V} {vs : List V} {s : Sl} {ss : List Sl} : RS K G v s → RSs K G vs ss → RSs K G (v :: vs) (s :: ss)
def SlOk (S : Cf) (G H : Hp) (o : Option V) : Sl → Prop
  | .no => True
  | .dat d => ∃ v, o = some v ∧ R S.K G v d
  | .raw v => o = some v
  | .dic f ds => ∃ v, o = some v ∧ RS S.K G v (.dic f ds)
  | .ob oa C fs => ∃ v, o = some v ∧ RS S.K G v (.ob oa C fs)
  | .rd a vs ds => ∃ v, o = some v ∧ RS S.K G v (.rd a vs ds)
  | .gho a m => G a = none ∧ (S.B a = none ∨ (S.fx.mine a ∧ m.isIns)) ∧ ¬ S.fx.vol a ∧ ∃ u, H a = some u ∧ MoOk S.K G u m
  | .own a m => o = some (.ref a) ∧ G a = none ∧ (S.B a = none ∨ (S.fx.mine a ∧ m.isIns)) ∧ ¬ S.fx.vol a ∧ ∃ u, H a = some u ∧ MoOk S.K G u m
structure Env (S : Cf) (G H : Hp) (σ : L2.St) (ρ : Rho) : Prop where
  len : σ.length = ρ.length
  at_ : ∀ (i : Nat) (s : Sl), ρ[i]? = some s → ∃ o, σ[i]? = some o ∧ SlOk S G H o s
  dis : ∀ (i j : Nat) (s t : Sl) (a : Addr) (m m' : Mo), ρ[i]? = some s → ρ[j]? = some t → s.holds = some (a, m) → t.holds = some (a, m') → i = j
section
variable {K : PySem.W.Frag} {S : Cf} {G H G' H' : Hp} {σ : L2.St} {ρ : Rho}
theorem MoOk.mono {u : HO} {m : Mo} (e : Same G G') (h : MoOk K G u m) : MoOk K G' u m := by
  cases u <;> cases m <;> first | exact h.elim | exact RA.mono e h | exact RK.mono e h | exact ⟨h.choose, h.choose_spec.1, h.choose_spec.2.mono e⟩ | exact ⟨h.1, FA.mono e h.2⟩
/-- a dict is no code object -/
theorem codeO_dx {c a : Addr} {q : Str} {xs : List (NestedKey × Addr × Value)} (h : HO.ext (phiX a xs) = LamX.CodeO c q) : False := by
  let ob : Obj := { cls := .none, data := .fields #[.none, .str q 0] }
  let hp : Heap := { objs := Array.replicate (c + a + 1) ob }
  have get : ∀ b, b < c + a + 1 → hp.get? b = some ob := fun b hb => by
    unfold Heap.get?
    have e : hp.objs[b]? = some ob := by
      show (Array.replicate (c + a + 1) ob)[b]? = some ob
      rw [Array.getElem?_replicate, if_pos hb]
    rw [e]
  have e2 := HO.ext.inj h
  have e3 := congrFun e2 hp
  have h1 : phiX a xs hp := by
    rw [e3]
    exact ⟨ob, _, 0, get c (Nat.lt_succ_of_le (Nat.le_add_right c a)), rfl, rfl⟩
  obtain ⟨_, _, o, es, ep, h2, _, h3, _⟩ := h1
  rw [get a (Nat.lt_succ_of_le (Nat.le_add_left a c))] at h2
  cases h2
  cases h3
theorem dx_noFix {a : Addr} {xs : List (NestedKey × Addr × Value)} : ¬ Fixd (DX a xs) := fun ⟨_, _, h⟩ => codeO_dx h
theorem MoOk.noFix {u : HO} {m : Mo} (h : MoOk K G u m) : ¬ Fixd u := by
  cases u <;> cases m <;> first | exact h.elim | exact fun z => z | (obtain ⟨xs, e, _⟩ := h; subst e; exact dx_noFix)
theorem MoOk.noTup {u : HO} {m : Mo} (h : MoOk K G u m) : ¬ isTup u := by
  cases u <;> cases m <;> first | exact h.elim | exact fun z => z
theorem RS.mono {v : V} {s : Sl} (e : Same G G') (h : RS K G v s) : RS K G' v s := by
  cases s with
  | dat d => exact R.mono e h
  | raw w => exact h
  | dic f ds =>
    obtain ⟨a, e1, e2⟩ := h
    exact ⟨a, e1, e2.mono e⟩
  | ob o C fs =>
    obtain ⟨a, dx, vf, e1, e2, e3, e4⟩ := h
    exact ⟨a, dx, vf, e1, e _ _ e2, e3.mono e, e4⟩
  | rd a vs ds => exact ⟨h.1, h.2.mono e⟩
  | no => exact h.elim
  | own a m => exact h.elim
  | gho a m => exact h.elim
theorem RSs.mono (e : Same G G') : ∀ {vs : List V} {ss : List Sl}, RSs K G vs ss → RSs K G' vs ss
  | _, _, .nil => .nil
  | _, _, .cons h r => .cons (h.mono e) (RSs.mono e r)
theorem RSs.length : ∀ {vs : List V} {ss : List Sl}, RSs K G vs ss → vs.length = ss.length
  | _, _, .nil => rfl
  | _, _, .cons _ r => congrArg (· + 1) (RSs.length r)
theorem SlOk.grow {o : Option V} {s : Sl} (g : Grow S.fx G H G' H') (h : SlOk S G H o s) : SlOk S G' H' o s := by
  cases s with
  | no => exact True.intro
  | dat d =>
    obtain ⟨v, e, r⟩ := h
    exact ⟨v, e, r.mono g.gg⟩
  | raw w => exact h
  | dic f ds =>
    obtain ⟨v, e, r⟩ := h
    exact ⟨v, e, r.mono g.gg⟩
  | ob oa C fs =>
    obtain ⟨v, e, r⟩ := h
    exact ⟨v, e, r.mono g.gg⟩
  | rd a vs ds =>
    obtain ⟨v, e, r⟩ := h
    exact ⟨v, e, r.mono g.gg⟩
  | own a m =>
    obtain ⟨e, ga, ba, va, u, ha, r⟩ := h
    exact ⟨e, g.nn a u ha r.noTup ga, ba, va, u, g.hh a u va ha, r.mono g.gg⟩
  | gho a m =>
    obtain ⟨ga, ba, va, u, ha, r⟩ := h
    exact ⟨g.nn a u ha r.noTup ga, ba, va, u, g.hh a u va ha, r.mono g.gg⟩
theorem Env.grow (e : Env S G H σ ρ) (g : Grow S.fx G H G' H') : Env S G' H' σ ρ :=
  ⟨e.len, fun i s h => by
    obtain ⟨o, h1, h2⟩ := e.at_ i s h
    exact ⟨o, h1, h2.grow g⟩, e.dis⟩
theorem Env.get (e : Env S G H σ ρ) {i : Nat} {s : Sl} (h : ρ[i]? = some s) (n : s.named := by exact True.intro) : ∃ v, σ[i]? = some (some v) ∧ SlOk S G H (some v) s := by
  obtain ⟨o, h1, h2⟩ := e.at_ i s h
  cases s with
  | no => exact n.elim
  | gho a m => exact n.elim
  | dat d =>
    obtain ⟨v, e', r⟩ := h2
    subst e'
    exact ⟨v, h1, v, rfl, r⟩
  | dic f ds =>
    obtain ⟨v, e', r⟩ := h2
    subst e'
    exact ⟨v, h1, v, rfl, r⟩
  | ob oa C fs =>
    obtain ⟨v, e', r⟩ := h2
    subst e'
    exact ⟨v, h1, v, rfl, r⟩
  | rd a vs ds =>
    obtain ⟨v, e', r⟩ := h2
    subst e'
    exact ⟨v, h1, v, rfl, r⟩
  | raw w =>
    have e' : o = some w := h2
    subst e'
    exact ⟨w, h1, rfl⟩
  | own a m =>
    have e' : o = some (.ref a) := h2.1
    subst e'
    exact ⟨.ref a, h1, h2⟩
theorem set_get {α : Type} {l : List α} {i j : Nat} {x y : α} (h : (l.set i x)[j]? = some y) : (j = i ∧ y = x) ∨ (j ≠ i ∧ l[j]? = some y) := by
  by_cases e : j = i
  · subst e
    refine .inl ⟨rfl, ?_⟩
    have hl : j < l.length := by
      have := (List.getElem?_eq_some_iff.mp h).1
      simpa using this
    rw [List.getElem?_set_self hl] at h
    exact (Option.some.inj h).symm
  · refine .inr ⟨e, ?_⟩
    rwa [List.getElem?_set_ne (Ne.symm e)] at h
/-- a slot is set to what is told of it -/
theorem Env.put (e : Env S G H σ ρ) (i : Nat) (o : Option V) (s : Sl) (h : SlOk S G H o s) (hd : ∀ a m, s.holds = some (a, m) → ∀ j t m', j ≠ i → ρ[j]? = some t → t.holds ≠ some (a, m')) : Env S G H (σ.set i o) (ρ.set i s) := by
  refine ⟨by simp [e.len], fun j t ht => ?_, fun j k s1 s2 a m m' hj hk h1 h2 => ?_⟩
  · rcases set_get ht with ⟨ej, et⟩ | ⟨nj, ht⟩
    · subst ej et
      have hl : j < σ.length := by
        rw [e.len]
        have := (List.getElem?_eq_some_iff.mp ht).1
        simpa using this
      exact ⟨o, by rw [List.getElem?_set_self hl], h⟩
    · obtain ⟨o', h1, h2⟩ := e.at_ j t ht
      exact ⟨o', by rw [List.getElem?_set_ne (Ne.symm nj)]; exact h1, h2⟩
  · rcases set_get hj with ⟨ej, et⟩ | ⟨nj, hj⟩
    · rcases set_get hk with ⟨ek, _⟩ | ⟨nk, hk⟩
      · rw [ej, ek]
      · exact absurd h2 (hd a m (et ▸ h1) k s2 m' nk hk)
    · rcases set_get hk with ⟨ek, et⟩ | ⟨nk, hk⟩
      · exact absurd h1 (hd a m' (et ▸ h2) j s1 m nj hj)
      · exact e.dis j k s1 s2 a m m' hj hk h1 h2
theorem Env.set (e : Env S G H σ ρ) (i : Nat) {v : V} {s : Sl} (h : RS S.K G v s) : Env S G H (σ.set i (some v)) (ρ.set i s) := by
  cases s with
  | no => exact h.elim
  | own a m => exact h.elim
  | gho a m => exact h.elim
  | dat d => exact e.put i _ _ ⟨v, rfl, h⟩ fun a m z => by cases z
  | dic f ds => exact e.put i _ _ ⟨v, rfl, h⟩ fun a m z => by cases z
  | ob oa C fs => exact e.put i _ _ ⟨v, rfl, h⟩ fun a m z => by cases z
  | rd a vs ds => exact e.put i _ _ ⟨v, rfl, h⟩ fun a m z => by cases z
  | raw w => exact e.put i _ _ (congrArg some h) fun a m z => by cases z
theorem Env.unset (e : Env S G H σ ρ) (i : Nat) (o : Option V) : Env S G H (σ.set i o) (ρ.set i .no) := e.put i o .no True.intro fun a m z => by cases z
/-- what is told of one slot is changed, the slots' values are not -/
theorem Env.chg (e : Env S G H σ ρ) (i : Nat) (s : Sl) (h : ∀ o s0, ρ[i]? = some s0 → σ[i]? = some o → SlOk S G H o s0 → SlOk S G H o s)
    (hd : ∀ a m, s.holds = some (a, m) → ∀ j t m', j ≠ i → ρ[j]? = some t → t.holds ≠ some (a, m')) : Env S G H σ (ρ.set i s) := by
  refine ⟨by simp [e.len], fun j t ht => ?_, fun j k s1 s2 a m m' hj hk h1 h2 => ?_⟩
  · rcases set_get ht with ⟨ej, et⟩ | ⟨nj, ht⟩
    · subst ej et
      have hl : j < ρ.length := by
        have := (List.getElem?_eq_some_iff.mp ht).1
        simpa using this
      obtain ⟨o, q1, q2⟩ := e.at_ j ρ[j] (List.getElem?_eq_getElem hl)
      exact ⟨o, q1, h o _ (List.getElem?_eq_getElem hl) q1 q2⟩
    · exact e.at_ j t ht
  · rcases set_get hj with ⟨ej, et⟩ | ⟨nj, hj⟩
    · rcases set_get hk with ⟨ek, _⟩ | ⟨nk, hk⟩
      · rw [ej, ek]
      · exact absurd h2 (hd a m (et ▸ h1) k s2 m' nk hk)
    · rcases set_get hk with ⟨ek, et⟩ | ⟨nk, hk⟩
      · exact absurd h1 (hd a m' (et ▸ h2) j s1 m nj hj)
      · exact e.dis j k s1 s2 a m m' hj hk h1 h2
/-- less is told of a slot -/
theorem Env.forget (e : Env S G H σ ρ) (i : Nat) : Env S G H σ (ρ.set i .no) := e.chg i .no (fun _ _ _ _ _ => True.intro) fun a m z => by cases z
/-- no slot but i holds what slot i holds -/
theorem Env.alone (e : Env S G H σ ρ) {i : Nat} {s : Sl} {a : Addr} {m : Mo} (h : ρ[i]? = some s) (hh : s.holds = some (a, m)) {j : Nat} {t : Sl} {m' : Mo} (nj : j ≠ i) (hj : ρ[j]? = some t) : t.holds ≠ some (a, m') := fun z => nj (e.dis j i t s a m' m hj h z hh)
theorem SlOk.holdsOk {o : Option V} {s : Sl} {a : Addr} {m : Mo} (h : SlOk S G H o s) (hh : s.holds = some (a, m)) : G a = none ∧ (S.B a = none ∨ (S.fx.mine a ∧ m.isIns)) ∧ ¬ S.fx.vol a ∧ ∃ u, H a = some u ∧ MoOk S.K G u m := by
  cases s with
  | own b n =>
    cases hh
    exact h.2
  | gho b n =>
    cases hh
    exact h
  | _ => cases hh
/-- what slot i holds is known from now on, as u (what stood there, or the same locked); no other slot is told anew but slot i -/
theorem Env.know (k : Kn S.fx G H) (e : Env S G H σ ρ) {i : Nat} {s s' : Sl} {a : Addr} {m : Mo} {u u' : HO} (h : ρ[i]? = some s) (hh : s.holds = some (a, m)) (ha : H a = some u) (nf : ¬ Fixd u)
    (hs : ∀ o, σ[i]? = some o → SlOk S G H o s → SlOk S (upd G a u') (upd H a u') o s') (hn : s'.holds = none) :
    Kn S.fx (upd G a u') (upd H a u') ∧ Same G (upd G a u') ∧ Env S (upd G a u') (upd H a u') σ (ρ.set i s') := by
  obtain ⟨o, h1, h2⟩ := e.at_ i s h
  obtain ⟨ga, ba, va, _⟩ := h2.holdsOk hh
  have sg : Same G (upd G a u') := same_new ga
  have hk : ∀ b w, b ≠ a → H b = some w → (upd H a u') b = some w := fun b w q hb => by
    rw [upd_ne q]
    exact hb
  have sh : Same (upd G a u') (upd H a u') := same_upd2 k.gh
  have kn : Kn S.fx (upd G a u') (upd H a u') := ⟨sh, S.fx.ext (fun b w hb hw => hk b w (fun q => by
      rcases hb with hb | hb
      · exact va (q ▸ hb)
      · rw [q, ha] at hw
        cases hw
        exact nf hb) hw) k.inv, fun b vb => by
    have q : b ≠ a := fun q => va (q ▸ vb)
    rw [upd_ne q]
    exact k.vn b vb⟩
  refine ⟨kn, sg, by simp [e.len], fun j t ht => ?_, fun j k' s1 s2 b m1 m2 hj hk' q1 q2 => ?_⟩
  · rcases set_get ht with ⟨ej, et⟩ | ⟨nj, ht⟩
    · subst ej et
      exact ⟨o, h1, hs o h1 h2⟩
    · obtain ⟨o', q1, q2⟩ := e.at_ j t ht
      refine ⟨o', q1, ?_⟩
      have nh : ∀ m', t.holds ≠ some (a, m') := fun m' => e.alone h hh nj ht
      cases t with
      | no => exact True.intro
      | dat d =>
        obtain ⟨v, e', r'⟩ := q2
        exact ⟨v, e', r'.mono sg⟩
      | dic f ds =>
        obtain ⟨v, e', r'⟩ := q2
        exact ⟨v, e', r'.mono sg⟩
      | ob oa C fs =>
        obtain ⟨v, e', r'⟩ := q2
        exact ⟨v, e', r'.mono sg⟩
      | rd c vs ds =>
        obtain ⟨v, e', r'⟩ := q2
        exact ⟨v, e', r'.mono sg⟩
      | raw w => exact q2
      | own b m =>
        obtain ⟨x1, x2, x3, x4, u, x5, x6⟩ := q2
        have q : b ≠ a := fun q => nh m (by rw [q] <;> rfl)
        exact ⟨x1, by rw [upd_ne q]; exact x2, x3, x4, u, hk b u q x5, x6.mono sg⟩
      | gho b m =>
        obtain ⟨x2, x3, x4, u, x5, x6⟩ := q2
        have q : b ≠ a := fun q => nh m (by rw [q] <;> rfl)
        exact ⟨by rw [upd_ne q]; exact x2, x3, x4, u, hk b u q x5, x6.mono sg⟩
  · rcases set_get hj with ⟨_, et⟩ | ⟨nj, hj⟩
    · subst et
      rw [hn] at q1
      cases q1
    · rcases set_get hk' with ⟨_, et⟩ | ⟨nk, hk'⟩
      · subst et
        rw [hn] at q2
        cases q2
      · exact e.dis j k' s1 s2 b m1 m2 hj hk' q1 q2
theorem upd_self {H : Hp} {a : Addr} {u : HO} (h : H a = some u) : upd H a u = H := by
  funext b
  by_cases q : b = a
  · rw [q, upd_same, h]
  · rw [upd_ne q]
/-- a list that was ours is data from now on -/
theorem Env.freeze (k : Kn S.fx G H) (e : Env S G H σ ρ) {i : Nat} {a : Addr} {ds : List D} (h : ρ[i]? = some (.own a (.lst ds))) :
    ∃ u, H a = some u ∧ ¬ isTup u ∧ Kn S.fx (upd G a u) H ∧ Same G (upd G a u) ∧ S.B a = none ∧ G a = none ∧ R S.K (upd G a u) (.ref a) (.list ds) ∧ Env S (upd G a u) H σ (ρ.set i (.dat (.list ds))) := by
  obtain ⟨v, h1, e1, ga, ba', va, u, ha, r⟩ := e.get h
  have ba : S.B a = none := ba'.elim id fun z => z.2.elim
  cases u with
  | lst vs =>
    have rr : R S.K (upd G a (.lst vs)) (.ref a) (.list ds) := .lst (SqL.of upd_same) (RA.mono (same_new ga) r)
    obtain ⟨k2, sg, e2⟩ := Env.know (u' := .lst vs) (s' := .dat (.list ds)) k e h rfl ha (fun z => z) (fun o ho ok => ⟨.ref a, ok.1, rr⟩) rfl
    rw [upd_self ha] at k2 e2
    exact ⟨_, ha, fun z => z, k2, sg, ba, ga, rr, e2⟩
  | _ => exact r.elim
/-- an object of ours never changes from now on -/
theorem Env.freezeO (k : Kn S.fx G H) (e : Env S G H σ ρ) {i : Nat} {a C dx : Addr} {vf : List (Str × V)} {fs : Fs} (h : ρ[i]? = some (.own a (.ins C dx vf fs))) :
    ∃ u, H a = some u ∧ ¬ isTup u ∧ Kn S.fx (upd G a u) H ∧ Same G (upd G a u) ∧ (S.B a = none ∨ S.fx.mine a) ∧ G a = none ∧ Env S (upd G a u) H σ (ρ.set i (.ob (some a) C fs)) := by
  obtain ⟨v, h1, e1, ga, ba, va, u, ha, r⟩ := e.get h
  cases u with
  | ins C' dx' vs =>
    obtain ⟨⟨e1, e2, e3⟩, fa⟩ := r
    cases e1
    cases e2
    cases e3
    obtain ⟨k2, sg, e2⟩ := Env.know (u' := .ins C dx vf) (s' := .ob (some a) C fs) k e h rfl ha (fun z => z) (fun o ho ok => ⟨.ref a, ok.1, a, dx, vf, rfl, upd_same, fa.mono (same_new ga), fun b z => Option.some.inj z⟩) rfl
    rw [upd_self ha] at k2 e2
    exact ⟨_, ha, fun z => z, k2, sg, ba.imp id fun z => z.1, ga, e2⟩
  | _ => exact r.elim
end
end Dl

set_option Elab.async false
set_option linter.all false
set_option maxRecDepth 100000
set_option maxHeartbeats 4000000
/-! Dle: what expressions give, as data. -/
namespace Dl
open PySem PySem.Spec PyProof.Rows L2
def Ev (S : Cf) (te : TE) (ρ : Rho) (P : Sl → Prop) : Prop := ∀ (σ : L2.St) (G H : Hp), Kn S.fx G H → Env S G H σ ρ → ∀ Q : VK,
  (∀ v s G' H', Grow S.fx G H G' H' → Kn S.fx G' H' → P s → RS S.K G' v s → Q v H') → te σ H Q
def EvT (S : Cf) (tt : TT) (ρ : Rho) (P : Bool → Prop) : Prop := ∀ (σ : L2.St) (G H : Hp), Kn S.fx G H → Env S G H σ ρ → ∀ Q : Bool → Hp → Prop,
  (∀ b G' H', Grow S.fx G H G' H' → Kn S.fx G' H' → P b → Q b H') → tt σ H Q
def EvA (S : Cf) (ta : TA) (ρ : Rho) (P : List Sl → Prop) : Prop := ∀ (σ : L2.St) (G H : Hp), Kn S.fx G H → Env S G H σ ρ → ∀ Q : List V → Hp → Prop,
  (∀ vs ss G' H', Grow S.fx G H G' H' → Kn S.fx G' H' → P ss → RSs S.K G' vs ss → Q vs H') → ta σ H Q
/-- a list that may be read: ours, or known -/
def EvL (S : Cf) (te : TE) (ρ : Rho) (ds : List D) : Prop := ∀ (σ : L2.St) (G H : Hp), Kn S.fx G H → Env S G H σ ρ → ∀ Q : VK,
  (∀ a vs G' H', Grow S.fx G H G' H' → Kn S.fx G' H' → (∀ G2 H2, Grow S.fx G' H' G2 H2 → SqL S.K H2 a vs) → RA S.K G' vs ds → Q (.ref a) H') → te σ H Q
def EvU (S : Cf) (te : TE) (ρ : Rho) (ds : List D) : Prop := ∀ (σ : L2.St) (G H : Hp), Kn S.fx G H → Env S G H σ ρ → ∀ Q : VK,
  (∀ a vs G' H', Grow S.fx G H G' H' → Kn S.fx G' H' → (∀ G2 H2, Grow S.fx G' H' G2 H2 → SqT S.K H2 a vs) → RA S.K G' vs ds → Q (.ref a) H') → te σ H Q
/-- an int of which p holds -/
abbrev EvI (S : Cf) (te : TE) (ρ : Rho) (p : Int → Prop) : Prop := Ev S te ρ (fun s => ∃ i, s = .dat (.int i) ∧ p i)
section
variable {S : Cf} {ρ : Rho} {te ta tb tc : TE} {t u : TT} {r : R2}
theorem Ev.imp {P P' : Sl → Prop} (h : Ev S te ρ P) (i : ∀ s, P s → P' s) : Ev S te ρ P' := fun σ G H k e Q q => h σ G H k e Q fun v s G' H' g k' p r => q v s G' H' g k' (i s p) r
theorem EvT.imp {P P' : Bool → Prop} (h : EvT S t ρ P) (i : ∀ s, P s → P' s) : EvT S t ρ P' := fun σ G H k e Q q => h σ G H k e Q fun v G' H' g k' p => q v G' H' g k' (i v p)
theorem EvA.imp {ta : TA} {P P' : List Sl → Prop} (h : EvA S ta ρ P) (i : ∀ s, P s → P' s) : EvA S ta ρ P' := fun σ G H k e Q q => h σ G H k e Q fun v s G' H' g k' p r => q v s G' H' g k' (i s p) r
theorem Ev.cast {s s' : Sl} (h : Ev S te ρ (Eq s)) (e : s = s') : Ev S te ρ (Eq s') := e ▸ h
theorem Ev.toI {i : Int} {p : Int → Prop} (h : Ev S te ρ (Eq (.dat (.int i)))) (hp : p i) : EvI S te ρ p := h.imp fun s e => ⟨i, e.symm, hp⟩
/-! names and constants -/
theorem ev_int {i : Int} : Ev S (tC (.int i)) ρ (Eq (.dat (.int i))) := fun σ G H k e Q q => q _ _ G H (Grow.refl k) k rfl (.int i)
theorem ev_bl {b : Bool} : Ev S (tC (.bl b)) ρ (Eq (.dat (.bool b))) := fun σ G H k e Q q => q _ _ G H (Grow.refl k) k rfl (.bl b)
theorem ev_str {x : Str} : Ev S (tC (.str x)) ρ (Eq (.dat (.str x))) := fun σ G H k e Q q => q _ _ G H (Grow.refl k) k rfl (.str x)
theorem ev_non : Ev S (tC .non) ρ (Eq (.dat .none)) := fun σ G H k e Q q => q _ _ G H (Grow.refl k) k rfl .non
theorem ev_raw {v : V} : Ev S (tC v) ρ (Eq (.raw v)) := fun σ G H k e Q q => q _ _ G H (Grow.refl k) k rfl rfl
/-- a constant of the module -/
theorem ev_cst {v : V} {d : D} (h : ∀ G : Hp, R S.K G v d) : Ev S (tC v) ρ (Eq (.dat d)) := fun σ G H k e Q q => q _ _ G H (Grow.refl k) k rfl (h G)
theorem ev_var {i : Nat} {d : D} (h : ρ[i]? = some (.dat d)) : Ev S (tVar i) ρ (Eq (.dat d)) := fun σ G H k e Q q => by
  obtain ⟨v, h1, v', e', r⟩ := e.get h
  cases e'
  exact ⟨v, h1, q v _ G H (Grow.refl k) k rfl r⟩
theorem ev_varR {i : Nat} {w : V} (h : ρ[i]? = some (.raw w)) : Ev S (tVar i) ρ (Eq (.raw w)) := fun σ G H k e Q q => by
  obtain ⟨v, h1, e'⟩ := e.get h
  exact ⟨v, h1, q v _ G H (Grow.refl k) k rfl (Option.some.inj e')⟩
theorem ev_varO {i : Nat} {a : Addr} {m : Mo} (h : ρ[i]? = some (.own a m)) : Ev S (tVar i) ρ (Eq (.raw (.ref a))) := fun σ G H k e Q q => by
  obtain ⟨v, h1, e', _⟩ := e.get h
  exact ⟨v, h1, q v _ G H (Grow.refl k) k rfl (Option.some.inj e')⟩
/-! lists and tuples that may be read -/
theorem el_of {ds : List D} (h : Ev S te ρ (Eq (.dat (.list ds)))) : EvL S te ρ ds := fun σ G H k e Q q => h σ G H k e Q fun v s G' H' g k' p r => by
  subst p
  cases r with
  | lst hs ra => exact q _ _ G' H' g k' (fun G2 H2 g2 => (g2.gg.trans g2.gh).seq hs) ra
theorem eu_of {ds : List D} (h : Ev S te ρ (Eq (.dat (.tuple ds)))) : EvU S te ρ ds := fun σ G H k e Q q => h σ G H k e Q fun v s G' H' g k' p r => by
  subst p
  cases r with
  | tup hs ra => exact q _ _ G' H' g k' (fun G2 H2 g2 => sameT (g2.gg.trans g2.gh) hs) ra
theorem el_own {i : Nat} {a : Addr} {ds : List D} (h : ρ[i]? = some (.own a (.lst ds))) : EvL S (tVar i) ρ ds := fun σ G H k e Q q => by
  obtain ⟨v, h1, e', ga, ba, va, u, ha, r⟩ := e.get h
  refine ⟨v, h1, ?_⟩
  cases Option.some.inj e'
  cases u with
  | lst vs => exact q a vs G H (Grow.refl k) k (fun G2 H2 g2 => SqL.of (g2.hh a _ va ha)) r
  | _ => exact r.elim
/-! operators by values -/
def OpD (S : Cf) (r : R2) (x y : Sl) (P : Sl → Prop) : Prop := ∀ (G H : Hp) (v w : V), Kn S.fx G H → RS S.K G v x → RS S.K G w y → ∀ Q : VK,
  (∀ z s G' H', Grow S.fx G H G' H' → Kn S.fx G' H' → P s → RS S.K G' z s → Q z H') → r v w H Q
theorem ev_op {Pa Pb P : Sl → Prop} (ha : Ev S ta ρ Pa) (hb : Ev S tb ρ Pb) (ho : ∀ x y, Pa x → Pb y → OpD S r x y P) : Ev S (tOp r ta tb) ρ P := fun σ G H k e Q q =>
  ha σ G H k e _ fun v x G1 H1 g1 k1 p1 r1 => hb σ G1 H1 k1 (e.grow g1) _ fun w y G2 H2 g2 k2 p2 r2 =>
    ho x y p1 p2 G2 H2 v w k2 (r1.mono g2.gg) r2 Q fun z s G3 H3 g3 k3 p3 r3 => q z s G3 H3 ((g1.trans k1 k2 g2).trans k2 k3 g3) k3 p3 r3
theorem ev_op' {x y : Sl} {P : Sl → Prop} (ha : Ev S ta ρ (Eq x)) (hb : Ev S tb ρ (Eq y)) (ho : OpD S r x y P) : Ev S (tOp r ta tb) ρ P := ev_op ha hb fun a b e1 e2 => e1 ▸ e2 ▸ ho
/-- the value alone, the heap as it is -/
theorem opd_here {x y s : Sl} {z : V} (h : ∀ (G H : Hp) (v w : V), Kn S.fx G H → RS S.K G v x → RS S.K G w y → RS S.K G z s ∧ ∀ Q : VK, Q z H → r v w H Q) : OpD S r x y (Eq s) := fun G H v w k rx ry Q q =>
  (h G H v w k rx ry).2 Q (q z s G H (Grow.refl k) k rfl (h G H v w k rx ry).1)
theorem opd_I0 {f : Int → Int → Int} {i j : Int} : OpD S (rI0 fun i j => .int (f i j)) (.dat (.int i)) (.dat (.int j)) (Eq (.dat (.int (f i j)))) := opd_here (z := .int (f i j)) fun G H v w k rx ry => ⟨.int _, fun Q q => by
  cases rx
  cases ry
  exact ⟨i, j, rfl, rfl, q⟩⟩
theorem opd_C0 {f : Int → Int → Bool} {i j : Int} : OpD S (rI0 fun i j => .bl (f i j)) (.dat (.int i)) (.dat (.int j)) (Eq (.dat (.bool (f i j)))) := opd_here (z := .bl (f i j)) fun G H v w k rx ry => ⟨.bl _, fun Q q => by
  cases rx
  cases ry
  exact ⟨i, j, rfl, rfl, q⟩⟩
theorem opd_IC {C : Int → Int → Prop} {f : Int → Int → Int} {i j : Int} (hc : C i j) : OpD S (rI C fun i j => .int (f i j)) (.dat (.int i)) (.dat (.int j)) (Eq (.dat (.int (f i j)))) := opd_here (z := .int (f i j)) fun G H v w k rx ry => ⟨.int _, fun Q q => by
  cases rx
  cases ry
  exact ⟨i, j, rfl, rfl, hc, q⟩⟩
theorem ev_I0 {f : Int → Int → Int} {i j : Int} (ha : Ev S ta ρ (Eq (.dat (.int i)))) (hb : Ev S tb ρ (Eq (.dat (.int j)))) : Ev S (tOp (rI0 fun i j => .int (f i j)) ta tb) ρ (Eq (.dat (.int (f i j)))) := ev_op' ha hb opd_I0
theorem ev_C0 {f : Int → Int → Bool} {i j : Int} (ha : Ev S ta ρ (Eq (.dat (.int i)))) (hb : Ev S tb ρ (Eq (.dat (.int j)))) : Ev S (tOp (rI0 fun i j => .bl (f i j)) ta tb) ρ (Eq (.dat (.bool (f i j)))) := ev_op' ha hb opd_C0
theorem ev_IC {C : Int → Int → Prop} {f : Int → Int → Int} {i j : Int} (ha : Ev S ta ρ (Eq (.dat (.int i)))) (hb : Ev S tb ρ (Eq (.dat (.int j)))) (hc : C i j) : Ev S (tOp (rI C fun i j => .int (f i j)) ta tb) ρ (Eq (.dat (.int (f i j)))) := ev_op' ha hb (opd_IC hc)
theorem evI_0 {f : Int → Int → Int} {p q s : Int → Prop} (ha : EvI S ta ρ p) (hb : EvI S tb ρ q) (h : ∀ i j, p i → q j → s (f i j)) : EvI S (tOp (rI0 fun i j => .int (f i j)) ta tb) ρ s :=
  ev_op ha hb fun x y ⟨i, ex, hi⟩ ⟨j, ey, hj⟩ => by
    subst ex ey
    intro G H v w k rx ry Q q
    exact opd_I0 G H v w k rx ry Q fun z s G' H' g k' e r => q z s G' H' g k' ⟨_, e.symm, h i j hi hj⟩ r
theorem evI_C {C : Int → Int → Prop} {f : Int → Int → Int} {p q s : Int → Prop} (ha : EvI S ta ρ p) (hb : EvI S tb ρ q) (hc : ∀ i j, p i → q j → C i j) (h : ∀ i j, p i → q j → s (f i j)) : EvI S (tOp (rI C fun i j => .int (f i j)) ta tb) ρ s :=
  ev_op ha hb fun x y ⟨i, ex, hi⟩ ⟨j, ey, hj⟩ => by
    subst ex ey
    intro G H v w k rx ry Q q
    exact opd_IC (hc i j hi hj) G H v w k rx ry Q fun z s G' H' g k' e r => q z s G' H' g k' ⟨_, e.symm, h i j hi hj⟩ r
/-- a comparison of ints of which something is known -/
theorem evT_C0 {f : Int → Int → Bool} {p q : Int → Prop} {P : Bool → Prop} (ha : EvI S ta ρ p) (hb : EvI S tb ρ q) (h : ∀ i j, p i → q j → P (f i j)) : Ev S (tOp (rI0 fun i j => .bl (f i j)) ta tb) ρ (fun s => ∃ b, s = .dat (.bool b) ∧ P b) :=
  ev_op ha hb fun x y ⟨i, ex, hi⟩ ⟨j, ey, hj⟩ => by
    subst ex ey
    intro G H v w k rx ry Q q
    exact opd_C0 G H v w k rx ry Q fun z s G' H' g k' e r => q z s G' H' g k' ⟨_, e.symm, h i j hi hj⟩ r
theorem ev_neg {i : Int} (ha : Ev S ta ρ (Eq (.dat (.int i)))) : Ev S (tUn (rU fun i => .int (-i)) ta) ρ (Eq (.dat (.int (-i)))) := fun σ G H k e Q q => ha σ G H k e _ fun v s G1 H1 g1 k1 p1 r1 => by
  subst p1
  cases r1
  exact ⟨i, rfl, q _ _ G1 H1 g1 k1 rfl (.int _)⟩
theorem ev_eqD {d d' : D} (ha : Ev S ta ρ (Eq (.dat d))) (hb : Ev S tb ρ (Eq (.dat d'))) (s1 : SeqAt.shaped d = true) (s2 : SeqAt.shaped d' = true) : Ev S (tOp (rEqD S.K) ta tb) ρ (Eq (.dat (.bool (PyData.eqv d d')))) :=
  ev_op' ha hb (opd_here (z := .bl (PyData.eqv d d')) fun G H v w k rx ry => ⟨.bl _, fun Q q =>
    ⟨d, d', (R.mono k.gh rx).dp (PyData.hasDict_of_canLay _ (SeqAt.canLay_of_shaped s1)), (R.mono k.gh ry).dp (PyData.hasDict_of_canLay _ (SeqAt.canLay_of_shaped s2)), s1, s2, q⟩⟩)
theorem ev_neD {d d' : D} (ha : Ev S ta ρ (Eq (.dat d))) (hb : Ev S tb ρ (Eq (.dat d'))) (s1 : SeqAt.shaped d = true) (s2 : SeqAt.shaped d' = true) : Ev S (tOp (rNeD S.K) ta tb) ρ (Eq (.dat (.bool (!PyData.eqv d d')))) :=
  ev_op' ha hb (opd_here (z := .bl (!PyData.eqv d d')) fun G H v w k rx ry => ⟨.bl _, fun Q q =>
    ⟨d, d', (R.mono k.gh rx).dp (PyData.hasDict_of_canLay _ (SeqAt.canLay_of_shaped s1)), (R.mono k.gh ry).dp (PyData.hasDict_of_canLay _ (SeqAt.canLay_of_shaped s2)), s1, s2, q⟩⟩)
def isNone : D → Bool
  | .none => true
  | _ => false
theorem R.isN {K : PySem.W.Frag} {G : Hp} {v : V} {d : D} (h : R K G v d) : decide (v = .non) = isNone d := by
  cases h <;> simp [isNone]
theorem ev_isN {d : D} (ha : Ev S ta ρ (Eq (.dat d))) : Ev S (tOp (fun x y H Q => y = .non ∧ Q (.bl (decide (x = .non))) H) ta (tC .non)) ρ (Eq (.dat (.bool (isNone d)))) :=
  ev_op' ha ev_non (opd_here (z := .bl (isNone d)) fun G H v w k rx ry => ⟨.bl _, fun Q q => by
    cases ry
    refine ⟨rfl, ?_⟩
    rw [R.isN rx]
    exact q⟩)
theorem ev_notN {d : D} (ha : Ev S ta ρ (Eq (.dat d))) : Ev S (tOp (fun x y H Q => y = .non ∧ Q (.bl (!decide (x = .non))) H) ta (tC .non)) ρ (Eq (.dat (.bool (!isNone d)))) :=
  ev_op' ha ev_non (opd_here (z := .bl (!isNone d)) fun G H v w k rx ry => ⟨.bl _, fun Q q => by
    cases ry
    refine ⟨rfl, ?_⟩
    rw [R.isN rx]
    exact q⟩)
/-! items -/
theorem RA.at {K : PySem.W.Frag} {G : Hp} {vs : List V} {ds : List D} {i : Int} {d : D} (h : RA K G vs ds) (ha : atI ds i = some d) : ∃ v, atI vs i = some v ∧ R K G v d := by
  unfold atI at ha ⊢
  rw [h.length]
  cases e : ixN ds.length i with
  | none =>
    rw [e] at ha
    cases ha
  | some j =>
    rw [e] at ha
    exact h.get ha
theorem ev_ixL {ds : List D} {i : Int} {d : D} (ha : EvL S ta ρ ds) (hb : Ev S tb ρ (Eq (.dat (.int i)))) (hd : atI ds i = some d) : Ev S (tOp (rIxL S.K) ta tb) ρ (Eq (.dat d)) := fun σ G H k e Q q =>
  ha σ G H k e _ fun a vs G1 H1 g1 k1 st ra => hb σ G1 H1 k1 (e.grow g1) _ fun w y G2 H2 g2 k2 p2 r2 => by
    subst p2
    cases r2
    obtain ⟨v, hv, rv⟩ := ra.at hd
    exact ⟨a, vs, i, v, rfl, rfl, st G2 H2 g2, hv, q v _ G2 H2 (g1.trans k1 k2 g2) k2 rfl (rv.mono g2.gg)⟩
theorem ev_ixT {ds : List D} {i : Int} {d : D} (ha : EvU S ta ρ ds) (hb : Ev S tb ρ (Eq (.dat (.int i)))) (hd : atI ds i = some d) : Ev S (tOp (rIxT S.K) ta tb) ρ (Eq (.dat d)) := fun σ G H k e Q q =>
  ha σ G H k e _ fun a vs G1 H1 g1 k1 st ra => hb σ G1 H1 k1 (e.grow g1) _ fun w y G2 H2 g2 k2 p2 r2 => by
    subst p2
    cases r2
    obtain ⟨v, hv, rv⟩ := ra.at hd
    exact ⟨a, vs, i, v, rfl, rfl, st G2 H2 g2, hv, q v _ G2 H2 (g1.trans k1 k2 g2) k2 rfl (rv.mono g2.gg)⟩
/-- at some place within -/
theorem ev_ixLI {ds : List D} {p : Int → Prop} {P : D → Prop} (ha : EvL S ta ρ ds) (hb : EvI S tb ρ p) (hd : ∀ i, p i → ∃ d, atI ds i = some d ∧ P d) : Ev S (tOp (rIxL S.K) ta tb) ρ (fun s => ∃ d, s = .dat d ∧ P d) := fun σ G H k e Q q =>
  ha σ G H k e _ fun a vs G1 H1 g1 k1 st ra => hb σ G1 H1 k1 (e.grow g1) _ fun w y G2 H2 g2 k2 ⟨i, p2, pi⟩ r2 => by
    subst p2
    cases r2
    obtain ⟨d, hd1, hd2⟩ := hd i pi
    obtain ⟨v, hv, rv⟩ := ra.at hd1
    exact ⟨a, vs, i, v, rfl, rfl, st G2 H2 g2, hv, q v _ G2 H2 (g1.trans k1 k2 g2) k2 ⟨d, rfl, hd2⟩ (rv.mono g2.gg)⟩
/-! arguments, displays -/
theorem ea_nil : EvA S tNil ρ (Eq []) := fun σ G H k e Q q => q _ _ G H (Grow.refl k) k rfl .nil
theorem ea_consP {tr : TA} {Pa : Sl → Prop} {Pr P : List Sl → Prop} (ha : Ev S ta ρ Pa) (hr : EvA S tr ρ Pr) (hp : ∀ x xs, Pa x → Pr xs → P (x :: xs)) : EvA S (tCons ta tr) ρ P := fun σ G H k e Q q =>
  ha σ G H k e _ fun v x G1 H1 g1 k1 p1 r1 => hr σ G1 H1 k1 (e.grow g1) _ fun vs xs G2 H2 g2 k2 p2 r2 => q _ _ G2 H2 (g1.trans k1 k2 g2) k2 (hp _ _ p1 p2) (.cons (r1.mono g2.gg) r2)
theorem ea_cons {tr : TA} {x : Sl} {xs : List Sl} (ha : Ev S ta ρ (Eq x)) (hr : EvA S tr ρ (Eq xs)) : EvA S (tCons ta tr) ρ (Eq (x :: xs)) := ea_consP ha hr fun _ _ a b => a ▸ b ▸ rfl
theorem RSs.toRA {K : PySem.W.Frag} {G : Hp} : ∀ {vs : List V} {ds : List D}, RSs K G vs (ds.map Sl.dat) → RA K G vs ds
  | _, [], h => by
    cases h
    exact .nil
  | _, d :: ds, h => by
    cases h with
    | cons h1 h2 => exact .cons h1 (RSs.toRA h2)
theorem sz_ok {n : Nat} (h : n ≤ 1000000) : n ≤ sizeLine := Nat.le_trans h (by decide)
theorem ev_tup {ta : TA} {ds : List D} (h : EvA S ta ρ (Eq (ds.map Sl.dat))) (hl : ds.length ≤ 1000000) : Ev S (tTup ta) ρ (Eq (.dat (.tuple ds))) := fun σ G H k e Q q =>
  h σ G H k e _ fun vs ss G1 H1 g1 k1 p1 r1 => by
    subst p1
    have ra := r1.toRA
    refine ⟨sz_ok (by rw [ra.length]; exact hl), fun p hp => ?_⟩
    have g2 := Grow.new k1 (.tup vs) hp
    have k2 := Kn.new k1 (.tup vs) hp
    exact q _ _ _ _ (g1.trans k1 k2 g2) k2 rfl (.tup (SqT.of upd_same) (ra.mono g2.gg))
theorem ev_lst {ta : TA} {ds : List D} (h : EvA S ta ρ (Eq (ds.map Sl.dat))) (hl : ds.length ≤ 1000000) : Ev S (tLst ta) ρ (Eq (.dat (.list ds))) := fun σ G H k e Q q =>
  h σ G H k e _ fun vs ss G1 H1 g1 k1 p1 r1 => by
    subst p1
    have ra := r1.toRA
    refine ⟨sz_ok (by rw [ra.length]; exact hl), fun p hp => ?_⟩
    have g2 := Grow.new k1 (.lst vs) hp
    have k2 := Kn.new k1 (.lst vs) hp
    exact q _ _ _ _ (g1.trans k1 k2 g2) k2 rfl (.lst (SqL.of upd_same) (ra.mono g2.gg))
theorem ev_tupP {ta : TA} {p : List D → Prop} (h : EvA S ta ρ (fun ss => ∃ ds, ss = ds.map Sl.dat ∧ ds.length ≤ 1000000 ∧ p ds)) : Ev S (tTup ta) ρ (fun s => ∃ ds, s = .dat (.tuple ds) ∧ p ds) := fun σ G H k e Q q =>
  h σ G H k e _ fun vs ss G1 H1 g1 k1 ⟨ds, p1, hl, pd⟩ r1 => by
    subst p1
    have ra := r1.toRA
    refine ⟨sz_ok (by rw [ra.length]; exact hl), fun p hp => ?_⟩
    have g2 := Grow.new k1 (.tup vs) hp
    have k2 := Kn.new k1 (.tup vs) hp
    exact q _ _ _ _ (g1.trans k1 k2 g2) k2 ⟨ds, rfl, pd⟩ (.tup (SqT.of upd_same) (ra.mono g2.gg))
/-! tests -/
theorem et_test {b : Bool} (h : Ev S te ρ (Eq (.dat (.bool b)))) : EvT S (tTest te) ρ (Eq b) := fun σ G H k e Q q => h σ G H k e _ fun v s G1 H1 g1 k1 p1 r1 => by
  subst p1
  cases r1
  exact ⟨b, rfl, q b G1 H1 g1 k1 rfl⟩
theorem et_testP {P : Bool → Prop} (h : Ev S te ρ (fun s => ∃ b, s = .dat (.bool b) ∧ P b)) : EvT S (tTest te) ρ P := fun σ G H k e Q q => h σ G H k e _ fun v s G1 H1 g1 k1 ⟨b, p1, pb⟩ r1 => by
  subst p1
  cases r1
  exact ⟨b, rfl, q b G1 H1 g1 k1 pb⟩
theorem et_B {b : Bool} (h : Ev S te ρ (Eq (.dat (.bool b)))) : EvT S (tB te) ρ (Eq b) := et_test h
theorem et_and {a b : Bool} (h1 : EvT S t ρ (Eq a)) (h2 : a = true → EvT S u ρ (Eq b)) : EvT S (tAnd t u) ρ (Eq (a && b)) := fun σ G H k e Q q => h1 σ G H k e _ fun c G1 H1 g1 k1 p1 => by
  subst p1
  cases a with
  | true => exact h2 rfl σ G1 H1 k1 (e.grow g1) Q fun c G2 H2 g2 k2 p2 => q c G2 H2 (g1.trans k1 k2 g2) k2 p2
  | false => exact q false G1 H1 g1 k1 rfl
theorem et_or {a b : Bool} (h1 : EvT S t ρ (Eq a)) (h2 : a = false → EvT S u ρ (Eq b)) : EvT S (tOr t u) ρ (Eq (a || b)) := fun σ G H k e Q q => h1 σ G H k e _ fun c G1 H1 g1 k1 p1 => by
  subst p1
  cases a with
  | true => exact q true G1 H1 g1 k1 rfl
  | false => exact h2 rfl σ G1 H1 k1 (e.grow g1) Q fun c G2 H2 g2 k2 p2 => q c G2 H2 (g1.trans k1 k2 g2) k2 p2
theorem et_not {a : Bool} (h1 : EvT S t ρ (Eq a)) : EvT S (tNot t) ρ (Eq (!a)) := fun σ G H k e Q q => h1 σ G H k e _ fun c G1 H1 g1 k1 p1 => by
  subst p1
  exact q _ G1 H1 g1 k1 rfl
theorem et_is {a b : Bool} (h : EvT S t ρ (Eq a)) (e : a = b) : EvT S t ρ (Eq b) := e ▸ h
theorem ev_andV {a b : Bool} (h1 : Ev S ta ρ (Eq (.dat (.bool a)))) (h2 : a = true → Ev S tb ρ (Eq (.dat (.bool b)))) : Ev S (tAndV ta tb) ρ (Eq (.dat (.bool (a && b)))) := fun σ G H k e Q q => h1 σ G H k e _ fun c s G1 H1 g1 k1 p1 r1 => by
  subst p1
  cases r1
  refine ⟨a, rfl, ?_⟩
  cases a with
  | true => exact h2 rfl σ G1 H1 k1 (e.grow g1) Q fun v c G2 H2 g2 k2 p2 => q v c G2 H2 (g1.trans k1 k2 g2) k2 p2
  | false => exact q _ _ G1 H1 g1 k1 rfl (.bl false)
theorem ev_orV {a b : Bool} (h1 : Ev S ta ρ (Eq (.dat (.bool a)))) (h2 : a = false → Ev S tb ρ (Eq (.dat (.bool b)))) : Ev S (tOrV ta tb) ρ (Eq (.dat (.bool (a || b)))) := fun σ G H k e Q q => h1 σ G H k e _ fun c s G1 H1 g1 k1 p1 r1 => by
  subst p1
  cases r1
  refine ⟨a, rfl, ?_⟩
  cases a with
  | true => exact q _ _ G1 H1 g1 k1 rfl (.bl true)
  | false => exact h2 rfl σ G1 H1 k1 (e.grow g1) Q fun v c G2 H2 g2 k2 p2 => q v c G2 H2 (g1.trans k1 k2 g2) k2 p2
theorem ev_notV {a : Bool} (h1 : Ev S ta ρ (Eq (.dat (.bool a)))) : Ev S (tNotV ta) ρ (Eq (.dat (.bool (!a)))) := fun σ G H k e Q q => h1 σ G H k e _ fun c s G1 H1 g1 k1 p1 r1 => by
  subst p1
  cases r1
  exact ⟨a, rfl, q _ _ G1 H1 g1 k1 rfl (.bl _)⟩
theorem ev_if {b : Bool} {P : Sl → Prop} (h : EvT S t ρ (Eq b)) (h1 : b = true → Ev S ta ρ P) (h2 : b = false → Ev S tb ρ P) : Ev S (tIf t ta tb) ρ P := fun σ G H k e Q q => h σ G H k e _ fun c G1 H1 g1 k1 p1 => by
  subst p1
  cases b with
  | true => exact h1 rfl σ G1 H1 k1 (e.grow g1) Q fun v c G2 H2 g2 k2 p2 => q v c G2 H2 (g1.trans k1 k2 g2) k2 p2
  | false => exact h2 rfl σ G1 H1 k1 (e.grow g1) Q fun v c G2 H2 g2 k2 p2 => q v c G2 H2 (g1.trans k1 k2 g2) k2 p2
theorem ev_ifP {P : Sl → Prop} {p : Bool → Prop} (h : EvT S t ρ p) (h1 : p true → Ev S ta ρ P) (h2 : p false → Ev S tb ρ P) : Ev S (tIf t ta tb) ρ P := fun σ G H k e Q q => h σ G H k e _ fun c G1 H1 g1 k1 p1 => by
  cases c with
  | true => exact h1 p1 σ G1 H1 k1 (e.grow g1) Q fun v c G2 H2 g2 k2 p2 => q v c G2 H2 (g1.trans k1 k2 g2) k2 p2
  | false => exact h2 p1 σ G1 H1 k1 (e.grow g1) Q fun v c G2 H2 g2 k2 p2 => q v c G2 H2 (g1.trans k1 k2 g2) k2 p2
/-- a < b < c of ints -/
theorem ev_chain {f f' : Int → Int → Bool} {i j l : Int} (ha : Ev S ta ρ (Eq (.dat (.int i)))) (hb : Ev S tb ρ (Eq (.dat (.int j)))) (hc : f i j = true → Ev S tc ρ (Eq (.dat (.int l)))) :
    Ev S (tChain (rI0 fun i j => .bl (f i j)) (rI0 fun i j => .bl (f' i j)) ta tb tc) ρ (Eq (.dat (.bool (f i j && f' j l)))) := fun σ G H k e Q q => ha σ G H k e _ fun v x G1 H1 g1 k1 p1 r1 => hb σ G1 H1 k1 (e.grow g1) _ fun w y G2 H2 g2 k2 p2 r2 => by
  subst p1 p2
  cases r1
  cases r2
  refine ⟨i, j, rfl, rfl, f i j, rfl, ?_⟩
  cases z : f i j with
  | true =>
    rw [z] at q
    exact hc z σ G2 H2 k2 ((e.grow g1).grow g2) _ fun v3 x3 G3 H3 g3 k3 p3 r3 => by
      subst p3
      cases r3
      exact ⟨j, l, rfl, rfl, q _ _ G3 H3 ((g1.trans k1 k2 g2).trans k2 k3 g3) k3 rfl (.bl _)⟩
  | false =>
    rw [z] at q
    exact q _ _ G2 H2 (g1.trans k1 k2 g2) k2 rfl (.bl false)
/-! built-ins by their values -/
def CbD (S : Cf) (r : List V → Hp → VK → Prop) (ss : List Sl) (P : Sl → Prop) : Prop := ∀ (G H : Hp) (vs : List V), Kn S.fx G H → RSs S.K G vs ss → ∀ Q : VK,
  (∀ z s G' H', Grow S.fx G H G' H' → Kn S.fx G' H' → P s → RS S.K G' z s → Q z H') → r vs H Q
theorem ev_cbP {r : List V → Hp → VK → Prop} {ta : TA} {Pa : List Sl → Prop} {P : Sl → Prop} (ha : EvA S ta ρ Pa) (ho : ∀ ss, Pa ss → CbD S r ss P) : Ev S (tCB r ta) ρ P := fun σ G H k e Q q =>
  ha σ G H k e _ fun vs ss G1 H1 g1 k1 p1 r1 => ho ss p1 G1 H1 vs k1 r1 Q fun z s G2 H2 g2 k2 p2 r2 => q z s G2 H2 (g1.trans k1 k2 g2) k2 p2 r2
theorem ev_cb {r : List V → Hp → VK → Prop} {ta : TA} {ss : List Sl} {P : Sl → Prop} (ha : EvA S ta ρ (Eq ss)) (ho : CbD S r ss P) : Ev S (tCB r ta) ρ P := ev_cbP ha fun _ e => e ▸ ho
theorem cb_gcd {i j : Int} : CbD S rGcd [.dat (.int i), .dat (.int j)] (Eq (.dat (.int ((Nat.gcd i.natAbs j.natAbs : Nat) : Int)))) := fun G H vs k r Q q => by
  cases r with
  | cons r1 r =>
    cases r with
    | cons r2 r =>
      cases r
      cases r1
      cases r2
      exact ⟨i, j, rfl, q _ _ G H (Grow.refl k) k rfl (.int _)⟩
theorem cb_int {i : Int} : CbD S (fun xs H Q => (∃ i, xs = [.int i] ∧ Q (.int i) H) ∨ ∃ k, xs = [.bl k] ∧ Q (.int (if k then 1 else 0)) H) [.dat (.int i)] (Eq (.dat (.int i))) := fun G H vs k r Q q => by
  cases r with
  | cons r1 r =>
    cases r
    cases r1
    exact .inl ⟨i, rfl, q _ _ G H (Grow.refl k) k rfl (.int _)⟩
theorem ev_lenL {ds : List D} (ha : EvL S ta ρ ds) : Ev S (tCB (fun xs H Q => ∃ p ys, xs = [.ref p] ∧ (SqL S.K H p ys ∨ SqT S.K H p ys) ∧ Q (.int ys.length) H) (tCons ta tNil)) ρ (Eq (.dat (.int (ds.length : Nat)))) := fun σ G H k e Q q =>
  ha σ G H k e _ fun a vs G1 H1 g1 k1 st ra => ⟨a, vs, rfl, .inl (st _ _ (Grow.refl k1)), by rw [ra.length]; exact q _ _ G1 H1 g1 k1 rfl (.int _)⟩
theorem ev_lenU {ds : List D} (ha : EvU S ta ρ ds) : Ev S (tCB (fun xs H Q => ∃ p ys, xs = [.ref p] ∧ (SqL S.K H p ys ∨ SqT S.K H p ys) ∧ Q (.int ys.length) H) (tCons ta tNil)) ρ (Eq (.dat (.int (ds.length : Nat)))) := fun σ G H k e Q q =>
  ha σ G H k e _ fun a vs G1 H1 g1 k1 st ra => ⟨a, vs, rfl, .inr (st _ _ (Grow.refl k1)), by rw [ra.length]; exact q _ _ G1 H1 g1 k1 rfl (.int _)⟩
/-- tuple(xs), list(xs) -/
theorem ev_tupL {ds : List D} (ha : EvL S ta ρ ds) : Ev S (tCB (fun xs H Q => ∃ p ys, xs = [.ref p] ∧ ((SqL S.K H p ys ∧ ∀ l, H l = none → Q (.ref l) (upd H l (.tup ys))) ∨ (SqT S.K H p ys ∧ Q (.ref p) H))) (tCons ta tNil)) ρ (Eq (.dat (.tuple ds))) := fun σ G H k e Q q =>
  ha σ G H k e _ fun a vs G1 H1 g1 k1 st ra => ⟨a, vs, rfl, .inl ⟨st _ _ (Grow.refl k1), fun l hl => by
    have g2 := Grow.new k1 (.tup vs) hl
    have k2 := Kn.new k1 (.tup vs) hl
    exact q _ _ _ _ (g1.trans k1 k2 g2) k2 rfl (.tup (SqT.of upd_same) (ra.mono g2.gg))⟩⟩
theorem ev_tupT {ds : List D} (ha : Ev S ta ρ (Eq (.dat (.tuple ds)))) : Ev S (tCB (fun xs H Q => ∃ p ys, xs = [.ref p] ∧ ((SqL S.K H p ys ∧ ∀ l, H l = none → Q (.ref l) (upd H l (.tup ys))) ∨ (SqT S.K H p ys ∧ Q (.ref p) H))) (tCons ta tNil)) ρ (Eq (.dat (.tuple ds))) := fun σ G H k e Q q =>
  ha σ G H k e _ fun v s G1 H1 g1 k1 p1 r1 => by
    subst p1
    have r0 := r1
    cases r1 with
    | tup hs ra => exact ⟨_, _, rfl, .inr ⟨sameT k1.gh hs, q _ _ G1 H1 g1 k1 rfl r0⟩⟩
theorem ev_listL {ds : List D} (ha : EvL S ta ρ ds) : Ev S (tCB (fun xs H Q => ∃ p ys, xs = [.ref p] ∧ (SqL S.K H p ys ∨ SqT S.K H p ys) ∧ ∀ l, H l = none → Q (.ref l) (upd H l (.lst ys))) (tCons ta tNil)) ρ (Eq (.dat (.list ds))) := fun σ G H k e Q q =>
  ha σ G H k e _ fun a vs G1 H1 g1 k1 st ra => ⟨a, vs, rfl, .inl (st _ _ (Grow.refl k1)), fun l hl => by
    have g2 := Grow.new k1 (.lst vs) hl
    have k2 := Kn.new k1 (.lst vs) hl
    exact q _ _ _ _ (g1.trans k1 k2 g2) k2 rfl (.lst (SqL.of upd_same) (ra.mono g2.gg))⟩
theorem ev_all {bs : List Bool} (ha : Ev S ta ρ (Eq (.dat (.list (bs.map PyData.bool))))) : Ev S (tCB (rAll S.K) (tCons ta tNil)) ρ (Eq (.dat (.bool (bs.all id)))) := fun σ G H k e Q q =>
  el_of ha σ G H k e _ fun a vs G1 H1 g1 k1 st ra => ⟨a, bs, rfl, by rw [← ra.bools]; exact st _ _ (Grow.refl k1), q _ _ G1 H1 g1 k1 rfl (.bl _)⟩
theorem ev_sum {ns : List Int} (ha : Ev S ta ρ (Eq (.dat (.list (ns.map PyData.int))))) : Ev S (tCB (rSum S.K) (tCons ta tNil)) ρ (Eq (.dat (.int ns.sum))) := fun σ G H k e Q q =>
  el_of ha σ G H k e _ fun a vs G1 H1 g1 k1 st ra => ⟨a, ns, rfl, by rw [← ra.ints]; exact st _ _ (Grow.refl k1), q _ _ G1 H1 g1 k1 rfl (.int _)⟩
/-! isinstance -/
def tyD : D → String
  | .none => "NoneType"
  | .bool _ => "bool"
  | .int _ => "int"
  | .str _ => "str"
  | .list _ => "list"
  | .tuple _ => "tuple"
  | .dict _ => "dict"
/-- .. wider still -/
def TyY (K : PySem.W.Frag) (H : Hp) (x : V) (t : Value) : Prop := TyX K H x t ∨ ∃ (a : Addr) (o : Obj) (xs : List (NestedKey × Addr × Value)), x = .ref a ∧ H a = some (.frz o (DX a xs)) ∧ t = .type "dict"
theorem kit_ofY {X : Cx} {pins : List (Addr × Obj)} {σ : L2.St} {H : Hp} {s : Shared} {x : V} {u t : Value} (I : Inv X pins σ H s) (rx : RelV x u) (ty : TyY X.K H x t) : ∃ P : Heap → Prop, PySem.W.KitX X.K u t P ∧ P s.heap ∧ u ≠ .builtin "__main__.__loader__#opaque" := by
  rcases ty with ty | ⟨a, ob, kvs, rfl, ea, rfl⟩
  · exact kit_of I rx ty
  · cases (show u = Value.ref a from rx)
    obtain ⟨_, ⟨_, _, o, es, ep, h1, h2, _⟩, _⟩ := (show ObjOk X.prog X.w H s.heap a (.frz ob (DX a kvs)) from I.hok a _ ea)
    exact ⟨_, PySem.W.kitx_dict, ⟨o, h1, h2.1⟩, fun z => nomatch z⟩
def rIsY (K : PySem.W.Frag) : List V → Hp → VK → Prop := fun xs H Q => ∃ (x c : V) (t u : Value) (b : Bool), xs = [x, c] ∧ ClsV c u ∧ TyY K H x t ∧ PySem.W.kitOne K t u = some b ∧ Q (.bl b) H
def rIsYT (K : PySem.W.Frag) : List V → Hp → VK → Prop := fun xs H Q => ∃ (x : V) (tp : Addr) (cs : List V) (t : Value) (us : List Value) (b : Bool), xs = [x, .ref tp] ∧ H tp = some (.tup cs) ∧ Paired ClsV cs us ∧ TyY K H x t ∧ PySem.W.kitAny K t us = some b ∧ Q (.bl b) H
theorem call_isY {X : Cx} : CallR X (.builtin "isinstance") (rIsY X.K) := by
  intro pins s σ H xs us Q I r h
  obtain ⟨x, c, t, u, b, rfl, k, ty, e, q⟩ := h
  obtain ⟨u1, u2, rfl, r1, r2⟩ := vals2 r
  have e2 := k.eq r2
  subst e2
  obtain ⟨P, Z, p, hx⟩ := kit_ofY I r1 ty
  exact PySem.W.kia_one Z I.kIn p e hx fun tk => ⟨.bl b, H, I.tok tk, rfl, q⟩
theorem call_isYT {X : Cx} : CallR X (.builtin "isinstance") (rIsYT X.K) := by
  intro pins s σ H xs us Q I r h
  obtain ⟨x, tp, cs, t, ws, b, rfl, hT, k, ty, e, q⟩ := h
  obtain ⟨u1, u2, rfl, r1, r2⟩ := vals2 r
  cases (show u2 = Value.ref tp from r2)
  obtain ⟨P, Z, p, hx⟩ := kit_ofY I r1 ty
  obtain ⟨_, its, rv, o, h1, h2, n, h3⟩ := (show ObjOk X.prog X.w H s.heap tp (.tup cs) from I.hok tp _ hT)
  have e3 := ClsV.all k rv
  subst e3
  obtain ⟨oc, od, dt, sl⟩ := o
  simp only at h2 h3
  subst h2 h3
  exact PySem.W.kia_tup Z I.kIn p h1 e hx fun tk => ⟨.bl b, H, I.tok tk, rfl, q⟩
theorem R.ty {K : PySem.W.Frag} {G : Hp} {v : V} {d : D} (h : R K G v d) : TyY K G v (.type (tyD d)) := by
  cases h with
  | non => exact .inl (.base .non)
  | bl b => exact .inl (.base (.bl b))
  | int i => exact .inl (.base (.int i))
  | str x => exact .inl (.base (.str x))
  | lst hs _ =>
    rcases hs with (h | ⟨o, h⟩) | ⟨o, its, n, hk, hc, _⟩
    · exact .inl (.base (.lst h))
    · exact .inl (.base (.frz h))
    · exact .inl (.kList hk hc)
  | tup hs _ =>
    rcases hs with (h | ⟨o, h⟩) | ⟨o, its, n, hk, hc, _⟩
    · exact .inl (.base (.tup h))
    · exact .inl (.fTuple h)
    · exact .inl (.kTuple hk hc)
  | dic hg _ => exact .inl (.fDict hg)
  | dicN hg _ _ => exact .inr ⟨_, _, _, rfl, hg, rfl⟩
/-- isinstance(x, T) -/
theorem ev_isi {d : D} {T : String} {b : Bool} (ha : Ev S ta ρ (Eq (.dat d))) (h : kitB (tyD d) T = some b) : Ev S (tCB (rIsY S.K) (tCons ta (tCons (tC (.ty T)) tNil))) ρ (Eq (.dat (.bool b))) := fun σ G H k e Q q =>
  ha σ G H k e _ fun v s G1 H1 g1 k1 p1 r1 => by
    subst p1
    exact ⟨v, .ty T, .type (tyD d), .type T, b, rfl, .ty T, (R.mono k1.gh r1).ty, kit_ty h, q _ _ G1 H1 g1 k1 rfl (.bl b)⟩
/-- isinstance(x, (T, U)) -/
theorem ev_isi2 {d : D} {T U : String} {b c : Bool} (ha : Ev S ta ρ (Eq (.dat d))) (h1 : kitB (tyD d) T = some b) (h2 : kitB (tyD d) U = some c) :
    Ev S (tCB (rIsYT S.K) (tCons ta (tCons (tTup (tCons (tC (.ty T)) (tCons (tC (.ty U)) tNil))) tNil))) ρ (Eq (.dat (.bool (b || c)))) := fun σ G H k e Q q =>
  ha σ G H k e _ fun v s G1 H1 g1 k1 p1 r1 => by
    subst p1
    refine ⟨by show 2 ≤ sizeLine; decide, fun p hp => ?_⟩
    have e2 : Same H1 (upd H1 p (.tup [.ty T, .ty U])) := same_new hp
    refine ⟨v, p, [.ty T, .ty U], .type (tyD d), [.type T, .type U], b || c, rfl, upd_same, .cons (.ty T) (.cons (.ty U) .nil), (R.mono (k1.gh.trans e2) r1).ty, ?_, ?_⟩
    · exact kitAny_cons (kit_ty h1) (fun hb => kitAny_cons (b := c) (r := b || c) (kit_ty h2) (fun hc => by rw [hb, hc] <;> exact kitAny_nil) fun hc => by rw [hb, hc] <;> rfl) fun hb => by rw [hb] <;> rfl
    · have g2 : Grow S.fx G1 H1 G1 (upd H1 p (.tup [.ty T, .ty U])) := Grow.same k1 e2
      have k2 := k1.same e2
      exact q _ _ _ _ (g1.trans k1 k2 g2) k2 rfl (.bl _)
end
/-! ### calls of defs -/
inductive Re where
  | ok (s : Sl)
  | ex (C : Addr) (d : D)
/-- the promise of a def: i names the arguments; post i tells the way out -/
def spI (K : PySem.W.Frag) (fx : Fx) {ι : Type} (args : ι → List Sl) (pre : ι → Prop) (post : ι → Re → Prop) : Sp := fun vs H Q E => ∃ (i : ι) (G : Hp), pre i ∧ Kn fx G H ∧ RSs K G vs (args i) ∧
  (∀ v s G' H', Grow fx G H G' H' → Kn fx G' H' → RS K G' v s → post i (.ok s) → Q v H') ∧
  (∀ C d dd v G' H', Grow fx G H G' H' → Kn fx G' H' → H' dd = some (.xd [("value", v)]) → R K G' v d → post i (.ex C d) → E (.ref C) (some dd) H')
section
variable {S : Cf} {ρ : Rho} {ι : Type} {args : ι → List Sl} {pre : ι → Prop} {post : ι → Re → Prop} {ta : TA} {E : XK}
/-- f(..), f writes nothing, nothing is raised -/
theorem ev_call {P : Sl → Prop} (i : ι) (ha : EvA S ta ρ (Eq (args i))) (hp : pre i) (ho : ∀ s, post i (.ok s) → P s) (hx : ∀ C d, ¬ post i (.ex C d)) : Ev S (tCall (spI S.K fx0 args pre post) [] E ta) ρ P := fun σ G H k e Q q =>
  ha σ G H k e _ fun vs ss G1 H1 g1 k1 p1 r1 => by
    subst p1
    rw [List.append_nil]
    refine ⟨i, G1, hp, k1.low, r1, fun v s G2 H2 g2 k2 r2 po => ?_, fun C d dd v G2 H2 _ _ _ _ po => absurd po (hx C d)⟩
    have k2' := k1.lift g2
    exact q v s G2 H2 (g1.trans k1 k2' g2.lift) k2' (ho s po) r2
/-- .. what it gives is told -/
theorem ev_callE {f : ι → Sl} (i : ι) (ha : EvA S ta ρ (Eq (args i))) (hp : pre i) : Ev S (tCall (spI S.K fx0 args pre (fun i => Eq (.ok (f i)))) [] E ta) ρ (Eq (f i)) :=
  ev_call i ha hp (fun s h => Re.ok.inj h) (fun C d h => by cases h)
/-- f(..), f may write where all may -/
theorem ev_callF {P : Sl → Prop} {Pa : List Sl → Prop} (ha : EvA S ta ρ Pa) (h : ∀ ss, Pa ss → ∃ i, ss = args i ∧ pre i ∧ (∀ s, post i (.ok s) → P s) ∧ (∀ C d, ¬ post i (.ex C d))) : Ev S (tCall (spI S.K S.fx args pre post) [] E ta) ρ P := fun σ G H k e Q q =>
  ha σ G H k e _ fun vs ss G1 H1 g1 k1 p1 r1 => by
    obtain ⟨i, e1, hp, ho, hx⟩ := h ss p1
    subst e1
    rw [List.append_nil]
    exact ⟨i, G1, hp, k1, r1, fun v s G2 H2 g2 k2 r2 po => q v s G2 H2 (g1.trans k1 k2 g2) k2 (ho s po) r2, fun C d dd v G2 H2 _ _ _ _ po => absurd po (hx C d)⟩
/-- f(..), f writes nothing, the arguments not told -/
theorem ev_callP {P : Sl → Prop} {Pa : List Sl → Prop} (ha : EvA S ta ρ Pa) (h : ∀ ss, Pa ss → ∃ i, ss = args i ∧ pre i ∧ (∀ s, post i (.ok s) → P s) ∧ (∀ C d, ¬ post i (.ex C d))) : Ev S (tCall (spI S.K fx0 args pre post) [] E ta) ρ P := fun σ G H k e Q q =>
  ha σ G H k e _ fun vs ss G1 H1 g1 k1 p1 r1 => by
    obtain ⟨i, e1, hp, ho, hx⟩ := h ss p1
    subst e1
    rw [List.append_nil]
    refine ⟨i, G1, hp, k1.low, r1, fun v s G2 H2 g2 k2 r2 po => ?_, fun C d dd v G2 H2 _ _ _ _ po => absurd po (hx C d)⟩
    have k2' := k1.lift g2
    exact q v s G2 H2 (g1.trans k1 k2' g2.lift) k2' (ho s po) r2
end
end Dl

set_option Elab.async false
set_option linter.all false
set_option maxRecDepth 100000
set_option maxHeartbeats 4000000
/-! Dls: what statements and whole bodies do, as data. -/
namespace Dl
open PySem PySem.Spec PyProof.Rows L2
inductive Oc where
  | nx (ρ : Rho)
  | rt (ρ : Rho) (s : Sl)
  | bk (ρ : Rho)
  | ct (ρ : Rho)
  | ex (C : Addr) (d : D)
/-- .. but for what is written at of one's own -/
structure GrO (fx : Fx) (G H G' H' : Hp) : Prop where
  gg : Same G G'
  gh : Same G' H'
  hh : ∀ a o, ¬ fx.vol a → ¬ fx.mine a → H a = some o → H' a = some o
  nn : ∀ a o, ¬ fx.mine a → H a = some o → ¬ isTup o → G a = none → G' a = none
def MnOk (fx : Fx) (H : Hp) : Prop := ∀ a, fx.mine a → ¬ fx.vol a ∧ H a ≠ none
structure OkS (S : Cf) (G H : Hp) : Prop where
  kn : Kn S.fx G H
  k0 : Kn S.fx S.G0 S.B
  gr : GrO S.fx S.G0 S.B G H
  mn : MnOk S.fx H
  m0 : MnOk S.fx S.B
theorem GrO.of {fx : Fx} {G H G1 H1 : Hp} (g : Grow fx G H G1 H1) : GrO fx G H G1 H1 := ⟨g.gg, g.gh, fun a o v _ => g.hh a o v, fun a o _ => g.nn a o⟩
theorem GrO.to {fx : Fx} {G H G1 H1 : Hp} (g : GrO fx G H G1 H1) (hm : ∀ a, ¬ fx.mine a) : Grow fx G H G1 H1 := ⟨g.gg, g.gh, fun a o v => g.hh a o v (hm a), fun a o => g.nn a o (hm a)⟩
theorem MnOk.grow {fx : Fx} {G H G1 H1 : Hp} (m : MnOk fx H) (g : Grow fx G H G1 H1) : MnOk fx H1 := fun a h => by
  obtain ⟨v, ha⟩ := m a h
  refine ⟨v, ?_⟩
  cases e : H a with
  | none => exact absurd e ha
  | some o =>
    rw [g.hh a o v e]
    simp
theorem MnOk.none {fx : Fx} {H : Hp} (hm : ∀ a, ¬ fx.mine a) : MnOk fx H := fun a h => absurd h (hm a)
theorem GrO.trans {fx : Fx} {G H G1 H1 G2 H2 : Hp} (g : GrO fx G H G1 H1) (k2 : Kn fx G2 H2) (g2 : Grow fx G1 H1 G2 H2) : GrO fx G H G2 H2 :=
  ⟨g.gg.trans g2.gg, g2.gh, fun a o v m h => g2.hh a o v (g.hh a o v m h), fun a o m h nt n => by
    by_cases v : fx.vol a
    · exact k2.vn a v
    · exact g2.nn a o (g.hh a o v m h) nt (g.nn a o m h nt n)⟩
structure Fin (S : Cf) (P : Oc → Prop) (De : Ends) (G : Hp) : Prop where
  nx : ∀ (σ : L2.St) (G' H' : Hp) (ρ : Rho), OkS S G' H' → Same G G' → Env S G' H' σ ρ → P (.nx ρ) → De.nx σ H'
  bk : ∀ (σ : L2.St) (G' H' : Hp) (ρ : Rho), OkS S G' H' → Same G G' → Env S G' H' σ ρ → P (.bk ρ) → De.bk σ H'
  ct : ∀ (σ : L2.St) (G' H' : Hp) (ρ : Rho), OkS S G' H' → Same G G' → Env S G' H' σ ρ → P (.ct ρ) → De.ct σ H'
  rt : ∀ (σ : L2.St) (v : V) (s : Sl) (G' H' : Hp) (ρ : Rho), OkS S G' H' → Env S G' H' σ ρ → RS S.K G' v s → P (.rt ρ s) → De.rt v H'
  ex : ∀ (C : Addr) (d : D) (dd : Addr) (v : V) (G' H' : Hp), OkS S G' H' → H' dd = some (.xd [("value", v)]) → R S.K G' v d → P (.ex C d) → S.E (.ref C) (some dd) H'
def Xc (S : Cf) (ts : TS) (ρ : Rho) (P : Oc → Prop) : Prop := ∀ (σ : L2.St) (G H : Hp) (De : Ends), OkS S G H → Env S G H σ ρ → Fin S P De G → ts De σ H
/-- what is asked behind the first of two -/
def SeqP (S : Cf) (u : TS) (P : Oc → Prop) : Oc → Prop
  | .nx ρ => Xc S u ρ P
  | .rt ρ s => P (.rt ρ s)
  | .bk ρ => P (.bk ρ)
  | .ct ρ => P (.ct ρ)
  | .ex C d => P (.ex C d)
/-- .. behind a turn -/
def LoopP (N : Rho → Prop) (P : Oc → Prop) : Oc → Prop
  | .nx ρ => N ρ
  | .ct ρ => N ρ
  | .bk ρ => P (.nx ρ)
  | .rt ρ s => P (.rt ρ s)
  | .ex C d => P (.ex C d)
/-- .. behind a body -/
def RetP (post : Re → Prop) : Oc → Prop
  | .nx _ => post (.ok (.dat .none))
  | .rt _ s => post (.ok s)
  | .ex C d => post (.ex C d)
  | _ => False
section
variable {S : Cf} {G H G1 H1 : Hp} {ρ : Rho} {P : Oc → Prop} {t u : TS} {te ta tb : TE} {tt : TT} {g : TG}
theorem OkS.grow (o : OkS S G H) (g : Grow S.fx G H G1 H1) (k : Kn S.fx G1 H1) : OkS S G1 H1 := ⟨k, o.k0, o.gr.trans k g, o.mn.grow g, o.m0⟩
theorem Fin.same {De : Ends} (f : Fin S P De G) (e : Same G G1) : Fin S P De G1 :=
  ⟨fun σ G' H' ρ o s => f.nx σ G' H' ρ o (e.trans s), fun σ G' H' ρ o s => f.bk σ G' H' ρ o (e.trans s), fun σ G' H' ρ o s => f.ct σ G' H' ρ o (e.trans s), f.rt, f.ex⟩
theorem Xc.imp {P' : Oc → Prop} (h : Xc S t ρ P) (i : ∀ o, P o → P' o) : Xc S t ρ P' := fun σ G H De o e f => h σ G H De o e
  ⟨fun σ G' H' ρ o s e p => f.nx σ G' H' ρ o s e (i _ p), fun σ G' H' ρ o s e p => f.bk σ G' H' ρ o s e (i _ p), fun σ G' H' ρ o s e p => f.ct σ G' H' ρ o s e (i _ p), fun σ v s G' H' ρ o e r p => f.rt σ v s G' H' ρ o e r (i _ p),
    fun C d dd v G' H' o h r p => f.ex C d dd v G' H' o h r (i _ p)⟩
theorem xc_seq (h : Xc S t ρ (SeqP S u P)) : Xc S (tSeq t u) ρ P := fun σ G H De o e f => h σ G H { De with nx := u De } o e
  ⟨fun σ' G' H' ρ' o' s e' p => p σ' G' H' De o' e' (f.same s), f.bk, f.ct, f.rt, f.ex⟩
theorem xc_next (h : P (.nx ρ)) : Xc S tNext ρ P := fun σ G H De o e f => f.nx σ G H ρ o (Same.refl G) e h
theorem xc_break (h : P (.bk ρ)) : Xc S tBreak ρ P := fun σ G H De o e f => f.bk σ G H ρ o (Same.refl G) e h
theorem xc_cont (h : P (.ct ρ)) : Xc S tCont ρ P := fun σ G H De o e f => f.ct σ G H ρ o (Same.refl G) e h
theorem xc_never {t : TS} (h : False) : Xc S t ρ P := h.elim
theorem xc_asgP {i : Nat} {p : Sl → Prop} (h : Ev S te ρ p) (hs : ∀ s, p s → P (.nx (ρ.set i s))) : Xc S (tAsg te (gName i)) ρ P := fun σ G H De o e f =>
  h σ G H o.kn e _ fun v s G' H' g k p r => f.nx _ G' H' _ (o.grow g k) g.gg ((e.grow g).set i r) (hs s p)
theorem xc_asg {i : Nat} {s : Sl} (h : Ev S te ρ (Eq s)) (hs : P (.nx (ρ.set i s))) : Xc S (tAsg te (gName i)) ρ P := xc_asgP h fun _ e => e ▸ hs
theorem xc_retP {p : Sl → Prop} (h : Ev S te ρ p) (hs : ∀ s, p s → P (.rt ρ s)) : Xc S (tRet te) ρ P := fun σ G H De o e f => h σ G H o.kn e _ fun v s G' H' g k p r => f.rt σ v s G' H' ρ (o.grow g k) (e.grow g) r (hs s p)
theorem xc_ret {s : Sl} (h : Ev S te ρ (Eq s)) (hs : P (.rt ρ s)) : Xc S (tRet te) ρ P := xc_retP h fun _ e => e ▸ hs
theorem xc_retN (h : P (.rt ρ (.dat .none))) : Xc S tRetN ρ P := fun σ G H De o e f => f.rt σ .non (.dat .none) G H ρ o e .non h
theorem xc_ifP {p : Bool → Prop} (h : EvT S tt ρ p) (h1 : p true → Xc S t ρ P) (h2 : p false → Xc S u ρ P) : Xc S (tIfS tt t u) ρ P := fun σ G H De o e f => h σ G H o.kn e _ fun b G' H' g k p => by
  cases b with
  | true => exact h1 p σ G' H' De (o.grow g k) (e.grow g) (f.same g.gg)
  | false => exact h2 p σ G' H' De (o.grow g k) (e.grow g) (f.same g.gg)
theorem xc_if {b : Bool} (h : EvT S tt ρ (Eq b)) (h1 : b = true → Xc S t ρ P) (h2 : b = false → Xc S u ρ P) : Xc S (tIfS tt t u) ρ P := xc_ifP h h1 h2
theorem xc_dropP {p : Sl → Prop} (h : Ev S te ρ p) (hs : ∀ s, p s → P (.nx ρ)) : Xc S (tDrop te) ρ P := fun σ G H De o e f => h σ G H o.kn e _ fun v s G' H' g k p r => f.nx _ G' H' _ (o.grow g k) g.gg (e.grow g) (hs s p)
/-- x op= e of ints -/
theorem xc_aug {i : Nat} {f : Int → Int → Int} {a b : Int} (hx : ρ[i]? = some (.dat (.int a))) (h : Ev S te ρ (Eq (.dat (.int b)))) (hs : P (.nx (ρ.set i (.dat (.int (f a b)))))) : Xc S (tAug i te (ipI f)) ρ P := fun σ G H De o e fi => by
  obtain ⟨v, h1, v', e', r⟩ := e.get hx
  cases e'
  refine ⟨v, h1, h σ G H o.kn e _ fun w s G' H' g k p r' => ?_⟩
  subst p
  cases r
  cases r'
  exact ⟨a, b, rfl, rfl, fi.nx _ G' H' _ (o.grow g k) g.gg ((e.grow g).set i (s := .dat (.int (f a b))) (.int _)) hs⟩
/-- a, b = e1, e2 -/
theorem xc_par {i j : Nat} {ta : TA} {x y : Sl} (h : EvA S ta ρ (Eq [x, y])) (hs : P (.nx ((ρ.set i x).set j y))) : Xc S (tPar i j ta) ρ P := fun σ G H De o e f => h σ G H o.kn e _ fun vs ss G' H' g k p r => by
  subst p
  cases r with
  | cons r1 r =>
    cases r with
    | cons r2 r =>
      cases r
      exact ⟨_, _, rfl, f.nx _ G' H' _ (o.grow g k) g.gg (((e.grow g).set i r1).set j r2) hs⟩
/-- f(..) as a statement, what is raised leaves -/
theorem xc_callX {ι : Type} {args : ι → List Sl} {pre : ι → Prop} {post : ι → Re → Prop} {ta : TA} (i : ι) (ha : EvA S ta ρ (Eq (args i))) (hp : pre i) (ho : ∀ s, post i (.ok s) → P (.nx ρ)) (hx : ∀ C d, post i (.ex C d) → P (.ex C d)) :
    Xc S (tDrop (tCall (spI S.K fx0 args pre post) [] S.E ta)) ρ P := fun σ G H De o e f => ha σ G H o.kn e _ fun vs ss G1 H1 g1 k1 p1 r1 => by
  subst p1
  rw [List.append_nil]
  have o1 := o.grow g1 k1
  refine ⟨i, G1, hp, k1.low, r1, fun v s G2 H2 g2 k2 r2 po => ?_, fun C d dd v G2 H2 g2 k2 hd r2 po => ?_⟩
  · exact f.nx _ G2 H2 _ (o1.grow g2.lift (k1.lift g2)) (g1.gg.trans g2.gg) ((e.grow g1).grow g2.lift) (ho s po)
  · exact f.ex C d dd v G2 H2 (o1.grow g2.lift (k1.lift g2)) hd r2 (hx C d po)
/-- return f(..), what is raised leaves -/
theorem xc_retX {ι : Type} {args : ι → List Sl} {pre : ι → Prop} {post : ι → Re → Prop} {ta : TA} (i : ι) (ha : EvA S ta ρ (Eq (args i))) (hp : pre i) (ho : ∀ s, post i (.ok s) → P (.rt ρ s)) (hx : ∀ C d, post i (.ex C d) → P (.ex C d)) :
    Xc S (tRet (tCall (spI S.K fx0 args pre post) [] S.E ta)) ρ P := fun σ G H De o e f => ha σ G H o.kn e _ fun vs ss G1 H1 g1 k1 p1 r1 => by
  subst p1
  rw [List.append_nil]
  have o1 := o.grow g1 k1
  refine ⟨i, G1, hp, k1.low, r1, fun v s G2 H2 g2 k2 r2 po => ?_, fun C d dd v G2 H2 g2 k2 hd r2 po => ?_⟩
  · exact f.rt σ v s G2 H2 ρ (o1.grow g2.lift (k1.lift g2)) ((e.grow g1).grow g2.lift) r2 (ho s po)
  · exact f.ex C d dd v G2 H2 (o1.grow g2.lift (k1.lift g2)) hd r2 (hx C d po)
end
/-! ### a list that was just made: ours -/
def EvF (S : Cf) (te : TE) (ρ : Rho) (P : List D → Prop) : Prop := ∀ (σ : L2.St) (G H : Hp), Kn S.fx G H → Env S G H σ ρ → ∀ Q : VK,
  (∀ p vs ds G' H', Grow S.fx G H G' H' → Kn S.fx G' H' → H p = none → G' p = none → H' p = some (.lst vs) → RA S.K G' vs ds → P ds → Q (.ref p) H') → te σ H Q
section
variable {S : Cf} {G H G1 H1 : Hp} {ρ : Rho} {P : Oc → Prop} {t u : TS} {te ta tb : TE} {tt : TT} {g : TG}
theorem EvF.imp {p q : List D → Prop} (h : EvF S te ρ p) (i : ∀ ds, p ds → q ds) : EvF S te ρ q := fun σ G H k e Q f => h σ G H k e Q fun p vs ds G' H' g k' n1 n2 hp r pd => f p vs ds G' H' g k' n1 n2 hp r (i ds pd)
/-- an object of ours is known from now on -/
theorem grow_know (k : Kn S.fx G H) {a : Addr} {u : HO} (g : Grow S.fx G H G1 H1) (k1 : Kn S.fx G1 H1) (hn : H a = none) (n1 : G1 a = none) (ha : H1 a = some u) : Grow S.fx G H (upd G1 a u) H1 ∧ Kn S.fx (upd G1 a u) H1 := by
  have va : ¬ S.fx.vol a := k.fresh hn
  have sh : Same (upd G1 a u) H1 := fun b o hb => by
    by_cases q : b = a
    · subst q
      rw [upd_same] at hb
      rw [ha]
      exact hb
    · rw [upd_ne q] at hb
      exact k1.gh b o hb
  refine ⟨⟨g.gg.trans (same_new n1), sh, g.hh, fun b o hb nt n => ?_⟩, sh, k1.inv, fun b vb => ?_⟩
  · rw [upd_ne (ne_of_none hb hn)]
    exact g.nn b o hb nt n
  · have q : b ≠ a := fun q => va (q ▸ vb)
    rw [upd_ne q]
    exact k1.vn b vb
theorem EvF.ev {p : List D → Prop} (h : EvF S te ρ p) : Ev S te ρ (fun s => ∃ ds, s = .dat (.list ds) ∧ p ds) := fun σ G H k e Q f => h σ G H k e Q fun a vs ds G' H' g k' n1 n2 hp r pd => by
  obtain ⟨g2, k2⟩ := grow_know k g k' n1 n2 hp
  exact f _ _ _ H' g2 k2 ⟨ds, rfl, pd⟩ (.lst (SqL.of upd_same) (r.mono (same_new n2)))
theorem EvF.evE {ds : List D} (h : EvF S te ρ (Eq ds)) : Ev S te ρ (Eq (.dat (.list ds))) := h.ev.imp fun s ⟨ds', e, e'⟩ => e' ▸ e.symm
theorem ef_nil : EvF S (tLst tNil) ρ (Eq []) := fun σ G H k e Q q => ⟨Nat.zero_le _, fun p hp => q p [] [] G _ (Grow.same k (same_new hp)) (k.same (same_new hp)) hp (k.freeG hp) upd_same .nil rfl⟩
theorem ef_lst {ta : TA} {ds : List D} (h : EvA S ta ρ (Eq (ds.map Sl.dat))) (hl : ds.length ≤ 1000000) : EvF S (tLst ta) ρ (Eq ds) := fun σ G H k e Q q =>
  h σ G H k e _ fun vs ss G1 H1 g1 k1 p1 r1 => by
    subst p1
    have ra := r1.toRA
    refine ⟨sz_ok (by rw [ra.length]; exact hl), fun p hp => ?_⟩
    have hn : H p = none := by
      cases z : H p with
      | none => rfl
      | some o =>
        by_cases v : S.fx.vol p
        · exact absurd v (k1.fresh hp)
        · rw [g1.hh p o v z] at hp
          cases hp
    exact q p vs ds G1 _ (g1.trans k1 (k1.same (same_new hp)) (Grow.same k1 (same_new hp))) (k1.same (same_new hp)) hn (k1.freeG hp) upd_same ra rfl
/-- fresh behind is fresh ahead -/
theorem fresh_of (g : Grow S.fx G H G1 H1) (k1 : Kn S.fx G1 H1) {p : Addr} (hp : H1 p = none) : H p = none := by
  cases z : H p with
  | none => rfl
  | some o =>
    by_cases v : S.fx.vol p
    · exact absurd v (k1.fresh hp)
    · rw [g.hh p o v z] at hp
      cases hp
theorem OkS.freshB (o : OkS S G H) {p : Addr} (hp : H p = none) : S.B p = none := by
  cases z : S.B p with
  | none => rfl
  | some u =>
    by_cases v : S.fx.vol p
    · exact absurd v (o.kn.fresh hp)
    · by_cases m : S.fx.mine p
      · exact absurd hp (o.mn p m).2
      · rw [o.gr.hh p u v m z] at hp
        cases hp
/-- no slot holds what is new -/
theorem Env.new_none {σ : L2.St} (e : Env S G H σ ρ) {a b : Addr} {m0 m : Mo} {i j : Nat} {s t : Sl} (hn : H a = none) (hs : s.holds = some (a, m0)) (hb : s.holds = some (b, m)) (hj : ρ[j]? = some t) (m' : Mo) : t.holds ≠ some (b, m') := fun z => by
  rw [hs] at hb
  cases hb
  obtain ⟨o, _, q⟩ := e.at_ j t hj
  obtain ⟨_, _, _, u, hu, _⟩ := q.holdsOk z
  rw [hn] at hu
  cases hu
/-- x = a list just made -/
theorem xc_asgF {i : Nat} {p : List D → Prop} (h : EvF S te ρ p) (hs : ∀ a ds, p ds → P (.nx (ρ.set i (.own a (.lst ds))))) : Xc S (tAsg te (gName i)) ρ P := fun σ G H De o e f =>
  h σ G H o.kn e _ fun a vs ds G' H' g k n1 n2 hp r pd => by
    have o1 := o.grow g k
    refine f.nx _ G' H' _ o1 g.gg ((e.grow g).put i (some (.ref a)) (.own a (.lst ds)) ⟨rfl, n2, .inl (o.freshB n1), o.kn.fresh n1, _, hp, r⟩ fun b m z j t m' nj hj => e.new_none (i := i) (s := .own a (.lst ds)) n1 rfl z hj m') (hs a ds pd)
theorem OkS.know (o : OkS S G H) {a : Addr} {u : HO} (ba : S.B a = none ∨ S.fx.mine a) (kn : Kn S.fx (upd G a u) H) (sg : Same G (upd G a u)) : OkS S (upd G a u) H :=
  ⟨kn, o.k0, ⟨o.gr.gg.trans sg, kn.gh, o.gr.hh, fun b w mb hb nt n => by
    have q : b ≠ a := fun q => by
      rcases ba with ba | ba
      · rw [q, ba] at hb
        cases hb
      · exact mb (q ▸ ba)
    rw [upd_ne q]
    exact o.gr.nn b w mb hb nt n⟩, o.mn, o.m0⟩
/-- x, a list of ours, is data from now on -/
theorem xc_freeze {i : Nat} {a : Addr} {ds : List D} (h : ρ[i]? = some (.own a (.lst ds))) (hs : Xc S t (ρ.set i (.dat (.list ds))) P) : Xc S t ρ P := fun σ G H De o e f => by
  obtain ⟨u, ha, nt, kn, sg, ba, ga, rr, e2⟩ := e.freeze o.kn h
  exact hs σ _ H De (o.know (.inl ba) kn sg) e2 (f.same sg)
/-- an object of ours never changes from now on -/
theorem xc_freezeO {i : Nat} {a C dx : Addr} {vf : List (Str × V)} {fs : Fs} (h : ρ[i]? = some (.own a (.ins C dx vf fs))) (hs : Xc S t (ρ.set i (.ob (some a) C fs)) P) : Xc S t ρ P := fun σ G H De o e f => by
  obtain ⟨u, ha, nt, kn, sg, ba, ga, e2⟩ := e.freezeO o.kn h
  exact hs σ _ H De (o.know ba kn sg) e2 (f.same sg)
theorem xc_forget (i : Nat) (hs : Xc S t (ρ.set i .no) P) : Xc S t ρ P := fun σ G H De o e f => hs σ G H De o (e.forget i) f
/-- a thing of ours is written -/
theorem hold_write {σ : L2.St} (o : OkS S G H) (e : Env S G H σ ρ) {i : Nat} {s s' : Sl} {a : Addr} {m m' : Mo} {u' : HO} (h : ρ[i]? = some s) (hh : s.holds = some (a, m)) (r : MoOk S.K G u' m')
    (hs : ∀ o, SlOk S G H o s → SlOk S G (upd H a u') o s') (hh' : s'.holds = some (a, m')) :
    OkS S G (upd H a u') ∧ Env S G (upd H a u') σ (ρ.set i s') := by
  obtain ⟨ov, h1, ok⟩ := e.at_ i s h
  obtain ⟨ga, ba, va, u, ha, ru⟩ := ok.holdsOk hh
  have nf : ¬ Fixd u := ru.noFix
  have inv' : S.fx.inv (upd H a u') := S.fx.ext (fun b w hb hw => by
    have q : b ≠ a := fun q => by
      rcases hb with hb | hb
      · exact va (q ▸ hb)
      · rw [q, ha] at hw
        cases hw
        exact nf hb
    rw [upd_ne q]
    exact hw) o.kn.inv
  have gh : Same G (upd H a u') := fun b w hb => by
    have q : b ≠ a := fun q => by
      rw [q, ga] at hb
      cases hb
    rw [upd_ne q]
    exact o.kn.gh b w hb
  refine ⟨⟨⟨gh, inv', o.kn.vn⟩, o.k0, ⟨o.gr.gg, gh, fun b w vb mb hb => ?_, o.gr.nn⟩, fun b m => ?_, o.m0⟩, ?_⟩
  · have q : b ≠ a := fun q => by
      rcases ba with ba | ba
      · rw [q, ba] at hb
        cases hb
      · exact mb (q ▸ ba.1)
    rw [upd_ne q]
    exact o.gr.hh b w vb mb hb
  · obtain ⟨x, z⟩ := o.mn b m
    refine ⟨x, ?_⟩
    by_cases q : b = a
    · rw [q, upd_same]
      simp
    · rw [upd_ne q]
      exact z
  · refine ⟨by simp [e.len], fun j t hj => ?_, fun j l s1 s2 b m1 m2 hj hl q1 q2 => ?_⟩
    · rcases set_get hj with ⟨ej, es⟩ | ⟨nj, hj⟩
      · subst ej es
        exact ⟨_, h1, hs _ ok⟩
      · obtain ⟨w, q1, q2⟩ := e.at_ j t hj
        refine ⟨w, q1, ?_⟩
        have nh : ∀ m', t.holds ≠ some (a, m') := fun m' => e.alone h hh nj hj
        cases t with
        | no => exact True.intro
        | dat d => exact q2
        | raw x => exact q2
        | dic f ds => exact q2
        | ob oa C fs => exact q2
        | rd c vs ds => exact q2
        | own b mb =>
          obtain ⟨y1, y2, y3, y4, ub, y5, y6⟩ := q2
          have q : b ≠ a := fun q => nh mb (by rw [q] <;> rfl)
          exact ⟨y1, y2, y3, y4, ub, by rw [upd_ne q]; exact y5, y6⟩
        | gho b mb =>
          obtain ⟨y2, y3, y4, ub, y5, y6⟩ := q2
          have q : b ≠ a := fun q => nh mb (by rw [q] <;> rfl)
          exact ⟨y2, y3, y4, ub, by rw [upd_ne q]; exact y5, y6⟩
    · rcases set_get hj with ⟨ej, es⟩ | ⟨nj, hj⟩
      · rcases set_get hl with ⟨el, _⟩ | ⟨nl, hl⟩
        · rw [ej, el]
        · rw [es, hh'] at q1
          cases q1
          exact absurd q2 (e.alone h hh nl hl)
      · rcases set_get hl with ⟨el, es⟩ | ⟨nl, hl⟩
        · rw [es, hh'] at q2
          cases q2
          exact absurd q1 (e.alone h hh nj hj)
        · exact e.dis j l s1 s2 b m1 m2 hj hl q1 q2
/-- an object of ours is written -/
theorem own_write {σ : L2.St} (o : OkS S G H) (e : Env S G H σ ρ) {i : Nat} {a : Addr} {m m' : Mo} {u' : HO} (h : ρ[i]? = some (.own a m)) (r : MoOk S.K G u' m') (hi : m.isIns → m'.isIns := by exact fun z => z) :
    OkS S G (upd H a u') ∧ Env S G (upd H a u') σ (ρ.set i (.own a m')) :=
  hold_write o e h rfl r (fun ov ok => ⟨ok.1, ok.2.1, ok.2.2.1.imp id fun z => ⟨z.1, hi z.2⟩, ok.2.2.2.1, u', upd_same, r⟩) rfl
theorem gho_write {σ : L2.St} (o : OkS S G H) (e : Env S G H σ ρ) {i : Nat} {a : Addr} {m m' : Mo} {u' : HO} (h : ρ[i]? = some (.gho a m)) (r : MoOk S.K G u' m') (hi : m.isIns → m'.isIns := by exact fun z => z) :
    OkS S G (upd H a u') ∧ Env S G (upd H a u') σ (ρ.set i (.gho a m')) :=
  hold_write o e h rfl r (fun ov ok => ⟨ok.1, ok.2.1.imp id fun z => ⟨z.1, hi z.2⟩, ok.2.2.1, u', upd_same, r⟩) rfl
/-- xs.append(e), xs ours -/
theorem xc_append {i : Nat} {a : Addr} {ds : List D} {p : D → Prop} (hx : ρ[i]? = some (.own a (.lst ds))) (h : Ev S te ρ (fun s => ∃ d, s = .dat d ∧ p d)) (hl : ds.length < 1000000) (hs : ∀ d, p d → P (.nx (ρ.set i (.own a (.lst (ds ++ [d])))))) :
    Xc S (tDrop (tBM S.K "list" rAppend (tVar i) (tCons te tNil))) ρ P := fun σ G H De o e f => by
  obtain ⟨v, h1, e1, ga, ba, va, u, ha, ru⟩ := e.get hx
  cases Option.some.inj e1
  cases u with
  | lst vs =>
    refine ⟨_, h1, .inl ⟨rfl, vs, SqL.of ha⟩, h σ G H o.kn e _ fun w s G1 H1 g1 k1 ⟨d, es, pd⟩ rd => ?_⟩
    subst es
    have o1 := o.grow g1 k1
    have e1 := e.grow g1
    have ra : RA S.K G1 (vs ++ [w]) (ds ++ [d]) := RA.snoc (RA.mono g1.gg ru) rd
    obtain ⟨o2, e2⟩ := own_write (u' := .lst (vs ++ [w])) (m' := .lst (ds ++ [d])) o1 e1 hx ra
    refine ⟨a, vs, w, rfl, rfl, g1.hh a _ va ha, Nat.lt_of_lt_of_le (by rw [RA.length ru]; exact hl) (by decide), ?_⟩
    exact f.nx _ G1 _ _ o2 g1.gg e2 (hs d pd)
  | _ => exact ru.elim
/-- xs.extend(a list just made) -/
theorem xc_extend {i : Nat} {a : Addr} {ds : List D} {p : List D → Prop} (hx : ρ[i]? = some (.own a (.lst ds))) (h : EvF S te ρ p) (hl : ∀ es, p es → ds.length + es.length ≤ 1000000) (hs : ∀ es, p es → P (.nx (ρ.set i (.own a (.lst (ds ++ es)))))) :
    Xc S (tDrop (tBM S.K "list" rExtend (tVar i) (tCons te tNil))) ρ P := fun σ G H De o e f => by
  obtain ⟨v, h1, e1, ga, ba, va, u, ha, ru⟩ := e.get hx
  cases Option.some.inj e1
  cases u with
  | lst vs =>
    refine ⟨_, h1, .inl ⟨rfl, vs, SqL.of ha⟩, h σ G H o.kn e _ fun b ws es G1 H1 g1 k1 n1 n2 hb rw' pe => ?_⟩
    have o1 := o.grow g1 k1
    have e1 := e.grow g1
    have ra : RA S.K G1 (vs ++ ws) (ds ++ es) := RA.append (RA.mono g1.gg ru) rw'
    obtain ⟨o2, e2⟩ := own_write (u' := .lst (vs ++ ws)) (m' := .lst (ds ++ es)) o1 e1 hx ra
    refine ⟨a, b, vs, ws, rfl, rfl, g1.hh a _ va ha, hb, sz_ok (by rw [RA.length ru, rw'.length]; exact hl es pe), ?_⟩
    exact f.nx _ G1 _ _ o2 g1.gg e2 (hs es pe)
  | _ => exact ru.elim
end
/-! ### walks -/
/-- J walks the data ds while what is known stays known -/
def Wk (S : Cf) (J : It) (G : Hp) (ds : List D) : Prop := ∀ (G2 H2 : Hp), Same G G2 → Kn S.fx G2 H2 → J.stop ds.length H2 ∧
  ∀ (i : Nat) (d : D), ds[i]? = some d → J.go i H2 ∧ ∀ x H3, J.yld i H2 x H3 → ∃ G3, Grow S.fx G2 H2 G3 H3 ∧ Kn S.fx G3 H3 ∧ R S.K G3 x d
def Itm (S : Cf) (wi : TI) (ρ : Rho) (P : List D → Prop) : Prop := ∀ (σ : L2.St) (G H : Hp), Kn S.fx G H → Env S G H σ ρ → ∀ Rr : It → Hp → Prop,
  (∀ J ds G' H', Grow S.fx G H G' H' → Kn S.fx G' H' → P ds → Wk S J G' ds → Rr J H') → wi σ H Rr
section
variable {S : Cf} {G H : Hp} {ρ : Rho} {te ta tb : TE}
theorem wk_list {a : Addr} {vs : List V} {ds : List D} (hs : SqL S.K G a vs) (ra : RA S.K G vs ds) : Wk S (Itl S.K a) G ds := fun G2 H2 e k => by
  have hs2 : SqL S.K H2 a vs := (e.trans k.gh).seq hs
  refine ⟨⟨vs, hs2, by rw [ra.length]; exact Nat.le_refl _⟩, fun i d hd => ?_⟩
  obtain ⟨v, hv, rv⟩ := ra.get hd
  exact ⟨⟨vs, v, hs2, hv⟩, fun x H3 ⟨e3, hx⟩ => ⟨G2, by rw [e3]; exact Grow.refl k, by rw [e3]; exact k, by
    have := hx vs hs2
    rw [hv] at this
    cases this
    exact rv.mono e⟩⟩
theorem wk_tup {a : Addr} {vs : List V} {ds : List D} (hs : SqT S.K G a vs) (ra : RA S.K G vs ds) : Wk S (Itt S.K a) G ds := fun G2 H2 e k => by
  have hs2 : SqT S.K H2 a vs := sameT (e.trans k.gh) hs
  refine ⟨⟨vs, hs2, by rw [ra.length]; exact Nat.le_refl _⟩, fun i d hd => ?_⟩
  obtain ⟨v, hv, rv⟩ := ra.get hd
  exact ⟨⟨vs, v, hs2, hv⟩, fun x H3 ⟨e3, hx⟩ => ⟨G2, by rw [e3]; exact Grow.refl k, by rw [e3]; exact k, by
    have := hx vs hs2
    rw [hv] at this
    cases this
    exact rv.mono e⟩⟩
/-- lo, lo + 1, .. -/
def rngD (lo : Int) (n : Nat) : List D := (List.range n).map fun (i : Nat) => PyData.int (lo + (i : Int))
theorem rngD_length (lo : Int) (n : Nat) : (rngD lo n).length = n := by simp [rngD]
theorem rngD_get {lo : Int} {n i : Nat} {d : D} (h : (rngD lo n)[i]? = some d) : i < n ∧ d = .int (lo + (i : Int)) := by
  have hl := (List.getElem?_eq_some_iff.mp h).1
  rw [rngD_length] at hl
  refine ⟨hl, ?_⟩
  simp [rngD, hl] at h
  exact h.symm
theorem wk_range {lo : Int} {n : Nat} : Wk S (Itr lo n) G (rngD lo n) := fun G2 H2 e k => by
  refine ⟨by rw [rngD_length]; exact Nat.le_refl _, fun i d hd => ?_⟩
  obtain ⟨hi, ed⟩ := rngD_get hd
  exact ⟨hi, fun x H3 ⟨e3, hx⟩ => ⟨G2, by rw [e3]; exact Grow.refl k, by rw [e3]; exact k, by rw [hx, ed]; exact .int _⟩⟩
theorem im_list {P : List D → Prop} (h : Ev S te ρ (fun s => ∃ ds, s = .dat (.list ds) ∧ P ds)) : Itm S (iList S.K te) ρ P := fun σ G H k e Rr f => h σ G H k e _ fun v s G' H' g k' ⟨ds, es, pd⟩ r => by
  subst es
  cases r with
  | lst hs ra => exact ⟨_, rfl, ⟨_, k'.gh.seq hs⟩, f _ ds G' H' g k' pd (wk_list hs ra)⟩
theorem im_listE {ds : List D} (h : Ev S te ρ (Eq (.dat (.list ds)))) : Itm S (iList S.K te) ρ (Eq ds) := im_list (h.imp fun s e => ⟨ds, e.symm, rfl⟩)
theorem im_tupE {ds : List D} (h : Ev S te ρ (Eq (.dat (.tuple ds)))) : Itm S (iTup S.K te) ρ (Eq ds) := fun σ G H k e Rr f => h σ G H k e _ fun v s G' H' g k' es r => by
  subst es
  cases r with
  | tup hs ra => exact ⟨_, rfl, ⟨_, sameT k'.gh hs⟩, f _ ds G' H' g k' rfl (wk_tup hs ra)⟩
theorem im_rng1 {P : List D → Prop} (h : EvI S te ρ (fun n => 0 ≤ n ∧ n < 2 ^ 62 ∧ P (rngD 0 n.toNat))) : Itm S (iRng1 (tCons te tNil)) ρ P := fun σ G H k e Rr f => h σ G H k e _ fun v s G' H' g k' ⟨n, es, h1, h2, pd⟩ r => by
  subst es
  cases r
  exact ⟨n, rfl, by omega, h2, f _ _ G' H' g k' pd wk_range⟩
theorem im_rng1E {n : Nat} (h : Ev S te ρ (Eq (.dat (.int (n : Nat))))) (hn : n ≤ 1000000000) : Itm S (iRng1 (tCons te tNil)) ρ (Eq (rngD 0 n)) := im_rng1 (h.toI ⟨by omega, by omega, by rw [Int.toNat_natCast]⟩)
/-- enumerate -/
def enumD (k : Nat) : List D → List D
  | [] => []
  | d :: ds => .tuple [.int (k : Nat), d] :: enumD (k + 1) ds
theorem enumD_length : ∀ (k : Nat) (ds : List D), (enumD k ds).length = ds.length
  | _, [] => rfl
  | k, _ :: ds => congrArg (· + 1) (enumD_length (k + 1) ds)
theorem enumD_get : ∀ {k : Nat} {ds : List D} {i : Nat} {d : D}, (enumD k ds)[i]? = some d → ∃ x, ds[i]? = some x ∧ d = .tuple [.int ((k + i : Nat) : Int), x]
  | k, [], i, d, h => by simp [enumD] at h
  | k, y :: ds, 0, d, h => by
    simp only [enumD, List.getElem?_cons_zero, Option.some.injEq] at h
    exact ⟨y, rfl, by rw [← h]; rfl⟩
  | k, y :: ds, i + 1, d, h => by
    simp only [enumD, List.getElem?_cons_succ] at h
    obtain ⟨x, h1, h2⟩ := enumD_get h
    exact ⟨x, by simpa using h1, by rw [h2, show k + 1 + i = k + (i + 1) by omega]⟩
theorem wk_pair {J : It} {ds : List D} {f : D → D → D} (h : ∀ (G2 H2 : Hp), Same G G2 → Kn S.fx G2 H2 → J.stop ds.length H2 ∧ ∀ (i : Nat) (d : D), ds[i]? = some d → J.go i H2 ∧ ∀ x H3, J.yld i H2 x H3 →
      ∃ (T : Addr) (v w : V) (a b : D), x = .ref T ∧ H2 T = none ∧ H3 = upd H2 T (.tup [v, w]) ∧ R S.K G2 v a ∧ R S.K G2 w b ∧ d = .tuple [a, b]) : Wk S J G ds := fun G2 H2 e k => by
  obtain ⟨h1, h2⟩ := h G2 H2 e k
  refine ⟨h1, fun i d hd => ?_⟩
  obtain ⟨h3, h4⟩ := h2 i d hd
  refine ⟨h3, fun x H3 hy => ?_⟩
  obtain ⟨T, v, w, a, b, ex, hT, eH, rv, rw', ed⟩ := h4 x H3 hy
  subst ex eH ed
  have g3 := Grow.new k (.tup [v, w]) hT
  exact ⟨_, g3, Kn.new k _ hT, .tup (SqT.of upd_same) (.cons (rv.mono g3.gg) (.cons (rw'.mono g3.gg) .nil))⟩
theorem wk_enum {a : Addr} {vs : List V} {ds : List D} (hs : SqL S.K G a vs) (ra : RA S.K G vs ds) : Wk S (Ite S.K a) G (enumD 0 ds) := wk_pair (f := fun a b => .tuple [a, b]) fun G2 H2 e k => by
  have hs2 : SqL S.K H2 a vs := (e.trans k.gh).seq hs
  refine ⟨(walk_enum (K := S.K) (a := a) (xs := vs)).stops H2 hs2 |> fun z => by rw [enumD_length, ← ra.length]; exact z, fun i d hd => ?_⟩
  obtain ⟨x, hx, ed⟩ := enumD_get hd
  obtain ⟨v, hv, rv⟩ := ra.get hx
  have hi : i < vs.length := (List.getElem?_eq_some_iff.mp hv).1
  refine ⟨(walk_enum (K := S.K) (a := a) (xs := vs)).goes i H2 hi hs2, fun y H3 hy => ?_⟩
  obtain ⟨T, p, q, e1, e2, e3, e4, e5⟩ := (walk_enum (K := S.K) (a := a) (xs := vs)).yields i H2 y H3 hi hs2 hy
  have e5 : vs[i]? = some q := e5
  rw [hv] at e5
  cases e5
  cases e4
  exact ⟨T, _, _, .int ((0 + i : Nat) : Int), x, e1, e2, e3, by rw [Nat.zero_add]; exact .int _, rv.mono e, ed⟩
theorem im_enumL {ds : List D} (h : Ev S te ρ (Eq (.dat (.list ds)))) : Itm S (iEnum S.K (tCons te tNil)) ρ (Eq (enumD 0 ds)) := fun σ G H k e Rr f => h σ G H k e _ fun v s G' H' g k' es r => by
  subst es
  cases r with
  | lst hs ra => exact ⟨_, _, rfl, k'.gh.seq hs, f _ _ G' H' g k' rfl (wk_enum hs ra)⟩
end
/-! ### targets -/
structure Diff (js : List Nat) (σ σ' : L2.St) : Prop where
  len : σ'.length = σ.length
  at_ : ∀ i, i ∉ js → σ'[i]? = σ[i]?
def Tgt (S : Cf) (g : TG) (js : List Nat) (d : D) (ρ ρ' : Rho) : Prop := ∀ (σ : L2.St) (G H : Hp) (v : V), Kn S.fx G H → Env S G H σ ρ → R S.K G v d → ∀ Q : L2.St → Hp → Prop, (∀ σ', Diff js σ σ' → Env S G H σ' ρ' → Q σ' H) → g v σ H Q
def Tgts (S : Cf) (g : TGs) (js : List Nat) (ds : List D) (ρ ρ' : Rho) : Prop := ∀ (σ : L2.St) (G H : Hp) (vs : List V), Kn S.fx G H → Env S G H σ ρ → RA S.K G vs ds → ∀ Q : L2.St → Hp → Prop, (∀ σ', Diff js σ σ' → Env S G H σ' ρ' → Q σ' H) → g vs σ H Q
section
variable {S : Cf} {ρ ρ1 ρ2 : Rho} {g : TG} {gs : TGs}
theorem tg_name {j : Nat} {d : D} : Tgt S (gName j) [j] d ρ (ρ.set j (.dat d)) := fun σ G H v k e r Q q => q _ ⟨by simp, fun i hi => by
  have : j ≠ i := fun z => hi (by simp [z])
  rw [List.getElem?_set_ne this]⟩ (e.set j (s := .dat d) r)
theorem tgs_nil : Tgts S gNil [] [] ρ ρ := fun σ G H vs k e r Q q => by
  cases r
  exact ⟨rfl, q σ ⟨rfl, fun _ _ => rfl⟩ e⟩
theorem tgs_cons {js ks : List Nat} {d : D} {ds : List D} (h1 : Tgt S g js d ρ ρ1) (h2 : Tgts S gs ks ds ρ1 ρ2) : Tgts S (gCons g gs) (js ++ ks) (d :: ds) ρ ρ2 := fun σ G H vs k e r Q q => by
  cases r with
  | cons r1 r2 =>
    refine ⟨_, _, rfl, h1 σ G H _ k e r1 _ fun σ1 d1 e1 => h2 σ1 G H _ k e1 r2 Q fun σ2 d2 e2 => q σ2 ⟨d2.len.trans d1.len, fun i hi => ?_⟩ e2⟩
    rw [d2.at_ i fun z => hi (List.mem_append_right _ z), d1.at_ i fun z => hi (List.mem_append_left _ z)]
theorem tg_tup {js : List Nat} {ds : List D} {n : Nat} (h : Tgts S gs js ds ρ ρ1) (hn : ds.length = n := by rfl) : Tgt S (gTup S.K n gs) js (.tuple ds) ρ ρ1 := fun σ G H v k e r Q q => by
  cases r with
  | tup hs ra => exact ⟨_, _, rfl, sameT k.gh hs, by rw [ra.length]; exact hn, h σ G H _ k e ra Q q⟩
/-- two names -/
theorem tg_two {i j : Nat} {a b : D} : Tgt S (gTup S.K 2 (gCons (gName i) (gCons (gName j) gNil))) [i, j] (.tuple [a, b]) ρ ((ρ.set i (.dat a)).set j (.dat b)) := tg_tup (js := [i, j]) (tgs_cons (js := [i]) tg_name (tgs_cons (js := [j]) tg_name tgs_nil))
theorem xc_asgT {te : TE} {P : Oc → Prop} {js : List Nat} {d : D} (h : Ev S te ρ (Eq (.dat d))) (ht : Tgt S g js d ρ ρ1) (hs : P (.nx ρ1)) : Xc S (tAsg te g) ρ P := fun σ G H De o e f =>
  h σ G H o.kn e _ fun v s G' H' g' k es r => by
    subst es
    exact ht σ G' H' v k (e.grow g') r _ fun σ' _ e' => f.nx σ' G' H' ρ1 (o.grow g' k) g'.gg e' hs
/-! ### loops -/
theorem xc_for {wi : TI} {tb : TS} {P : Oc → Prop} {p : List D → Prop} (hi : Itm S wi ρ p) (I : List D → Nat → Rho → Prop) (h0 : ∀ ds, p ds → I ds 0 ρ)
    (hs : ∀ ds i d ρ1, p ds → ds[i]? = some d → I ds i ρ1 → ∃ js ρ2, Tgt S g js d ρ1 ρ2 ∧ Xc S tb ρ2 (LoopP (I ds (i + 1)) P)) (hd : ∀ ds ρ1, p ds → I ds ds.length ρ1 → P (.nx ρ1)) : Xc S (tFor wi g tb) ρ P := fun σ G H De o e f =>
  hi σ G H o.kn e _ fun J ds G1 H1 g1 k1 pd wk => by
    refine ⟨fun i m σ H => m = ds.length - i ∧ i ≤ ds.length ∧ ∃ G ρ', OkS S G H ∧ Same G1 G ∧ Env S G H σ ρ' ∧ I ds i ρ', ⟨_, rfl, Nat.zero_le _, G1, ρ, o.grow g1 k1, Same.refl _, e.grow g1, h0 ds pd⟩, ?_⟩
    rintro i m σ2 H2 ⟨rfl, hi, G2, ρ2, o2, s2, e2, hI⟩
    obtain ⟨w1, w2⟩ := wk G2 H2 s2 o2.kn
    by_cases hlt : i < ds.length
    · obtain ⟨go, yl⟩ := w2 i ds[i] (by simp [hlt])
      refine .inr ⟨go, fun σ' H' => ∃ G ρ', OkS S G H' ∧ Same G1 G ∧ Env S G H' σ' ρ' ∧ I ds (i + 1) ρ', fun σ' H' ⟨G', ρ', q⟩ => ⟨ds.length - (i + 1), by omega, rfl, hlt, G', ρ', q⟩, fun x H3 hy => ?_⟩
      obtain ⟨G3, g3, k3, r3⟩ := yl x H3 hy
      obtain ⟨js, ρ3, tg, xb⟩ := hs ds i ds[i] ρ2 pd (by simp [hlt]) hI
      have o3 := o2.grow g3 k3
      refine tg σ2 G3 H3 x k3 (e2.grow g3) r3 _ fun σ4 _ e4 => xb σ4 G3 H3 _ o3 e4 ?_
      have s3 := s2.trans g3.gg
      exact ⟨fun σ' G' H' ρ' o' s' e' p' => ⟨G', ρ', o', s3.trans s', e', p'⟩, fun σ' G' H' ρ' o' s' e' p' => f.nx σ' G' H' ρ' o' ((g1.gg.trans s3).trans s') e' p', fun σ' G' H' ρ' o' s' e' p' => ⟨G', ρ', o', s3.trans s', e', p'⟩, f.rt, f.ex⟩
    · have e' : i = ds.length := by omega
      subst e'
      exact .inl ⟨w1, f.nx σ2 G2 H2 ρ2 o2 (g1.gg.trans s2) e2 (hd ds ρ2 pd hI)⟩
theorem xc_forE {wi : TI} {tb : TS} {P : Oc → Prop} {ds : List D} (hi : Itm S wi ρ (Eq ds)) (I : Nat → Rho → Prop) (h0 : I 0 ρ)
    (hs : ∀ i d ρ1, ds[i]? = some d → I i ρ1 → ∃ js ρ2, Tgt S g js d ρ1 ρ2 ∧ Xc S tb ρ2 (LoopP (I (i + 1)) P)) (hd : ∀ ρ1, I ds.length ρ1 → P (.nx ρ1)) : Xc S (tFor wi g tb) ρ P :=
  xc_for hi (fun _ => I) (fun _ _ => h0) (fun ds' i d ρ1 e => e ▸ hs i d ρ1) (fun ds' ρ1 e => e ▸ hd ρ1)
theorem xc_while {tt : TT} {tb : TS} {P : Oc → Prop} (I : Nat → Rho → Prop) (m0 : Nat) (h0 : I m0 ρ)
    (hs : ∀ m ρ1, I m ρ1 → EvT S tt ρ1 (fun b => if b = true then Xc S tb ρ1 (LoopP (fun ρ2 => ∃ m', m' < m ∧ I m' ρ2) P) else P (.nx ρ1))) : Xc S (tWhile tt tb) ρ P := fun σ G H De o e f => by
  refine ⟨fun m σ' H' => ∃ G' ρ', OkS S G' H' ∧ Same G G' ∧ Env S G' H' σ' ρ' ∧ I m ρ', ⟨m0, G, ρ, o, Same.refl _, e, h0⟩, ?_⟩
  rintro m σ1 H1 ⟨G1, ρ1, o1, s1, e1, hI⟩
  refine hs m ρ1 hI σ1 G1 H1 o1.kn e1 _ fun b G2 H2 g2 k2 pb => ?_
  have o2 := o1.grow g2 k2
  have e2 := e1.grow g2
  have s2 := s1.trans g2.gg
  cases b with
  | true =>
    rw [if_pos rfl] at pb ⊢
    refine ⟨fun σ' H' => ∃ m', m' < m ∧ ∃ G' ρ', OkS S G' H' ∧ Same G G' ∧ Env S G' H' σ' ρ' ∧ I m' ρ', fun σ' H' ⟨m', hm, q⟩ => ⟨m', hm, q⟩, pb σ1 G2 H2 _ o2 e2 ?_⟩
    exact ⟨fun σ' G' H' ρ' o' s' e' ⟨m', hm, q⟩ => ⟨m', hm, G', ρ', o', s2.trans s', e', q⟩, fun σ' G' H' ρ' o' s' e' p' => f.nx σ' G' H' ρ' o' (s2.trans s') e' p', fun σ' G' H' ρ' o' s' e' ⟨m', hm, q⟩ => ⟨m', hm, G', ρ', o', s2.trans s', e', q⟩, f.rt, f.ex⟩
  | false =>
    rw [if_neg (by decide)] at pb ⊢
    exact f.nx σ1 G2 H2 ρ1 o2 s2 e2 pb
/-! ### comprehensions -/
def wipeR (ρ : Rho) : List Nat → Rho
  | [] => ρ
  | v :: vs => (wipeR ρ vs).set v .no
theorem Env.wipe {G H : Hp} {σ : L2.St} (e : Env S G H σ ρ) : ∀ vs : List Nat, Env S G H (L2.wipe σ vs) (wipeR ρ vs)
  | [] => e
  | v :: vs => (Env.wipe e vs).unset v _
theorem wipe_at (σ : L2.St) : ∀ (vs : List Nat) (i : Nat), (L2.wipe σ vs)[i]? = if i ∈ vs ∧ i < σ.length then some none else σ[i]?
  | [], i => by simp [L2.wipe]
  | v :: vs, i => by
    show ((L2.wipe σ vs).set v none)[i]? = _
    have ih := wipe_at σ vs i
    by_cases e : i = v
    · subst e
      by_cases hl : i < σ.length
      · rw [List.getElem?_set_self (by rw [L2.wipe_length]; exact hl), if_pos ⟨by simp, hl⟩]
      · rw [if_neg (fun z => hl z.2)]
        rw [List.getElem?_eq_none_iff.mpr (by simp [L2.wipe_length]; omega), List.getElem?_eq_none_iff.mpr (by omega)]
    · rw [List.getElem?_set_ne (Ne.symm e), ih]
      simp [e]
theorem wipe_diff {σ σ' : L2.St} {js vs : List Nat} (d : Diff js (L2.wipe σ vs) σ') (h : ∀ j ∈ js, j ∈ vs) : L2.wipe σ' vs = L2.wipe σ vs := by
  apply List.ext_getElem?
  intro i
  have hlen : σ'.length = σ.length := d.len.trans (L2.wipe_length σ vs)
  rw [wipe_at, wipe_at, hlen]
  by_cases hi : i ∈ vs
  · by_cases hl : i < σ.length
    · rw [if_pos ⟨hi, hl⟩, if_pos ⟨hi, hl⟩]
    · rw [if_neg (fun z => hl z.2), if_neg (fun z => hl z.2), List.getElem?_eq_none_iff.mpr (by omega), List.getElem?_eq_none_iff.mpr (by omega)]
  · rw [if_neg (fun z => hi z.1), if_neg (fun z => hi z.1), d.at_ i fun z => hi (h i z), wipe_at, if_neg (fun z => hi z.1)]
/-- [e for x in xs if t] -/
theorem ef_lc {wi : TI} {te : TE} {tt : TT} {vs : List Nat} {p P : List D → Prop} (hi : Itm S wi ρ p) (I : List D → Nat → List D → Prop) (h0 : ∀ ds, p ds → ds.length ≤ 1000000 ∧ I ds 0 [])
    (hs : ∀ ds i d acc, p ds → ds[i]? = some d → acc.length ≤ i → I ds i acc → ∃ js ρ2, (∀ j ∈ js, j ∈ vs) ∧ Tgt S g js d (wipeR ρ vs) ρ2 ∧
      EvT S tt ρ2 (fun b => if b = true then Ev S te ρ2 (fun s => ∃ y, s = .dat y ∧ I ds (i + 1) (acc ++ [y])) else I ds (i + 1) acc)) (hd : ∀ ds acc, p ds → acc.length ≤ ds.length → I ds ds.length acc → P acc) :
    EvF S (tLc wi g tt te vs) ρ P := fun σ G H k e Q q => hi σ G H k e _ fun J ds G1 H1 g1 k1 pd wk Dl hD => by
  obtain ⟨hl, hI0⟩ := h0 ds pd
  have hnD : H Dl = none := fresh_of g1 k1 hD
  have vD : ¬ S.fx.vol Dl := k1.fresh hD
  have e1 := e.grow g1
  -- the state between two turns
  refine ⟨fun i m H2 => m = ds.length - i ∧ i ≤ ds.length ∧ ∃ G2 acc vs', Grow S.fx G1 H1 G2 H2 ∧ Kn S.fx G2 H2 ∧ G2 Dl = none ∧ H2 Dl = some (.lst vs') ∧ RA S.K G2 vs' acc ∧ acc.length ≤ i ∧ I ds i acc,
    ⟨_, rfl, Nat.zero_le _, G1, [], [], Grow.same k1 (same_new hD), k1.same (same_new hD), k1.freeG hD, upd_same, .nil, Nat.le_refl _, hI0⟩, ?_⟩
  rintro i m H2 ⟨rfl, hi, G2, acc, vs', g2, k2, nD, aD, ra, al, hI⟩
  obtain ⟨w1, w2⟩ := wk G2 H2 g2.gg k2
  by_cases hlt : i < ds.length
  · obtain ⟨go, yl⟩ := w2 i ds[i] (by simp [hlt])
    refine .inr ⟨go, fun H' => ∃ G2 acc vs', Grow S.fx G1 H1 G2 H' ∧ Kn S.fx G2 H' ∧ G2 Dl = none ∧ H' Dl = some (.lst vs') ∧ RA S.K G2 vs' acc ∧ acc.length ≤ i + 1 ∧ I ds (i + 1) acc, fun H' h' => ⟨ds.length - (i + 1), by omega, rfl, hlt, h'⟩, fun x H3 hy => ?_⟩
    obtain ⟨G3, g3, k3, r3⟩ := yl x H3 hy
    obtain ⟨js, ρ2, hj, tg, et⟩ := hs ds i ds[i] acc pd (by simp [hlt]) al hI
    have ew : Env S G3 H3 (L2.wipe σ vs) (wipeR ρ vs) := (((e1.grow g2).grow g3)).wipe vs
    refine tg (L2.wipe σ vs) G3 H3 x k3 ew r3 _ fun σ4 df e4 => ⟨wipe_diff df hj, ?_⟩
    refine et σ4 G3 H3 k3 e4 _ fun b G4 H4 g4 k4 pb => ?_
    have g14 : Grow S.fx G1 H1 G4 H4 := ((g2.trans k2 k3 g3).trans k3 k4 g4)
    have nD4 : G4 Dl = none := g4.nn Dl _ (g3.hh Dl _ vD aD) (fun z => z) (g3.nn Dl _ aD (fun z => z) nD)
    have aD4 : H4 Dl = some (.lst vs') := g4.hh Dl _ vD (g3.hh Dl _ vD aD)
    have ra4 : RA S.K G4 vs' acc := ra.mono (g3.gg.trans g4.gg)
    cases b with
    | true =>
      rw [if_pos rfl] at pb ⊢
      refine pb σ4 G4 H4 k4 (e4.grow g4) _ fun y s G5 H5 g5 k5 ⟨d, es, hI'⟩ rd => ?_
      subst es
      have nD5 : G5 Dl = none := g5.nn Dl _ aD4 (fun z => z) nD4
      have aD5 : H5 Dl = some (.lst vs') := g5.hh Dl _ vD aD4
      refine ⟨vs', aD5, Nat.lt_of_lt_of_le (show vs'.length < 1000001 by rw [ra4.length]; omega) (by decide), G5, acc ++ [d], vs' ++ [y], ?_, ?_, nD5, upd_same, RA.snoc (ra4.mono g5.gg) rd, by simp; omega, hI'⟩
      · have g15 := g14.trans k4 k5 g5
        refine ⟨g15.gg, fun b w hb => ?_, fun b w vb hb => ?_, g15.nn⟩
        · have q : b ≠ Dl := fun z => by rw [z, nD5] at hb; cases hb
          rw [upd_ne q]
          exact k5.gh b w hb
        · have q : b ≠ Dl := fun z => by rw [z, hD] at hb; cases hb
          rw [upd_ne q]
          exact g15.hh b w vb hb
      · refine ⟨fun b w hb => ?_, S.fx.ext (fun b w hb hw => ?_) k5.inv, k5.vn⟩
        · have q : b ≠ Dl := fun z => by rw [z, nD5] at hb; cases hb
          rw [upd_ne q]
          exact k5.gh b w hb
        · have q : b ≠ Dl := fun z => by
            rcases hb with hb | hb
            · exact vD (z ▸ hb)
            · rw [z, aD5] at hw
              cases hw
              exact hb
          rw [upd_ne q]
          exact hw
    | false =>
      rw [if_neg (by decide)] at pb ⊢
      exact ⟨G4, acc, vs', g14, k4, nD4, aD4, ra4, by omega, pb⟩
  · have e' : i = ds.length := by omega
    subst e'
    refine .inl ⟨w1, q Dl vs' acc G2 H2 (g1.trans k1 k2 g2) k2 hnD nD aD ra (hd ds acc pd al hI)⟩
/-- each item gives one -/
theorem ef_map {wi : TI} {te : TE} {vs : List Nat} {ds : List D} {f : D → D} (hi : Itm S wi ρ (Eq ds)) (hl : ds.length ≤ 1000000)
    (hs : ∀ d, d ∈ ds → ∃ js ρ2, (∀ j ∈ js, j ∈ vs) ∧ Tgt S g js d (wipeR ρ vs) ρ2 ∧ Ev S te ρ2 (Eq (.dat (f d)))) : EvF S (tLc wi g tYes te vs) ρ (Eq (ds.map f)) := by
  refine ef_lc hi (fun _ i acc => acc = (ds.take i).map f) (fun ds' e => e ▸ ⟨hl, rfl⟩) (fun ds' i d acc e hd al hI => ?_) fun ds' acc e al hI => ?_
  · subst e
    obtain ⟨js, ρ2, h1, h2, h3⟩ := hs d (List.mem_of_getElem? hd)
    refine ⟨js, ρ2, h1, h2, fun σ G H k e Q q => q true G H (Grow.refl k) k ?_⟩
    show if true = true then _ else _
    rw [if_pos rfl]
    refine h3.imp fun s es => ⟨f d, es.symm, ?_⟩
    rw [hI, List.take_add_one, hd]
    simp
  · subst e
    rw [hI, List.take_length]
/-- some items give one -/
theorem ef_filterMap {wi : TI} {te : TE} {tt : TT} {vs : List Nat} {ds : List D} {f : D → Option D} (hi : Itm S wi ρ (Eq ds)) (hl : ds.length ≤ 1000000)
    (hs : ∀ d, d ∈ ds → ∃ js ρ2, (∀ j ∈ js, j ∈ vs) ∧ Tgt S g js d (wipeR ρ vs) ρ2 ∧ EvT S tt ρ2 (Eq (f d).isSome) ∧ ∀ y, f d = some y → Ev S te ρ2 (Eq (.dat y))) : EvF S (tLc wi g tt te vs) ρ (Eq (ds.filterMap f)) := by
  refine ef_lc hi (fun _ i acc => acc = (ds.take i).filterMap f) (fun ds' e => e ▸ ⟨hl, rfl⟩) (fun ds' i d acc e hd al hI => ?_) fun ds' acc e al hI => ?_
  · subst e
    obtain ⟨js, ρ2, h1, h2, h3, h4⟩ := hs d (List.mem_of_getElem? hd)
    refine ⟨js, ρ2, h1, h2, h3.imp fun b eb => ?_⟩
    cases hf : f d with
    | some y =>
      rw [hf] at eb
      subst eb
      rw [if_pos (show (some y).isSome = true from rfl)]
      refine (h4 y hf).imp fun s es => ⟨y, es.symm, ?_⟩
      rw [hI, List.take_add_one, hd]
      simp [hf]
    | none =>
      rw [hf] at eb
      subst eb
      rw [if_neg (show ¬ ((none : Option D).isSome = true) by simp), hI, List.take_add_one, hd]
      simp [hf]
  · subst e
    rw [hI, List.take_length]
end
/-! ### a def -/
section
variable {P : Program} {w : World} {K : PySem.W.Frag} {mg : Str → Option Value} {base : Heap}
theorem env_start {S : Cf} {G H : Hp} : ∀ {vs : List V} {ss : List Sl} (n : Nat), RSs S.K G vs ss → Env S G H (vs.map some ++ List.replicate n none) (ss ++ List.replicate n .no) := fun {vs ss} n r => by
  have hl := r.length
  have key : ∀ {vs : List V} {ss : List Sl} {i : Nat} {s : Sl}, RSs S.K G vs ss → ss[i]? = some s → ∃ v, vs[i]? = some v ∧ RS S.K G v s := by
    intro vs
    induction vs with
    | nil =>
      intro ss i s r h
      cases r
      simp at h
    | cons v vs ih =>
      intro ss i s r h
      cases r with
      | cons r1 r2 =>
        cases i with
        | zero =>
          simp only [List.getElem?_cons_zero, Option.some.injEq] at h
          subst h
          exact ⟨v, rfl, r1⟩
        | succ i =>
          simp only [List.getElem?_cons_succ] at h
          obtain ⟨w, h1, h2⟩ := ih r2 h
          exact ⟨w, by simpa using h1, h2⟩
  have noown : ∀ {i : Nat} {s : Sl} {a : Addr} {m : Mo}, (ss ++ List.replicate n Sl.no)[i]? = some s → s.holds = some (a, m) → False := fun {i s a m} h hh => by
    by_cases hi : i < ss.length
    · rw [List.getElem?_append_left hi] at h
      obtain ⟨v, _, z⟩ := key r h
      cases s with
      | own b m => exact z
      | gho b m => exact z
      | _ => cases hh
    · rw [List.getElem?_append_right (by omega), List.getElem?_replicate] at h
      split at h
      · cases h
        cases hh
      · cases h
  refine ⟨by simp [hl], fun i s h => ?_, fun i j s t a m m' h _ hh _ => (noown h hh).elim⟩
  by_cases hi : i < ss.length
  · rw [List.getElem?_append_left hi] at h
    obtain ⟨v, h1, h2⟩ := key r h
    refine ⟨some v, by rw [List.getElem?_append_left (by simp; omega)]; simp [h1], ?_⟩
    cases s with
    | no => exact True.intro
    | dat d => exact ⟨v, rfl, h2⟩
    | raw x => exact congrArg some h2
    | dic f ds => exact ⟨v, rfl, h2⟩
    | ob oa C fs => exact ⟨v, rfl, h2⟩
    | rd c vs ds => exact ⟨v, rfl, h2⟩
    | own a m => exact h2.elim
    | gho a m => exact h2.elim
  · rw [List.getElem?_append_right (by omega), List.getElem?_replicate] at h
    split at h
    · rename_i hn
      cases h
      refine ⟨none, ?_, True.intro⟩
      rw [List.getElem?_append_right (by simp; omega), List.getElem?_replicate]
      simp only [List.length_map, hl]
      rw [if_pos hn]
    · cases h
theorem fn_ok {ι : Type} {args : ι → List Sl} {pre : ι → Prop} {post : ι → Re → Prop} {fx : Fx} {x qual : Str} {st : Stmt} {f : Addr} {fd : FuncData} {N ps : List Str} {k : Nat} (F : Fun K x qual st f fd) (Sc : FnScope N ps (defScope st)) (hl : ∀ i, pre i → (args i).length = ps.length)
    (hbody : ∀ (cdv : Value) (A : Around) (outer : List PySem.Env) (s : Shared) (H : Hp) (E : XK), Room k (A.deeper (envOfC qual (defScope st) s.heap.objs.size f cdv)) → ∀ (i : ι), pre i →
      ∃ t, PSs (cxOf (L2.CX P w) P w K mg base N qual (defScope st) f cdv A outer s H E) (defBody st) t ∧ ∀ G : Hp, Xc ⟨K, fx, G, H, E⟩ t (args i ++ List.replicate (N.length - ps.length) .no) (RetP (post i)))
    (hm : ∀ a, ¬ fx.mine a := by exact fun _ h => h) : FnOk P w K mg base (L2.CX P w) (k + 1) f fd ps (spI K fx args pre post) := by
  refine F.okX Sc (fun vs H Q E h => ?_) fun cdv A outer s H vs Q E hr h => ?_
  · obtain ⟨i, G, hp, _, r, _⟩ := h
    rw [r.length, hl i hp]
  · obtain ⟨i, G, hp, kn, r, q1, q2⟩ := h
    obtain ⟨t, ht, hx⟩ := hbody cdv A outer s H E hr i hp
    refine ⟨t, ht, ?_⟩
    have hn : vs.length = ps.length := by rw [r.length, hl i hp]
    have ev := env_start (S := ⟨K, fx, G, H, E⟩) (H := H) (N.length - ps.length) r
    unfold L2.start
    rw [hn]
    refine hx G _ G H _ ⟨kn, kn, GrO.of (Grow.refl kn), MnOk.none hm, MnOk.none hm⟩ ev ⟨fun σ G' H' ρ o s e p => ?_, fun σ G' H' ρ o s e p => p.elim, fun σ G' H' ρ o s e p => p.elim, fun σ v s G' H' ρ o _ r p => ?_, fun C d dd v G' H' o hd r p => ?_⟩
    · exact q1 .non (.dat .none) G' H' (o.gr.to hm) o.kn .non p
    · exact q1 v s G' H' (o.gr.to hm) o.kn r p
    · exact q2 C d dd v G' H' (o.gr.to hm) o.kn hd r p
end
end Dl

set_option Elab.async false
set_option linter.all false
set_option maxRecDepth 100000
set_option maxHeartbeats 4000000
/-! Dlt: enumerate over a tuple. -/
namespace Dl
open PySem PySem.Spec PyProof.Rows L2
theorem meets_enumT (l : Addr) (items : Array Value) :
    Meets (Builtin.«enumerate.__new__» ⟨[.type "enumerate", .ref l], []⟩) (fun _ R s => s.heap.IsTuple l items ∧
      R (.ok (.ret (.ref (s.heap.push { cls := .type "tuple_iterator", data := .fields #[.ref l, .int 0 0] }).objs.size)))
        { s with heap := (s.heap.push { cls := .type "tuple_iterator", data := .fields #[.ref l, .int 0 0] }).push { cls := .type "enumerate", data := .fields #[.none, .bool false, .ref s.heap.objs.size, rawInt 0, .none, .none] } }) :=
  .of_wp fun prog w A R s h => by
    obtain ⟨hp, g, d, tk, os⟩ := s
    obtain ⟨hL, h⟩ := h
    have hsub := sub_enumerate
    obtain ⟨o, ho, hc, n, hd⟩ := id hL
    wp_walk using AutoSeq1.wpAny_loadPart' ho
    refine wpAny_stack_any fun st => wpAny_pure ?_
    split
    · rename_i c _ _ _ _ _
      cases (c == Value.type "enumerate")
      · wp_walk using AutoSeq1.wpAny_loadPart' ho, wpAny_pyIter_tuple hL
        exact ⟨_, rfl, h⟩
      · wp_walk using AutoSeq1.wpAny_loadPart' ho, wpAny_pyIter_tuple hL
        exact ⟨_, rfl, h⟩
    · wp_walk using AutoSeq1.wpAny_loadPart' ho, wpAny_pyIter_tuple hL
      exact ⟨_, rfl, h⟩

section
variable {prog : Program} {w : World} {A : Around} {E : Value → Shared → Prop} {s : Shared}
theorem call_enumT {l : Addr} {items : Array Value} {Q : Value → Shared → Prop} (hL : s.heap.IsTuple l items)
    (h : ∀ h', IsEnum h' (s.heap.objs.size + 1) s.heap.objs.size 0 .none → h'.IsTupleIter s.heap.objs.size l 0 → (∀ b o, s.heap.get? b = some o → h'.get? b = some o) → Q (.ref (s.heap.objs.size + 1)) { s with heap := h' }) :
    wpAny (model prog w) A (call (.type "enumerate") [.ref l]) Q E s := by
  refine callType_new F.called_enumerate (by decide) (F.typeCall_enumerate_1 _) (F.newCall_enumerate_1 _) (fun obj => F.args_object_init_2 obj _) F.entry_enumerate_new (meets_enumT l items) ⟨hL, ?_⟩
  have hz : (s.heap.push { cls := .type "tuple_iterator", data := .fields #[.ref l, .int 0 0] }).objs.size = s.heap.objs.size + 1 := Heap.size_push ..
  show _ ∧ _
  rw [hz]
  have he : IsEnum ((s.heap.push { cls := .type "tuple_iterator", data := .fields #[.ref l, .int 0 0] }).push
      { cls := .type "enumerate", data := .fields #[.none, .bool false, .ref s.heap.objs.size, rawInt 0, .none, .none] }) (s.heap.objs.size + 1) s.heap.objs.size 0 .none := by
    have q := Heap.get?_push_size (s.heap.push { cls := .type "tuple_iterator", data := .fields #[.ref l, .int 0 0] })
      (o := { cls := .type "enumerate", data := .fields #[.none, .bool false, .ref s.heap.objs.size, rawInt 0, .none, .none] }) rfl
    rw [hz] at q
    exact q
  exact ⟨⟨_, he, rfl⟩, h _ he ⟨_, Heap.get?_push_of_some _ (Heap.get?_push_size _ rfl), rfl, rfl⟩ fun b o x => Heap.get?_push_of_some _ (Heap.get?_push_of_some _ x)⟩
end
/-- the tuple at a, each item in a new pair with its index -/
def IteT (K : PySem.W.Frag) (a : Addr) : It :=
  ⟨fun i H => ∃ (xs : List V) (x : V), SqT K H a xs ∧ xs[i]? = some x, fun i H v H' => ∃ T x, v = .ref T ∧ H T = none ∧ H' = upd H T (.tup [.int (i : Nat), x]) ∧ ∀ xs, SqT K H a xs → xs[i]? = some x, fun i H => ∃ xs : List V, SqT K H a xs ∧ xs.length ≤ i⟩
theorem turn_enumT {P : Program} {w : World} {K : PySem.W.Frag} {elts : List Expr} {kk : Nat} {tpos : Pos} (a e it : Addr) :
    Turn P w K (.Tuple elts kk tpos) (IteT K a) [e, it] e (fun i h => (∃ old, IsEnum h e it ((i : Nat) : Int) old) ∧ h.IsTupleIter it a i ∧ e ≠ it) where
  mem := by simp
  obj := fun i h st b hb => by
    obtain ⟨⟨old, he⟩, ⟨o, ho, hc, hd⟩, _⟩ := st
    rcases (show b = e ∨ b = it by simpa using hb) with z | z
    · exact ⟨_, z ▸ he, fun v q => by cases q⟩
    · exact ⟨o, z ▸ ho, fun v q => by rw [hd] at q; cases q⟩
  keep := fun i h h' st k => ⟨let ⟨old, he⟩ := st.1; ⟨old, k e (by simp) _ he⟩, st.2.1.at fun o q => k it (by simp) o q, st.2.2⟩
  item := by
    intro X hP hw hK hc i pins s σ H E I hf st hg
    subst hP hw hK
    obtain ⟨⟨old, he⟩, hit, hne⟩ := st
    obtain ⟨xs, x, hq, hx⟩ := hg
    obtain ⟨its, rv, p, hz⟩ := I.tuple hq
    obtain ⟨u, hu, ru⟩ := rv.get hx
    have hp : s.heap.IsTuple a its.toArray := p
    have hel : e < s.heap.objs.size := Heap.lt_size he
    have hil : it < s.heap.objs.size := by
      obtain ⟨_, q, _⟩ := hit
      exact Heap.lt_size q
    have nea : e ≠ a := fun z => by
      obtain ⟨o, ho, hcl, _⟩ := hp
      have he' : s.heap.get? e = _ := he
      rw [z, ho] at he'
      cases he'
      simp at hcl
    have nia : a ≠ it := fun z => by
      obtain ⟨o, ho, hcl, _⟩ := hp
      obtain ⟨o2, ho2, hc2, _⟩ := hit
      rw [z, ho2] at ho
      cases ho
      rw [hc2] at hcl
      simp at hcl
    have hi : i < its.toArray.size := by
      have := (List.getElem?_eq_some_iff.mp hu).1
      simpa using this
    refine wpAny_pyNext_enum_itemD (Draws.tuple (A := X.A.in1) (I.ok.hd hc) it a nia its.toArray) he ⟨hit, hp⟩ hi hne (by simp [hne, nea]) fun y h' tk hy ho st' hT hsz hk => ?_
    obtain ⟨hit', _⟩ := st'
    have ey : y = u := by
      have q : its.toArray[i]? = some u := by simpa using hu
      rw [q] at hy
      exact (Option.some.inj hy).symm
    subst ey
    refine ⟨_, rfl, wpAny_letOwnedTupleGo_enum (s := { s with heap := h', toks := tk + 1 }) ho fun h'' he' sb => ?_⟩
    have hT2 : h''.get? s.heap.objs.size = some { cls := .type "tuple", data := .seq #[.int i tk, y] } := (sb.2 _ (Nat.ne_of_gt hel)).trans hT
    have I1 : Inv X pins σ (upd H s.heap.objs.size (.tup [.int (i : Nat), x])) { s with heap := h'', toks := tk + 1 } :=
      I.turnedNew (ch := [e, it]) (fun b ob hb q => (sb.2 b (fun z => hb (by simp [z]))).trans (hk b ob (fun z => hb (by simp [z])) (fun z => hb (by simp [z])) q)) hf (Nat.le_refl _)
        ⟨by show 2 ≤ sizeLine; decide, [.int i tk, y], .cons ⟨_, rfl⟩ (.cons ru .nil), ⟨_, hT2, rfl, _, rfl⟩⟩
    refine ⟨.ref s.heap.objs.size, _, I1, rfl, ⟨_, x, rfl, I.hok.fresh (Nat.le_refl _), rfl, fun ys hy => by rw [I.tuple_inj hy hq]; exact hx⟩, ⟨⟨y, ?_⟩, hit'.at fun o q => (sb.2 it (Ne.symm hne)).trans q, hne⟩, fun b hb => ?_⟩
    · rw [show ((i + 1 : Nat) : Int) = (i : Int) + 1 by omega]
      exact he'
    · have hb' : b < s.heap.objs.size := by
        rcases (show b = e ∨ b = it by simpa using hb) with z | z
        · exact z ▸ hel
        · exact z ▸ hil
      rw [upd_ne (Nat.ne_of_lt hb')]
      exact (hf b hb).1
  done := by
    intro X hP hw hK hc i pins s σ H E I hf st hg
    subst hP hw hK
    obtain ⟨⟨old, he⟩, hit, hne⟩ := st
    obtain ⟨xs, hq, hx⟩ := hg
    obtain ⟨its, rv, p, hz⟩ := I.tuple hq
    have hp : s.heap.IsTuple a its.toArray := p
    obtain ⟨f0, f1, f2, f3, f4, f5⟩ := hf it (by simp)
    have hl := rv.length
    have nia : a ≠ it := fun z => by
      obtain ⟨o, ho, hcl, _⟩ := hp
      obtain ⟨o2, ho2, hc2, _⟩ := hit
      rw [z, ho2] at ho
      cases ho
      rw [hc2] at hcl
      simp at hcl
    have en : wpAny (model X.prog X.w) X.A (pyNext (.ref e)) (fun r s1 => r = none ∧ Inv X pins σ H s1) E s := by
      unfold pyNext
      refine wpAny_bind (wpAny_attempt (wpAny_callSpecial?_slot (name := Str.ofString "__next__") (show s.TypeIs (.ref e) "enumerate" from ⟨_, he, rfl⟩) F.slot_enumerate_next
        (wpAny_call_entry F.slot_enumerate_next (show s.TypeIs (.ref e) "enumerate" from ⟨_, he, rfl⟩) F.entry_enumerate_next ?_ (F.args_enumerate_next_1 _))))
      show wpAny _ _ (field (.ref e) 2 >>= _) _ _ _
      refine wpAny_bind (wpAny_field he rfl (x := .ref it) rfl ?_)
      refine wpAny_bind (wpAny_nextOf_tuple_end (show X.A.in1.handled = none from I.ok.hd hc) hit hp (by simp; omega) fun h' x he' hx' => ?_)
      obtain ⟨o, ho, hc⟩ := hx'
      refine wpAny_bind (wpAny_isInstance (T := "StopIteration") (b := true) ⟨o, ho, hc⟩ isSubtype_stop ?_)
      exact wpAny_pure ⟨rfl, I.turned (t' := s.toks) (fun b o hb q => he' b o hb q) f0 f1 f3 f4 f5⟩
    exact en
  self := fun A i s Q E st h => wpAny_pyIter_enum st.1.choose_spec h
def iEnumT (K : PySem.W.Frag) (ta : TA) : TI := fun σ H R => ta σ H fun vs H1 => ∃ a xs, vs = [.ref a] ∧ SqT K H1 a xs ∧ R (IteT K a) H1
theorem pi_enumT {X : Cx} {e : Expr} {ta : TA} {p pos tpos : Pos} {elts : List Expr} {kk : Nat} (hg : Gl X "enumerate") (hm : X.mg "enumerate" = none) (ha : PA X [e] ta) (hs : starEach [e] X.env = [(false, eval e X.env)] := by rfl) :
    PI X (.Tuple elts kk tpos) (.Call (.Name "enumerate" p) [e] [] pos) (iEnumT X.K ta) := ⟨fun pins s σ H R I h => by
  refine Call_ (ld_blt I hg hm boot_enumerate (PyProof.Rows.callWith_type1 (thn (ha.run pos pins s σ H _ I h) fun us s1 ⟨vs, H1, I1, r1, a, xs, ex, hq, q⟩ => ?_) hs rfl))
  subst ex
  cases r1 with
  | cons r rr =>
    cases rr
    cases r
    obtain ⟨its, rv, p', hz⟩ := I1.tuple hq
    refine call_enumT (show s1.heap.IsTuple a its.toArray from p') fun h' he hit hk => wpAny_pyIter_enum he ?_
    refine ⟨s1.heap.objs.size + 1, [s1.heap.objs.size + 1, s1.heap.objs.size], _, _, H1, rfl, I1.kept (t' := s1.toks) hk, turn_enumT a (s1.heap.objs.size + 1) s1.heap.objs.size, ⟨⟨.none, he⟩, hit, Nat.succ_ne_self _⟩, fun b hb => ?_, q⟩
    have hle : s1.heap.objs.size ≤ b := by
      rcases (show b = s1.heap.objs.size + 1 ∨ b = s1.heap.objs.size by simpa using hb) with z | z
      · exact z ▸ Nat.le_add_right _ _
      · exact z ▸ Nat.le_refl _
    exact I1.fpOk hle (I1.hok.fresh hle)⟩
section
variable {S : Cf} {ρ : Rho} {te : TE} {G : Hp}
theorem wk_enumT {a : Addr} {vs : List V} {ds : List D} (hs : SqT S.K G a vs) (ra : RA S.K G vs ds) : Wk S (IteT S.K a) G (enumD 0 ds) := wk_pair (f := fun a b => .tuple [a, b]) fun G2 H2 e k => by
  have hs2 : SqT S.K H2 a vs := sameT (e.trans k.gh) hs
  refine ⟨⟨vs, hs2, by rw [enumD_length, ra.length]; exact Nat.le_refl _⟩, fun i d hd => ?_⟩
  obtain ⟨x, hx, ed⟩ := enumD_get hd
  obtain ⟨v, hv, rv⟩ := ra.get hx
  refine ⟨⟨vs, v, hs2, hv⟩, fun y H3 hy => ?_⟩
  obtain ⟨T, q, e1, e2, e3, e5⟩ := hy
  have e5 := e5 vs hs2
  rw [hv] at e5
  cases e5
  exact ⟨T, _, _, .int ((0 + i : Nat) : Int), x, e1, e2, e3, by rw [Nat.zero_add]; exact .int _, rv.mono e, ed⟩
theorem im_enumT {ds : List D} (h : Ev S te ρ (Eq (.dat (.tuple ds)))) : Itm S (iEnumT S.K (tCons te tNil)) ρ (Eq (enumD 0 ds)) := fun σ G H k e Rr f => h σ G H k e _ fun v s G' H' g k' es r => by
  subst es
  cases r with
  | tup hs ra => exact ⟨_, _, rfl, sameT k'.gh hs, f _ _ G' H' g k' rfl (wk_enumT hs ra)⟩
end
end Dl

set_option Elab.async false
set_option linter.all false
set_option maxRecDepth 100000
set_option maxHeartbeats 4000000
/-! Dlx: errors raised and caught, repr, the end of a law that hands lambdas on. -/
namespace Dl
open PySem PySem.Spec PyProof.Rows L2
/-! ### an error with one value -/
/-- __init__(self, value): self.value = value -/
def spIni (K : PySem.W.Frag) : Sp := fun vs H Q _ => ∃ (a C : Addr) (v : V), vs = [.ref a, v] ∧ OexC K C ∧ PySem.W.findIn K (.ref C) "value" = some none ∧ H a = some (exo a C none) ∧
  ∀ dx, H dx = none → dx ≠ a → Q .non (upd (upd H dx (exd dx [("value", v)])) a (exo a C (some dx)))
section
variable {P : Program} {w : World} {K : PySem.W.Frag} {mg : Str → Option Value} {base : Heap}
theorem ini_ok {f : Addr} {fd : FuncData} {x qual : Str} {st : Stmt} {b1 b2 b3 b4 b5 : Pos} (F : Fun K x qual st f fd) (Sc : FnScope ["self", "value"] ["self", "value"] (defScope st)) (hs : (defScope st).names = [(PySem.Str.ofString "self", .local), (PySem.Str.ofString "value", .local)])
    (hb : defBody st = [.Assign [.Attribute (.Name "self" b1) "value" b2] (.Name "value" b3) b4]) : FnOk P w K mg base CX0 1 f fd ["self", "value"] (spIni K) := by
  refine F.ok Sc (fun vs H Q E h => ?_) fun cdv A outer s H vs Q E hr h => ?_
  · obtain ⟨a, C, v, rfl, _⟩ := h
    rfl
  · obtain ⟨a, C, v, rfl, T, nv, ha, k⟩ := h
    have v0 : Vis (cxOf CX0 P w K mg base ["self", "value"] qual (defScope st) f cdv A outer s H E).nox.env.scope "self" := .inl (by show (defScope st).names.lookup _ = _; rw [hs]; decide +kernel)
    have v1 : Vis (cxOf CX0 P w K mg base ["self", "value"] qual (defScope st) f cdv A outer s H E).nox.env.scope "value" := .inl (by show (defScope st).names.lookup _ = _; rw [hs]; decide +kernel)
    refine ⟨_, by rw [hb]; exact pss_one (ps_ost (pe_var (i := 0) rfl v0) (pe_var (i := 1) rfl v1)), ?_⟩
    exact ⟨v, rfl, .ref a, rfl, a, C, rfl, T, nv, .inl ⟨ha, fun dx h1 h2 => k dx h1 h2⟩⟩
end
section
variable {S : Cf} {ρ : Rho} {te : TE} {P : Oc → Prop}
/-- raise X(e) -/
theorem xc_raise {C : Addr} {d : D} (T : OexC S.K C) (nv : PySem.W.findIn S.K (.ref C) "value" = some none) (h : Ev S te ρ (Eq (.dat d))) (hs : P (.ex C d)) :
    Xc S (fun _ σ H => tMkO C (spIni S.K) [] (tCons te tNil) σ H fun cls d H' => S.E cls d H') ρ P := fun σ G H De o e f =>
  h σ G H o.kn e _ fun v s G1 H1 g1 k1 es r => by
    subst es
    refine ⟨by show 1 ≤ 1000; decide, fun a ha => ⟨a, C, v, rfl, T, nv, upd_same, fun dx hdx hne => ⟨rfl, dx, [("value", v)], upd_same, by rw [upd_ne hne, upd_same], ?_, ?_⟩⟩⟩
    · rw [upd_ne hne] at hdx
      exact hdx
    · have hd1 : H1 dx = none := by
        rw [upd_ne hne] at hdx
        exact hdx
      have sm : Same H1 (upd (del (upd (upd (upd H1 a (exo a C none)) dx (exd dx [("value", v)])) a (exo a C (some dx))) a) dx (.xd [("value", v)])) := fun b w hb => by
        have n1 : b ≠ a := ne_of_none hb ha
        have n2 : b ≠ dx := ne_of_none hb hd1
        rw [upd_ne n2, del_ne n1, upd_ne n1, upd_ne n2, upd_ne n1]
        exact hb
      have o1 := o.grow g1 k1
      exact f.ex C d dx v G1 _ (o1.grow (Grow.same k1 sm) (k1.same sm)) upd_same r hs
end
/-! ### repr of data -/
def isDisp : D → Bool
  | .list _ => true
  | .tuple _ => true
  | _ => false
def rRepr (K : PySem.W.Frag) : List V → Hp → VK → Prop := fun xs H Q => ∃ (x : V) (d : D), xs = [x] ∧ R K H x d ∧ isDisp d = true ∧ d.hasDict = false ∧ d.showable = true ∧ d.shown.length ≤ sizeLine ∧ d.depth ≤ 20 ∧ Q (.str d.shown) H
theorem cr_repr {X : Cx} (hg : X.A.guards = some []) (hu : X.A.units + 64 < cLine) : CallR X (.builtin "repr") (rRepr X.K) := by
  intro pins s σ H xs us Q I r h
  obtain ⟨x, d, rfl, rx, dd, nd, sh, sz, dp, q⟩ := h
  obtain ⟨u, rfl, ru⟩ := vals1 r
  obtain ⟨as, rd⟩ := Dp.reads I d x u (rx.dp nd) ru
  obtain ⟨a, rfl⟩ : ∃ a, u = Value.ref a := by
    cases rx with
    | lst _ _ => exact ⟨_, ru⟩
    | tup _ _ => exact ⟨_, ru⟩
    | _ => simp [isDisp] at dd
  exact repr_of_reads' rd sh (PyData.noDict_hsm nd) hg (by omega) (fun _ _ e => e) (fun h' u tk hk => ⟨.str d.shown, H, I.kept hk, ⟨u, rfl⟩, q⟩) sz
section
variable {S : Cf} {ρ : Rho} {te : TE}
theorem ev_repr {d : D} (h : Ev S te ρ (Eq (.dat d))) (dd : isDisp d = true) (nd : d.hasDict = false) (sh : d.showable = true) (sz : d.shown.length ≤ sizeLine) (dp : d.depth ≤ 20) : Ev S (tCB (rRepr S.K) (tCons te tNil)) ρ (Eq (.dat (.str d.shown))) := fun σ G H k e Q q =>
  h σ G H k e _ fun v s G1 H1 g1 k1 es r => by
    subst es
    exact ⟨v, d, rfl, r.mono k1.gh, dd, nd, sh, sz, dp, q _ _ G1 H1 g1 k1 rfl (.str _)⟩
end
/-! ### try with several clauses, each with the same name in slot i -/
def wManyN (K : PySem.W.Frag) (i : Nat) (Wout : WX) (De : Ends) : List (Value × (Addr → Value → Option Addr → TS)) → WX
  | [] => Wout
  | (c, ts) :: r => fun cls d σ H => ∃ b, PySem.W.exmOne K cls c = some b ∧
      (b = true → ∀ a, H a = none → ts a cls d { nx := fun σ' H' => De.nx (σ'.set i none) H', rt := De.rt, bk := fun σ' H' => De.bk (σ'.set i none) H', ct := fun σ' H' => De.ct (σ'.set i none) H' } (σ.set i (some (.ref a))) H) ∧
      (b = false → wManyN K i Wout De r cls d σ H)
/-- told of slots of the right number alone -/
def wLen (n : Nat) (W : WX) : WX := fun cls d σ H => σ.length = n → W cls d σ H
inductive HdsN (X : Cx) (n : Str) : List ExceptHandler → List (Value × (Addr → Value → Option Addr → TS)) → Prop
  | nil : HdsN X n [] []
  | cons {x : Str} {c : Value} {ts : Addr → Value → Option Addr → TS} {b0 : Stmt} {su : List Stmt} {np p' : Pos} {hds : List ExceptHandler} {l : List (Value × (Addr → Value → Option Addr → TS))} (hc : Names X x c)
      (hsu : ∀ (a : Addr) (oe : Obj) (cls : Value) (d : Option Addr) (pn : List (Addr × Obj)), Zc cls d oe → (∃ vs, oe.data = .fields vs) → PSs (X.suite a ((a, oe) :: pn)) (b0 :: su) (ts a cls d)) (r : HdsN X n hds l) :
      HdsN X n (.ExceptHandler (some (.Name x np)) (some n) (b0 :: su) p' :: hds) ((c, ts) :: l)
section
variable {X : Cx} {body : List Stmt} {h0 : ExceptHandler} {hds : List ExceptHandler} {l : List (Value × (Addr → Value → Option Addr → TS))} {pos : Pos} {tb : WX → TS} {Wout : WX} {n : Str} {i : Nat}
theorem ps_try_manyN (hs : X.stack = X.env :: X.outer) (hf : X.env.frame = some X.env.locals) (hN : X.N.Nodup) (hi : X.N[i]? = some n) (hln : X.env.kindOf n = some .local) (tk : Takes X Wout)
    (hb : ∀ (W : WX) (pn : List (Addr × Obj)) (xe : Value → Shared → Prop), Takes (X.tr pn xe) W → PassesOwn (model X.prog X.w) X.A X.env xe → PSs (X.tr pn xe) body (tb W))
    (hh : HdsN X n (h0 :: hds) l) : PS X (.Try body (h0 :: hds) [] [] pos) (fun De σ H => tb (wLen X.N.length (wManyN X.K i Wout De l)) De σ H) := ⟨fun pins s σ H De I h => by
  have ok := I.ok
  have hfr : X.A.frames = some (X.env :: X.outer) := by rw [ok.frames, hs]
  refine wpAny_Try_except (wpAny_mono ((hb (wLen X.N.length (wManyN X.K i Wout De l)) (X.pn ++ pins) (fun e s1 => wpAny (model X.prog X.w) X.A (noteFrame e X.env) (fun _ s2 => wpAny (model X.prog X.w) X.A (setFlight e none) (fun _ s3 =>
    wpAny (model X.prog X.w) X.A (handleBy e X.env (h0 :: hds)) (SP X pins De) X.xe s3) X.xe s2) X.xe s1) (fun u s' xx => ?_) PassesOwn.looking).run [] s σ H De (I.toTry _) h) (fun fl s1 hsp => ?_) fun _ _ he => he)
  · obtain ⟨a, B, sI, pins', σ', H', cls, d, rfl, J', nb, up, sky, na, os, ag, wish0⟩ := xx
    have J : Inv X pins σ' H' sI := J'.ofTry ok
    have wish := wish0 J.len
    rw [hs] at sky
    show wpAny (model X.prog X.w) X.A (noteFrame (.ref a) X.env) _ _ _
    refine Sky.land Zc.steady hfr hf sky fun h3 fl3 up3 => ?_
    have J3 : Inv X pins σ' H' { s' with heap := h3 } := J.landed nb fl3.1 (up.trans up3) os ag
    obtain ⟨oe3, vs3, he3, hz3, hd3⟩ := fl3.there
    have nfr : a ∉ frs (X.env :: X.outer) := fun hm => by
      obtain ⟨_, o', e', hnf⟩ := fl3.2.2.1.mem hm
      rw [he3] at e'
      cases e'
      exact hnf _ hd3
    have nL : a ≠ X.env.locals := fun z => nfr (List.mem_filterMap.mpr ⟨X.env, List.mem_cons_self, by rw [hf, z]⟩)
    have nF : a ∉ X.fs := fun hm => by
      obtain ⟨e, he, q⟩ := List.mem_filterMap.mp hm
      exact nfr (List.mem_filterMap.mpr ⟨e, List.mem_cons_of_mem _ he, q⟩)
    have S3 := J3.suite he3 hd3 na nL nF
    suffices key : ∀ {hds' : List ExceptHandler} {l' : List (Value × (Addr → Value → Option Addr → TS))}, HdsN X n hds' l' → wManyN X.K i Wout De l' cls d σ' H' →
        wpAny (model X.prog X.w) X.A (handleBy (.ref a) X.env hds') (SP X pins De) X.xe { s' with heap := h3 } from key hh wish
    intro hds' l' hk
    induction hk with
    | nil =>
      intro w
      refine wpAny_handleBy_nil ?_
      obtain ⟨k1, k2, k3, oe, vs, T, oT, ts', he, hz, hd, h1, hr⟩ := id fl3
      unfold PySem.passOn
      refine wpAny_bind (wpAny_field he hd h1 ?_)
      rw [if_neg (show ¬ ((Value.ref T == Value.none) = true) by simp)]
      have last : wpAny (model X.prog X.w) X.A (setFlight (.ref a) X.env.frame) (fun _ s4 => wpAny (model X.prog X.w) X.A (throw (.ref a) : Sem Flow) (SP X pins De) X.xe s4) X.xe { s' with heap := h3 } := by
        rw [hf]
        exact HandSPX.setFlight_upZ fl3 fun h4 hh4 up4 => wpAny_throw (tk _ _ ⟨a, B, sI, pins, σ', H', cls, d, rfl, J, nb, (up.trans up3).trans up4, .inr (.inr (by rw [hs]; exact hh4)), na, os, ag, w⟩)
      first
        | exact wpAny_bind (wpAny_pure (wpAny_bind last))
        | exact wpAny_bind last
    | @cons x c ts b0 su np p' hds2 l2 hc hsu r ih =>
      intro w
      obtain ⟨b, hb1, hyes, hno⟩ := w
      refine wpAny_handleBy_cons (codeAny_handlers_test ?_) (by intro q; cases q)
      have LM := PySem.W.exm_one (M := model X.prog X.w) J3.kIn (fun A Q E s k q => wpAny_typeOf_ref (k _ _ he3) (by rw [hz3.1]; exact q)) hb1
      have test : ∀ {Q : Value → Shared → Prop} {E : Value → Shared → Prop}, Q c { s' with heap := h3 } → wpAny (model X.prog X.w) (X.A.mark (some (.ref a))) (eval (.Name x np) X.env) Q E { s' with heap := h3 } := fun {Q E} q => by
        obtain ⟨hg, hdbg, hm | ⟨hm, hv, hnn⟩⟩ := hc
        · exact ld_glob (X := X.suite a ((a, oe3) :: (X.pn ++ pins))) S3 hg hm q hdbg
        · exact ld_blt (X := X.suite a ((a, oe3) :: (X.pn ++ pins))) S3 hg hm hv q hnn hdbg
      refine test (LM.here ?_)
      cases b with
      | false =>
        show wpAny _ X.A (handleBy (.ref a) X.env hds2) _ _ _
        exact ih (hno rfl)
      | true =>
        refine codeAny_handlers_suite_as (HandSPX.lands_againZ fl3 fun h4 fl4 up4 => ?_)
        have J4 : Inv X pins σ' H' { s' with heap := h4 } := J.landed nb fl4.1 ((up.trans up3).trans up4) os ag
        obtain ⟨oe4, vs4, he4, hz4, hd4⟩ := fl4.there
        refine store_ok (X := X.suite a ((a, oe4) :: (X.pn ++ pins))) (v := .ref a) (J4.suite he4 hd4 na nL nF) hN hi (.inl hln) rfl (fun s5 S5 => ?_) (.inr hln)
        refine wpAny_mono ((hsu a oe4 cls d (X.pn ++ pins) hz4 ⟨_, hd4⟩).run [] s5 _ H' _ S5 (hyes rfl a na)) (fun fl s6 hsp => ?_) (fun _ _ z => False.elim z)
        have away : ∀ {σ6 : L2.St} {H6 : Hp} {Q : Shared → Prop}, Inv (X.suite a ((a, oe4) :: (X.pn ++ pins))) [] σ6 H6 s6 → (∀ s7, Inv X pins (σ6.set i none) H6 s7 → Q s7) →
            wpAny (model X.prog X.w) X.A (do bindName X.env n .none; unbindBehindTheSuite X.env n p') (fun _ s7 => Q s7) X.xe s6 := fun S6 hq => gone_ok (S6.unsuite ok) hN hi hln hq
        cases fl with
        | next =>
          obtain ⟨σ6, H6, S6, q6⟩ := hsp
          exact away S6 fun s7 J7 => ⟨_, _, J7, q6⟩
        | brk =>
          obtain ⟨σ6, H6, S6, q6⟩ := hsp
          exact away S6 fun s7 J7 => ⟨_, _, J7, q6⟩
        | cont =>
          obtain ⟨σ6, H6, S6, q6⟩ := hsp
          exact away S6 fun s7 J7 => ⟨_, _, J7, q6⟩
        | ret u =>
          obtain ⟨v6, σ6, H6, S6, r6, q6⟩ := hsp
          exact away S6 fun s7 J7 => ⟨_, _, _, J7, r6, q6⟩
  · cases fl with
    | next =>
      obtain ⟨σ', H', J', q⟩ := hsp
      exact wpAny_execs_nil ⟨σ', H', J'.ofTry ok, q⟩
    | brk =>
      obtain ⟨σ', H', J', q⟩ := hsp
      exact ⟨σ', H', J'.ofTry ok, q⟩
    | cont =>
      obtain ⟨σ', H', J', q⟩ := hsp
      exact ⟨σ', H', J'.ofTry ok, q⟩
    | ret u =>
      obtain ⟨v, σ', H', J', r, q⟩ := hsp
      exact ⟨v, σ', H', J'.ofTry ok, r, q⟩⟩
end
/-! ### a def that asks what it is handed, and tells the error: try: ask() / except X1 as e: return ('w1', e.value) .. / return ('', None) -/
def tsR (C : Addr) (w : Str) : Addr → Value → Option Addr → TS := fun a cls d => tRet (tTup (tCons (tC (.str w)) (tCons (tXf a cls d C "value" (tVar 1)) tNil)))
def hdL (cs : List (Addr × Str)) : List (Value × (Addr → Value → Option Addr → TS)) := cs.map fun p => (.ref p.1, tsR p.1 p.2)
/-- the wish of the one who asks -/
def EchR (K : PySem.W.Frag) (Q : VK) : List (Addr × Str) → XK
  | [] => fun _ _ _ => False
  | (C, w) :: r => fun cls d H' => ∃ b, PySem.W.exmOne K cls (.ref C) = some b ∧
      (b = true → cls = .ref C ∧ ∃ (dd : Addr) (v : V), d = some dd ∧ H' dd = some (.xd [("value", v)]) ∧ ∀ p, H' p = none → Q (.ref p) (upd H' p (.tup [.str w, v]))) ∧ (b = false → EchR K Q r cls d H')
def TRef (K : PySem.W.Frag) (cs : List (Addr × Str)) : (XK → Hp → VK → Prop) → Hp → VK → Prop := fun tl H Q =>
  tl (EchR K Q cs) H (fun _ H' => ∀ p, H' p = none → Q (.ref p) (upd H' p (.tup [.str "", .non])))
theorem ech_many {K : PySem.W.Frag} {Q : VK} {De : Ends} (hrt : De.rt = Q) {cls : Value} {d : Option Addr} {σ : L2.St} {H : Hp} (hl : σ.length = 2) : ∀ {cs : List (Addr × Str)}, EchR K Q cs cls d H → wManyN K 1 (fun _ _ _ _ => False) De (hdL cs) cls d σ H
  | [], h => h
  | (C, w) :: r, h => by
    obtain ⟨b, h1, h2, h3⟩ := h
    refine ⟨b, h1, fun hb a ha => ?_, fun hb => ech_many hrt hl (h3 hb)⟩
    obtain ⟨ec, dd, v, ed, hd, k⟩ := h2 hb
    match σ, hl with
    | [x0, x1], _ =>
      refine ⟨.ref a, rfl, rfl, ec, dd, _, v, ed, hd, rfl, by show 2 ≤ sizeLine; decide, fun p hp => ?_⟩
      have hq := k p hp
      rw [← hrt] at hq
      exact hq
section
open LamX
theorem ref_gives {X : Cx} {x q : Str} {sg : Scope} {g : Addr} {cdg : Value} {h0 : ExceptHandler} {hds : List ExceptHandler} {cs : List (Addr × Str)} {a : Str} {j1 j2 : Nat} {k3 : Nat} {p1 p2 p3 pt q1 q2 q3 q4 : Pos} (nd : (["ask", "e"] : List Str).Nodup)
    (hl : sg.names.lookup (PySem.Str.ofString "e") = some NameKind.local)
    (hh : ∀ (s : Shared) (H : Hp), HdsN (cxOf C8.CX0 X.prog X.w X.K X.mg X.base ["ask", "e"] x sg g cdg X.A X.stack s H C8.E0).nox "e" (h0 :: hds) (hdL cs)) :
    GivesTo X ["ask", "e"] x sg g cdg [.Try [.Expr (.Call (.Name a p1) [] [] p2) p3] (h0 :: hds) [] [] pt, .Return (some (.Tuple [.Constant (.str "") j1 q1, .Constant .none j2 q2] k3 q3)) q4] a q (TRef X.K cs) := by
  intro f c' s H Q tl act hc h
  refine ⟨_, pss_cons (ps_try_manyN (X := (cxOf C8.CX0 X.prog X.w X.K X.mg X.base ["ask", "e"] x sg g cdg X.A X.stack s H C8.E0).nox) (i := 1)
      (tb := fun W De σ H => ∃ Ech : XK, (∀ cls d σ' H', Ech cls d H' → W cls d σ' H') ∧ σ[0]? = some (some (.ref f)) ∧ H c' = some (CodeO c' q) ∧ tl Ech H (fun _ H1 => De.nx σ H1))
      rfl rfl nd rfl hl L2.takes0 (fun W pn xe tk _ => ?_) (hh s H)) (pss_one (ps_ret (pe_tup (pa_cons pe_str (pa_cons pe_non pa_nil))))), ?_⟩
  · refine ⟨fun pins s' σ H' De I h' => ?_⟩
    obtain ⟨Ech, hW, h1, h2, h3⟩ := h'
    exact (pss_one (ps_expr (pos := p3) (act W pn xe Ech p1 p2 tk hW))).run pins s' σ H' De I ⟨h1, h2, h3⟩
  · exact ⟨EchR X.K Q cs, fun cls d σ' H' he hlen => ech_many rfl hlen he, rfl, hc, by
      refine (show tl (EchR X.K Q cs) H (fun _ H1 => (2 : Nat) ≤ sizeLine ∧ ∀ p, H1 p = none → Q (.ref p) (upd H1 p (.tup [.str "", .non]))) from ?_)
      have e : (fun (_ : V) (H1 : Hp) => (2 : Nat) ≤ sizeLine ∧ ∀ p, H1 p = none → Q (.ref p) (upd H1 p (.tup [.str "", .non]))) = fun _ H1 => ∀ p, H1 p = none → Q (.ref p) (upd H1 p (.tup [.str "", .non])) := by
        funext _ H1
        exact propext ⟨fun z => z.2, fun z => ⟨by decide, z⟩⟩
      rw [e]
      exact h⟩
end
end Dl

set_option Elab.async false
set_option linter.all false
set_option maxRecDepth 100000
set_option maxHeartbeats 4000000
/-! Dlam: a lambda handed to the def that asks it, as data; the end of a law. -/
namespace Dl
open PySem PySem.Spec PyProof.Rows L2 LamX
/-- all but the table at P stays -/
def ExtP (P : Addr) (H H1 : Hp) : Prop := ∀ b o, b ≠ P → H b = some o → H1 b = some o
section
variable {X : Cx} {pins : List (Addr × Obj)} {σ : L2.St} {H : Hp} {s : Shared}
/-- a lambda is made; what was tracked stays, but for the one table -/
theorem lam_mk {c P : Addr} {params : Arguments} {body : Expr} {scope : Scope} {pos : Pos} {E : Value → Shared → Prop} {Q : Value → Shared → Prop} (I : Inv X pins σ H s) (TB : TabB X.base X.mg c P) (hcode : X.env.code = .ref c)
    (hT : TabS H P (X.env.qual ++ "<lambda>")) (hdef : defaultsOf params X.env = ([], [])) (hfree : ∀ y ∈ scope.names, y.2 = .free → ∃ c, X.env.cells.lookup y.1 = some c)
    (h : ∀ (f c' : Addr) (pm ctv : Value) (H1 : Hp) (s' : Shared), Inv X pins σ H1 s' → ExtP P H H1 → TabS H1 P (X.env.qual ++ "<lambda>") →
      s'.heap.get? f = some (PySem.W.kla_obj "<lambda>" (X.env.qual ++ "<lambda>") params body scope (cloFrom X.env.cells scope.names []) pm c' ctv) → H1 f = none → f ∉ frs X.stack → H1 c' = some (CodeO c' (X.env.qual ++ "<lambda>")) → Q (.ref f) s') :
    wpAny (model X.prog X.w) X.A (eval (.Lambda params body scope pos) X.env) Q E s := by
  obtain ⟨ps, hP, ht, ha⟩ := hT
  have here : s.heap.get? P = some { cls := .none, data := .fields ps } := I.hok P _ hP
  have bP : s.heap.BuiltinsAt X.mg P := TB.bm.keeps I.bk
  have nofr : ∀ f, s.heap.objs.size ≤ f → f ∉ frs X.stack := fun f hf z => (List.mem_cons.mp (I.stkSub _ z)).elim (fun e => by
    have h1 := I.lt
    rw [← e] at h1
    exact Nat.lt_irrefl _ (Nat.lt_of_lt_of_le h1 hf)) fun e => I.nofs hf e
  refine PySem.W.kla_eval hdef ?_
  cases hc : codeAmong pos ps.toList with
  | some cv =>
    obtain ⟨c', rfl, hco⟩ := ha pos cv hc
    exact PySem.W.kla_makeFunctionHit (mg := X.mg) (c := c) (P := P) (ps := ps) (closure_ok hfree) I.ok.glob (I.mod.glob.keeps I.bk) hcode (TB.code.keeps I.bk) here ht hc bP fun ctv h' tk hx hsz =>
      h h'.objs.size c' _ ctv H _ (I.kept (t' := tk) fun b o e => Heap.get?_push_of_some _ (hx b o e)) (fun _ _ _ e => e) ⟨ps, hP, ht, ha⟩ (Heap.get?_push_size _ rfl) (I.hok.fresh hsz) (nofr _ hsz) hco
  | none =>
    refine PySem.W.kla_makeFunction (mg := X.mg) (c := c) (P := P) (ps := ps) (closure_ok hfree) I.ok.glob (I.mod.glob.keeps I.bk) hcode (TB.code.keeps I.bk) here ht hc TB.gP bP fun c' ctv h' tk hx hge hlt hrec htb => ?_
    obtain ⟨c2, oc, vs, t, e2, hoc, hd, hv⟩ := hrec
    cases e2
    have hsz : s.heap.objs.size ≤ h'.objs.size := Nat.le_of_lt (Nat.lt_of_le_of_lt hge hlt)
    have nC : H c' = none := I.hok.fresh hge
    have nPc : P ≠ c' := ne_of_none hP nC
    have J := inv_table (t' := tk) (more := #[rawInt pos.line, rawInt pos.col, .ref c']) (h' := h'.push (PySem.W.kla_obj "<lambda>" (X.env.qual ++ "<lambda>") params body scope (cloFrom X.env.cells scope.names []) ((X.mg "__name__").getD .none) c' ctv)) I hP
      (fun b o hb e => Heap.get?_push_of_some _ (hx b o hb e)) (Heap.get?_push_of_some _ htb) hge ⟨oc, vs, t, Heap.get?_push_of_some _ hoc, hd, hv⟩
    have hE : ExtP P H (upd (upd H P (.tbl (ps ++ #[rawInt pos.line, rawInt pos.col, .ref c']))) c' (CodeO c' (X.env.qual ++ "<lambda>"))) := fun b o nb e => by
      rw [upd_ne (ne_of_none e nC), upd_ne nb]
      exact e
    have eL : (ps ++ #[rawInt pos.line, rawInt pos.col, .ref c']).toList = ps.toList ++ [rawInt pos.line, rawInt pos.col, .ref c'] := by simp
    refine h h'.objs.size c' _ ctv _ _ J hE ⟨_, by rw [upd_ne nPc, upd_same], by rw [eL]; exact PySem.TriplesOk_snoc _ _ _ _ ht, fun p' cv hcv => ?_⟩ (Heap.get?_push_size _ rfl) ?_ (nofr _ hsz) upd_same
    · rw [eL] at hcv
      rcases among_app _ ht hcv with z | z
      · obtain ⟨c0, e1, e2⟩ := ha p' cv z
        exact ⟨c0, e1, hE _ _ (fun q => codeO_ne ps (Option.some.inj (e2.symm.trans (q ▸ hP)))) e2⟩
      · exact ⟨c', z, upd_same⟩
    · have n1 : h'.objs.size ≠ c' := Nat.ne_of_gt hlt
      have n2 : h'.objs.size ≠ P := Nat.ne_of_gt (Nat.lt_of_lt_of_le (Heap.lt_size here) hsz)
      rw [upd_ne n1, upd_ne n2]
      exact I.hok.fresh hsz
end
def tLamP (P : Addr) (q : Str) (TT : (XK → Hp → VK → Prop) → Hp → VK → Prop) (t : XK → TE) : TE := fun σ H Q => TabS H P q ∧ ∀ H1, ExtP P H H1 → TabS H1 P q → TT (fun E H' Q' => t E σ H' Q') H1 Q
/-- what a law's body knows of the def that asks lambdas, and of its own table -/
structure AskOk (X : Cx) (x a : Str) (Ng : List Str) (g c P : Addr) (TT : (XK → Hp → VK → Prop) → Hp → VK → Prop) : Prop where
  gm : X.mg x = some (.ref g)
  gk : PySem.W.keepIn X.K (.ref g) = true
  fn : ∃ (pg : Arguments) (bg : List Stmt) (sg : Scope) (dV kV doc pm cdv ct oc : Value) (an od : Option Addr) (osl : Array (Option Value)), X.K.lookup g = some ⟨oc, od, .func (PySem.W.fnOf x x pg bg sg dV kV doc pm an cdv ct), osl⟩ ∧ PySem.W.codeIn X.K cdv x = true ∧
    L2.Binds X.K (PySem.W.fnOf x x pg bg sg dV kV doc pm an cdv ct) [a] [] ∧ FnScope Ng [a] sg ∧ Vis sg a ∧ GivesTo X Ng x sg g cdv bg a (X.env.qual ++ "<lambda>") TT
  g0 : Ng[0]? = some a
  tb : TabB X.base X.mg c P
  code : X.env.code = .ref c
  d1 : (x == ("__debug__" : Str)) = false
  d2 : (a == ("__debug__" : Str)) = false
  d3 : (a == ("__classdict__" : Str)) = false
section
variable {X : Cx}
/-- x(lambda: body) -/
theorem pe_lam {TT : (XK → Hp → VK → Prop) → Hp → VK → Prop} {x a : Str} {g c P : Addr} {k : Nat} {Ng : List Str} {params : Arguments} {body : Expr} {scope : Scope} {t : XK → TE} {p lpos pos : Pos} (O : AskOk X x a Ng g c P TT) (hg : Gl X x) (hr : Room (k + 2) X.A) (L : LamS X.env.scope scope) (hdef : defaultsOf params X.env = ([], []))
    (hbind : ∀ (q : Str) (cl : List (Str × Addr)) (pm cv ctv : Value), bindArgs (PySem.W.kla_fn "<lambda>" q params body scope cl pm cv ctv) ⟨[], []⟩ = pure [])
    (hbody : ∀ (A : Around) (outer : List PySem.Env) (s : Shared) (H : Hp) (E : XK) (f c' : Addr), Room k (A.deeper (lamEnv X scope s.heap.objs.size f c')) → PE (lamCx X A outer s H E scope f c') body (t E)) :
    PE X (.Call (.Name x p) [.Lambda params body scope lpos] [] pos) (tLamP P (X.env.qual ++ "<lambda>") TT t) := by
  refine ⟨fun pins s σ H Q I ⟨hT, h⟩ => ?_⟩
  obtain ⟨pg, bg, sg, dV, kV, doc, pm, cdv, ct, oc, an, od, osl, lk, hcg, hb, Sg, hva, hG⟩ := O.fn
  refine wpAny_Call_Name_kw (ld_glob I hg O.gm ?_ O.d1)
  refine PySem.W.callWith_K (h₀ := X.base) I.ok.mod.kin O.gk ?_ (by rfl) (by rfl)
  show wpAny _ _ (spliced ((false, eval (.Lambda params body scope lpos) X.env) :: backTo pos (starEach [] X.env))) _ _ s
  refine Calls.spliced_cons (lam_mk I O.tb O.code hT hdef (L.has I.ok) fun f c' pm' ctv H1 s' J eN T1 hf hfn hfr hco => Calls.spliced_nil ⟨J.kIn, ?_⟩)
  refine wpAny_call (codeAny_mono (run_ofS (CX := C8.CX0) (Q := Q) (E := C8.E0) (N := Ng) (ps := [a]) (us := [.ref f]) (vs := [.ref f]) lk hcg Sg hr J.env0 (hb s' [.ref f] J.kIn rfl) (.cons rfl .nil) rfl fun hr' => ?_) fun r s2 hq => ?_)
  · obtain ⟨t', ht', hq'⟩ := hG f c' s' H1 Q (fun E H' Q' => t E σ H' Q') (fun W pn xe E p1 p2 tk hW => pe_act (i := 0) J L hf hfn hfr (hbind _ _ _ _ _) tk hW hr' (fun A outer s H hr2 => hbody A outer s H E f c' hr2) O.g0 hva O.d2 O.d3) hco (h H1 eN T1)
    exact ⟨t', ht'.nox, hq'⟩
  · cases r with
    | error e => exact (show False from hq).elim
    | ok fl =>
      cases fl with
      | ret u => exact J.after hq
      | next => exact False.elim hq
      | brk => exact False.elim hq
      | cont => exact False.elim hq
end
/-! ### as data -/
/-- what a lambda's body does: a value, or an error -/
def EvX (S : Cf) (t : XK → TE) (ρ : Rho) (Pok : Sl → Prop) (Pex : Addr → D → Prop) : Prop := ∀ (σ : L2.St) (G H : Hp), Kn S.fx G H → Env S G H σ ρ → ∀ (E : XK) (Q : VK),
  (∀ v s G' H', Grow S.fx G H G' H' → Kn S.fx G' H' → Pok s → RS S.K G' v s → Q v H') →
  (∀ C d dd v G' H', Grow S.fx G H G' H' → Kn S.fx G' H' → H' dd = some (.xd [("value", v)]) → R S.K G' v d → Pex C d → E (.ref C) (some dd) H') → t E σ H Q
/-- the word that the clauses tell of the class at C -/
def Told (K : PySem.W.Frag) (C : Addr) (w : Str) : List (Addr × Str) → Prop
  | [] => False
  | (C', w') :: r => ∃ b, PySem.W.exmOne K (.ref C) (.ref C') = some b ∧ (b = true → C = C' ∧ w = w') ∧ (b = false → Told K C w r)
section
variable {S : Cf} {ρ : Rho} {Pok : Sl → Prop} {Pex : Addr → D → Prop} {ι : Type} {args : ι → List Sl} {pre : ι → Prop} {post : ι → Re → Prop} {ta : TA}
theorem evx_callP {Pa : List Sl → Prop} (ha : EvA S ta ρ Pa) (h : ∀ ss, Pa ss → ∃ i, ss = args i ∧ pre i ∧ (∀ s, post i (.ok s) → Pok s) ∧ (∀ C d, post i (.ex C d) → Pex C d)) : EvX S (fun E => tCall (spI S.K fx0 args pre post) [] E ta) ρ Pok Pex := fun σ G H k e E Q q1 q2 =>
  ha σ G H k e _ fun vs ss G1 H1 g1 k1 p1 r1 => by
    obtain ⟨i, e1, hp, ho, hx⟩ := h ss p1
    subst e1
    rw [List.append_nil]
    refine ⟨i, G1, hp, k1.low, r1, fun v s G2 H2 g2 k2 r2 po => ?_, fun C d dd v G2 H2 g2 k2 hd r2 po => ?_⟩
    · exact q1 v s G2 H2 (g1.trans k1 (k1.lift g2) g2.lift) (k1.lift g2) (ho s po) r2
    · exact q2 C d dd v G2 H2 (g1.trans k1 (k1.lift g2) g2.lift) (k1.lift g2) hd r2 (hx C d po)
theorem evx_call (i : ι) (ha : EvA S ta ρ (Eq (args i))) (hp : pre i) (ho : ∀ s, post i (.ok s) → Pok s) (hx : ∀ C d, post i (.ex C d) → Pex C d) : EvX S (fun E => tCall (spI S.K fx0 args pre post) [] E ta) ρ Pok Pex := evx_callP ha fun ss e => ⟨i, e.symm, hp, ho, hx⟩
/-- the def that the j-th slot holds -/
theorem evx_callL {j : Nat} {f : Addr} (i : ι) (hj : ρ[j]? = some (.raw (.ref f))) (ha : EvA S ta ρ (Eq (args i))) (hp : pre i) (ho : ∀ s, post i (.ok s) → Pok s) (hx : ∀ C d, post i (.ex C d) → Pex C d) :
    EvX S (fun E => tCallL j f (spI S.K fx0 args pre post) [] E ta) ρ Pok Pex := fun σ G H k e E Q q1 q2 => by
  obtain ⟨v, h1, e'⟩ := e.get hj
  have e2 : v = .ref f := Option.some.inj e'
  subst e2
  exact ⟨h1, evx_call i ha hp ho hx σ G H k e E Q q1 q2⟩
theorem told_ech {K : PySem.W.Frag} {Q : VK} {C dd : Addr} {v : V} {w : Str} {H : Hp} (hd : H dd = some (.xd [("value", v)])) (q : ∀ p, H p = none → Q (.ref p) (upd H p (.tup [.str w, v]))) : ∀ {cs : List (Addr × Str)}, Told K C w cs → EchR K Q cs (.ref C) (some dd) H
  | [], h => h.elim
  | (C', w') :: r, h => by
    obtain ⟨b, h1, h2, h3⟩ := h
    refine ⟨b, h1, fun hb => ?_, fun hb => told_ech hd q (h3 hb)⟩
    obtain ⟨e1, e2⟩ := h2 hb
    subst e1 e2
    exact ⟨rfl, dd, v, rfl, hd, q⟩
/-- x(lambda: ..), x telling the error -/
theorem ev_lam {P : Addr} {q : Str} {cs : List (Addr × Str)} {t : XK → TE} {Pp : Sl → Prop} (hT : ∀ H, S.fx.inv H → TabS H P q) (hv : S.fx.vol P) (hI : ∀ H H1, S.fx.inv H → ExtP P H H1 → TabS H1 P q → S.fx.inv H1)
    (h : EvX S t ρ Pok Pex) (h1 : ∀ s, Pok s → Pp (.dat (.tuple [.str "", .none]))) (h2 : ∀ C d, Pex C d → ∃ w, Told S.K C w cs ∧ Pp (.dat (.tuple [.str w, d]))) : Ev S (tLamP P q (TRef S.K cs) t) ρ Pp := fun σ G H k e Q qq => by
  refine ⟨hT H k.inv, fun H1 eP T1 => ?_⟩
  have gP : G P = none := k.vn P hv
  have k1 : Kn S.fx G H1 := ⟨fun b o hb => eP b o (fun z => by rw [z, gP] at hb; cases hb) (k.gh b o hb), hI H H1 k.inv eP T1, k.vn⟩
  have g1 : Grow S.fx G H G H1 := ⟨Same.refl G, k1.gh, fun b o nv hb => eP b o (fun z => nv (z ▸ hv)) hb, fun _ _ _ _ n => n⟩
  refine h σ G H1 k1 (e.grow g1) _ _ (fun v s G2 H2 g2 k2 p2 r2 p hp => ?_) fun C d dd v G2 H2 g2 k2 hd r2 p2 => ?_
  · have g3 := Grow.new k2 (.tup [.str "", .non]) hp
    have k3 := Kn.new k2 (.tup [.str "", .non]) hp
    exact qq _ _ _ _ ((g1.trans k1 k2 g2).trans k2 k3 g3) k3 (h1 s p2) (.tup (SqT.of upd_same) (.cons (.str _) (.cons .non .nil)))
  · obtain ⟨w, tw, pw⟩ := h2 C d p2
    refine told_ech hd (fun p hp => ?_) tw
    have g3 := Grow.new k2 (.tup [.str w, v]) hp
    have k3 := Kn.new k2 (.tup [.str w, v]) hp
    exact qq _ _ _ _ ((g1.trans k1 k2 g2).trans k2 k3 g3) k3 pw (.tup (SqT.of upd_same) (.cons (.str _) (.cons (r2.mono g3.gg) .nil)))
end
end Dl

set_option Elab.async false
set_option linter.all false
set_option maxRecDepth 100000
set_option maxHeartbeats 4000000
/-! Dend: the end of a law whose own body makes lambdas; what runs around the law is known (no repr is under way). -/
namespace Dl
open PySem PySem.Spec PyProof.Rows L2 LamX
/-- the law's run, from any abstract heap that holds its own table and the script -/
def LawRun (P : Program) (w : World) (K : PySem.W.Frag) (mg : Str → Option Value) (fa c T : Addr) : Prop :=
  ∀ (base : Heap) (H : Hp) (s : Shared) (a : Addr) (ns : List Int), K.In base → base.Ns mainGlobals mg → TabB base mg c T → Env0 P w K mg base callerA [] s H → H T = some (.tbl #[]) → a ≠ T →
    SqL K H a (ns.map V.int) → ns.length ≤ 63 → (∀ z ∈ ns, Builtin.Int.intBits z ≤ 1048576) →
    codeAny (model P w) callerA (.call (.ref fa) ⟨[.ref a], []⟩) (CR (L2.CX P w) [] P w H s (fun v _ => v = .bl true) (fun _ _ _ => False)) s
theorem law_call1 {P : Program} {w : World} {K : PySem.W.Frag} {mg mb : Str → Option Value} {fa a c T : Addr} {s1 : Shared} {vs : List Value} {ns : List Int} (KX : K.In s1.heap) (hns : s1.heap.Ns mainGlobals mg) (hb : s1.heap.Ns builtinsNs mb)
    (hbb : ∀ x : Str, x ≠ "__name__" → mb x = bootBuiltins x) (hlim : s1.heap.NoLimit) (hg : s1.gens = #[]) (hT : s1.heap.get? T = some { cls := .none, data := .fields #[] }) (nT : K.lookup T = none) (C : PySem.W.CodeHd s1.heap c T)
    (hbm : ∃ (bm : Addr) (ob : Obj), mg "__builtins__" = some (.ref bm) ∧ bm ≠ builtinsNs ∧ s1.heap.get? bm = some ob ∧ ob.cls = .type "module" ∧ ob.dict = some builtinsNs ∧ ob.data = .plain)
    (ha : s1.heap.get? a = some { cls := .type "list", data := .seq vs.toArray }) (hi : IntsAre vs ns) (hl : ns.length ≤ 63) (hz : ∀ z ∈ ns, Builtin.Int.intBits z ≤ 1048576) (F : LawRun P w K mg fa c T) :
    codeAny (model P w) callerA (.call (.ref fa) ⟨[.ref a], []⟩) (fun r s' => r = .ok (.ret (.bool true)) ∧ OldK s1.heap s'.heap ∧ s'.os = s1.os ∧ AllBare s'.gens) s1 := by
  have lenV := hi.length
  have naT : a ≠ T := fun z => by
    rw [z, hT] at ha
    cases ha
  have hl' : ns.length ≤ sizeLine := Nat.le_trans hl (by decide)
  -- what is tracked: the table, and the script where the written part does not hold it
  let fo : HO := .frz { cls := .type "list", data := .seq vs.toArray } (.lst (ns.map V.int))
  let H : Hp := fun b => if b = T then some (.tbl #[]) else if b = a ∧ K.lookup a = none then some fo else none
  have HT : H T = some (.tbl #[]) := if_pos rfl
  have Hne : ∀ b, b ≠ T → b ≠ a → H b = none := fun b h1 h2 => (if_neg h1).trans (if_neg fun z => h2 z.1)
  have Hcases : ∀ b u, H b = some u → (b = T ∧ u = .tbl #[]) ∨ (b = a ∧ K.lookup a = none ∧ u = fo) := fun b u e => by
    by_cases h1 : b = T
    · have e' := (if_pos h1).symm.trans e
      exact .inl ⟨h1, (Option.some.inj e').symm⟩
    · have e1 := (if_neg h1).symm.trans e
      by_cases h2 : b = a ∧ K.lookup a = none
      · have e2 := (if_pos h2).symm.trans e1
        exact .inr ⟨h2.1, h2.2, (Option.some.inj e2).symm⟩
      · have e2 := (if_neg h2).symm.trans e1
        cases e2
  have hS : SqL K H a (ns.map V.int) := by
    cases hk : K.lookup a with
    | none => exact .inl (.inr ⟨_, (if_neg naT).trans (if_pos ⟨rfl, hk⟩)⟩)
    | some o =>
      have e := KX a o hk
      rw [ha] at e
      cases e
      exact .inr ⟨_, vs.toArray, _, hk, rfl, rfl, rfl, by rw [List.size_toArray, lenV]; exact hl', by simpa using vals_ints hi⟩
  have hok : HOk P w H s1.heap := fun b u e => by
    rcases Hcases b u e with ⟨rfl, rfl⟩ | ⟨rfl, _, rfl⟩
    · exact hT
    · exact ⟨ha, by rw [List.length_map]; exact hl', vs, _, vals_ints hi, ha⟩
  -- an object that is neither stays as it is in the base
  have kept : ∀ {b : Addr} {o : Obj}, s1.heap.get? b = some o → (∀ us n, o.data ≠ .seq us n) → o.data ≠ .fields #[] → H b = none := fun {b o} e h1 h2 => Hne b (fun z => by
    rw [z, hT] at e
    cases e
    exact h2 rfl) fun z => by
    rw [z, ha] at e
    cases e
    exact h1 _ _ rfl
  have noD : ∀ {b : Addr} {o : Obj} {es : Array DictEntry} {ep : Nat}, s1.heap.get? b = some o → o.data = .dict es ep → (hidT s1.heap H).get? b = some o := fun {b o es ep} e d => hidT_get e (kept e (fun us n z => by rw [d] at z; cases z) fun z => by rw [d] at z; cases z)
  have nsK : ∀ {b : Addr} {m : Str → Option Value}, s1.heap.Ns b m → (hidT s1.heap H).Ns b m := fun ⟨o, es, ep, e, d, r⟩ => ⟨o, es, ep, noD e d, d, r⟩
  have KB : K.In (hidT s1.heap H) := fun b o e => hidT_get (KX b o e) (by
    cases q : H b with
    | none => rfl
    | some u =>
      rcases Hcases b u q with ⟨rfl, _⟩ | ⟨rfl, hk, _⟩
      · rw [nT] at e
        cases e
      · rw [hk] at e
        cases e)
  have hM : L2.Mod K mg (hidT s1.heap H) := ⟨KB, nsK hns, ⟨mb, nsK hb, hbb⟩, let ⟨mc, h1, h2⟩ := hlim; ⟨mc, nsK h1, h2⟩⟩
  have TB : TabB (hidT s1.heap H) mg c T := by
    refine ⟨?_, ?_, fun z => ?_⟩
    · obtain ⟨o, us, file, tf, flags, tg, inF, text, tt, e1, r1, r2, r3, r⟩ := C
      refine ⟨o, us, file, tf, flags, tg, inF, text, tt, hidT_get e1 (kept e1 (fun x n z => by rw [r2] at z; cases z) fun z => ?_), r1, r2, r3, r⟩
      rw [r2] at z
      cases z
      simp at r3
    · obtain ⟨bm, ob, b1, b2, b3, b4, b5, b6⟩ := hbm
      refine ⟨bm, ob, b1, b2, fun q => ?_, fun q => ?_, hidT_get b3 (kept b3 (fun x n z => by rw [b6] at z; cases z) fun z => by rw [b6] at z; cases z), b4, b5, b6⟩
      · obtain ⟨o, es, ep, e, hd, _⟩ := hns
        rw [q, e] at b3
        cases b3
        rw [hd] at b6
        cases b6
      · rw [q, hT] at b3
        cases b3
        cases b6
    · obtain ⟨o, es, ep, e, hd, _⟩ := hns
      rw [z, hT] at e
      cases e
      cases hd
  have e0 : Env0 P w K mg (hidT s1.heap H) callerA [] s1 H := ⟨rfl, hM, fun b o e => of_hidT e, Nat.le_of_eq (hidT_size _ _), trivial, fun b hb => absurd (show b ∈ ([] : List Addr) from hb) (by simp), hok, .of_eq hg⟩
  refine codeAny_mono (F _ H s1 a ns KB (nsK hns) TB e0 HT naT hS hl hz) fun r s' h => ?_
  cases r with
  | error e =>
    obtain ⟨_, _, _, _, _, _, _, _, _, _, _, _, z⟩ := (show L2.CX P w [] H s1 (fun _ _ _ => False) e s' from h)
    exact z.elim
  | ok fl =>
    cases fl with
    | next => exact False.elim h
    | brk => exact False.elim h
    | cont => exact False.elim h
    | ret u =>
      obtain ⟨v, H', os, bare, un, hok', rv, q⟩ := h
      have qv : v = .bl true := q
      subst qv
      obtain rfl : u = Value.bool true := rv
      have stay : ∀ b o, b ≠ T → s1.heap.get? b = some o → s'.heap.get? b = some o := fun b o nb e => by
        cases q : H b with
        | none => exact un.keep b o e q (fun z => absurd (show b ∈ ([] : List Addr) from z) (by simp)) (by simp)
        | some u =>
          rcases Hcases b u q with ⟨z, _⟩ | ⟨_, _, z⟩
          · exact absurd z nb
          · subst z
            obtain ⟨e1, _⟩ := hok b _ q
            obtain ⟨e2, _⟩ := hok' b _ (un.frzs b _ _ q)
            rw [e] at e1
            cases e1
            exact e2
      obtain ⟨more, hm⟩ := un.tbls T #[] HT
      have grown : s'.heap.get? T = some { cls := .none, data := .fields (#[] ++ more) } := hok' T _ hm
      rw [Array.empty_append] at grown
      refine ⟨rfl, ⟨fun b o e => ?_, fun b o e => ?_⟩, os, bare⟩
      · by_cases z : b = T
        · subst z
          rw [hT] at e
          cases e
          exact .inr (.inl ⟨(C.tab hT).isCodeTable, rfl, #[], more, rfl, by rw [Array.empty_append]; exact grown⟩)
        · exact .inl (stay b o z e)
      · by_cases z : b = T
        · exact ⟨_, z ▸ grown⟩
        · exact ⟨o, stay b o z e⟩
/-- the facts of the law's own function, code and table -/
structure LawFn (K : PySem.W.Frag) (fa c T : Addr) : Prop where
  fn : ∃ (oc : Value) (od : Option Addr) (fd : FuncData) (sl : Array (Option Value)), K.lookup fa = some ⟨oc, od, .func fd, sl⟩ ∧ fd.code = .ref c
  cd : ∃ (e : Value) (dd : Option Addr) (vs : Array Value) (sl : Array (Option Value)), K.lookup c = some ⟨e, dd, .fields vs, sl⟩ ∧ vs[11]? = some (.ref T)
  hd : PySem.W.codeHdIn K c T = true
  no : K.lookup T = none
theorem walk_end {l : PySem.W.OpenLaw} {q : Program} {loose : List Str} {XP : (Str → Option Value) → Heap → Prop} {YP : World → Heap → Prop} {d : DefRec} {K : Params → PySem.W.Frag} (hn : l.most = some 63) (hdf : d.params.defaults = []) (hrec : ((recsOf q).any fun e => e.name == d.name) = true)
    (hY : ∀ (w : World) (h : Heap), YP w h → (K w.params).In h)
    (F : ∀ (w : World) (mg : Str → Option Value) (fa : Addr) (h : Heap), (K w.params).In h → h.Ns mainGlobals mg → mg d.name = some (.ref fa) → ∃ c T, LawFn (K w.params) fa c T ∧ LawRun l.prog w (K w.params) mg fa c T) :
    PySem.W.WalkO q loose XP YP l.row.toRowW d [] (fun f vs => PySem.call f vs) := by
  refine Att.attach_callB hn hdf fun w s₀ s1 mg mb fa o pm cd doc a vs ns G Y ho hd hcd hmg hobj hints hlen hbits hg => ?_
  have KX := hY w _ Y
  obtain ⟨c, T, ⟨⟨oc, od, fd, sl, k1, k2⟩, ⟨e, dd, cvs, csl, k4, k5⟩, k6, k7⟩, run⟩ := F w mg fa _ KX G.T.g hmg
  have hT : s1.heap.get? T = some { cls := .none, data := .fields #[] } := by
    obtain ⟨dL, hm, hn1⟩ := List.any_eq_true.mp hrec
    have hn2 : dL.name = d.name := beq_iff_eq.mp hn1
    obtain ⟨a', o', fd', c', P', h1, h2, h3, h4, h5, ⟨oc2, vc, e1, _, e3, e4⟩, hP⟩ := G.T.tab dL hm
    rw [hn2, hmg] at h1
    cases h1
    rw [KX _ _ k1] at h2
    cases h2
    cases h3
    rw [k2] at h4
    cases h4
    rw [KX _ _ k4] at e1
    cases e1
    cases e3
    rw [k5] at e4
    cases e4
    exact hP
  exact law_call1 KX G.T.g G.T.b G.T.builtins G.T.nolimit hg hT k7 (PySem.W.codeHd_of_K KX k6) G.T.bmain hobj hints hlen hbits run
/-- the run, by the body -/
theorem law_run {P : Program} {w : World} {K : PySem.W.Frag} {mg : Str → Option Value} {fa c T : Addr} {st : Stmt} {fd : FuncData} {N : List Str} {k : Nat} (F : Fun K "law" "law" st fa fd) (hc : fd.code = .ref c) (Sc : FnScope N ["script"] (defScope st)) (hb : Binds K fd ["script"] []) (hr : Room (k + 1) callerA)
    (hbody : ∀ (base : Heap) (s : Shared) (H : Hp) (a : Addr) (ns : List Int), K.In base → base.Ns mainGlobals mg → TabB base mg c T → Room k (callerA.deeper (envOfC "law" (defScope st) s.heap.objs.size fa (.ref c))) → H T = some (.tbl #[]) → a ≠ T → SqL K H a (ns.map V.int) → ns.length ≤ 63 → (∀ z ∈ ns, Builtin.Int.intBits z ≤ 1048576) →
      ∃ t, PSs (cxOf (L2.CX P w) P w K mg base N "law" (defScope st) fa (.ref c) callerA [] s H (fun _ _ _ => False)) (defBody st) t ∧ t { nx := fun _ H' => V.non = .bl true, rt := fun v _ => v = .bl true } (L2.start N [.ref a]) H) : LawRun P w K mg fa c T := by
  intro base H s a ns KB hG TB e0 HT naT hS hl hz
  obtain ⟨oc, od, kV, doc, pm, an, cdv, ct, osl, rfl, lk, hcd⟩ := F.ex
  have hc' : cdv = .ref c := hc
  subst hc'
  refine run_ofS (N := N) (ps := ["script"]) (us := [.ref a]) (vs := [.ref a]) lk hcd Sc hr e0 (hb s [.ref a] (e0.mod.kin.keeps fun b o e => (e0.bs b o e).1) rfl) (.cons rfl .nil) rfl fun hr' => ?_
  exact hbody base s H a ns KB hG TB hr' HT naT hS hl hz
end Dl

set_option Elab.async false
set_option linter.all false
set_option maxRecDepth 100000
set_option maxHeartbeats 4000000
/-! Dlu: short words. -/
namespace Dl
open PySem PySem.Spec PyProof.Rows L2
section
variable {S : Cf} {ρ : Rho} {te ta tb tc td : TE} {x y z u : D}
theorem ev_tup1 (h1 : Ev S ta ρ (Eq (.dat x))) : Ev S (tTup (tCons ta tNil)) ρ (Eq (.dat (.tuple [x]))) := ev_tup (ds := [x]) (ea_cons h1 ea_nil) (by simp)
theorem ev_tup2 (h1 : Ev S ta ρ (Eq (.dat x))) (h2 : Ev S tb ρ (Eq (.dat y))) : Ev S (tTup (tCons ta (tCons tb tNil))) ρ (Eq (.dat (.tuple [x, y]))) := ev_tup (ds := [x, y]) (ea_cons h1 (ea_cons h2 ea_nil)) (by simp)
theorem ev_tup3 (h1 : Ev S ta ρ (Eq (.dat x))) (h2 : Ev S tb ρ (Eq (.dat y))) (h3 : Ev S tc ρ (Eq (.dat z))) : Ev S (tTup (tCons ta (tCons tb (tCons tc tNil)))) ρ (Eq (.dat (.tuple [x, y, z]))) := ev_tup (ds := [x, y, z]) (ea_cons h1 (ea_cons h2 (ea_cons h3 ea_nil))) (by simp)
theorem ev_tup4 (h1 : Ev S ta ρ (Eq (.dat x))) (h2 : Ev S tb ρ (Eq (.dat y))) (h3 : Ev S tc ρ (Eq (.dat z))) (h4 : Ev S td ρ (Eq (.dat u))) : Ev S (tTup (tCons ta (tCons tb (tCons tc (tCons td tNil))))) ρ (Eq (.dat (.tuple [x, y, z, u]))) :=
  ev_tup (ds := [x, y, z, u]) (ea_cons h1 (ea_cons h2 (ea_cons h3 (ea_cons h4 ea_nil)))) (by simp)
theorem ev_lst0 : Ev S (tLst tNil) ρ (Eq (.dat (.list []))) := ev_lst (ds := []) ea_nil (by decide)
theorem ea_datP {tr : TA} {x : D} {ds : List D} (h : Ev S ta ρ (Eq (.dat x))) (hr : EvA S tr ρ (Eq (ds.map Sl.dat))) : EvA S (tCons ta tr) ρ (Eq ((x :: ds).map Sl.dat)) := ea_cons h hr
theorem ea_dat0 : EvA S tNil ρ (Eq (([] : List D).map Sl.dat)) := ea_nil
/-! ints compared by == and != -/
theorem eqv_int (i j : Int) : PyData.eqv (.int i) (.int j) = decide (i = j) := by
  simp only [PyData.eqv]
  rfl
theorem ev_eqI {i j : Int} (h1 : Ev S ta ρ (Eq (.dat (.int i)))) (h2 : Ev S tb ρ (Eq (.dat (.int j)))) : Ev S (tOp (rEqD S.K) ta tb) ρ (Eq (.dat (.bool (decide (i = j))))) := (ev_eqD h1 h2 rfl rfl).cast (by rw [eqv_int])
theorem ev_neI {i j : Int} (h1 : Ev S ta ρ (Eq (.dat (.int i)))) (h2 : Ev S tb ρ (Eq (.dat (.int j)))) : Ev S (tOp (rNeD S.K) ta tb) ρ (Eq (.dat (.bool (!decide (i = j))))) := (ev_neD h1 h2 rfl rfl).cast (by rw [eqv_int])
theorem ev_isB {b b' : Bool} (h : Ev S ta ρ (Eq (.dat (.bool b)))) (e : b = b') : Ev S ta ρ (Eq (.dat (.bool b'))) := e ▸ h
/-! isinstance -/
def dInt : D → Bool
  | .int _ => true
  | .bool _ => true
  | _ => false
def dBool : D → Bool
  | .bool _ => true
  | _ => false
def dStr : D → Bool
  | .str _ => true
  | _ => false
def dList : D → Bool
  | .list _ => true
  | _ => false
def dTuple : D → Bool
  | .tuple _ => true
  | _ => false
def dDict : D → Bool
  | .dict _ => true
  | _ => false
theorem ev_isInt {d : D} (h : Ev S te ρ (Eq (.dat d))) : Ev S (tCB (rIsY S.K) (tCons te (tCons (tC (.ty "int")) tNil))) ρ (Eq (.dat (.bool (dInt d)))) := ev_isi h (by cases d <;> kernel_rfl)
theorem ev_isBool {d : D} (h : Ev S te ρ (Eq (.dat d))) : Ev S (tCB (rIsY S.K) (tCons te (tCons (tC (.ty "bool")) tNil))) ρ (Eq (.dat (.bool (dBool d)))) := ev_isi h (by cases d <;> kernel_rfl)
theorem ev_isStr {d : D} (h : Ev S te ρ (Eq (.dat d))) : Ev S (tCB (rIsY S.K) (tCons te (tCons (tC (.ty "str")) tNil))) ρ (Eq (.dat (.bool (dStr d)))) := ev_isi h (by cases d <;> kernel_rfl)
theorem ev_isList {d : D} (h : Ev S te ρ (Eq (.dat d))) : Ev S (tCB (rIsY S.K) (tCons te (tCons (tC (.ty "list")) tNil))) ρ (Eq (.dat (.bool (dList d)))) := ev_isi h (by cases d <;> kernel_rfl)
theorem ev_isTuple {d : D} (h : Ev S te ρ (Eq (.dat d))) : Ev S (tCB (rIsY S.K) (tCons te (tCons (tC (.ty "tuple")) tNil))) ρ (Eq (.dat (.bool (dTuple d)))) := ev_isi h (by cases d <;> kernel_rfl)
theorem ev_isDict {d : D} (h : Ev S te ρ (Eq (.dat d))) : Ev S (tCB (rIsY S.K) (tCons te (tCons (tC (.ty "dict")) tNil))) ρ (Eq (.dat (.bool (dDict d)))) := ev_isi h (by cases d <;> kernel_rfl)
theorem ev_isTL {d : D} (h : Ev S te ρ (Eq (.dat d))) : Ev S (tCB (rIsYT S.K) (tCons te (tCons (tTup (tCons (tC (.ty "tuple")) (tCons (tC (.ty "list")) tNil))) tNil))) ρ (Eq (.dat (.bool (dTuple d || dList d)))) := ev_isi2 h (by cases d <;> kernel_rfl) (by cases d <;> kernel_rfl)
theorem ev_isLT {d : D} (h : Ev S te ρ (Eq (.dat d))) : Ev S (tCB (rIsYT S.K) (tCons te (tCons (tTup (tCons (tC (.ty "list")) (tCons (tC (.ty "tuple")) tNil))) tNil))) ρ (Eq (.dat (.bool (dList d || dTuple d)))) := ev_isi2 h (by cases d <;> kernel_rfl) (by cases d <;> kernel_rfl)
theorem ev_andF (h : Ev S ta ρ (Eq (.dat (.bool false)))) : Ev S (tAndV ta tb) ρ (Eq (.dat (.bool false))) := ev_andV (a := false) (b := false) h fun z => by cases z
theorem ev_orT (h : Ev S ta ρ (Eq (.dat (.bool true)))) : Ev S (tOrV ta tb) ρ (Eq (.dat (.bool true))) := ev_orV (a := true) (b := true) h fun z => by cases z
theorem et_andF {tt uu : TT} (h : EvT S tt ρ (Eq false)) : EvT S (tAnd tt uu) ρ (Eq false) := et_and (a := false) (b := false) h fun z => by cases z
theorem et_orT {tt uu : TT} (h : EvT S tt ρ (Eq true)) : EvT S (tOr tt uu) ρ (Eq true) := et_or (a := true) (b := true) h fun z => by cases z
/-- all([e for x in xs]) -/
theorem ev_allMap {wi : TI} {g : TG} {vs : List Nat} {ds : List D} {p : D → Bool} (hi : Itm S wi ρ (Eq ds)) (hl : ds.length ≤ 1000000)
    (hs : ∀ d, d ∈ ds → ∃ js ρ2, (∀ j ∈ js, j ∈ vs) ∧ Tgt S g js d (wipeR ρ vs) ρ2 ∧ Ev S te ρ2 (Eq (.dat (.bool (p d))))) : Ev S (tCB (rAll S.K) (tCons (tLc wi g tYes te vs) tNil)) ρ (Eq (.dat (.bool (ds.all p)))) := by
  have h := (ef_map (f := fun d => .bool (p d)) hi hl hs).evE
  have e : ds.map (fun d => PyData.bool (p d)) = (ds.map p).map PyData.bool := by rw [List.map_map]; rfl
  rw [e] at h
  refine (ev_all h).cast ?_
  rw [List.all_map]
  rfl
/-! statements that follow one another -/
variable {P : Oc → Prop} {t w : TS} {g : TG} {tt : TT} {ts us : TS}
theorem xs_asg {i : Nat} {s : Sl} (h : Ev S te ρ (Eq s)) (k : Xc S w (ρ.set i s) P) : Xc S (tSeq (tAsg te (gName i)) w) ρ P := xc_seq (xc_asg h k)
theorem xs_asgP {i : Nat} {p : Sl → Prop} (h : Ev S te ρ p) (k : ∀ s, p s → Xc S w (ρ.set i s) P) : Xc S (tSeq (tAsg te (gName i)) w) ρ P := xc_seq (xc_asgP h k)
theorem xs_asgF {i : Nat} {p : List D → Prop} (h : EvF S te ρ p) (k : ∀ a ds, p ds → Xc S w (ρ.set i (.own a (.lst ds))) P) : Xc S (tSeq (tAsg te (gName i)) w) ρ P := xc_seq (xc_asgF h k)
theorem xs_asgT {js : List Nat} {d : D} {ρ1 : Rho} (h : Ev S te ρ (Eq (.dat d))) (ht : Tgt S g js d ρ ρ1) (k : Xc S w ρ1 P) : Xc S (tSeq (tAsg te g) w) ρ P := xc_seq (xc_asgT h ht k)
theorem xs_par {i j : Nat} {ta : TA} {x y : Sl} (h : EvA S ta ρ (Eq [x, y])) (k : Xc S w ((ρ.set i x).set j y) P) : Xc S (tSeq (tPar i j ta) w) ρ P := xc_seq (xc_par h k)
theorem xs_if {b : Bool} (h : EvT S tt ρ (Eq b)) (h1 : b = true → Xc S ts ρ (SeqP S w P)) (h2 : b = false → Xc S us ρ (SeqP S w P)) : Xc S (tSeq (tIfS tt ts us) w) ρ P := xc_seq (xc_if h h1 h2)
/-- if t: ..(out), then the rest -/
theorem xs_when {b : Bool} (h : EvT S tt ρ (Eq b)) (h1 : b = true → Xc S ts ρ (SeqP S w P)) (h2 : b = false → Xc S w ρ P) : Xc S (tSeq (tIfS tt ts tNext) w) ρ P := xc_seq (xc_if h h1 fun e => xc_next (h2 e))
theorem xs_whenP {p : Bool → Prop} (h : EvT S tt ρ p) (h1 : p true → Xc S ts ρ (SeqP S w P)) (h2 : p false → Xc S w ρ P) : Xc S (tSeq (tIfS tt ts tNext) w) ρ P := xc_seq (xc_ifP h h1 fun e => xc_next (h2 e))
theorem xs_dropP {p : Sl → Prop} (h : Ev S te ρ p) (k : ∀ s, p s → Xc S w ρ P) : Xc S (tSeq (tDrop te) w) ρ P := xc_seq (xc_dropP h k)
theorem xs_ret {s : Sl} (h : Ev S te ρ (Eq s)) (k : P (.rt ρ s)) : Xc S (tRet te) ρ (SeqP S w P) := xc_ret h k
theorem xc_retB {b b' : Bool} (h : Ev S te ρ (Eq (.dat (.bool b)))) (e : b = b') : Xc S (tRet te) ρ (RetP (Eq (.ok (.dat (.bool b'))))) := xc_ret h (e ▸ rfl)
theorem xc_retD {d d' : D} (h : Ev S te ρ (Eq (.dat d))) (e : d = d') : Xc S (tRet te) ρ (RetP (Eq (.ok (.dat d')))) := xc_ret h (e ▸ rfl)
theorem xs_aug {i : Nat} {f : Int → Int → Int} {a b : Int} (hx : ρ[i]? = some (.dat (.int a))) (h : Ev S te ρ (Eq (.dat (.int b)))) (k : Xc S w (ρ.set i (.dat (.int (f a b)))) P) : Xc S (tSeq (tAug i te (ipI f)) w) ρ P := xc_seq (xc_aug hx h k)
theorem xs_callX {ι : Type} {args : ι → List Sl} {pre : ι → Prop} {post : ι → Re → Prop} {ta : TA} (i : ι) (ha : EvA S ta ρ (Eq (args i))) (hp : pre i) (ho : ∀ s, post i (.ok s) → Xc S w ρ P) (hx : ∀ C d, post i (.ex C d) → P (.ex C d)) :
    Xc S (tSeq (tDrop (tCall (spI S.K fx0 args pre post) [] S.E ta)) w) ρ P := xc_seq (xc_callX i ha hp ho hx)
theorem xs_for {wi : TI} {tb : TS} {ds : List D} (hi : Itm S wi ρ (Eq ds)) (I : Nat → Rho → Prop) (h0 : I 0 ρ)
    (hs : ∀ i d ρ1, ds[i]? = some d → I i ρ1 → ∃ js ρ2, Tgt S g js d ρ1 ρ2 ∧ Xc S tb ρ2 (LoopP (I (i + 1)) (SeqP S w P))) (hd : ∀ ρ1, I ds.length ρ1 → Xc S w ρ1 P) : Xc S (tSeq (tFor wi g tb) w) ρ P := xc_seq (xc_forE hi I h0 hs hd)
theorem xs_while {tb : TS} (I : Nat → Rho → Prop) (m0 : Nat) (h0 : I m0 ρ)
    (hs : ∀ m ρ1, I m ρ1 → EvT S tt ρ1 (fun b => if b = true then Xc S tb ρ1 (LoopP (fun ρ2 => ∃ m', m' < m ∧ I m' ρ2) (SeqP S w P)) else Xc S w ρ1 P)) : Xc S (tSeq (tWhile tt tb) w) ρ P := xc_seq (xc_while I m0 h0 hs)
theorem xs_append {i : Nat} {a : Addr} {ds : List D} {p : D → Prop} (hx : ρ[i]? = some (.own a (.lst ds))) (h : Ev S te ρ (fun s => ∃ d, s = .dat d ∧ p d)) (hl : ds.length < 1000000) (k : ∀ d, p d → Xc S w (ρ.set i (.own a (.lst (ds ++ [d])))) P) :
    Xc S (tSeq (tDrop (tBM S.K "list" rAppend (tVar i) (tCons te tNil))) w) ρ P := xc_seq (xc_append hx h hl k)
end
/-! ### defs by name -/
structure Cal (P : Program) (w : World) (K : PySem.W.Frag) (mg : Str → Option Value) (base : Heap) (k : Nat) (x : Str) (ps : List Str) (sp : Sp) : Prop where
  ex : ∃ (f : Addr) (fd : FuncData), FnOk P w K mg base (L2.CX P w) k f fd ps sp ∧ mg x = some (.ref f) ∧ PySem.W.keepIn K (.ref f) = true ∧ Binds K fd ps []
/-- where the text's def stands -/
def Def (K : PySem.W.Frag) (mg : Str → Option Value) (x : Str) (st : Stmt) : Prop := ∃ (f : Addr) (fd : FuncData), Fun K x x st f fd ∧ mg x = some (.ref f)
section
variable {P : Program} {w : World} {K : PySem.W.Frag} {mg : Str → Option Value} {base : Heap}
theorem mk_cal {ι : Type} {args : ι → List Sl} {pre : ι → Prop} {post : ι → Re → Prop} {fx : Fx} {x : Str} {st : Stmt} {N ps : List Str} {k : Nat} (T : Def K mg x st) (Sc : FnScope N ps (defScope st)) (hl : ∀ i, (args i).length = ps.length)
    (hb : ∀ (kV doc pm : Value) (an : Option Addr) (cdv ct : Value) (us : List Value), us.length = ps.length → bindArgs (PySem.W.fnOf x x (defArgs st) (defBody st) (defScope st) .none kV doc pm an cdv ct) ⟨us, []⟩ = pure (ps.zip us))
    (body : ∀ (f : Addr) (cdv : Value) (A : Around) (outer : List PySem.Env) (s : Shared) (H : Hp) (E : XK), Room k (A.deeper (envOfC x (defScope st) s.heap.objs.size f cdv)) → ∀ (i : ι), pre i →
      ∃ t, PSs (cxOf (L2.CX P w) P w K mg base N x (defScope st) f cdv A outer s H E) (defBody st) t ∧ ∀ G : Hp, Xc ⟨K, fx, G, H, E⟩ t (args i ++ List.replicate (N.length - ps.length) .no) (RetP (post i)))
    (hm : ∀ a, ¬ fx.mine a := by exact fun _ h => h) : Cal P w K mg base (k + 1) x ps (spI K fx args pre post) := by
  obtain ⟨f, fd, F, hmg⟩ := T
  exact ⟨f, fd, fn_ok F Sc (fun i _ => hl i) (fun cdv A outer s H E => body f cdv A outer s H E) hm, hmg, F.kp, F.binds hb⟩
variable {X : Cx} {k : Nat} {x : Str} {ps : List Str} {sp : Sp} {p pos : Pos} {e : Expr} {es : List Expr} {t : TA}
theorem pe_cal (C : Cal X.prog X.w X.K X.mg X.base k x ps sp) (hr : Room k X.A) (hg : Gl X x) (ha : PA X (e :: es) t) (hdb : (x == ("__debug__" : Str)) = false := by decide) (he : starEach (e :: es) X.env = (false, eval e X.env) :: starEach es X.env := by rfl)
    (hpl : (backTo pos (starEach es X.env)).any (·.1) = false := by rfl) : PE X (.Call (.Name x p) (e :: es) [] pos) (tCall sp [] E0 t) := by
  obtain ⟨f, fd, F, hm, hk, hb⟩ := C.ex
  exact pe_call F hr hg hm hk hb .nil passL ha hdb he hpl
/-- .. that may raise what leaves this def too -/
theorem pe_calX {E : XK} (C : Cal X.prog X.w X.K X.mg X.base k x ps sp) (hr : Room k X.A) (hg : Gl X x) (ha : PA X (e :: es) t) (tk : Takes X (fun cls d _ H => E cls d H)) (hdb : (x == ("__debug__" : Str)) = false := by decide) (he : starEach (e :: es) X.env = (false, eval e X.env) :: starEach es X.env := by rfl)
    (hpl : (backTo pos (starEach es X.env)).any (·.1) = false := by rfl) : PE X (.Call (.Name x p) (e :: es) [] pos) (tCall sp [] E t) := by
  obtain ⟨f, fd, F, hm, hk, hb⟩ := C.ex
  exact pe_call F hr hg hm hk hb .nil (passes_call tk fun _ _ _ _ h => h) ha hdb he hpl
theorem Cal.mono {j : Nat} (C : Cal P w K mg base j x ps sp) (h : j ≤ k) : Cal P w K mg base k x ps sp := by
  obtain ⟨f, fd, F, r⟩ := C.ex
  exact ⟨f, fd, F.mono h, r⟩
theorem u64 {k : Nat} {A : Around} (r : Room k A) : A.units + 64 < cLine := by
  have := r.un
  omega
theorem u65 {k : Nat} {A : Around} (r : Room k A) : A.units + 65 < cLine := by
  have := r.un
  omega
end
/-! ### constants of the module -/
section
variable {X : Cx} {x : Str} {pos : Pos}
theorem pe_gint {n : Int} (hg : Gl X x) (h : ∃ t, X.mg x = some (.int n t)) (hd : (x == ("__debug__" : Str)) = false := by decide) : PE X (.Name x pos) (tC (.int n)) := by
  obtain ⟨t, h⟩ := h
  exact pe_glob hg h ⟨t, rfl⟩ hd
theorem pe_gstr {n : Str} (hg : Gl X x) (h : ∃ t, X.mg x = some (.str n t)) (hd : (x == ("__debug__" : Str)) = false := by decide) : PE X (.Name x pos) (tC (.str n)) := by
  obtain ⟨t, h⟩ := h
  exact pe_glob hg h ⟨t, rfl⟩ hd
theorem pe_gref {a : Addr} (hg : Gl X x) (h : X.mg x = some (.ref a)) (hd : (x == ("__debug__" : Str)) = false := by decide) : PE X (.Name x pos) (tC (.ref a)) := pe_glob hg h rfl hd
end
/-! ### own errors -/
structure ErrC (K : PySem.W.Frag) (mg : Str → Option Value) (x : Str) (C fI : Addr) : Prop where
  gC : mg x = some (.ref C)
  oex : OexC K C
  nv : PySem.W.findIn K (.ref C) "value" = some none
  iC : PySem.W.findIn K (.ref C) "__init__" = some (some (.ref fI))
  tI : PySem.W.typeIn K (.ref fI) = some (.type "function")
  xf : XfC K C
structure IniF (P : Program) (w : World) (K : PySem.W.Frag) (mg : Str → Option Value) (base : Heap) (fI : Addr) : Prop where
  ex : ∃ fd : FuncData, FnOk P w K mg base CX0 1 fI fd ["self", "value"] (spIni K) ∧ Binds K fd ["self", "value"] []
section
variable {X : Cx} {x : Str} {C fI : Addr} {k : Nat} {e : Expr} {te : TE} {p pos pos' : Pos} {E : XK}
theorem ps_err (T : ErrC X.K X.mg x C fI) (I : IniF X.prog X.w X.K X.mg X.base fI) (hc : X.calm = true) (hr : Room (k + 2) X.A) (hg : Gl X x) (tk : Takes X (fun cls d _ H => E cls d H)) (he : PE X e te) (hdb : (x == ("__debug__" : Str)) = false := by decide)
    (hs : starEach [e] X.env = (false, eval e X.env) :: starEach [] X.env := by rfl) :
    PS X (.Raise (some (.Call (.Name x p) [e] [] pos)) none pos') (fun _ σ H => tMkO C (spIni X.K) [] (tCons te tNil) σ H fun cls d H' => E cls d H') := by
  obtain ⟨fd, F, hb⟩ := I.ex
  exact ps_raise hc tk (pmk_oex T.oex T.iC T.tI F (hr.mono (Nat.le_add_left 2 k)) hb .nil pass0 hg T.gC (pa_cons he pa_nil hs) hdb hs (by rfl))
end
end Dl

set_option Elab.async false
set_option linter.all false
set_option maxRecDepth 100000
set_option maxHeartbeats 4000000
/-! Dlr: the laws' own source of numbers: a row that is written again and again. -/
namespace Dl
open PySem PySem.Spec PyProof.Rows L2 LamX
/-! ### a raw promise of a def -/
section
variable {P : Program} {w : World} {K : PySem.W.Frag} {mg : Str → Option Value} {base : Heap}
theorem mk_calR {sp : Sp} {x : Str} {st : Stmt} {N ps : List Str} {k : Nat} (T : Def K mg x st) (Sc : FnScope N ps (defScope st)) (hl : ∀ vs H Q E, sp vs H Q E → vs.length = ps.length)
    (hb : ∀ (kV doc pm : Value) (an : Option Addr) (cdv ct : Value) (us : List Value), us.length = ps.length → bindArgs (PySem.W.fnOf x x (defArgs st) (defBody st) (defScope st) .none kV doc pm an cdv ct) ⟨us, []⟩ = pure (ps.zip us))
    (body : ∀ (f : Addr) (cdv : Value) (A : Around) (outer : List PySem.Env) (s : Shared) (H : Hp) (E : XK) (vs : List V) (Q : VK), Room k (A.deeper (envOfC x (defScope st) s.heap.objs.size f cdv)) → sp vs H Q E →
      ∃ t, PSs (cxOf (L2.CX P w) P w K mg base N x (defScope st) f cdv A outer s H E) (defBody st) t ∧ t { nx := fun _ H' => Q .non H', rt := Q } (L2.start N vs) H) :
    Cal P w K mg base (k + 1) x ps sp := by
  obtain ⟨f, fd, F, hm⟩ := T
  exact ⟨f, fd, F.okX Sc hl fun cdv A outer s H vs Q E hr h => body f cdv A outer s H E vs Q hr h, hm, F.kp, F.binds hb⟩
/-- a promise for each z -/
def spZ {Z : Type} (sp : Z → Sp) : Sp := fun vs H Q E => ∃ z, sp z vs H Q E
theorem mk_calZ {Z ι : Type} {args : Z → ι → List Sl} {pre : Z → ι → Prop} {post : Z → ι → Re → Prop} {fx : Z → Fx} {x : Str} {st : Stmt} {N ps : List Str} {k : Nat} (T : Def K mg x st) (Sc : FnScope N ps (defScope st)) (hl : ∀ z i, (args z i).length = ps.length)
    (hb : ∀ (kV doc pm : Value) (an : Option Addr) (cdv ct : Value) (us : List Value), us.length = ps.length → bindArgs (PySem.W.fnOf x x (defArgs st) (defBody st) (defScope st) .none kV doc pm an cdv ct) ⟨us, []⟩ = pure (ps.zip us))
    (body : ∀ (z : Z) (f : Addr) (cdv : Value) (A : Around) (outer : List PySem.Env) (s : Shared) (H : Hp) (E : XK), Room k (A.deeper (envOfC x (defScope st) s.heap.objs.size f cdv)) → ∀ (i : ι), pre z i →
      ∃ t, PSs (cxOf (L2.CX P w) P w K mg base N x (defScope st) f cdv A outer s H E) (defBody st) t ∧ ∀ G : Hp, Xc ⟨K, fx z, G, H, E⟩ t (args z i ++ List.replicate (N.length - ps.length) .no) (RetP (post z i)))
    (hm : ∀ z a, ¬ (fx z).mine a := by exact fun _ _ h => h) : Cal P w K mg base (k + 1) x ps (spZ fun z => spI K (fx z) (args z) (pre z) (post z)) := by
  obtain ⟨f, fd, F, hmg⟩ := T
  have h := fun z => fn_ok (base := base) (k := k) F Sc (fun i _ => hl z i) (fun cdv A outer s H E => body z f cdv A outer s H E) (hm z)
  exact ⟨f, fd, ⟨fun vs H Q E ⟨z, q⟩ => (h z).len vs H Q E q, fun A outer s H args us vs Q E hr he hbd hv ⟨z, q⟩ => (h z).run A outer s H args us vs Q E hr he hbd hv q⟩, hmg, F.kp, F.binds hb⟩
end
/-! ### values that change nothing -/
def Gv (te : TE) (σ : L2.St) (H : Hp) (v : V) : Prop := ∀ Q : VK, Q v H → te σ H Q
def Gt (tt : TT) (σ : L2.St) (H : Hp) (b : Bool) : Prop := ∀ Q : Bool → Hp → Prop, Q b H → tt σ H Q
section
variable {K : PySem.W.Frag} {σ : L2.St} {H : Hp} {ta tb te : TE} {i j k : Int} {v : V} {a : Addr} {xs : List V} {n : Nat}
theorem gv_int : Gv (tC (.int k)) σ H (.int k) := fun Q q => q
theorem gv_var (h : σ[n]? = some (some v)) : Gv (tVar n) σ H v := fun Q q => ⟨v, h, q⟩
theorem gv_I0 {f : Int → Int → Int} (ha : Gv ta σ H (.int i)) (hb : Gv tb σ H (.int j)) : Gv (tOp (rI0 fun i j => .int (f i j)) ta tb) σ H (.int (f i j)) := fun Q q => ha _ (hb _ ⟨i, j, rfl, rfl, q⟩)
theorem gv_C0 {f : Int → Int → Bool} (ha : Gv ta σ H (.int i)) (hb : Gv tb σ H (.int j)) : Gv (tOp (rI0 fun i j => .bl (f i j)) ta tb) σ H (.bl (f i j)) := fun Q q => ha _ (hb _ ⟨i, j, rfl, rfl, q⟩)
theorem gv_IC {C : Int → Int → Prop} {f : Int → Int → Int} (ha : Gv ta σ H (.int i)) (hb : Gv tb σ H (.int j)) (hc : C i j) : Gv (tOp (rI C fun i j => .int (f i j)) ta tb) σ H (.int (f i j)) := fun Q q => ha _ (hb _ ⟨i, j, rfl, rfl, hc, q⟩)
theorem gv_ix (ha : Gv ta σ H (.ref a)) (hb : Gv tb σ H (.int i)) (hl : SqL K H a xs) (hv : atI xs i = some v) : Gv (tOp (rIxL K) ta tb) σ H v := fun Q q => ha _ (hb _ ⟨a, xs, i, v, rfl, rfl, hl, hv, q⟩)
theorem gv_toInt (ha : Gv ta σ H (.int i)) : Gv (tCB (fun xs H Q => (∃ i, xs = [.int i] ∧ Q (.int i) H) ∨ ∃ k, xs = [.bl k] ∧ Q (.int (if k then 1 else 0)) H) (tCons ta tNil)) σ H (.int i) := fun Q q => ha _ (.inl ⟨i, rfl, q⟩)
theorem gv_len (ha : Gv ta σ H (.ref a)) (hl : SqL K H a xs) : Gv (tCB (fun xs H Q => ∃ p ys, xs = [.ref p] ∧ (SqL K H p ys ∨ SqT K H p ys) ∧ Q (.int ys.length) H) (tCons ta tNil)) σ H (.int xs.length) := fun Q q => ha _ ⟨a, xs, rfl, .inl hl, q⟩
theorem gt_test {b : Bool} (h : Gv te σ H (.bl b)) : Gt (tTest te) σ H b := fun Q q => h _ ⟨b, rfl, q⟩
variable {De : Ends} {t u w : TS} {tt : TT}
/-- if t: ..(out), then the rest -/
theorem gs_when {b : Bool} (h : Gt tt σ H b) (h1 : b = true → t { De with nx := w De } σ H) (h2 : b = false → w De σ H) : tSeq (tIfS tt t tNext) w De σ H := h _ (by
  cases b with
  | true => exact h1 rfl
  | false => exact h2 rfl)
theorem gs_asg (h : Gv te σ H v) (k : w De (σ.set n (some v)) H) : tSeq (tAsg te (gName n)) w De σ H := h _ k
theorem gs_ret (h : Gv te σ H v) (k : De.rt v H) : tRet te De σ H := h _ k
/-- row[k] = e -/
theorem gs_put {m : Nat} (h : Gv te σ H v) (ho : σ[m]? = some (some (.ref a))) (hl : H a = some (.lst xs)) (hi : ixN xs.length k = some n) (q : w De σ (upd H a (.lst (xs.set n v)))) : tSeq (tAsg te (gSub (tVar m) (tC (.int k)) rSetL)) w De σ H :=
  h _ ⟨.ref a, ho, a, xs, k, n, rfl, rfl, hl, hi, q⟩
theorem gs_put1 {m : Nat} (h : Gv te σ H v) (ho : σ[m]? = some (some (.ref a))) (hl : H a = some (.lst xs)) (hi : ixN xs.length k = some n) (q : De.nx σ (upd H a (.lst (xs.set n v)))) : tAsg te (gSub (tVar m) (tC (.int k)) rSetL) De σ H :=
  h _ ⟨.ref a, ho, a, xs, k, n, rfl, rfl, hl, hi, q⟩
theorem gs_if {b : Bool} (h : Gt tt σ H b) (h1 : b = true → t { De with nx := w De } σ H) (h2 : b = false → u { De with nx := w De } σ H) : tSeq (tIfS tt t u) w De σ H := h _ (by
  cases b with
  | true => exact h1 rfl
  | false => exact h2 rfl)
theorem upd_twice {H : Hp} {p : Addr} {o o' : HO} : upd (upd H p o) p o' = upd H p o' := by
  funext b
  by_cases e : b = p
  · subst e
    rw [upd_same, upd_same]
  · rw [upd_ne e, upd_ne e, upd_ne e]
theorem sq_upd {p : Addr} {o : HO} (h : SqL K H a xs) (n : p ≠ a) : SqL K (upd H p o) a xs := by
  rcases h with (h | ⟨o', h⟩) | h
  · exact .inl (.inl (by rw [upd_ne n.symm]; exact h))
  · exact .inl (.inr ⟨o', by rw [upd_ne n.symm]; exact h⟩)
  · exact .inr h
end
/-! ### the row -/
structure RowZ where
  r : Addr
  sc : Addr
  T : Addr
  q : Str
  vs : List Int
  t : Prop
def ScOk (K : PySem.W.Frag) (z : RowZ) (H : Hp) : Prop := (z.t ∧ H z.sc = some (.lst (z.vs.map V.int))) ∨ (∃ o, H z.sc = some (.frz o (.lst (z.vs.map V.int)))) ∨ (¬ z.t ∧ SqL K (fun _ => none) z.sc (z.vs.map V.int))
def rowHO (sc : Addr) (p m c : Int) : HO := .lst [.ref sc, .int p, .int m, .int c]
def RowAt (z : RowZ) (H : Hp) : Prop := ∃ p m c : Int, 0 ≤ p ∧ 0 ≤ m ∧ m < 2147483648 ∧ H z.r = some (rowHO z.sc p m c)
theorem row_ne {H : Hp} {r sc : Addr} {p m c : Int} {ns : List Int} (h1 : H r = some (rowHO sc p m c)) (h2 : H sc = some (.lst (ns.map V.int))) : r ≠ sc := fun q => by
  rw [q, h2] at h1
  cases ns with
  | nil => cases h1
  | cons n ns => cases h1
theorem row_neF {H : Hp} {r sc : Addr} {p m c : Int} {o : Obj} {u : HO} (h1 : H r = some (rowHO sc p m c)) (h2 : H sc = some (.frz o u)) : r ≠ sc := fun q => by
  rw [q, h2] at h1
  cases h1
theorem ScOk.sq {K : PySem.W.Frag} {z : RowZ} {H : Hp} (h : ScOk K z H) : SqL K H z.sc (z.vs.map V.int) := by
  rcases h with ⟨_, h⟩ | ⟨o, h⟩ | ⟨_, h⟩
  · exact .inl (.inl h)
  · exact .inl (.inr ⟨o, h⟩)
  · exact Same.seq (fun a o e => by cases e) h
theorem tabS_ext {H H' : Hp} {P : Addr} {q : Str} (e : ∀ a o, a = P ∨ Fixd o → H a = some o → H' a = some o) (h : TabS H P q) : TabS H' P q := by
  obtain ⟨ps, h1, h2, h3⟩ := h
  refine ⟨ps, e _ _ (.inl rfl) h1, h2, fun pos cv hc => ?_⟩
  obtain ⟨c, e1, e2⟩ := h3 pos cv hc
  exact ⟨c, e1, e c _ (.inr ⟨c, q, rfl⟩) e2⟩
theorem ScOk.sq' {K : PySem.W.Frag} {z : RowZ} {H : Hp} {p m c : Int} (hr : H z.r = some (rowHO z.sc p m c)) (h : ScOk K z H) (o : HO) : SqL K (upd H z.r o) z.sc (z.vs.map V.int) := by
  rcases h with ⟨_, h⟩ | ⟨o', h⟩ | ⟨_, h⟩
  · exact .inl (.inl (by rw [upd_ne (row_ne hr h).symm]; exact h))
  · exact .inl (.inr ⟨o', by rw [upd_ne (row_neF hr h).symm]; exact h⟩)
  · exact Same.seq (fun a o e => by cases e) h
def rowFx (K : PySem.W.Frag) (z : RowZ) : Fx where
  vol a := a = z.r ∨ a = z.T ∨ (a = z.sc ∧ z.t)
  mine _ := False
  inv H := RowAt z H ∧ ScOk K z H ∧ TabS H z.T z.q
  ext := fun {H H'} e ⟨⟨p, m, c, h1, h2, h3, h4⟩, h5, h6⟩ => ⟨⟨p, m, c, h1, h2, h3, e _ _ (.inl (.inl rfl)) h4⟩, by
    rcases h5 with ⟨t, h⟩ | ⟨o, h⟩ | h
    · exact .inl ⟨t, e _ _ (.inl (.inr (.inr ⟨rfl, t⟩))) h⟩
    · exact .inr (.inl ⟨o, e _ _ (.inr True.intro) h⟩)
    · exact .inr (.inr h), tabS_ext (fun a o q h => e a o (q.elim (fun q => .inl (.inr (.inl q))) .inr) h) h6⟩
  there := fun {H a} ⟨⟨p, m, c, h1, h2, h3, h4⟩, h5, h6⟩ hv => by
    rcases hv with rfl | rfl | ⟨rfl, t⟩
    · exact ⟨_, h4, fun z => z⟩
    · obtain ⟨ps, h, _⟩ := h6
      exact ⟨_, h, fun z => z⟩
    · rcases h5 with ⟨_, h⟩ | ⟨o, h⟩ | h
      · exact ⟨_, h, fun z => z⟩
      · exact ⟨_, h, fun z => z⟩
      · exact absurd t h.1
/-- what row and many give -/
def spTaken (K : PySem.W.Frag) : Sp := fun vs H Q _ => ∃ (r sc : Addr) (ns : List Int) (many p m c : Int), vs = [.ref r, .int many] ∧ 0 < many ∧ many < 1073741824 ∧ 0 ≤ p ∧ 0 ≤ m ∧ m < 2147483648 ∧ H r = some (rowHO sc p m c) ∧ SqL K H sc (ns.map V.int) ∧ (∀ o, SqL K (upd H r o) sc (ns.map V.int)) ∧
  ∀ x p' m' c' : Int, 0 ≤ x → x < many → 0 ≤ p' → 0 ≤ m' → m' < 2147483648 → Q (.int x) (upd H r (rowHO sc p' m' c'))
section
variable {K : PySem.W.Frag} {G0 B : Hp} {E : XK} {z : RowZ} {ρ : Rho} {te ti : TE}
theorem row_new {G H : Hp} (k : Kn (rowFx K z) G H) {p m c : Int} (h1 : 0 ≤ p) (h2 : 0 ≤ m) (h3 : m < 2147483648) : Grow (rowFx K z) G H G (upd H z.r (rowHO z.sc p m c)) ∧ Kn (rowFx K z) G (upd H z.r (rowHO z.sc p m c)) := by
  have hr : G z.r = none := k.vn _ (.inl rfl)
  have hs : Same G (upd H z.r (rowHO z.sc p m c)) := fun a o e => by
    have q : a ≠ z.r := fun q => by rw [q, hr] at e; cases e
    rw [upd_ne q]
    exact k.gh a o e
  obtain ⟨⟨p0, m0, c0, _, _, _, h4⟩, h5, ⟨ps, t1, t2, t3⟩⟩ := k.inv
  have nT : z.T ≠ z.r := fun q => by
    rw [q, h4] at t1
    cases t1
  refine ⟨⟨Same.refl G, hs, fun a o v e => ?_, fun _ _ _ _ h => h⟩, hs, ⟨⟨p, m, c, h1, h2, h3, upd_same⟩, ?_, ⟨ps, ?_, t2, fun pos cv hc => ?_⟩⟩, k.vn⟩
  · have q : a ≠ z.r := fun q => v (.inl q)
    rw [upd_ne q]
    exact e
  · rcases h5 with ⟨t, h⟩ | ⟨o, h⟩ | h
    · exact .inl ⟨t, by rw [upd_ne (row_ne h4 h).symm]; exact h⟩
    · exact .inr (.inl ⟨o, by rw [upd_ne (row_neF h4 h).symm]; exact h⟩)
    · exact .inr (.inr h)
  · rw [upd_ne nT]
    exact t1
  · obtain ⟨c', e1, e2⟩ := t3 pos cv hc
    have q : c' ≠ z.r := fun q => by
      rw [q, h4] at e2
      cases e2
    exact ⟨c', e1, by rw [upd_ne q]; exact e2⟩
/-- _law_taken(row, e) -/
theorem ev_taken {many : Int} {E' : XK} (hi : Ev ⟨K, rowFx K z, G0, B, E⟩ ti ρ (Eq (.raw (.ref z.r)))) (he : Ev ⟨K, rowFx K z, G0, B, E⟩ te ρ (Eq (.dat (.int many)))) (h0 : 0 < many) (h1 : many < 1073741824) :
    Ev ⟨K, rowFx K z, G0, B, E⟩ (tCall (spTaken K) [] E' (tCons ti (tCons te tNil))) ρ (fun s => ∃ x, s = .dat (.int x) ∧ 0 ≤ x ∧ x < many) := fun σ G H k e Q q =>
  hi σ G H k e _ fun v s G1 H1 g1 k1 es r1 => he σ G1 H1 k1 (e.grow g1) _ fun u s2 G2 H2 g2 k2 es2 r2 => by
    subst es es2
    cases r2
    cases (show v = _ from r1)
    obtain ⟨⟨p, m, c, a1, a2, a3, a4⟩, h5, h6⟩ := id k2.inv
    refine ⟨z.r, z.sc, z.vs, many, p, m, c, rfl, h0, h1, a1, a2, a3, a4, h5.sq, h5.sq' a4, fun x p' m' c' x0 x1 p0 m0 m1 => ?_⟩
    obtain ⟨g3, k3⟩ := row_new k2 (c := c') p0 m0 m1
    exact q _ _ G2 _ ((g1.trans k1 k2 g2).trans k2 k3 g3) k3 ⟨x, rfl, x0, x1⟩ (.int x)
/-- a def that may write where all may -/
theorem ev_callZ {Z ι : Type} {fx : Z → Fx} {args : Z → ι → List Sl} {pre : Z → ι → Prop} {post : Z → ι → Re → Prop} {ta : TA} {E' : XK} (y : Z) {P : Sl → Prop} {Pa : List Sl → Prop} (ha : EvA ⟨K, fx y, G0, B, E⟩ ta ρ Pa) (h : ∀ ss, Pa ss → ∃ i, ss = args y i ∧ pre y i ∧ (∀ s, post y i (.ok s) → P s) ∧ (∀ C d, ¬ post y i (.ex C d))) :
    Ev ⟨K, fx y, G0, B, E⟩ (tCall (spZ fun z => spI K (fx z) (args z) (pre z) (post z)) [] E' ta) ρ P := fun σ G H k e Q q =>
  ha σ G H k e _ fun vs ss G1 H1 g1 k1 p1 r1 => by
    obtain ⟨i, e1, hp, ho, hx⟩ := h ss p1
    subst e1
    rw [List.append_nil]
    exact ⟨y, i, G1, hp, k1, r1, fun v s G2 H2 g2 k2 r2 po => q v s G2 H2 (g1.trans k1 k2 g2) k2 (ho s po) r2, fun C d dd v G2 H2 _ _ _ _ po => absurd po (hx C d)⟩
end
section
variable {S : Cf} {ρ : Rho} {P : Oc → Prop} {w : TS} {ta : TA}
/-- a, b, c = e1, e2, e3 -/
theorem xc_par3 {i j l : Nat} {x y z : Sl} (h : EvA S ta ρ (Eq [x, y, z])) (hs : P (.nx (((ρ.set i x).set j y).set l z))) : Xc S (tPar3 i j l ta) ρ P := fun σ G H De o e f => h σ G H o.kn e _ fun vs ss G' H' g k p r => by
  subst p
  cases r with
  | cons r1 r =>
    cases r with
    | cons r2 r =>
      cases r with
      | cons r3 r =>
        cases r
        exact ⟨_, _, _, rfl, f.nx _ G' H' _ (o.grow g k) g.gg ((((e.grow g).set i r1).set j r2).set l r3) hs⟩
theorem xs_par3 {i j l : Nat} {x y z : Sl} (h : EvA S ta ρ (Eq [x, y, z])) (k : Xc S w (((ρ.set i x).set j y).set l z) P) : Xc S (tSeq (tPar3 i j l ta) w) ρ P := xc_seq (xc_par3 h k)
end
end Dl

set_option Elab.async false
set_option linter.all false
set_option maxRecDepth 100000
set_option maxHeartbeats 4000000
/-! Dlv: more of lists; loops over raw values; lambdas over the row. -/
namespace Dl
open PySem PySem.Spec PyProof.Rows L2 LamX
/-! ### xs + ys of any lists -/
def rCatL (K : PySem.W.Frag) : R2 := fun x y H Q => ∃ l b xs zs, x = .ref l ∧ y = .ref b ∧ SqL K H l xs ∧ SqL K H b zs ∧ xs.length + zs.length ≤ sizeLine ∧ ∀ p, H p = none → Q (.ref p) (upd H p (.lst (xs ++ zs)))
theorem op_catL {X : Cx} : OpR X (binaryOp .Add) (rCatL X.K) := by
  intro pins s σ H x y v u Q I rx ry h
  obtain ⟨l, b, xs, zs, rfl, rfl, hH, hB, hz, q⟩ := h
  cases rx
  cases ry
  obtain ⟨its, r, ⟨⟨c1, d1, t1, s1⟩, n, e, ec, ed, et⟩, z⟩ := I.list hH
  obtain ⟨its2, r2, ⟨⟨c2, d2, t2, s2⟩, n2, e2, ec2, ed2, et2⟩, z2⟩ := I.list hB
  simp only at ec ed et ec2 ed2 et2
  subst ec ed et ec2 ed2 et2
  have hsz : its.toArray.size + its2.toArray.size ≤ sizeLine := by
    rw [List.size_toArray, List.size_toArray, ← r.length, ← r2.length]
    exact hz
  refine concat_meets ⟨_, e, rfl⟩ ⟨_, e2, rfl⟩ noFill_list_add seq_list_add PySem.F.slot_list_add PySem.F.entry_list_add (PySem.F.args_list_add_2 _ _) (list_addW l b its.toArray its2.toArray n n2 none none s1 s2 hsz) ⟨e, e2, ?_⟩
  have ea : its.toArray ++ its2.toArray = (its ++ its2).toArray := by simp
  rw [ea]
  exact ⟨.ref _, _, I.lnew (t' := s.toks) (r.append r2) (by rw [List.length_append]; omega), rfl, q _ I.fresh⟩
section
variable {S : Cf} {ρ : Rho} {te ta tb : TE} {P : Oc → Prop} {w : TS}
theorem ef_catL {ds es : List D} (ha : EvL S ta ρ ds) (hb : EvL S tb ρ es) (hl : ds.length + es.length ≤ 1000000) : EvF S (tOp (rCatL S.K) ta tb) ρ (Eq (ds ++ es)) := fun σ G H k e Q q =>
  ha σ G H k e _ fun a vs G1 H1 g1 k1 st1 ra1 => hb σ G1 H1 k1 (e.grow g1) _ fun b ws G2 H2 g2 k2 st2 ra2 =>
    ⟨a, b, vs, ws, rfl, rfl, st1 G2 H2 g2, st2 _ _ (Grow.refl k2), sz_ok (by rw [ra1.length, ra2.length]; exact hl), fun p hp => by
      have g := g1.trans k1 k2 g2
      exact q p _ _ G2 _ (g.trans k2 (k2.same (same_new hp)) (Grow.same k2 (same_new hp))) (k2.same (same_new hp)) (fresh_of g k2 hp) (k2.freeG hp) upd_same ((ra1.mono g2.gg).append ra2) rfl⟩
theorem ef_rev {ds : List D} (ha : EvL S ta ρ ds) : EvF S (tRevL S.K ta) ρ (Eq ds.reverse) := fun σ G H k e Q q =>
  ha σ G H k e _ fun a vs G1 H1 g1 k1 st1 ra1 => ⟨a, vs, rfl, st1 _ _ (Grow.refl k1), fun p hp =>
    q p _ _ G1 _ (g1.trans k1 (k1.same (same_new hp)) (Grow.same k1 (same_new hp))) (k1.same (same_new hp)) (fresh_of g1 k1 hp) (k1.freeG hp) upd_same ra1.reverse rfl⟩
theorem RA.rep {K : PySem.W.Frag} {G : Hp} {vs : List V} {ds : List D} (h : RA K G vs ds) : ∀ n : Nat, RA K G (List.replicate n vs).flatten (List.replicate n ds).flatten
  | 0 => .nil
  | n + 1 => by
    rw [List.replicate_succ, List.replicate_succ, List.flatten_cons, List.flatten_cons]
    exact h.append (RA.rep h n)
/-- a list just made, times n -/
theorem ef_rep {ds : List D} {n : Nat} (ha : EvF S ta ρ (Eq ds)) (hb : Ev S tb ρ (Eq (.dat (.int (n : Nat))))) (hn : n ≤ 1000000) (hl : ds.length * n ≤ 1000000) : EvF S (tOp rRep ta tb) ρ (Eq (List.replicate n ds).flatten) := fun σ G H k e Q q =>
  ha σ G H k e _ fun a vs ds' G1 H1 g1 k1 n0 n1 ha1 ra1 ed => hb σ G1 H1 k1 (e.grow g1) _ fun y s G2 H2 g2 k2 es r2 => by
    subst ed es
    cases r2
    have va : ¬ S.fx.vol a := k.fresh n0
    have ha2 : H2 a = some (.lst vs) := g2.hh a _ va ha1
    refine ⟨a, (n : Nat), vs, rfl, rfl, ha2, by omega, by omega, sz_ok (by rw [Int.toNat_natCast, ra1.length]; exact hl), fun p hp => ?_⟩
    rw [Int.toNat_natCast]
    have g := g1.trans k1 k2 g2
    exact q p _ _ G2 _ (g.trans k2 (k2.same (same_new hp)) (Grow.same k2 (same_new hp))) (k2.same (same_new hp)) (fresh_of g k2 hp) (k2.freeG hp) upd_same ((ra1.mono g2.gg).rep n) rfl
/-- strings that are alike -/
theorem ev_neS {x y : Str} (ha : Ev S ta ρ (Eq (.dat (.str x)))) (hb : Ev S tb ρ (Eq (.dat (.str y)))) : Ev S (tOp rNe ta tb) ρ (Eq (.dat (.bool (!decide (x = y))))) :=
  ev_op' ha hb (opd_here (z := .bl (!decide (x = y))) fun G H v w k rx ry => ⟨.bl _, fun Q q => by
    cases rx
    cases ry
    refine ⟨rfl, ?_⟩
    rw [show decide (V.str x = V.str y) = decide (x = y) by rw [decide_eq_decide]; exact ⟨V.str.inj, congrArg V.str⟩]
    exact q⟩)
theorem ev_eqS {x y : Str} (ha : Ev S ta ρ (Eq (.dat (.str x)))) (hb : Ev S tb ρ (Eq (.dat (.str y)))) : Ev S (tOp rEq ta tb) ρ (Eq (.dat (.bool (decide (x = y))))) :=
  ev_op' ha hb (opd_here (z := .bl (decide (x = y))) fun G H v w k rx ry => ⟨.bl _, fun Q q => by
    cases rx
    cases ry
    refine ⟨rfl, ?_⟩
    rw [show decide (V.str x = V.str y) = decide (x = y) by rw [decide_eq_decide]; exact ⟨V.str.inj, congrArg V.str⟩]
    exact q⟩)
/-- a, b = e1, e2, not told -/
theorem xc_parP {i j : Nat} {ta : TA} {p : Sl → Sl → Prop} (h : EvA S ta ρ (fun ss => ∃ x y, ss = [x, y] ∧ p x y)) (hs : ∀ x y, p x y → P (.nx ((ρ.set i x).set j y))) : Xc S (tPar i j ta) ρ P := fun σ G H De o e f => h σ G H o.kn e _ fun vs ss G' H' g k ⟨x, y, es, pp⟩ r => by
  subst es
  cases r with
  | cons r1 r =>
    cases r with
    | cons r2 r =>
      cases r
      exact ⟨_, _, rfl, f.nx _ G' H' _ (o.grow g k) g.gg (((e.grow g).set i r1).set j r2) (hs x y pp)⟩
theorem xs_parP {i j : Nat} {ta : TA} {p : Sl → Sl → Prop} (h : EvA S ta ρ (fun ss => ∃ x y, ss = [x, y] ∧ p x y)) (k : ∀ x y, p x y → Xc S w ((ρ.set i x).set j y) P) : Xc S (tSeq (tPar i j ta) w) ρ P := xc_seq (xc_parP h k)
theorem ea_two {Pa Pb : Sl → Prop} (ha : Ev S ta ρ Pa) (hb : Ev S tb ρ Pb) : EvA S (tCons ta (tCons tb tNil)) ρ (fun ss => ∃ x y, ss = [x, y] ∧ Pa x ∧ Pb y) :=
  ea_consP ha (ea_consP (P := fun ss => ∃ y, ss = [y] ∧ Pb y) hb ea_nil fun y ys h e => ⟨y, by rw [← e], h⟩) fun x xs h ⟨y, e, hy⟩ => ⟨x, y, by rw [e], h, hy⟩
theorem xs_freeze {i : Nat} {a : Addr} {ds : List D} (h : ρ[i]? = some (.own a (.lst ds))) (hs : Xc S w (ρ.set i (.dat (.list ds))) P) : Xc S w ρ P := xc_freeze h hs
/-! ### for x in [f, g, ..], the values raw -/
theorem RSs.raws {K : PySem.W.Frag} {G : Hp} : ∀ {vs ws : List V}, RSs K G vs (ws.map Sl.raw) → vs = ws
  | _, [], h => by
    cases h
    rfl
  | _, w :: ws, h => by
    cases h with
    | cons h1 h2 => rw [RSs.raws h2, show _ = w from h1]
theorem xc_forR {ta : TA} {tb : TS} {j : Nat} {ws : List V} (hi : EvA S ta ρ (Eq (ws.map Sl.raw))) (hl : ws.length ≤ 1000000) (I : Nat → Rho → Prop) (h0 : I 0 ρ)
    (hs : ∀ i v ρ1, ws[i]? = some v → I i ρ1 → Xc S tb (ρ1.set j (.raw v)) (LoopP (I (i + 1)) P)) (hd : ∀ ρ1, I ws.length ρ1 → P (.nx ρ1)) : Xc S (tFor (iList S.K (tLst ta)) (gName j) tb) ρ P := fun σ G H De o e f =>
  hi σ G H o.kn e _ fun vs ss G0 H0 g0 k0 es rs => by
    subst es
    obtain rfl := rs.raws
    refine ⟨sz_ok hl, fun p hp => ?_⟩
    have g1 := Grow.new k0 (.lst vs) hp
    have k1 := Kn.new k0 (.lst vs) hp
    have o1 := (o.grow g0 k0).grow g1 k1
    have hG : (upd G0 p (.lst vs)) p = some (.lst vs) := upd_same
    refine ⟨p, rfl, ⟨vs, SqL.of upd_same⟩, ?_⟩
    have gg := g0.trans k0 k1 g1
    revert hG o1 gg
    generalize upd G0 p (.lst vs) = G1
    intro o1 hG gg
    refine ⟨fun i m σ H => m = vs.length - i ∧ i ≤ vs.length ∧ ∃ G ρ', OkS S G H ∧ Same G1 G ∧ Env S G H σ ρ' ∧ I i ρ', ⟨_, rfl, Nat.zero_le _, G1, ρ, o1, Same.refl _, e.grow gg, h0⟩, ?_⟩
    rintro i m σ2 H2 ⟨rfl, hi, G2, ρ2, o2, s2, e2, hI⟩
    have hs2 : SqL S.K H2 p vs := SqL.of ((s2.trans o2.kn.gh) _ _ hG)
    by_cases hlt : i < vs.length
    · refine .inr ⟨⟨vs, vs[i], hs2, by simp [hlt]⟩, fun σ' H' => ∃ G ρ', OkS S G H' ∧ Same G1 G ∧ Env S G H' σ' ρ' ∧ I (i + 1) ρ', fun σ' H' ⟨G', ρ', q⟩ => ⟨vs.length - (i + 1), by omega, rfl, hlt, G', ρ', q⟩, fun x H3 hy => ?_⟩
      obtain ⟨eh, hx⟩ := hy
      subst eh
      have hx := hx vs hs2
      refine hs i x ρ2 hx hI _ G2 H3 _ o2 (e2.set j (s := .raw x) rfl) ?_
      exact ⟨fun σ' G' H' ρ' o' s' e' p' => ⟨G', ρ', o', s2.trans s', e', p'⟩, fun σ' G' H' ρ' o' s' e' p' => f.nx σ' G' H' ρ' o' ((gg.gg.trans s2).trans s') e' p', fun σ' G' H' ρ' o' s' e' p' => ⟨G', ρ', o', s2.trans s', e', p'⟩, f.rt, f.ex⟩
    · have e' : i = vs.length := by omega
      subst e'
      exact .inl ⟨⟨vs, hs2, Nat.le_refl _⟩, f.nx σ2 G2 H2 ρ2 o2 (gg.gg.trans s2) e2 (hd ρ2 hI)⟩
theorem xs_forR {ta : TA} {tb : TS} {j : Nat} {ws : List V} (hi : EvA S ta ρ (Eq (ws.map Sl.raw))) (hl : ws.length ≤ 1000000) (I : Nat → Rho → Prop) (h0 : I 0 ρ)
    (hs : ∀ i v ρ1, ws[i]? = some v → I i ρ1 → Xc S tb (ρ1.set j (.raw v)) (LoopP (I (i + 1)) (SeqP S w P))) (hd : ∀ ρ1, I ws.length ρ1 → Xc S w ρ1 P) : Xc S (tSeq (tFor (iList S.K (tLst ta)) (gName j) tb) w) ρ P := xc_seq (xc_forR hi hl I h0 hs hd)
end
/-! ### one of two readings -/
def tAlt (t1 t2 : TE) : TE := fun σ H Q => t1 σ H Q ∨ t2 σ H Q
theorem pe_alt {X : Cx} {e : Expr} {t1 t2 : TE} (h1 : PE X e t1) (h2 : PE X e t2) : PE X e (tAlt t1 t2) := ⟨fun pins s σ H Q I h => h.elim (h1.run pins s σ H Q I) (h2.run pins s σ H Q I)⟩
section
variable {S : Cf} {ρ : Rho} {t1 t2 : XK → TE} {Pok : Sl → Prop} {Pex : Addr → D → Prop}
theorem evx_alt1 (h : EvX S t1 ρ Pok Pex) : EvX S (fun E => tAlt (t1 E) (t2 E)) ρ Pok Pex := fun σ G H k e E Q q1 q2 => .inl (h σ G H k e E Q q1 q2)
theorem evx_alt2 (h : EvX S t2 ρ Pok Pex) : EvX S (fun E => tAlt (t1 E) (t2 E)) ρ Pok Pex := fun σ G H k e E Q q1 q2 => .inr (h σ G H k e E Q q1 q2)
end
/-! ### lambdas over the row -/
section
variable {K : PySem.W.Frag} {G0 B : Hp} {E : XK} {z : RowZ} {ρ : Rho} {C : Addr} {w : Str} {d : D} {cs : List (Addr × Str)} {t : XK → TE}
theorem row_ext {H H1 : Hp} (i : (rowFx K z).inv H) (e : ExtP z.T H H1) (T1 : TabS H1 z.T z.q) : (rowFx K z).inv H1 := by
  obtain ⟨⟨p, m, c, a1, a2, a3, a4⟩, h5, ⟨ps, t1, _, _⟩⟩ := i
  have nr : z.r ≠ z.T := fun q => by
    rw [q, t1] at a4
    cases a4
  refine ⟨⟨p, m, c, a1, a2, a3, e _ _ nr a4⟩, ?_, T1⟩
  rcases h5 with ⟨t, h⟩ | ⟨o, h⟩ | h
  · exact .inl ⟨t, e _ _ (fun q => by rw [q, t1] at h; cases h) h⟩
  · exact .inr (.inl ⟨o, e _ _ (fun q => by rw [q, t1] at h; cases h) h⟩)
  · exact .inr (.inr h)
theorem ev_ref (ht : Told K C w cs) (h : EvX ⟨K, rowFx K z, G0, B, E⟩ t ρ (fun _ => False) (fun C' d' => C' = C ∧ d' = d)) : Ev ⟨K, rowFx K z, G0, B, E⟩ (tLamP z.T z.q (TRef K cs) t) ρ (Eq (.dat (.tuple [.str w, d]))) :=
  ev_lam (fun H i => i.2.2) (.inr (.inl rfl)) (fun H H1 i e T1 => row_ext i e T1) h (fun s hs => hs.elim) fun C' d' ⟨e1, e2⟩ => ⟨w, by rw [e1]; exact ht, by rw [e2]⟩
end
/-! ### a def that a slot holds; the def that asks -/
section
variable {X : Cx} {k i : Nat} {x y : Str} {ps : List Str} {sp : Sp} {p pos : Pos} {e : Expr} {es : List Expr} {t : TA} {E : XK} {f : Addr}
theorem pe_calL (C : Cal X.prog X.w X.K X.mg X.base k x ps sp) (hf : X.mg x = some (.ref f)) (hr : Room k X.A) (hN : X.N[i]? = some y) (hv : Vis X.env.scope y) (ha : PA X (e :: es) t) (tk : Takes X (fun cls d _ H => E cls d H)) (hdb : (y == ("__debug__" : Str)) = false := by decide)
    (hcd : (y == ("__classdict__" : Str)) = false := by decide) (he : starEach (e :: es) X.env = (false, eval e X.env) :: starEach es X.env := by rfl) (hpl : (backTo pos (starEach es X.env)).any (·.1) = false := by rfl) : PE X (.Call (.Name y p) (e :: es) [] pos) (tCallL i f sp [] E t) := by
  obtain ⟨f', fd, F, hm, hk, hb⟩ := C.ex
  rw [hf] at hm
  cases hm
  exact pe_callL F hr hN hv hk hb .nil (passes_call tk fun _ _ _ _ h => h) ha hdb hcd he hpl
end
section
variable {P : Program} {w : World} {K : PySem.W.Frag} {mg : Str → Option Value} {base : Heap} {N : List Str} {sc : Scope} {fa c Tb : Addr} {A : Around} {s : Shared} {H : Hp} {E : XK}
theorem ask_ok {x : Str} {st : Stmt} {cs : List (Addr × Str)} (D : Def K mg x st) (Sg : FnScope ["ask", "e"] ["ask"] (defScope st)) (hv : Vis (defScope st) "ask") (tb : TabB base mg c Tb) (d1 : (x == ("__debug__" : Str)) = false)
    (hb : ∀ (kV doc pm : Value) (an : Option Addr) (cdv ct : Value) (us : List Value), us.length = 1 → bindArgs (PySem.W.fnOf x x (defArgs st) (defBody st) (defScope st) .none kV doc pm an cdv ct) ⟨us, []⟩ = pure ((["ask"] : List Str).zip us))
    (hG : ∀ (g : Addr) (cdg : Value), GivesTo (cxOf (L2.CX P w) P w K mg base N "law" sc fa (.ref c) A [] s H E) ["ask", "e"] x (defScope st) g cdg (defBody st) "ask" ((cxOf (L2.CX P w) P w K mg base N "law" sc fa (.ref c) A [] s H E).env.qual ++ "<lambda>") (TRef K cs)) :
    ∃ g, AskOk (cxOf (L2.CX P w) P w K mg base N "law" sc fa (.ref c) A [] s H E) x "ask" ["ask", "e"] g c Tb (TRef K cs) := by
  obtain ⟨g, fd, F, hm⟩ := D
  have kp := F.kp
  have bd := F.binds (ps := ["ask"]) hb
  obtain ⟨oc, od, kV, doc, pm, an, cdv, ct, osl, rfl, lk, hcd⟩ := F.ex
  exact ⟨g, hm, kp, ⟨_, _, _, _, _, _, _, _, _, _, _, _, _, lk, hcd, bd, Sg, hv, hG g cdv⟩, rfl, tb, rfl, d1, by decide, by decide⟩
end
/-! ### the start of a law -/
section
variable {K : PySem.W.Frag} {H : Hp} {a Tb p : Addr} {q : Str} {ns : List Int}
theorem law_start (hT : H Tb = some (.tbl #[])) (hS : SqL K H a (ns.map V.int)) (hp : H p = none) (b m : Int) (hb : 0 ≤ b) (h0 : 0 ≤ m) (h1 : m < 2147483648) (x : Int) : ∃ t : Prop, Kn (rowFx K ⟨p, a, Tb, q, ns, t⟩) (fun _ => none) (upd H p (rowHO a b m x)) := by
  have hx : ∃ t : Prop, (t ∧ H a = some (.lst (ns.map V.int))) ∨ (∃ o, H a = some (.frz o (.lst (ns.map V.int)))) ∨ (¬ t ∧ SqL K (fun _ => none) a (ns.map V.int)) := by
    rcases hS with (h | ⟨o, h⟩) | h
    · exact ⟨True, .inl ⟨trivial, h⟩⟩
    · exact ⟨False, .inr (.inl ⟨o, h⟩)⟩
    · exact ⟨False, .inr (.inr ⟨id, .inr h⟩)⟩
  obtain ⟨t, ht⟩ := hx
  refine ⟨t, fun a o e => (by cases e), ⟨⟨b, m, x, hb, h0, h1, upd_same⟩, ?_, ⟨#[], ?_, ?_, fun pos cv hc => ?_⟩⟩, fun _ _ => rfl⟩
  · rcases ht with ⟨t, h⟩ | ⟨o, h⟩ | h
    · exact .inl ⟨t, by show upd H p _ a = _; rw [upd_ne (ne_of_none h hp)]; exact h⟩
    · exact .inr (.inl ⟨o, by show upd H p _ a = _; rw [upd_ne (ne_of_none h hp)]; exact h⟩)
    · exact .inr (.inr h)
  · show upd H p _ Tb = _
    rw [upd_ne (ne_of_none hT hp)]
    exact hT
  · trivial
  · cases hc
theorem xs_row {i : Nat} {m : Int} {w : TS} {De : Ends} {σ : L2.St} (h0 : σ[0]? = some (some (.ref a))) (k : ∀ p, H p = none → w De (σ.set i (some (.ref p))) (upd H p (rowHO a 0 m 0))) :
    tSeq (tAsg (tLst (tCons (tVar 0) (tCons (tC (.int 0)) (tCons (tC (.int m)) (tCons (tC (.int 0)) tNil))))) (gName i)) w De σ H := ⟨.ref a, h0, (by show 4 ≤ sizeLine; decide), fun p hp => k p hp⟩
theorem xc_start {fx : Fx} {t : TS} {σ : L2.St} {ρ : Rho} (k : Kn fx (fun _ => none) H) (e : Env ⟨K, fx, fun _ => none, H, fun _ _ _ => False⟩ (fun _ => none) H σ ρ) (h : Xc ⟨K, fx, fun _ => none, H, fun _ _ _ => False⟩ t ρ (RetP (Eq (.ok (.dat (.bool true)))))) (hm : ∀ a, ¬ fx.mine a := by exact fun _ h => h) :
    t { nx := fun _ H' => V.non = .bl true, rt := fun v _ => v = .bl true } σ H := by
  refine h σ _ H _ ⟨k, k, GrO.of (Grow.refl k), MnOk.none hm, MnOk.none hm⟩ e ⟨fun σ G' H' ρ o s e p => ?_, fun σ G' H' ρ o s e p => p.elim, fun σ G' H' ρ o s e p => p.elim, fun σ v s G' H' ρ o _ r p => ?_, fun C d dd v G' H' o hd r p => ?_⟩
  · cases (show Re.ok (.dat (.bool true)) = Re.ok (.dat .none) from p)
  · cases (show Re.ok (.dat (.bool true)) = Re.ok s from p)
    cases (show R K G' v (.bool true) from r)
    rfl
  · cases (show Re.ok (.dat (.bool true)) = Re.ex C d from p)
end
section
variable {S : Cf} {ρ : Rho} {ι : Type} {args : ι → List Sl} {pre : ι → Prop} {ta : TA} {E : XK} {r : ι → Re}
theorem ev_callV {s : Sl} (i : ι) (ha : EvA S ta ρ (Eq (args i))) (hp : pre i) (e : r i = .ok s) : Ev S (tCall (spI S.K fx0 args pre (fun i => Eq (r i))) [] E ta) ρ (Eq s) :=
  ev_call i ha hp (fun s' h => by rw [e] at h; exact Re.ok.inj h) fun C d h => by rw [e] at h; cases h
theorem evx_callV {C : Addr} {d : D} (i : ι) (ha : EvA S ta ρ (Eq (args i))) (hp : pre i) (e : r i = .ex C d) : EvX S (fun E => tCall (spI S.K fx0 args pre (fun i => Eq (r i))) [] E ta) ρ (fun _ => False) (fun C' d' => C' = C ∧ d' = d) :=
  evx_call i ha hp (fun s' h => by rw [e] at h; cases h) fun C' d' h => by
    rw [e] at h
    cases h
    exact ⟨rfl, rfl⟩
theorem evx_callLV {C : Addr} {d : D} {j : Nat} {f : Addr} (i : ι) (hj : ρ[j]? = some (.raw (.ref f))) (ha : EvA S ta ρ (Eq (args i))) (hp : pre i) (e : r i = .ex C d) : EvX S (fun E => tCallL j f (spI S.K fx0 args pre (fun i => Eq (r i))) [] E ta) ρ (fun _ => False) (fun C' d' => C' = C ∧ d' = d) :=
  evx_callL i hj ha hp (fun s' h => by rw [e] at h; cases h) fun C' d' h => by
    rw [e] at h
    cases h
    exact ⟨rfl, rfl⟩
theorem et_no {tt : TT} {b : Bool} (h : EvT S tt ρ (Eq b)) (e : b = false) : EvT S tt ρ (Eq false) := e ▸ h
end
end Dl

set_option Elab.async false
set_option linter.all false
set_option maxRecDepth 100000
set_option maxHeartbeats 4000000
/-! Dini: facts of the written part, put together. -/
namespace Dl
open PySem PySem.Spec PyProof.Rows L2 LamX
section
variable {P : Program} {w : World} {K : PySem.W.Frag} {mg : Str → Option Value} {base : Heap}
/-- __init__(self, value=None): self.value = value -/
theorem iniF_mk {fI : Addr} {fd : FuncData} {q : Str} {st : Stmt} {b1 b2 b3 b4 : Pos} (F : FunD K "__init__" q (defArgs st) (defBody st) (defScope st) [.non] [] fI fd) (Sc : FnScope ["self", "value"] ["self", "value"] (defScope st))
    (hs : (defScope st).names = [(PySem.Str.ofString "self", .local), (PySem.Str.ofString "value", .local)]) (hb : defBody st = [.Assign [.Attribute (.Name "self" b1) "value" b2] (.Name "value" b3) b4])
    (hbind : ∀ (T : Addr) (kV doc pm : Value) (an : Option Addr) (cdv ct : Value) (us its : List Value), us.length = 2 → its.length = 1 →
      ∃ k, bindArgs (PySem.W.fnOf "__init__" q (defArgs st) (defBody st) (defScope st) (.ref T) kV doc pm an cdv ct) ⟨us, []⟩ = seqItems? (.ref T) >>= k ∧ k (some its.toArray) = pure ((["self", "value"] : List Str).zip (us ++ its.drop 1))) : IniF P w K mg base fI := by
  obtain ⟨ds, hv, hB⟩ := F.binds1 (ps := ["self", "value"]) 2 1 (by simp) rfl fun T kV doc pm an cdv ct us its h1 h2 => hbind T kV doc pm an cdv ct us its h1 h2
  cases hv
  refine ⟨fd, F.ok (CX := CX0) Sc (fun vs H Q E h => ?_) fun cdv A outer s H vs Q E hr h => ?_, hB⟩
  · obtain ⟨a, C, v, rfl, _⟩ := h
    rfl
  · obtain ⟨a, C, v, rfl, T, nv, ha, k⟩ := h
    have v0 : Vis (cxOf CX0 P w K mg base ["self", "value"] q (defScope st) fI cdv A outer s H E).env.scope "self" := .inl (by show (defScope st).names.lookup _ = _; rw [hs]; decide +kernel)
    have v1 : Vis (cxOf CX0 P w K mg base ["self", "value"] q (defScope st) fI cdv A outer s H E).env.scope "value" := .inl (by show (defScope st).names.lookup _ = _; rw [hs]; decide +kernel)
    refine ⟨_, by rw [hb]; exact pss_one (ps_ost (pe_var (i := 0) rfl v0) (pe_var (i := 1) rfl v1)), ?_⟩
    exact ⟨v, rfl, .ref a, rfl, a, C, rfl, T, nv, .inl ⟨ha, fun dx h1 h2 => k dx h1 h2⟩⟩
theorem exm_of {cls : Value} {S : Addr} {b : Bool} (h1 : PySem.W.subIn K (.ref S) (.type "BaseException") = some true) (h2 : PySem.W.isClsIn K S = true) (h3 : PySem.W.typeIn K (.ref S) = some (.type "type")) (h4 : PySem.W.subIn K cls (.ref S) = some b) : PySem.W.exmOne K cls (.ref S) = some b := by
  have e1 : (PySem.W.subIn K (.ref S) (.type "BaseException") == some true) = true := by rw [h1] <;> rfl
  have e2 : ((PySem.W.clsIn K S).isSome && PySem.W.typeIn K (.ref S) == some (.type "type")) = true := by
    have h2' : (PySem.W.clsIn K S).isSome = true := h2
    rw [h2', h3] <;> rfl
  show (if (PySem.W.subIn K (.ref S) (.type "BaseException") == some true) = true then (if ((PySem.W.clsIn K S).isSome && PySem.W.typeIn K (.ref S) == some (.type "type")) = true then PySem.W.subIn K cls (.ref S) else none) else none) = some b
  rw [if_pos e1, if_pos e2]
  exact h4
/-- the law's code object -/
theorem lawFn_mk {fa c T : Addr} {oc : Value} {od oe' : Option Addr} {fd : FuncData} {sl sl' : Array (Option Value)} {vs : Array Value} {t18 : Tok} {x18 : Str} {i7 i10 : Int} {t7 t10 : Tok} {b9 : Bool} (l : K.lookup fa = some ⟨oc, od, .func fd, sl⟩) (hc : fd.code = .ref c) (lc : K.lookup c = some ⟨.type "code", oe', .fields vs, sl'⟩)
    (v11 : vs[11]? = some (.ref T)) (v18 : vs.getD 18 .none = .str x18 t18) (v7 : vs.getD 7 .none = .int i7 t7) (v9 : vs.getD 9 .none = .bool b9) (v10 : vs.getD 10 .none = .int i10 t10) (ne : (c != T) = true) (no : K.lookup T = none) : LawFn K fa c T := by
  refine ⟨⟨_, _, _, _, l, hc⟩, ⟨_, _, _, _, lc, v11⟩, ?_, no⟩
  unfold PySem.W.codeHdIn
  rw [lc]
  simp only [v11, v18, v7, v9, v10, ne]
  simp
theorem tup_K {a : Addr} {xs : List V} {its : Array Value} {n : Nat} {dd : Option Addr} {sl : Array (Option Value)} (l : K.lookup a = some ⟨.type "tuple", dd, .seq its n, sl⟩) (hz : its.size ≤ sizeLine) (r : Vals xs its.toList) : SqT K (fun _ => none) a xs := .inr ⟨_, _, _, l, rfl, rfl, hz, r⟩
end
end Dl

set_option Elab.async false
set_option linter.all false
set_option maxRecDepth 100000
set_option maxHeartbeats 4000000
/-! Dlo: objects: their fields; making them; their methods. -/
namespace Dl
open PySem PySem.Spec PyProof.Rows L2 LamX
section
variable {K : PySem.W.Frag} {G G' H H' : Hp}
theorem FA.look {f : Str} {x : Fv} : ∀ {vs : List (Str × V)} {ds : Fs}, FA K G vs ds → ds.lookup f = some x → ∃ v, vs.lookup f = some v ∧ RFv K G v x
  | _, _, .nil, h => by simp at h
  | _, _, .cons (f := g) r rs, h => by
    rw [List.lookup_cons] at h ⊢
    cases q : f == g with
    | true =>
      rw [q] at h
      simp only [Option.some.injEq] at h
      subst h
      exact ⟨_, rfl, r⟩
    | false =>
      rw [q] at h
      exact FA.look rs h
theorem FA.lookN {f : Str} : ∀ {vs : List (Str × V)} {ds : Fs}, FA K G vs ds → ds.lookup f = none → vs.lookup f = none
  | _, _, .nil, _ => rfl
  | _, _, .cons (f := g) r rs, h => by
    rw [List.lookup_cons] at h ⊢
    cases q : f == g with
    | true =>
      rw [q] at h
      cases h
    | false =>
      rw [q] at h
      exact FA.lookN rs h
def putD (f : Str) (v : Fv) : Fs → Fs
  | [] => [(f, v)]
  | (g, x) :: r => if g = f then (g, v) :: r else (g, x) :: putD f v r
theorem FA.put {f : Str} {v : V} {x : Fv} (r : RFv K G v x) : ∀ {vs : List (Str × V)} {ds : Fs}, FA K G vs ds → FA K G (putF f v vs) (putD f x ds)
  | _, _, .nil => .cons r .nil
  | _, _, .cons (f := g) q qs => by
    unfold putF putD
    by_cases z : g = f
    · rw [if_pos z, if_pos z]
      exact .cons r qs
    · rw [if_neg z, if_neg z]
      exact .cons q (FA.put r qs)
/-- a field is told otherwise -/
theorem FA.re {f : Str} {x : Fv} : ∀ {vs : List (Str × V)} {ds : Fs}, FA K G vs ds → (∀ v, vs.lookup f = some v → RFv K G v x) → ds.lookup f ≠ none → FA K G vs (putD f x ds)
  | _, _, .nil, _, n => by simp at n
  | _, _, .cons (f := g) q qs, h, n => by
    unfold putD
    by_cases z : g = f
    · rw [if_pos z]
      subst z
      exact .cons (h _ (by rw [List.lookup_cons]; simp)) qs
    · rw [if_neg z]
      have z' : (f == g) = false := by simpa using fun e => z e.symm
      refine .cons q (FA.re qs (fun v hv => h v (by rw [List.lookup_cons, z']; exact hv)) fun e => n (by rw [List.lookup_cons, z']; exact e))
theorem FA.length : ∀ {vs : List (Str × V)} {ds : Fs}, FA K G vs ds → vs.length = ds.length
  | _, _, .nil => rfl
  | _, _, .cons _ r => congrArg (· + 1) (FA.length r)
end
def Fv.sl : Fv → Sl
  | .d x => .dat x
  | .r v => .raw v
  | .k f ds => .dic f ds
theorem RFv.sl {K : PySem.W.Frag} {G : Hp} {v : V} {x : Fv} (h : RFv K G v x) : RS K G v x.sl := by
  cases x with
  | d x => exact h
  | r w => exact h
  | k f ds => exact h
section
variable {S : Cf} {ρ : Rho} {te ta : TE} {P : Oc → Prop} {w : TS} {i : Nat} {a C dx : Addr} {vf : List (Str × V)} {fs : Fs} {f : Str}
theorem own_ins {G H : Hp} {σ : L2.St} (e : Env S G H σ ρ) (h : ρ[i]? = some (.own a (.ins C dx vf fs))) : σ[i]? = some (some (.ref a)) ∧ G a = none ∧ (S.B a = none ∨ S.fx.mine a) ∧ ¬ S.fx.vol a ∧ H a = some (.ins C dx vf) ∧ FA S.K G vf fs := by
  obtain ⟨v, h1, e1, ga, ba, va, u, ha, r⟩ := e.get h
  cases Option.some.inj e1
  cases u with
  | ins C' dx' vs =>
    obtain ⟨⟨e1, e2, e3⟩, fa⟩ := r
    cases e1
    cases e2
    cases e3
    exact ⟨h1, ga, ba.imp id fun z => z.1, va, ha, fa⟩
  | _ => exact r.elim
/-- x.f, x ours -/
theorem ev_fldX {x : Fv} (h : ρ[i]? = some (.own a (.ins C dx vf fs))) (c : Cls S.K C) (n : NoAttr S.K C f) (l : fs.lookup f = some x) : Ev S (tFld S.K (tVar i) f) ρ (Eq x.sl) := fun σ G H k e Q q => by
  obtain ⟨h1, ga, ba, va, ha, fa⟩ := own_ins e h
  obtain ⟨v, lv, rv⟩ := fa.look l
  exact ⟨_, h1, a, C, dx, vf, v, rfl, ha, c, n, lv, q v _ G H (Grow.refl k) k rfl rv.sl⟩
theorem ev_fld {d : D} (h : ρ[i]? = some (.own a (.ins C dx vf fs))) (c : Cls S.K C) (n : NoAttr S.K C f) (l : fs.lookup f = some (.d d)) : Ev S (tFld S.K (tVar i) f) ρ (Eq (.dat d)) := ev_fldX (x := .d d) h c n l
/-- x.f, x an object that never changes -/
theorem ev_fldKX {x : Fv} {oa : Option Addr} (h : Ev S te ρ (Eq (.ob oa C fs))) (c : Cls S.K C) (n : NoAttr S.K C f) (l : fs.lookup f = some x) : Ev S (tFld S.K te f) ρ (Eq x.sl) := fun σ G H k e Q q =>
  h σ G H k e _ fun v s G1 H1 g1 k1 es r => by
    subst es
    obtain ⟨b, dx, vf, rfl, hb, fa, _⟩ := r
    obtain ⟨u, lu, ru⟩ := fa.look l
    exact ⟨b, C, dx, vf, u, rfl, k1.gh _ _ hb, c, n, lu, q u _ G1 H1 g1 k1 rfl ru.sl⟩
theorem ev_fldK {d : D} {oa : Option Addr} (h : Ev S te ρ (Eq (.ob oa C fs))) (c : Cls S.K C) (n : NoAttr S.K C f) (l : fs.lookup f = some (.d d)) : Ev S (tFld S.K te f) ρ (Eq (.dat d)) := ev_fldKX (x := .d d) h c n l
/-- a name that holds such an object -/
theorem ev_varOb {oa : Option Addr} (h : ρ[i]? = some (.ob oa C fs)) : Ev S (tVar i) ρ (Eq (.ob none C fs)) := fun σ G H k e Q q => by
  obtain ⟨v, h1, v', e', b, dx, vf, e1, e2, e3, _⟩ := e.get h
  cases e'
  exact ⟨v, h1, q v _ G H (Grow.refl k) k rfl ⟨b, dx, vf, e1, e2, e3, fun _ z => by cases z⟩⟩
/-- x.f = e -/
theorem xc_setf {p : D → Prop} (h : ρ[i]? = some (.own a (.ins C dx vf fs))) (he : Ev S te ρ (fun s => ∃ d, s = .dat d ∧ p d)) (c : Cls S.K C) (n : NoAttr S.K C f) (hl : fs.length < 900) (k : ∀ d vf', p d → P (.nx (ρ.set i (.own a (.ins C dx vf' (putD f (.d d) fs)))))) : Xc S (sFld S.K (tVar i) te f) ρ P := fun σ G H De o e fi =>
  he σ G H o.kn e _ fun v s G1 H1 g1 k1 ⟨d, es, pd⟩ rd => by
    subst es
    have o1 := o.grow g1 k1
    have e1 := e.grow g1
    obtain ⟨h1, ga, ba, va, ha, fa⟩ := own_ins e1 h
    obtain ⟨o2, e2⟩ := own_write (u' := .ins C dx (putF f v vf)) (m' := .ins C dx (putF f v vf) (putD f (.d d) fs)) o1 e1 h ⟨⟨rfl, rfl, rfl⟩, fa.put (x := .d d) rd⟩
    exact ⟨_, h1, a, C, dx, vf, rfl, ha, c, n, by rw [fa.length]; omega, fi.nx _ G1 _ _ o2 g1.gg e2 (k d _ pd)⟩
theorem xc_setfE {d : D} (h : ρ[i]? = some (.own a (.ins C dx vf fs))) (he : Ev S te ρ (Eq (.dat d))) (c : Cls S.K C) (n : NoAttr S.K C f) (hl : fs.length < 900) (k : ∀ vf', P (.nx (ρ.set i (.own a (.ins C dx vf' (putD f (.d d) fs)))))) : Xc S (sFld S.K (tVar i) te f) ρ P :=
  xc_setf (p := Eq d) h (he.imp fun s e => ⟨d, e.symm, rfl⟩) c n hl fun d' vf' e => e ▸ k vf'
theorem xs_setfE {d : D} (h : ρ[i]? = some (.own a (.ins C dx vf fs))) (he : Ev S te ρ (Eq (.dat d))) (c : Cls S.K C) (n : NoAttr S.K C f) (hl : fs.length < 900) (k : ∀ vf', Xc S w (ρ.set i (.own a (.ins C dx vf' (putD f (.d d) fs)))) P) : Xc S (tSeq (sFld S.K (tVar i) te f) w) ρ P := xc_seq (xc_setfE h he c n hl k)
end
/-! ### a method's promise -/
def spO (K : PySem.W.Frag) (C : Addr) (ro : Bool) {ι : Type} (args : ι → List Sl) (f0 : ι → Fs) (pre : ι → Prop) (post : ι → Sl → Fs → Prop) : Sp := fun vs H Q _ =>
  ∃ (i : ι) (G : Hp) (a dx : Addr) (vf : List (Str × V)) (ws : List V), vs = .ref a :: ws ∧ pre i ∧ Kn fx0 G H ∧ G a = none ∧ H a = some (.ins C dx vf) ∧ FA K G vf (f0 i) ∧ RSs K G ws (args i) ∧
    ∀ v s G' H' dx' vf' fs', GrO (fxM a) G H G' H' → G' a = none → Kn fx0 G' H' → RS K G' v s → H' a = some (.ins C dx' vf') → (ro = true → dx' = dx ∧ vf' = vf) → FA K G' vf' fs' → post i s fs' → Q v H'
def ObjP (a C dx : Addr) (vf : List (Str × V)) (ro : Bool) (post : Sl → Fs → Prop) : Oc → Prop
  | .nx ρ => ∃ dx' vf' fs', ρ[0]? = some (.own a (.ins C dx' vf' fs')) ∧ (ro = true → dx' = dx ∧ vf' = vf) ∧ post (.dat .none) fs'
  | .rt ρ s => ∃ dx' vf' fs', ρ[0]? = some (.own a (.ins C dx' vf' fs')) ∧ (ro = true → dx' = dx ∧ vf' = vf) ∧ post s fs'
  | _ => False
section
variable {P : Program} {w : World} {K : PySem.W.Frag} {mg : Str → Option Value} {base : Heap}
theorem RSs.noholds {K : PySem.W.Frag} {G : Hp} {t : Sl} {x : Addr × Mo} : ∀ {vs : List V} {ss : List Sl} {j : Nat}, RSs K G vs ss → ss[j]? = some t → t.holds ≠ some x
  | _, _, _, .nil, h => by simp at h
  | _, _, 0, .cons (s := s0) r _, h => by
    simp only [List.getElem?_cons_zero, Option.some.injEq] at h
    rw [← h]
    clear h
    cases s0 with
    | own a m => exact r.elim
    | gho a m => exact r.elim
    | _ => intro z; cases z
  | _, _, j + 1, .cons _ r, h => by
    simp only [List.getElem?_cons_succ] at h
    exact RSs.noholds r h
theorem fn_okO {ι : Type} {C : Addr} {ro : Bool} {args : ι → List Sl} {f0 : ι → Fs} {pre : ι → Prop} {post : ι → Sl → Fs → Prop} {x qual : Str} {st : Stmt} {f : Addr} {fd : FuncData} {N ps : List Str} {k : Nat} (F : Fun K x qual st f fd) (Sc : FnScope N ps (defScope st)) (hl : ∀ i, pre i → (args i).length + 1 = ps.length)
    (hbody : ∀ (cdv : Value) (A : Around) (outer : List PySem.Env) (s : Shared) (H : Hp) (E : XK), Room k (A.deeper (envOfC qual (defScope st) s.heap.objs.size f cdv)) → ∀ (i : ι), pre i →
      ∃ t, PSs (cxOf (L2.CX P w) P w K mg base N qual (defScope st) f cdv A outer s H E) (defBody st) t ∧ ∀ (G : Hp) (a dx : Addr) (vf : List (Str × V)), Xc ⟨K, fxM a, G, H, E⟩ t ((.own a (.ins C dx vf (f0 i)) :: args i) ++ List.replicate (N.length - ps.length) .no) (ObjP a C dx vf ro (post i))) :
    FnOk P w K mg base (L2.CX P w) (k + 1) f fd ps (spO K C ro args f0 pre post) := by
  refine F.okX Sc (fun vs H Q E h => ?_) fun cdv A outer s H vs Q E hr h => ?_
  · obtain ⟨i, G, a, dx, vf, ws, rfl, hp, _, _, _, _, r, _⟩ := h
    rw [List.length_cons, r.length, hl i hp]
  · obtain ⟨i, G, a, dx, vf, ws, rfl, hp, kn, ga, ha, fa, r, q⟩ := h
    obtain ⟨t, ht, hx⟩ := hbody cdv A outer s H E hr i hp
    refine ⟨t, ht, ?_⟩
    have hn : (V.ref a :: ws).length = ps.length := by rw [List.length_cons, r.length, hl i hp]
    have r0 : RSs K G (V.ref a :: ws) (.raw (.ref a) :: args i) := .cons rfl r
    have ev0 := env_start (S := ⟨K, fxM a, G, H, E⟩) (H := H) (N.length - ps.length) r0
    have e1 := ev0.put 0 (some (.ref a)) (.own a (.ins C dx vf (f0 i))) ⟨rfl, ga, .inr ⟨rfl, trivial⟩, fun z => z, _, ha, ⟨rfl, rfl, rfl⟩, fa⟩ (fun b m hb j t m' _ hj z => by
      obtain ⟨o, _, ok⟩ := ev0.at_ j t hj
      by_cases hl : j < (Sl.raw (.ref a) :: args i).length
      · rw [List.getElem?_append_left hl] at hj
        exact RSs.noholds r0 hj z
      · rw [List.getElem?_append_right (by omega), List.getElem?_replicate] at hj
        split at hj
        · cases hj
          cases z
        · cases hj)
    unfold L2.start
    rw [hn]
    have kn' : Kn (fxM a) G H := ⟨kn.gh, trivial, fun b v => v.elim⟩
    have mn : MnOk (fxM a) H := fun b z => by
      cases (show b = a from z)
      exact ⟨fun v => v, by rw [ha]; simp⟩
    refine hx G a dx vf _ G H _ ⟨kn', kn', GrO.of (Grow.refl kn'), mn, mn⟩ e1 ⟨fun σ G' H' ρ o s e p => ?_, fun σ G' H' ρ o s e p => p.elim, fun σ G' H' ρ o s e p => p.elim, fun σ v s G' H' ρ o e r p => ?_, fun C d dd v G' H' o hd r p => p.elim⟩
    · obtain ⟨dx', vf', fs', p0, p1, p2⟩ := p
      obtain ⟨_, ga', _, _, ha', fa'⟩ := own_ins e p0
      exact q .non (.dat .none) G' H' dx' vf' fs' o.gr ga' o.kn.low .non ha' p1 fa' p2
    · obtain ⟨dx', vf', fs', p0, p1, p2⟩ := p
      obtain ⟨_, ga', _, _, ha', fa'⟩ := own_ins e p0
      exact q v s G' H' dx' vf' fs' o.gr ga' o.kn.low r ha' p1 fa' p2
end
/-! ### calls of methods -/
section
variable {S : Cf} {G H G' H' : Hp} {σ : L2.St} {ρ : Rho} {a : Addr}
/-- behind a call that wrote at one's own place a -/
theorem after_own {u0 : HO} (o : OkS S G H) (ba : S.B a = none ∨ S.fx.mine a) (va : ¬ S.fx.vol a) (ha : H a = some u0) (fu : ¬ Fixd u0) (g : GrO (fxM a) G H G' H') (hn : H' a ≠ none) : OkS S G' H' := by
  have hh : ∀ b u, b ≠ a → H b = some u → H' b = some u := fun b u n e => g.hh b u (fun z => z) n e
  have kn : Kn S.fx G' H' := ⟨g.gh, S.fx.ext (fun b u hb e => hh b u (fun q => by
      rcases hb with hb | hb
      · exact va (q ▸ hb)
      · rw [q, ha] at e
        cases e
        exact fu hb) e) o.kn.inv, fun b v => by
    obtain ⟨u, hu, nt⟩ := S.fx.there o.kn.inv v
    exact g.nn b u (fun q => va ((show b = a from q) ▸ v)) hu nt (o.kn.vn b v)⟩
  have nn : ∀ b, H b ≠ none → H' b ≠ none := fun b hb => by
    by_cases q : b = a
    · rw [q]
      exact hn
    · cases e : H b with
      | none => exact absurd e hb
      | some u =>
        rw [hh b u q e]
        simp
  refine ⟨kn, o.k0, ⟨o.gr.gg.trans g.gg, g.gh, fun b u vb mb hb => ?_, fun b u mb hb nt n => ?_⟩, fun b m => ?_, o.m0⟩
  · have q : b ≠ a := fun q => by
      rcases ba with ba | ba
      · rw [q, ba] at hb
        cases hb
      · exact mb (q ▸ ba)
    exact hh b u q (o.gr.hh b u vb mb hb)
  · by_cases v : S.fx.vol b
    · exact kn.vn b v
    · have q : b ≠ a := fun q => by
        rcases ba with ba | ba
        · rw [q, ba] at hb
          cases hb
        · exact mb (q ▸ ba)
      exact g.nn b u q (o.gr.hh b u v mb hb) nt (o.gr.nn b u mb hb nt n)
  · obtain ⟨x, z⟩ := o.mn b m
    exact ⟨x, nn b z⟩
/-- the names that do not own the place -/
theorem env_own (e : Env S G H σ ρ) (no : ∀ (j : Nat) (t : Sl) (m : Mo), ρ[j]? = some t → t.holds ≠ some (a, m)) (g : GrO (fxM a) G H G' H') : Env S G' H' σ ρ := ⟨e.len, fun j s hj => by
  obtain ⟨o, h1, h2⟩ := e.at_ j s hj
  refine ⟨o, h1, ?_⟩
  have nh := fun m => no j s m hj
  cases s with
  | no => exact True.intro
  | dat d =>
    obtain ⟨v, e', r⟩ := h2
    exact ⟨v, e', r.mono g.gg⟩
  | dic f ds =>
    obtain ⟨v, e', r⟩ := h2
    exact ⟨v, e', r.mono g.gg⟩
  | ob oa C fs =>
    obtain ⟨v, e', r⟩ := h2
    exact ⟨v, e', r.mono g.gg⟩
  | rd c vs ds =>
    obtain ⟨v, e', r⟩ := h2
    exact ⟨v, e', r.mono g.gg⟩
  | raw x => exact h2
  | own b m =>
    obtain ⟨x1, x2, x3, x4, u, x5, x6⟩ := h2
    have q : b ≠ a := fun q => nh m (by rw [q] <;> rfl)
    exact ⟨x1, g.nn b u (fun z => q z) x5 x6.noTup x2, x3, x4, u, g.hh b u (fun z => z) q x5, x6.mono g.gg⟩
  | gho b m =>
    obtain ⟨x2, x3, x4, u, x5, x6⟩ := h2
    have q : b ≠ a := fun q => nh m (by rw [q] <;> rfl)
    exact ⟨g.nn b u (fun z => q z) x5 x6.noTup x2, x3, x4, u, g.hh b u (fun z => z) q x5, x6.mono g.gg⟩, e.dis⟩
theorem env_back (e : Env S G H σ ρ) {i : Nat} {m m' : Mo} (h : ρ[i]? = some (.own a m)) (h1 : σ[i]? = some (some (.ref a))) (g : GrO (fxM a) G H G' H') (ok : SlOk S G' H' (some (.ref a)) (.own a m')) : Env S G' H' σ (ρ.set i (.own a m')) := by
  have e0 := e.forget i
  have no : ∀ (j : Nat) (t : Sl) (n : Mo), (ρ.set i Sl.no)[j]? = some t → t.holds ≠ some (a, n) := fun j t n hj => by
    rcases set_get hj with ⟨_, z⟩ | ⟨nj, z⟩
    · subst z
      intro z
      cases z
    · exact e.alone h rfl nj z
  have e1 := env_own e0 no g
  have e2 := e1.put i (some (.ref a)) (.own a m') ok fun b n z j t n' nj hj => by
    cases z
    exact no j t n' hj
  have hi : i < σ.length := (List.getElem?_eq_some_iff.mp h1).1
  have es : σ.set i (some (.ref a)) = σ := by
    apply List.ext_getElem?
    intro j
    by_cases q : j = i
    · subst q
      rw [List.getElem?_set_self hi, h1]
    · rw [List.getElem?_set_ne (Ne.symm q)]
  have er : (ρ.set i Sl.no).set i (.own a m') = ρ.set i (.own a m') := by simp
  rw [es, er] at e2
  exact e2
end
section
variable {S : Cf} {ρ : Rho} {te ta : TE} {tr : TA} {P : Oc → Prop} {w : TS} {j : Nat} {a C dx : Addr} {vf : List (Str × V)} {fs : Fs} {m : Str} {E : XK} {ι : Type} {args : ι → List Sl} {f0 : ι → Fs} {pre : ι → Prop} {post : ι → Sl → Fs → Prop}
/-- x.m(..), the object stays as it is -/
theorem ev_methP {Pok : Sl → Prop} {Pa : List Sl → Prop} (h : ρ[j]? = some (.own a (.ins C dx vf fs))) (lm : fs.lookup m = none) (ha : EvA S tr ρ Pa) (hp : ∀ ss, Pa ss → ∃ i, ss = args i ∧ f0 i = fs ∧ pre i ∧ ∀ s fs', post i s fs' → Pok s) :
    Ev S (tMeth C m (spO S.K C true args f0 pre post) [] E (tVar j) tr) ρ Pok := fun σ G H k e Q q => by
  obtain ⟨h1, ga0, ba0, va, ha0, fa0⟩ := own_ins e h
  refine ⟨_, h1, a, dx, vf, rfl, ha0, fa0.lookN lm, ha σ G H k e _ fun ws ss G1 H1 g1 k1 pa r => ?_⟩
  obtain ⟨i, es, ef, hpi, ho⟩ := hp ss pa
  subst es ef
  obtain ⟨_, ga, ba, va, ha1, fa⟩ := own_ins (e.grow g1) h
  rw [List.append_nil]
  refine ⟨i, G1, a, dx, vf, ws, rfl, hpi, k1.low, ga, ha1, fa, r, fun v s G' H' dx' vf' fs' g ga' kn rv ha' hro fa' po => ?_⟩
  obtain ⟨e1, e2⟩ := hro rfl
  subst e1 e2
  have gr : Grow fx0 G1 H1 G' H' := ⟨g.gg, g.gh, fun b u _ hb => by
    by_cases z : b = a
    · subst z
      rw [ha1] at hb
      cases hb
      exact ha'
    · exact g.hh b u (fun z => z) z hb, fun b u hb nt n => by
    by_cases z : b = a
    · rw [z]
      exact ga'
    · exact g.nn b u z hb nt n⟩
  exact q v s G' H' (g1.trans k1 (k1.lift gr) gr.lift) (k1.lift gr) (ho s fs' po) rv
theorem ev_meth {Pok : Sl → Prop} (i : ι) (h : ρ[j]? = some (.own a (.ins C dx vf fs))) (lm : fs.lookup m = none) (ef : f0 i = fs) (ha : EvA S tr ρ (Eq (args i))) (hp : pre i) (ho : ∀ s fs', post i s fs' → Pok s) : Ev S (tMeth C m (spO S.K C true args f0 pre post) [] E (tVar j) tr) ρ Pok :=
  ev_methP h lm ha fun ss e => ⟨i, e.symm, ef, hp, ho⟩
/-- x.m(..) as a statement, x may be written at -/
theorem xc_meth {ro : Bool} {Pa : List Sl → Prop} (h : ρ[j]? = some (.own a (.ins C dx vf fs))) (lm : fs.lookup m = none) (ha : EvA S tr ρ Pa) (hp : ∀ ss, Pa ss → ∃ i, ss = args i ∧ f0 i = fs ∧ pre i ∧ ∀ s dx' vf' fs', post i s fs' → P (.nx (ρ.set j (.own a (.ins C dx' vf' fs'))))) :
    Xc S (tDrop (tMeth C m (spO S.K C ro args f0 pre post) [] E (tVar j) tr)) ρ P := fun σ G H De o e f => by
  obtain ⟨h1, ga0, ba0, va0, ha0, fa0⟩ := own_ins e h
  refine ⟨_, h1, a, dx, vf, rfl, ha0, fa0.lookN lm, ha σ G H o.kn e _ fun ws ss G1 H1 g1 k1 pa r => ?_⟩
  obtain ⟨i, es, ef, hpi, ho⟩ := hp ss pa
  subst es ef
  have o1 := o.grow g1 k1
  have e1 := e.grow g1
  obtain ⟨_, ga, ba, va, ha1, fa⟩ := own_ins e1 h
  rw [List.append_nil]
  refine ⟨i, G1, a, dx, vf, ws, rfl, hpi, k1.low, ga, ha1, fa, r, fun v s G' H' dx' vf' fs' g ga' kn rv ha' hro fa' po => ?_⟩
  have o2 := after_own o1 ba va ha1 (fun z => z) g (by rw [ha']; simp)
  have e2 := env_back (m' := .ins C dx' vf' fs') e1 h h1 g ⟨rfl, ga', ba.imp id fun z => ⟨z, trivial⟩, va, _, ha', ⟨rfl, rfl, rfl⟩, fa'⟩
  exact f.nx _ G' H' _ o2 (g1.gg.trans g.gg) e2 (ho s dx' vf' fs' po)
/-- x = C(..) -/
theorem xc_make {ro : Bool} {Pa : List Sl → Prop} (ha : EvA S tr ρ Pa) (hp : ∀ ss, Pa ss → ∃ i, ss = args i ∧ f0 i = [] ∧ pre i ∧ ∀ s fs', post i s fs' → s = .dat .none ∧ ∀ a' dx' vf', P (.nx (ρ.set j (.own a' (.ins C dx' vf' fs'))))) :
    Xc S (tAsg (tMake C (spO S.K C ro args f0 pre post) [] E tr) (gName j)) ρ P := fun σ G H De o e f => by
  refine ha σ G H o.kn e _ fun ws ss G1 H1 g1 k1 pa r x dx' hx hd nd => ?_
  obtain ⟨i, es, ef, hpi, ho⟩ := hp ss pa
  subst es
  have o1 := o.grow g1 k1
  have e1 := e.grow g1
  have sm : Same H1 (upd (upd H1 dx' (.own x)) x (.ins C dx' [])) := (same_new hd).trans (same_new (by rw [upd_ne nd.symm]; exact hx))
  have k2 := k1.same sm
  have g2 := Grow.same k1 sm
  have o2 := o1.grow g2 k2
  have e2 := e1.grow g2
  have gx : G1 x = none := k1.freeG hx
  have bx : S.B x = none := o1.freshB hx
  have vx : ¬ S.fx.vol x := k1.fresh hx
  have hx2 : (upd (upd H1 dx' (.own x)) x (.ins C dx' [])) x = some (.ins C dx' []) := upd_same
  rw [List.append_nil]
  refine ⟨i, G1, x, dx', [], ws, rfl, hpi, k2.low, gx, hx2, by rw [ef]; exact .nil, r, fun v s G' H' dx'' vf' fs' g ga' kn rv ha' hro fa' po => ?_⟩
  obtain ⟨es, hk⟩ := ho s fs' po
  subst es
  cases rv
  refine ⟨rfl, ?_⟩
  have o3 := after_own o2 (.inl bx) vx hx2 (fun z => z) g (by rw [ha']; simp)
  have no : ∀ (j' : Nat) (t : Sl) (m' : Mo), ρ[j']? = some t → t.holds ≠ some (x, m') := fun j' t m' z hz => by
    obtain ⟨v, _, ok⟩ := e1.at_ j' t z
    obtain ⟨_, _, _, u, hu, _⟩ := ok.holdsOk hz
    rw [hx] at hu
    cases hu
  have e3 := env_own e2 no g
  have e4 := e3.put j (some (.ref x)) (.own x (.ins C dx'' vf' fs')) ⟨rfl, ga', .inl bx, vx, _, ha', ⟨rfl, rfl, rfl⟩, fa'⟩ fun b n z j' t n' _ hj => by
    cases z
    exact no j' t n' hj
  exact f.nx _ G' H' _ o3 (g1.gg.trans g.gg) e4 (hk x dx'' vf')
end
/-! ### methods by name -/
structure CalM (P : Program) (w : World) (K : PySem.W.Frag) (mg : Str → Option Value) (base : Heap) (k : Nat) (C : Addr) (m : Str) (ps : List Str) (sp : Sp) : Prop where
  ex : ∃ (f : Addr) (fd : FuncData), FnOk P w K mg base (L2.CX P w) k f fd ps sp ∧ Cls K C ∧ Meth K C m f ∧ Binds K fd ps []
/-- where the text's method stands -/
structure DefM (K : PySem.W.Frag) (C : Addr) (m qual : Str) (st : Stmt) : Prop where
  ex : ∃ (f : Addr) (fd : FuncData), Fun K m qual st f fd ∧ Meth K C m f
  cls : Cls K C
/-- the class is called: its __init__ -/
structure CalK (P : Program) (w : World) (K : PySem.W.Frag) (mg : Str → Option Value) (base : Heap) (k : Nat) (x : Str) (C : Addr) (ps : List Str) (sp : Sp) : Prop where
  ex : ∃ (f : Addr) (fd : FuncData), FnOk P w K mg base (L2.CX P w) k f fd ps sp ∧ Mk K C f ∧ mg x = some (.ref C) ∧ Binds K fd ps []
structure DefK (K : PySem.W.Frag) (mg : Str → Option Value) (x : Str) (C : Addr) (qual : Str) (st : Stmt) : Prop where
  ex : ∃ (f : Addr) (fd : FuncData), Fun K "__init__" qual st f fd ∧ Mk K C f
  gC : mg x = some (.ref C)
section
variable {P : Program} {w : World} {K : PySem.W.Frag} {mg : Str → Option Value} {base : Heap} {ι : Type} {C : Addr} {ro : Bool} {args : ι → List Sl} {f0 : ι → Fs} {pre : ι → Prop} {post : ι → Sl → Fs → Prop} {x m qual : Str} {st : Stmt} {N ps : List Str} {k : Nat}
theorem mk_calM (T : DefM K C m qual st) (Sc : FnScope N ps (defScope st)) (hl : ∀ i, pre i → (args i).length + 1 = ps.length)
    (hb : ∀ (kV doc pm : Value) (an : Option Addr) (cdv ct : Value) (us : List Value), us.length = ps.length → bindArgs (PySem.W.fnOf m qual (defArgs st) (defBody st) (defScope st) .none kV doc pm an cdv ct) ⟨us, []⟩ = pure (ps.zip us))
    (body : ∀ (f : Addr) (cdv : Value) (A : Around) (outer : List PySem.Env) (s : Shared) (H : Hp) (E : XK), Room k (A.deeper (envOfC qual (defScope st) s.heap.objs.size f cdv)) → ∀ (i : ι), pre i →
      ∃ t, PSs (cxOf (L2.CX P w) P w K mg base N qual (defScope st) f cdv A outer s H E) (defBody st) t ∧ ∀ (G : Hp) (a dx : Addr) (vf : List (Str × V)), Xc ⟨K, fxM a, G, H, E⟩ t ((.own a (.ins C dx vf (f0 i)) :: args i) ++ List.replicate (N.length - ps.length) .no) (ObjP a C dx vf ro (post i))) :
    CalM P w K mg base (k + 1) C m ps (spO K C ro args f0 pre post) := by
  obtain ⟨⟨f, fd, F, M⟩, c⟩ := T
  exact ⟨f, fd, fn_okO F Sc hl fun cdv A outer s H E => body f cdv A outer s H E, c, M, F.binds hb⟩
theorem mk_calK (T : DefK K mg x C qual st) (Sc : FnScope N ps (defScope st)) (hl : ∀ i, pre i → (args i).length + 1 = ps.length)
    (hb : ∀ (kV doc pm : Value) (an : Option Addr) (cdv ct : Value) (us : List Value), us.length = ps.length → bindArgs (PySem.W.fnOf "__init__" qual (defArgs st) (defBody st) (defScope st) .none kV doc pm an cdv ct) ⟨us, []⟩ = pure (ps.zip us))
    (body : ∀ (f : Addr) (cdv : Value) (A : Around) (outer : List PySem.Env) (s : Shared) (H : Hp) (E : XK), Room k (A.deeper (envOfC qual (defScope st) s.heap.objs.size f cdv)) → ∀ (i : ι), pre i →
      ∃ t, PSs (cxOf (L2.CX P w) P w K mg base N qual (defScope st) f cdv A outer s H E) (defBody st) t ∧ ∀ (G : Hp) (a dx : Addr) (vf : List (Str × V)), Xc ⟨K, fxM a, G, H, E⟩ t ((.own a (.ins C dx vf (f0 i)) :: args i) ++ List.replicate (N.length - ps.length) .no) (ObjP a C dx vf ro (post i))) :
    CalK P w K mg base (k + 1) x C ps (spO K C ro args f0 pre post) := by
  obtain ⟨⟨f, fd, F, M⟩, g⟩ := T
  exact ⟨f, fd, fn_okO F Sc hl fun cdv A outer s H E => body f cdv A outer s H E, M, g, F.binds hb⟩
end
section
variable {X : Cx} {k : Nat} {C : Addr} {x m : Str} {ps : List Str} {sp : Sp} {p pos apos : Pos} {o e : Expr} {es : List Expr} {t : TA} {to : TE}
theorem pe_calM {pl : Sem Bool} (c : CalM X.prog X.w X.K X.mg X.base k C m ps sp) (hr : Room k X.A) (ho : PE X o to) (ha : PA X (e :: es) t)
    (hst : starEach (e :: es) X.env = (false, eval e X.env) :: starEach es X.env := by rfl) (hpl : (backTo pos (starEach es X.env)).any (·.1) = false := by rfl)
    (ht : eval (.Call (.Attribute o m apos) (e :: es) [] pos) X.env = (do
      let ov ← eval o X.env
      standAt apos.atName
      let (f, first) ← holding [ov] (getMethod ov m pl)
      callWith pos f first (backTo pos (starEach (e :: es) X.env)) (backToKw pos (keywordEach [] X.env))) := by rfl) : PE X (.Call (.Attribute o m apos) (e :: es) [] pos) (tMeth C m sp [] E0 to t) := by
  obtain ⟨f, fd, F, cl, M, hb⟩ := c.ex
  exact pe_meth ho cl M F hr hb .nil passL ha hst hpl ht
theorem pe_calK (c : CalK X.prog X.w X.K X.mg X.base k x C ps sp) (hr : Room (k + 1) X.A) (hg : Gl X x) (ha : PA X (e :: es) t) (hdb : (x == ("__debug__" : Str)) = false := by decide) (he : starEach (e :: es) X.env = (false, eval e X.env) :: starEach es X.env := by rfl)
    (hpl : (backTo pos (starEach es X.env)).any (·.1) = false := by rfl) : PE X (.Call (.Name x p) (e :: es) [] pos) (tMake C sp [] E0 t) := by
  obtain ⟨f, fd, F, M, g, hb⟩ := c.ex
  exact pe_make M F hr hg g hb .nil passL ha hdb he hpl
end
end Dl

set_option Elab.async false
set_option linter.all false
set_option maxRecDepth 100000
set_option maxHeartbeats 4000000
/-! Dlq: order of data, least and greatest, stars, parts of lists. -/
namespace Dl
open PySem PySem.Spec PyProof.Rows L2 LamX StX
/-! ### x < y of data -/
def CmpD (d d' : D) : Prop := PySem.W.alike d d' = true ∧ d ≠ .none ∧ d.depth ≤ 60 ∧ d.hasDict = false ∧ d'.hasDict = false
def rLtD (K : PySem.W.Frag) : R2 := fun x y H Q => ∃ d d', Dp K H x d ∧ Dp K H y d' ∧ CmpD d d' ∧ Q (.bl (PySem.W.dataLt d d')) H
theorem op_ltD {X : Cx} (hu : X.A.units + 64 < cLine) : OpR X (compareOp .Lt) (rLtD X.K) := by
  intro pins s σ H x y v u Q I rx ry h
  obtain ⟨d, d', h1, h2, ⟨c1, c2, c3, _, _⟩, q⟩ := h
  obtain ⟨as, r1⟩ := Dp.reads I d x v h1 rx
  obtain ⟨bs, r2⟩ := Dp.reads I d' y u h2 ry
  exact PySem.W.lt_data r1 r2 c1 c2 (by have : min d.depth d'.depth ≤ d.depth := Nat.min_le_left _ _; omega) ⟨.bl _, H, I, rfl, q⟩
section
variable {S : Cf} {ρ : Rho} {te ta tb tc : TE} {P : Oc → Prop} {w : TS}
theorem ev_ltD {d d' : D} (ha : Ev S ta ρ (Eq (.dat d))) (hb : Ev S tb ρ (Eq (.dat d'))) (c : CmpD d d') : Ev S (tOp (rLtD S.K) ta tb) ρ (Eq (.dat (.bool (PySem.W.dataLt d d')))) :=
  ev_op' ha hb (opd_here (z := .bl (PySem.W.dataLt d d')) fun G H v w k rx ry => ⟨.bl _, fun Q q => ⟨d, d', (R.mono k.gh rx).dp c.2.2.2.1, (R.mono k.gh ry).dp c.2.2.2.2, c, q⟩⟩)
/-! ### max of ints -/
def lmax : List Int → Int
  | [] => 0
  | x :: xs => xs.foldl max x
theorem foldl_max : ∀ (xs : List Int) (x : Int), (xs.foldl max x ∈ x :: xs) ∧ ∀ y ∈ x :: xs, y ≤ xs.foldl max x
  | [], x => ⟨by simp, fun y hy => by
    simp at hy
    subst hy
    exact Int.le_refl _⟩
  | z :: xs, x => by
    obtain ⟨h1, h2⟩ := foldl_max xs (max x z)
    refine ⟨?_, fun y hy => ?_⟩
    · show xs.foldl max (max x z) ∈ _
      rcases List.mem_cons.mp h1 with h | h
      · rw [h]
        rcases Int.le_total x z with q | q
        · rw [Int.max_eq_right q]
          simp
        · rw [Int.max_eq_left q]
          simp
      · exact List.mem_cons_of_mem _ (List.mem_cons_of_mem _ h)
    · show y ≤ xs.foldl max (max x z)
      have hm := h2 (max x z) List.mem_cons_self
      rcases List.mem_cons.mp hy with h | h
      · subst h
        have := Int.le_max_left y z
        omega
      · rcases List.mem_cons.mp h with h | h
        · subst h
          have := Int.le_max_right x y
          omega
        · exact h2 y (List.mem_cons_of_mem _ h)
theorem lmax_ok {ns : List Int} (h : ns ≠ []) : lmax ns ∈ ns ∧ ∀ y ∈ ns, y ≤ lmax ns := by
  cases ns with
  | nil => exact absurd rfl h
  | cons x xs => exact foldl_max xs x
theorem ev_max {ns : List Int} (h : ns ≠ []) (ha : Ev S ta ρ (Eq (.dat (.list (ns.map PyData.int))))) : Ev S (tCB (rMax S.K) (tCons ta tNil)) ρ (Eq (.dat (.int (lmax ns)))) := fun σ G H k e Q q =>
  el_of ha σ G H k e _ fun a vs G1 H1 g1 k1 st ra => ⟨a, ns, rfl, by rw [← ra.ints]; exact st _ _ (Grow.refl k1), List.length_pos_iff.mpr h, fun m hm hy => by
    obtain ⟨h1, h2⟩ := lmax_ok h
    have e : m = lmax ns := Int.le_antisymm (h2 m hm) (hy _ h1)
    rw [e]
    exact q _ _ G1 H1 g1 k1 rfl (.int _)⟩
/-! ### stars -/
theorem ea_star {tr : TA} {ds : List D} {xs : List Sl} (h : EvL S te ρ ds) (hr : EvA S tr ρ (Eq xs)) : EvA S (tStar S.K te tr) ρ (Eq (ds.map Sl.dat ++ xs)) := fun σ G H k e Q q =>
  h σ G H k e _ fun a vs G1 H1 g1 k1 st ra => ⟨a, vs, rfl, .inr (st _ _ (Grow.refl k1)), hr σ G1 H1 k1 (e.grow g1) _ fun ws ss G2 H2 g2 k2 es rs => by
    subst es
    refine q _ _ G2 H2 (g1.trans k1 k2 g2) k2 rfl ?_
    have key : ∀ {vs : List V} {ds : List D}, RA S.K G2 vs ds → RSs S.K G2 (vs ++ ws) (ds.map Sl.dat ++ xs) := fun {vs ds} r => by
      induction vs generalizing ds with
      | nil =>
        cases r
        exact rs
      | cons v vs ih =>
        cases r with
        | cons r1 r2 => exact .cons r1 (ih r2)
    exact key (ra.mono g2.gg)⟩
theorem ea_starU {tr : TA} {ds : List D} {xs : List Sl} (h : EvU S te ρ ds) (hr : EvA S tr ρ (Eq xs)) : EvA S (tStar S.K te tr) ρ (Eq (ds.map Sl.dat ++ xs)) := fun σ G H k e Q q =>
  h σ G H k e _ fun a vs G1 H1 g1 k1 st ra => ⟨a, vs, rfl, .inl (st _ _ (Grow.refl k1)), hr σ G1 H1 k1 (e.grow g1) _ fun ws ss G2 H2 g2 k2 es rs => by
    subst es
    refine q _ _ G2 H2 (g1.trans k1 k2 g2) k2 rfl ?_
    have key : ∀ {vs : List V} {ds : List D}, RA S.K G2 vs ds → RSs S.K G2 (vs ++ ws) (ds.map Sl.dat ++ xs) := fun {vs ds} r => by
      induction vs generalizing ds with
      | nil =>
        cases r
        exact rs
      | cons v vs ih =>
        cases r with
        | cons r1 r2 => exact .cons r1 (ih r2)
    exact key (ra.mono g2.gg)⟩
/-! ### parts of lists -/
/-- a bound of a part -/
def EvO (S : Cf) (to : TO) (ρ : Rho) (o : Option Int) : Prop := ∀ (σ : L2.St) (G H : Hp), Kn S.fx G H → Env S G H σ ρ → ∀ Q : Option Int → Hp → Prop,
  (∀ G' H', Grow S.fx G H G' H' → Kn S.fx G' H' → Q o H') → to σ H Q
theorem eo_none : EvO S (fun _ H Q => Q none H) ρ none := fun σ G H k e Q q => q G H (Grow.refl k) k
theorem eo_some {i : Int} (h : Ev S te ρ (Eq (.dat (.int i)))) : EvO S (tPart te) ρ (some i) := fun σ G H k e Q q => h σ G H k e _ fun v s G1 H1 g1 k1 es r => by
  subst es
  cases r
  exact ⟨i, rfl, q G1 H1 g1 k1⟩
def cutD (ds : List D) (lo hi : Option Int) : List D := (ds.drop (HT.sIx ds.length 0 lo)).take (HT.sIx ds.length ds.length hi - HT.sIx ds.length 0 lo)
theorem RA.cut {K : PySem.W.Frag} {G : Hp} {vs : List V} {ds : List D} (h : RA K G vs ds) (lo hi : Option Int) : RA K G (cutV vs lo hi) (cutD ds lo hi) := by
  unfold cutV cutD
  rw [h.length]
  exact (h.drop _).take _
theorem ef_cut {lo hi : Option Int} {tl th : TO} {ds : List D} (h : EvL S te ρ ds) (hl : EvO S tl ρ lo) (hh : EvO S th ρ hi) : EvF S (tSl (rSlL S.K) te tl th) ρ (Eq (cutD ds lo hi)) := fun σ G H k e Q q =>
  h σ G H k e _ fun a vs G1 H1 g1 k1 st ra => hl σ G1 H1 k1 (e.grow g1) _ fun G2 H2 g2 k2 => hh σ G2 H2 k2 ((e.grow g1).grow g2) _ fun G3 H3 g3 k3 =>
    ⟨a, vs, rfl, st G3 H3 (g2.trans k2 k3 g3), fun p hp => by
      have g := (g1.trans k1 k2 g2).trans k2 k3 g3
      exact q p _ _ G3 _ (g.trans k3 (k3.same (same_new hp)) (Grow.same k3 (same_new hp))) (k3.same (same_new hp)) (fresh_of g k3 hp) (k3.freeG hp) upd_same ((ra.mono (g2.gg.trans g3.gg)).cut lo hi) rfl⟩
theorem cut_take (ds : List D) (n : Nat) (h : n ≤ ds.length) : cutD ds none (some (n : Int)) = ds.take n := by
  unfold cutD
  rw [HT.sIx_none, HT.sIx_nat, Nat.sub_zero, Nat.min_eq_left h]
  rfl
theorem cut_drop (ds : List D) (n : Nat) (h : n ≤ ds.length) : cutD ds (some (n : Int)) none = ds.drop n := by
  unfold cutD
  rw [HT.sIx_none, HT.sIx_nat, Nat.min_eq_left h, List.take_of_length_le]
  rw [List.length_drop]
  omega
/-- t + u of tuples -/
theorem ev_catA {ds es : List D} (ha : Ev S ta ρ (Eq (.dat (.tuple ds)))) (hb : Ev S tb ρ (Eq (.dat (.tuple es)))) (hl : ds.length + es.length ≤ 1000000) : Ev S (tOp (rCatA S.K) ta tb) ρ (Eq (.dat (.tuple (ds ++ es)))) :=
  ev_op' ha hb fun G H v w k rx ry Q q => by
    have rx0 := rx
    have ry0 := ry
    cases rx with
    | @tup _ xs _ hs1 r1 =>
      cases ry with
      | @tup _ ys _ hs2 r2 =>
        refine ⟨_, _, _, _, rfl, rfl, sameT k.gh hs1, sameT k.gh hs2, sz_ok (by rw [r1.length, r2.length]; exact hl), fun e => ?_, fun _ e => ?_, fun _ _ p hp => ?_⟩
        · subst e
          cases r1
          exact q _ _ G H (Grow.refl k) k rfl ry0
        · subst e
          cases r2
          exact q _ _ G H (Grow.refl k) k (by rw [List.append_nil]) rx0
        · have g2 := Grow.new k (.tup (xs ++ ys)) hp
          have k2 := Kn.new k (.tup (xs ++ ys)) hp
          exact q _ _ _ _ g2 k2 rfl (.tup (SqT.of upd_same) ((r1.mono g2.gg).append (r2.mono g2.gg)))
end
/-! ### min of data -/
theorem ra_dpAll {K : PySem.W.Frag} {G H : Hp} (e : Same G H) {vs : List V} {ds : List D} (h : RA K G vs ds) (n : PyData.hasDictAll ds = false) : DpAll K H vs ds := (h.mono e).dp n
def MinOk (ds : List D) : Prop := PySem.W.AlikeAll ds ∧ PyData.depthAll ds ≤ 60 ∧ PyData.hasDictAll ds = false
/-- min(xs, default=z) -/
def rMinDf (K : PySem.W.Frag) : List V → List V → Hp → VK → Prop := fun xs zs H Q => ∃ (a : Addr) (vs : List V) (ds : List D) (z : V), xs = [.ref a] ∧ zs = [z] ∧ SqL K H a vs ∧ DpAll K H vs ds ∧ MinOk ds ∧ (ds = [] → Q z H) ∧
  ∀ y ys (i : Nat) v, ds = y :: ys → vs[i]? = some v → ds[i]? = some (PySem.W.minD y ys) → Q v H
theorem vals_at {vs : List V} {us : List Value} (r : Vals vs us) {i : Nat} {u : Value} (h : us[i]? = some u) : ∃ v, vs[i]? = some v ∧ RelV v u := by
  induction r generalizing i with
  | nil => simp at h
  | cons h1 h2 ih =>
    cases i with
    | zero =>
      simp only [List.getElem?_cons_zero, Option.some.injEq] at h
      subst h
      exact ⟨_, rfl, h1⟩
    | succ i =>
      simp only [List.getElem?_cons_succ] at h ⊢
      exact ih h
theorem readsAll_get {h : Heap} : ∀ {us : List Value} {ds : List D} {as : List Addr} {i : Nat} {u : Value}, ReadsAll h us ds as → us[i]? = some u → ∃ d bs, ds[i]? = some d ∧ Reads h u d bs
  | _, _, _, i, u, .nil, e => by simp at e
  | _, _, _, 0, u, .cons r rs, e => by
    simp only [List.getElem?_cons_zero, Option.some.injEq] at e
    subst e
    exact ⟨_, _, rfl, r⟩
  | _, _, _, i + 1, u, .cons r rs, e => by
    simp only [List.getElem?_cons_succ] at e
    obtain ⟨d, bs, e1, e2⟩ := readsAll_get rs e
    exact ⟨d, bs, by simpa using e1, e2⟩
theorem cr_minDf {X : Cx} (hc : X.calm = true) (hu : X.A.units + 64 < cLine) : CallRK X (.builtin "min") ["default"] (rMinDf X.K) := by
  intro pins s σ H xs zs us ws Q I r rz h
  obtain ⟨a, vs, ds, z, rfl, rfl, hs, hd, ⟨m1, m2, m3⟩, q0, q⟩ := h
  obtain ⟨u, rfl, ru⟩ := vals1 r
  obtain ⟨wz, rfl, rwz⟩ := vals1 rz
  cases ru
  obtain ⟨its, rv, pl, hz⟩ := I.list hs
  obtain ⟨as, ra⟩ := Dp.readsAll I ds vs its hd rv
  refine PySem.W.min_list_default (I.ok.hd hc) pl.isList (as := as) (xs := ds) (by simpa using ra) m1 (by omega) (fun e h' tk hk => ⟨z, H, I.kept hk, rwz, q0 e⟩) fun y ys i v h' tk bs e hi hr hk => ?_
  have hi' : its[i]? = some v := by simpa using hi
  obtain ⟨x, hx, rx⟩ := vals_at rv hi'
  obtain ⟨d, cs, hd1, hd2⟩ := readsAll_get ra hi'
  have eq := (PyProof.Rows.reads_det (fun b o e _ => hk b o e) hd2 hr).1
  exact ⟨x, H, I.kept hk, rx, q y ys i x e hx (by rw [hd1, eq])⟩
/-- min(xs) -/
def rMinL (K : PySem.W.Frag) : List V → Hp → VK → Prop := fun xs H Q => ∃ (a : Addr) (vs : List V) (y : D) (ys : List D), xs = [.ref a] ∧ SqL K H a vs ∧ DpAll K H vs (y :: ys) ∧ MinOk (y :: ys) ∧
  ∀ (i : Nat) v, vs[i]? = some v → (y :: ys)[i]? = some (PySem.W.minD y ys) → Q v H
theorem cr_minL {X : Cx} (hc : X.calm = true) (hu : X.A.units + 64 < cLine) : CallR X (.builtin "min") (rMinL X.K) := by
  intro pins s σ H xs us Q I r h
  obtain ⟨a, vs, y, ys, rfl, hs, hd, ⟨m1, m2, m3⟩, q⟩ := h
  obtain ⟨u, rfl, ru⟩ := vals1 r
  cases ru
  obtain ⟨its, rv, pl, hz⟩ := I.list hs
  obtain ⟨as, ra⟩ := Dp.readsAll I (y :: ys) vs its hd rv
  refine PySem.W.min_list_data (I.ok.hd hc) pl.isList (as := as) (x := y) (xs := ys) (by simpa using ra) m1 (by omega) fun i v h' tk bs hi hr hk => ?_
  have hi' : its[i]? = some v := by simpa using hi
  obtain ⟨x, hx, rx⟩ := vals_at rv hi'
  obtain ⟨d, cs, hd1, hd2⟩ := readsAll_get ra hi'
  have eq := (PyProof.Rows.reads_det (fun b o e _ => hk b o e) hd2 hr).1
  exact ⟨x, H, I.kept hk, rx, q i x hx (by rw [hd1, eq])⟩
/-- the least, if there is one -/
def minO : List D → D
  | [] => .none
  | y :: ys => PySem.W.minD y ys
section
variable {S : Cf} {ρ : Rho} {te ta tb tc : TE}
theorem ev_minDf {ds : List D} (ha : EvL S ta ρ ds) (hz : Ev S tb ρ (Eq (.dat .none))) (m : MinOk ds) : Ev S (tCKw (rMinDf S.K) (tCons ta tNil) (tCons tb tNil)) ρ (Eq (.dat (minO ds))) := fun σ G H k e Q q =>
  ha σ G H k e _ fun a vs G1 H1 g1 k1 st ra => hz σ G1 H1 k1 (e.grow g1) _ fun z s G2 H2 g2 k2 es rz => by
    subst es
    have g := g1.trans k1 k2 g2
    refine ⟨a, vs, ds, z, rfl, rfl, st _ _ g2, ra_dpAll (g2.gg.trans g2.gh) ra m.2.2, m, fun e => ?_, fun y ys i v e hv hd => ?_⟩
    · subst e
      exact q z _ G2 H2 g k2 rfl rz
    · subst e
      obtain ⟨d, hd', rd⟩ := (ra.mono g2.gg).getV hv
      rw [hd] at hd'
      cases hd'
      exact q v _ G2 H2 g k2 rfl rd
theorem ev_minL {y : D} {ys : List D} (ha : EvL S ta ρ (y :: ys)) (m : MinOk (y :: ys)) : Ev S (tCB (rMinL S.K) (tCons ta tNil)) ρ (Eq (.dat (PySem.W.minD y ys))) := fun σ G H k e Q q =>
  ha σ G H k e _ fun a vs G1 H1 g1 k1 st ra => by
    refine ⟨a, vs, y, ys, rfl, st _ _ (Grow.refl k1), ra_dpAll k1.gh ra m.2.2, m, fun i v hv hd => ?_⟩
    obtain ⟨d, hd', rd⟩ := ra.getV hv
    rw [hd] at hd'
    cases hd'
    exact q v _ G1 H1 g1 k1 rfl rd
end
/-! ### comprehensions over what stands for a list -/
section
variable {S : Cf} {ρ : Rho} {te : TE} {tt : TT} {wi : TI} {g : TG} {vs : List Nat}
/-- [e for x in xs if t] -/
theorem ef_filterL {α : Type} {l : List α} {dα : α → D} {c : α → Bool} {f : α → D} (hi : Itm S wi ρ (Eq (l.map dα))) (hl : l.length ≤ 1000000)
    (hs : ∀ x, x ∈ l → ∃ js ρ2, (∀ j ∈ js, j ∈ vs) ∧ Tgt S g js (dα x) (wipeR ρ vs) ρ2 ∧ EvT S tt ρ2 (Eq (c x)) ∧ (c x = true → Ev S te ρ2 (Eq (.dat (f x))))) : EvF S (tLc wi g tt te vs) ρ (Eq ((l.filter c).map f)) := by
  refine ef_lc hi (fun _ i acc => acc = ((l.take i).filter c).map f) (fun ds' e => e ▸ ⟨by rw [List.length_map]; exact hl, rfl⟩) (fun ds' i d acc e hd al hI => ?_) fun ds' acc e al hI => ?_
  · subst e
    rw [List.getElem?_map] at hd
    obtain ⟨x, hx, rfl⟩ := Option.map_eq_some_iff.mp hd
    obtain ⟨js, ρ2, h1, h2, h3, h4⟩ := hs x (List.mem_of_getElem? hx)
    refine ⟨js, ρ2, h1, h2, h3.imp fun b eb => ?_⟩
    have et : l.take (i + 1) = l.take i ++ [x] := by
      rw [List.take_add_one, hx]
      rfl
    cases hc : c x with
    | true =>
      rw [hc] at eb
      subst eb
      rw [if_pos rfl]
      refine (h4 hc).imp fun s es => ⟨f x, es.symm, ?_⟩
      rw [hI, et, List.filter_append, List.map_append]
      simp [hc]
    | false =>
      rw [hc] at eb
      subst eb
      rw [if_neg (by decide), hI, et, List.filter_append, List.map_append]
      simp [hc]
  · subst e
    rw [hI, List.length_map, List.take_length]
/-- [e for x in xs] -/
theorem ef_mapL {α : Type} {l : List α} {dα : α → D} {f : α → D} (hi : Itm S wi ρ (Eq (l.map dα))) (hl : l.length ≤ 1000000)
    (hs : ∀ x, x ∈ l → ∃ js ρ2, (∀ j ∈ js, j ∈ vs) ∧ Tgt S g js (dα x) (wipeR ρ vs) ρ2 ∧ Ev S te ρ2 (Eq (.dat (f x)))) : EvF S (tLc wi g tYes te vs) ρ (Eq (l.map f)) := by
  have h := ef_filterL (S := S) (ρ := ρ) (te := te) (tt := tYes) (wi := wi) (g := g) (vs := vs) (c := fun _ => true) (f := f) hi hl fun x hx => by
    obtain ⟨js, ρ2, h1, h2, h3⟩ := hs x hx
    exact ⟨js, ρ2, h1, h2, fun σ G H k e Q q => q true G H (Grow.refl k) k rfl, fun _ => h3⟩
  have e : l.filter (fun _ => true) = l := List.filter_eq_self.mpr fun _ _ => rfl
  rw [e] at h
  exact h
/-- sum([e for x in xs]), max(..) -/
theorem ev_sumL {α : Type} {l : List α} {dα : α → D} {f : α → Int} (hi : Itm S wi ρ (Eq (l.map dα))) (hl : l.length ≤ 1000000)
    (hs : ∀ x, x ∈ l → ∃ js ρ2, (∀ j ∈ js, j ∈ vs) ∧ Tgt S g js (dα x) (wipeR ρ vs) ρ2 ∧ Ev S te ρ2 (Eq (.dat (.int (f x))))) : Ev S (tCB (rSum S.K) (tCons (tLc wi g tYes te vs) tNil)) ρ (Eq (.dat (.int (l.map f).sum))) :=
  ev_sum ((ef_mapL (f := fun x => .int (f x)) hi hl hs).evE.cast (by rw [List.map_map]; rfl))
theorem ev_maxL {α : Type} {l : List α} {dα : α → D} {f : α → Int} (h0 : l ≠ []) (hi : Itm S wi ρ (Eq (l.map dα))) (hl : l.length ≤ 1000000)
    (hs : ∀ x, x ∈ l → ∃ js ρ2, (∀ j ∈ js, j ∈ vs) ∧ Tgt S g js (dα x) (wipeR ρ vs) ρ2 ∧ Ev S te ρ2 (Eq (.dat (.int (f x))))) : Ev S (tCB (rMax S.K) (tCons (tLc wi g tYes te vs) tNil)) ρ (Eq (.dat (.int (lmax (l.map f))))) :=
  ev_max (by simpa using h0) ((ef_mapL (f := fun x => .int (f x)) hi hl hs).evE.cast (by rw [List.map_map]; rfl))
end
theorem ev_ixU {S : Cf} {ρ : Rho} {te tb : TE} {ds : List D} {i : Int} {d : D} (h : Ev S te ρ (Eq (.dat (.tuple ds)))) (hb : Ev S tb ρ (Eq (.dat (.int i)))) (hd : atI ds i = some d) : Ev S (tOp (rIxT S.K) te tb) ρ (Eq (.dat d)) := ev_ixT (eu_of h) hb hd
/-! ### the row's numbers, where less is known -/
section
variable {K : PySem.W.Frag} {G0 B : Hp} {E : XK} {z : RowZ} {ρ : Rho} {te ti : TE}
theorem ev_takenI {q : Int → Prop} {E' : XK} (hi : Ev ⟨K, rowFx K z, G0, B, E⟩ ti ρ (Eq (.raw (.ref z.r)))) (he : EvI ⟨K, rowFx K z, G0, B, E⟩ te ρ q) (hq : ∀ m, q m → 0 < m ∧ m < 1073741824) :
    EvI ⟨K, rowFx K z, G0, B, E⟩ (tCall (spTaken K) [] E' (tCons ti (tCons te tNil))) ρ (fun x => 0 ≤ x ∧ ∃ m, q m ∧ x < m) := fun σ G H k e Q qq =>
  hi σ G H k e _ fun v s G1 H1 g1 k1 es r1 => he σ G1 H1 k1 (e.grow g1) _ fun u s2 G2 H2 g2 k2 ⟨many, es2, hm⟩ r2 => by
    subst es es2
    cases r2
    cases (show v = _ from r1)
    obtain ⟨h0, h1⟩ := hq many hm
    obtain ⟨⟨p, m, c, a1, a2, a3, a4⟩, h5, h6⟩ := id k2.inv
    refine ⟨z.r, z.sc, z.vs, many, p, m, c, rfl, h0, h1, a1, a2, a3, a4, h5.sq, h5.sq' a4, fun x p' m' c' x0 x1 p0 m0 m1 => ?_⟩
    obtain ⟨g3, k3⟩ := row_new k2 (c := c') p0 m0 m1
    exact qq _ _ G2 _ ((g1.trans k1 k2 g2).trans k2 k3 g3) k3 ⟨x, rfl, x0, many, hm, x1⟩ (.int x)
theorem ev_pick {l : List D} {E' : XK} (hi : Ev ⟨K, rowFx K z, G0, B, E⟩ ti ρ (Eq (.raw (.ref z.r)))) (hl : Ev ⟨K, rowFx K z, G0, B, E⟩ te ρ (Eq (.dat (.list l)))) (h0 : l ≠ []) (h1 : l.length < 1073741824) :
    Ev ⟨K, rowFx K z, G0, B, E⟩ (tCall (spZ fun z : RowZ => spI K (rowFx K z) (fun ds : List D => [.raw (.ref z.r), .dat (.list ds)]) (fun ds => ds ≠ [] ∧ ds.length < 1073741824) (fun ds r => ∃ d, d ∈ ds ∧ r = .ok (.dat d))) [] E' (tCons ti (tCons te tNil))) ρ (fun s => ∃ d, s = .dat d ∧ d ∈ l) :=
  ev_callZ (fx := rowFx K) z (ea_cons hi (ea_cons hl ea_nil)) fun ss e => ⟨l, e.symm, ⟨h0, h1⟩, fun s ⟨d, hd, e⟩ => ⟨d, Re.ok.inj e, hd⟩, fun C d ⟨_, _, e⟩ => by cases e⟩
end
/-- ints of which something is known, compared by == -/
theorem ev_eqIP {S : Cf} {ρ : Rho} {ta tb : TE} {p q : Int → Prop} (ha : EvI S ta ρ p) (hb : EvI S tb ρ q) : Ev S (tOp (rEqD S.K) ta tb) ρ (fun s => ∃ b, s = .dat (.bool b) ∧ True) :=
  ev_op ha hb fun x y ⟨i, ex, _⟩ ⟨j, ey, _⟩ => by
    subst ex ey
    intro G H v w k rx ry Q qq
    exact (opd_here (z := .bl (PyData.eqv (.int i) (.int j))) (s := .dat (.bool (PyData.eqv (.int i) (.int j)))) fun G H v w k rx ry => ⟨.bl _, fun Q q => ⟨.int i, .int j, (R.mono k.gh rx).dp rfl, (R.mono k.gh ry).dp rfl, rfl, rfl, q⟩⟩) G H v w k rx ry Q fun z s G' H' g k' e r => qq z s G' H' g k' ⟨_, e.symm, trivial⟩ r
/-! ### rules that tell the written part by its name (inside comprehensions) -/
section
variable {X : Cx} {K : PySem.W.Frag}
theorem pe_fld' {o : Expr} {f : Str} {ta : TE} {pos : Pos} (hK : X.K = K) (he : PE X o ta) (hb : attributeBase o f X.env (eval o X.env) = eval o X.env := by rfl) : PE X (.Attribute o f pos) (tFld K ta f) := by
  subst hK
  exact pe_fld he hb
theorem pa_star' {e : Expr} {es : List Expr} {te : TE} {t : TA} {p : Pos} (hK : X.K = K) (he : PE X e te) (hr : PA X es t) (hs : starEach (.Starred e p :: es) X.env = (true, eval e X.env) :: starEach es X.env := by rfl) : PA X (.Starred e p :: es) (tStar K te t) := by
  subst hK
  exact pa_star he hr hs
theorem pi_list' {tg l : Expr} {tl : TE} (hK : X.K = K) (hl : PE X l tl) : PI X tg l (iList K tl) := by
  subst hK
  exact pi_list hl
theorem pi_tup' {tg l : Expr} {tl : TE} (hK : X.K = K) (hl : PE X l tl) : PI X tg l (iTup K tl) := by
  subst hK
  exact pi_tup hl
theorem pg_tup' {es : List Expr} {k : Nat} {t : TGs} {n : Nat} {pos : Pos} (hK : X.K = K) (hc : X.calm = true) (h : PGs X es t) (hn : (assignEach es X.env).length = n := by rfl) (hst : (assignEach es X.env).findIdx? (·.1) = none := by rfl) : PG X (.Tuple es k pos) (gTup K n t) := by
  subst hK
  exact pg_tup hc h hn hst
end
end Dl

set_option Elab.async false
set_option linter.all false
set_option maxRecDepth 100000
set_option maxHeartbeats 4000000
/-! Dld: dicts as data: of ints and texts, of tuples. -/
namespace Dl
open PySem PySem.Spec PyProof.Rows L2 LamX
/-! ### the data of a dict -/
def gD (ds : List (D × D)) (k : D) : Option D := (ds.find? fun p => decide (nk p.1 = nk k)).map (·.2)
def pD (ds : List (D × D)) (k v : D) : List (D × D) := if (gD ds k).isSome = true then ds.map (fun p => if nk p.1 = nk k then (p.1, v) else p) else ds ++ [(k, v)]
theorem gD_nil {k : D} : gD [] k = none := rfl
theorem gD_pos {p : D × D} {r : List (D × D)} {k : D} (e : nk p.1 = nk k) : gD (p :: r) k = some p.2 := by simp [gD, List.find?_cons, e]
theorem gD_neg {p : D × D} {r : List (D × D)} {k : D} (e : ¬ nk p.1 = nk k) : gD (p :: r) k = gD r k := by simp [gD, List.find?_cons, e]
theorem nk_kD {k j : Key} (h : nk (kD k) = nk (kD j)) : k = j := by
  cases k <;> cases j <;> simp only [kD, nk, NestedKey.num.injEq, NestedKey.text.injEq] at h
  · rw [h]
  · cases h
  · cases h
  · rw [h]
section
variable {K : PySem.W.Frag} {G : Hp}
theorem RK.get {ks : List (Key × V)} {ds : List (D × D)} (h : RK K G ks ds) (k : Key) : (valV ks k = none ∧ gD ds (kD k) = none) ∨ ∃ v d, valV ks k = some v ∧ gD ds (kD k) = some d ∧ R K G v d := by
  induction ks generalizing ds with
  | nil =>
    cases h
    exact .inl ⟨rfl, rfl⟩
  | cons p ks ih =>
    cases h with
    | @cons j v _ d ds r rs =>
      by_cases e : j = k
      · exact .inr ⟨v, d, valV_pos e, gD_pos (by rw [e]), r⟩
      · have e' : ¬ nk (kD j) = nk (kD k) := fun z => e (nk_kD z)
        rw [valV_neg (p := (j, v)) e, gD_neg (p := (kD j, d)) e']
        exact ih rs
theorem RK.repl {ks : List (Key × V)} {ds : List (D × D)} (h : RK K G ks ds) (k : Key) {v : V} {d : D} (r : R K G v d) : RK K G (ks.map fun kv => if kv.1 = k then (kv.1, v) else kv) (ds.map fun p => if nk p.1 = nk (kD k) then (p.1, d) else p) := by
  induction ks generalizing ds with
  | nil =>
    cases h
    exact .nil
  | cons p ks ih =>
    cases h with
    | @cons j v0 _ d0 ds r0 rs =>
      simp only [List.map_cons]
      by_cases e : j = k
      · rw [if_pos e, if_pos (by rw [e])]
        exact .cons r (ih rs)
      · have e' : ¬ nk (kD j) = nk (kD k) := fun z => e (nk_kD z)
        rw [if_neg e, if_neg e']
        exact .cons r0 (ih rs)
theorem RK.snoc {ks : List (Key × V)} {ds : List (D × D)} (h : RK K G ks ds) (k : Key) {v : V} {d : D} (r : R K G v d) : RK K G (ks ++ [(k, v)]) (ds ++ [(kD k, d)]) := by
  induction ks generalizing ds with
  | nil =>
    cases h
    exact .cons r .nil
  | cons p ks ih =>
    cases h with
    | cons r0 rs => exact .cons r0 (ih rs)
theorem RK.put {ks : List (Key × V)} {ds : List (D × D)} (h : RK K G ks ds) (k : Key) {v : V} {d : D} (r : R K G v d) : RK K G (putK ks k v) (pD ds (kD k) d) := by
  unfold putK pD
  rw [valV_any]
  rcases h.get k with ⟨e1, e2⟩ | ⟨w, x, e1, e2, _⟩
  · rw [e1, e2, if_neg (by simp), if_neg (by simp)]
    exact h.snoc k r
  · rw [e1, e2, if_pos (by simp), if_pos (by simp)]
    exact h.repl k r
theorem RN.get {xs : List (NestedKey × Addr × Value)} {ds : List (D × D)} (h : RN K G xs ds) (k : D) : (atKey xs (nk k) = none ∧ gD ds k = none) ∨ ∃ b u v d, atKey xs (nk k) = some (b, u) ∧ gD ds k = some d ∧ RelV v u ∧ R K G v d := by
  induction xs generalizing ds with
  | nil =>
    cases h
    exact .inl ⟨rfl, rfl⟩
  | cons p xs ih =>
    cases h with
    | @cons j b u v _ dk d ds ok e0 rb rv rd rs =>
      by_cases e : nk dk = nk k
      · have e' : j = nk k := e0.trans e
        exact .inr ⟨b, u, v, d, by simp [atKey, List.find?_cons, e'], gD_pos e, rv, rd⟩
      · have e' : ¬ j = nk k := fun z => e (e0.symm.trans z)
        have a : atKey ((j, b, u) :: xs) (nk k) = atKey xs (nk k) := by simp [atKey, List.find?_cons, e']
        rw [a, gD_neg (p := (dk, d)) e]
        exact ih rs
theorem RN.repl {xs : List (NestedKey × Addr × Value)} {ds : List (D × D)} (h : RN K G xs ds) (k : D) {v : V} {u : Value} {d : D} (rv : RelV v u) (r : R K G v d) : RN K G (xs.map (putAt (nk k) u)) (ds.map fun p => if nk p.1 = nk k then (p.1, d) else p) := by
  induction xs generalizing ds with
  | nil =>
    cases h
    exact .nil
  | cons p xs ih =>
    cases h with
    | @cons j b u0 v0 _ dk d0 ds ok e0 rb rv0 rd rs =>
      simp only [List.map_cons]
      unfold putAt
      by_cases e : nk dk = nk k
      · rw [if_pos (show (j, b, u0).1 = nk k from e0.trans e), if_pos e]
        exact .cons ok e0 rb rv r (ih rs)
      · rw [if_neg (show ¬ (j, b, u0).1 = nk k from fun z => e (e0.symm.trans z)), if_neg e]
        exact .cons ok e0 rb rv0 rd (ih rs)
theorem RN.snoc {xs : List (NestedKey × Addr × Value)} {ds : List (D × D)} (h : RN K G xs ds) {k : D} {b : Addr} {v : V} {u : Value} {d : D} (ok : okT k = true) (rb : R K G (.ref b) k) (rv : RelV v u) (r : R K G v d) : RN K G (xs ++ [(nk k, b, u)]) (ds ++ [(k, d)]) := by
  induction xs generalizing ds with
  | nil =>
    cases h
    exact .cons ok rfl rb rv r .nil
  | cons p xs ih =>
    cases h with
    | cons a1 a2 a3 a4 a5 rs => exact .cons a1 a2 a3 a4 a5 (ih rs)
theorem RN.put {xs : List (NestedKey × Addr × Value)} {ds : List (D × D)} (h : RN K G xs ds) {k : D} {b : Addr} {v : V} {u : Value} {d : D} (ok : okT k = true) (rb : R K G (.ref b) k) (rv : RelV v u) (r : R K G v d) : RN K G (storedH xs (nk k) b u) (pD ds k d) := by
  unfold storedH pD
  rcases h.get k with ⟨e1, e2⟩ | ⟨_, _, _, _, e1, e2, _⟩
  · rw [e1, e2, if_neg (by simp), if_neg (by simp)]
    exact h.snoc ok rb rv r
  · rw [e1, e2, if_pos (by simp), if_pos (by simp)]
    exact h.repl k rv r
end
theorem pD_length (ds : List (D × D)) (k v : D) : (pD ds k v).length ≤ ds.length + 1 := by
  unfold pD
  split <;> simp
theorem storedH_length (xs : List (NestedKey × Addr × Value)) (k : NestedKey) (a : Addr) (v : Value) : (storedH xs k a v).length ≤ xs.length + 1 := by
  unfold storedH
  split <;> simp
/-! ### in the heap -/
section
variable {X : Cx} {pins : List (Addr × Obj)} {σ : L2.St} {H : Hp} {s : Shared}
mutual
theorem key_is (I : Inv X pins σ H s) : ∀ (d : D) (v : V) (u : Value), R X.K H v d → okN d = true → RelV v u → NestedIs s.heap (nk d) u
  | .int i, _, _, h, _, r => by
    cases h
    obtain ⟨t, rfl⟩ := r
    unfold nk
    exact .int i t
  | .tuple ds, _, _, h, ok, r => by
    cases h with
    | tup hs ha =>
      cases r
      obtain ⟨its, rv, ⟨o, ho, hc, n, hd⟩, _⟩ := I.tuple hs
      unfold nk
      exact .tup ho hc hd (by simpa using key_isAll I ds _ its ha (by simpa [okN] using ok) rv)
  | .none, _, _, _, ok, _ => by simp [okN] at ok
  | .bool _, _, _, _, ok, _ => by simp [okN] at ok
  | .str _, _, _, _, ok, _ => by simp [okN] at ok
  | .list _, _, _, _, ok, _ => by simp [okN] at ok
  | .dict _, _, _, _, ok, _ => by simp [okN] at ok
theorem key_isAll (I : Inv X pins σ H s) : ∀ (ds : List D) (vs : List V) (us : List Value), RA X.K H vs ds → okNs ds = true → Vals vs us → NestedAll s.heap (nkAll ds) us
  | [], _, _, h, _, r => by
    cases h
    cases r
    unfold nkAll
    exact .nil
  | d :: ds, _, _, h, ok, r => by
    cases h with
    | cons h1 h2 =>
      cases r with
      | cons r1 r2 =>
        simp only [okNs, Bool.and_eq_true] at ok
        unfold nkAll
        exact .cons (key_is I d _ _ h1 ok.1 r1) (key_isAll I ds _ _ h2 ok.2 r2)
end
mutual
theorem hash_ok (w w' : World) : ∀ d : D, okN d = true → (nk d).hash w = (nk d).hash w'
  | .int i, _ => by unfold nk NestedKey.hash; rfl
  | .tuple ds, h => by
    unfold nk NestedKey.hash
    rw [hash_okAll w w' ds (by simpa [okN] using h)]
  | .none, h => by simp [okN] at h
  | .bool _, h => by simp [okN] at h
  | .str _, h => by simp [okN] at h
  | .list _, h => by simp [okN] at h
  | .dict _, h => by simp [okN] at h
theorem hash_okAll (w w' : World) : ∀ ds : List D, okNs ds = true → NestedKey.hashes w (nkAll ds) = NestedKey.hashes w' (nkAll ds)
  | [], _ => by unfold nkAll NestedKey.hashes; rfl
  | d :: ds, h => by
    simp only [okNs, Bool.and_eq_true] at h
    unfold nkAll NestedKey.hashes
    rw [hash_ok w w' d h.1, hash_okAll w w' ds h.2]
end
theorem okT_tup {d : D} (h : okT d = true) : ∃ ds, d = .tuple ds ∧ okNs ds = true ∧ NestedKey.depthAll (nkAll ds) ≤ 7 := by
  cases d with
  | tuple ds =>
    simp only [okT, Bool.and_eq_true, decide_eq_true_eq] at h
    exact ⟨ds, rfl, h.1.1, h.2⟩
  | _ => simp [okT] at h
theorem key_kind (I : Inv X pins σ H s) {d : D} {b : Addr} (h : R X.K H (.ref b) d) (ok : okT d = true) : (nestedKind X.prog X.w).is s.heap (nk d) b := by
  obtain ⟨ds, rfl, o1, o2⟩ := okT_tup ok
  refine ⟨key_is I _ (.ref b) (.ref b) h (by simpa [okN] using o1) rfl, ?_⟩
  unfold nk NestedKey.depth
  omega
theorem dx_rd (I : Inv X pins σ H s) {a : Addr} {xs : List (NestedKey × Addr × Value)} {G : Hp} {ds : List (D × D)} (e : Rd H a (DX a xs)) (sg : Same G H) (r : RN X.K G xs ds) :
    xs.length ≤ sizeLine ∧ (a == sysModules) = false ∧ s.heap.DictOfH (nestedKind X.prog X.w) a xs := by
  obtain ⟨⟨z, hd, o, es, ep, h1, h2, h3, h4, h5⟩, _⟩ := (show ObjOk X.prog X.w H s.heap a (DX a xs) from e.ok I.hok)
  refine ⟨z, hd, o, es, ep, h1, h2, h3, h4 X.w, ?_, h5⟩
  have r' := r.mono sg
  have all : ∀ {l : List (NestedKey × Addr × Value)} {m : List (D × D)}, RN X.K H l m → ∀ x ∈ l, (nestedKind X.prog X.w).is s.heap x.1 x.2.1 := by
    intro l
    induction l with
    | nil =>
      intro m _ x hx
      cases hx
    | cons p l ih =>
      intro m q x hx
      cases q with
      | cons ok e0 rb _ _ rs =>
        rcases List.mem_cons.mp hx with e | hx
        · subst e
          rw [show (_, _, _).1 = _ from rfl, e0]
          exact key_kind I rb ok
        · exact ih rs x hx
  exact all r'
end
/-! ### a dict that may be read: b tells its kind (keys ints and texts; tuples) -/
def DRd (K : PySem.W.Frag) (G H : Hp) (a : Addr) : Bool → List (D × D) → Prop
  | true, ds => ∃ ks, Rd H a (.dK ks) ∧ RK K G ks ds
  | false, ds => ∃ xs, Rd H a (DX a xs) ∧ RN K G xs ds
def KeyD : Bool → D → Prop
  | true, d => ∃ k, d = kD k
  | false, d => okT d = true
theorem kD_R {K : PySem.W.Frag} {G : Hp} {v : V} {k : Key} (h : R K G v (kD k)) : v = kV k := by
  cases k <;> (simp only [kD] at h; cases h; rfl)
theorem okT_R {K : PySem.W.Frag} {G : Hp} {v : V} {d : D} (h : R K G v d) (ok : okT d = true) : ∃ b, v = .ref b := by
  obtain ⟨ds, rfl, _⟩ := okT_tup ok
  cases h
  exact ⟨_, rfl⟩
theorem R.keyRel {K : PySem.W.Frag} {G : Hp} {v : V} {d : D} {w u : Value} (h : R K G v d) (ok : okT d = true) (r : RelV v u) : ∃ b, v = .ref b ∧ u = .ref b := by
  obtain ⟨b, rfl⟩ := okT_R h ok
  exact ⟨b, rfl, r⟩
/-- what the dict at a holds at the key y -/
def XGet (K : PySem.W.Frag) (H : Hp) (a : Addr) (y : V) (Q : Option V → Prop) : Prop := ∃ (G : Hp) (f : Bool) (ds : List (D × D)) (dk : D), Same G H ∧ DRd K G H a f ds ∧ KeyD f dk ∧ R K G y dk ∧
  (gD ds dk = none → Q none) ∧ ∀ d, gD ds dk = some d → ∀ v, R K G v d → Q (some v)
section
variable {X : Cx} {pins : List (Addr × Obj)} {σ : L2.St} {H : Hp} {s : Shared} {a : Addr} {y v : V} {u r : Value} {A : Around} {E : Value → Shared → Prop}
theorem x_type (I : Inv X pins σ H s) {Qo : Option V → Prop} (g : XGet X.K H a y Qo) : s.TypeIs (.ref a) "dict" := by
  obtain ⟨G, f, ds, dk, sg, dr, kd, ry, _, _⟩ := g
  cases f with
  | true =>
    obtain ⟨ks, e, _⟩ := dr
    obtain ⟨_, _, _, _, dd⟩ := dk_rd I.hok e
    exact dd.typeIs
  | false =>
    obtain ⟨xs, e, rr⟩ := dr
    obtain ⟨_, _, dd⟩ := dx_rd I e sg rr
    exact dd.typeIs
theorem x_getItem {Q : Value → Shared → Prop} {Qv : V → Prop} (hu : A.units + 64 < cLine) (I : Inv X pins σ H s) (g : XGet X.K H a y (fun o => ∃ v, o = some v ∧ Qv v)) (ry : RelV y u) (h : ∀ v w' s', Qv v → Inv X pins σ H s' → RelV v w' → Q w' s') :
    wpAny (model X.prog X.w) A (getItem (.ref a) u) Q E s := by
  obtain ⟨G, f, ds, dk, sg, dr, kd, rk, q0, q1⟩ := g
  cases f with
  | true =>
    obtain ⟨ks, e, rr⟩ := dr
    obtain ⟨k, rfl⟩ := kd
    have ey := kD_R rk
    rcases rr.get k with ⟨_, e2⟩ | ⟨w, d, e1, e2, rw'⟩
    · obtain ⟨_, z, _⟩ := q0 e2
      cases z
    · obtain ⟨v, z, qv⟩ := q1 d e2 w rw'
      cases z
      exact d_getItem (by omega) I (.inl ⟨ks, k, e, ey, e1.symm⟩) ry fun w' s' I' r' => h w w' s' qv I' r'
  | false =>
    obtain ⟨xs, e, rr⟩ := dr
    obtain ⟨z1, z2, dd⟩ := dx_rd I e sg rr
    obtain ⟨b, rfl, rfl⟩ := rk.keyRel (w := u) kd ry
    rcases rr.get dk with ⟨_, e2⟩ | ⟨b', u', w, d, e1, e2, rw', rd⟩
    · obtain ⟨_, z, _⟩ := q0 e2
      cases z
    · obtain ⟨v, z, qv⟩ := q1 d e2 w rd
      cases z
      exact wpAny_getItem_heap (knd := nestedKind X.prog X.w) (by show A.units + 1 + 8 < cLine; omega) (key_kind I (rk.mono sg) kd) dd e1 (h w u' _ qv (I.tok _) rw')
theorem x_in {Q : Value → Shared → Prop} {Qb : Bool → Prop} (hu : A.units + 64 < cLine) (I : Inv X pins σ H s) (g : XGet X.K H a y (fun o => Qb o.isSome)) (ry : RelV y u) (h : ∀ b s', Qb b → Inv X pins σ H s' → Q (.bool b) s') :
    wpAny (model X.prog X.w) A (compareOp .In u (.ref a)) Q E s := by
  obtain ⟨G, f, ds, dk, sg, dr, kd, rk, q0, q1⟩ := g
  cases f with
  | true =>
    obtain ⟨ks, e, rr⟩ := dr
    obtain ⟨k, rfl⟩ := kd
    have ey := kD_R rk
    rcases rr.get k with ⟨e1, e2⟩ | ⟨w, d, e1, e2, rw'⟩
    · exact d_in (o := none) (by omega) I (.inl ⟨ks, k, e, ey, e1.symm⟩) ry fun s' I' => h _ s' (q0 e2) I'
    · exact d_in (o := some w) (by omega) I (.inl ⟨ks, k, e, ey, e1.symm⟩) ry fun s' I' => h _ s' (q1 d e2 w rw') I'
  | false =>
    obtain ⟨xs, e, rr⟩ := dr
    obtain ⟨z1, z2, dd⟩ := dx_rd I e sg rr
    obtain ⟨b, rfl, rfl⟩ := rk.keyRel (w := u) kd ry
    refine wpAny_in_heap (knd := nestedKind X.prog X.w) (by show A.units + 1 + 8 < cLine; omega) (key_kind I (rk.mono sg) kd) z2 dd ?_
    rcases rr.get dk with ⟨e1, e2⟩ | ⟨b', u', w, d, e1, e2, rw', rd⟩
    · rw [e1]
      exact h _ _ (q0 e2) (I.tok _)
    · rw [e1]
      exact h _ _ (q1 d e2 w rd) (I.tok _)
theorem x_notIn {Q : Value → Shared → Prop} {Qb : Bool → Prop} (hu : A.units + 64 < cLine) (I : Inv X pins σ H s) (g : XGet X.K H a y (fun o => Qb (!o.isSome))) (ry : RelV y u) (h : ∀ b s', Qb b → Inv X pins σ H s' → Q (.bool b) s') :
    wpAny (model X.prog X.w) A (compareOp .NotIn u (.ref a)) Q E s := by
  obtain ⟨G, f, ds, dk, sg, dr, kd, rk, q0, q1⟩ := g
  cases f with
  | true =>
    obtain ⟨ks, e, rr⟩ := dr
    obtain ⟨k, rfl⟩ := kd
    have ey := kD_R rk
    rcases rr.get k with ⟨e1, e2⟩ | ⟨w, d, e1, e2, rw'⟩
    · exact d_notIn (o := none) (by omega) I (.inl ⟨ks, k, e, ey, e1.symm⟩) ry fun s' I' => h _ s' (q0 e2) I'
    · exact d_notIn (o := some w) (by omega) I (.inl ⟨ks, k, e, ey, e1.symm⟩) ry fun s' I' => h _ s' (q1 d e2 w rw') I'
  | false =>
    obtain ⟨xs, e, rr⟩ := dr
    obtain ⟨z1, z2, dd⟩ := dx_rd I e sg rr
    obtain ⟨b, rfl, rfl⟩ := rk.keyRel (w := u) kd ry
    refine wpAny_notIn_heap (knd := nestedKind X.prog X.w) (by show A.units + 1 + 8 < cLine; omega) (key_kind I (rk.mono sg) kd) z2 dd ?_
    rcases rr.get dk with ⟨e1, e2⟩ | ⟨b', u', w, d, e1, e2, rw', rd⟩
    · rw [e1]
      exact h _ _ (q0 e2) (I.tok _)
    · rw [e1]
      exact h _ _ (q1 d e2 w rd) (I.tok _)
theorem okT_okN {d : D} (h : okT d = true) : okN d = true := by
  obtain ⟨ds, rfl, h1, _⟩ := okT_tup h
  simpa [okN] using h1
def KeysOk (xs : List (NestedKey × Addr × Value)) : Prop := ∀ x ∈ xs, ∃ d, okT d = true ∧ x.1 = nk d
theorem RN.keysOk {K : PySem.W.Frag} {G : Hp} : ∀ {xs : List (NestedKey × Addr × Value)} {ds : List (D × D)}, RN K G xs ds → KeysOk xs
  | _, _, .nil, x, hx => by cases hx
  | _, _, .cons a1 a2 _ _ _ r, x, hx => by
    rcases List.mem_cons.mp hx with e | hx
    · subst e
      exact ⟨_, a1, a2⟩
    · exact r.keysOk x hx
theorem KeysOk.put {xs : List (NestedKey × Addr × Value)} (h : KeysOk xs) {d : D} (ok : okT d = true) (b : Addr) (u : Value) : KeysOk (storedH xs (nk d) b u) := fun x hx => by
  unfold storedH at hx
  split at hx
  · obtain ⟨y, hy, e⟩ := List.mem_map.mp hx
    obtain ⟨d', o, e'⟩ := h y hy
    refine ⟨d', o, ?_⟩
    subst e
    unfold putAt
    split
    · exact e'
    · exact e'
  · rcases List.mem_append.mp hx with hx | hx
    · exact h x hx
    · have e := List.mem_singleton.mp hx
      subst e
      exact ⟨d, ok, rfl⟩
theorem hash_any {P : Program} {w0 : World} {es : Array DictEntry} {xs : List (NestedKey × Addr × Value)} (h : es.toList = xs.map (entryOfKey (nestedKind P w0))) (k : KeysOk xs) (w : World) : es.toList = xs.map (entX w) := by
  rw [h]
  refine List.map_congr_left fun x hx => ?_
  obtain ⟨d, o, e⟩ := k x hx
  show DictEntry.mk (x.1.hash w0) _ _ = DictEntry.mk (x.1.hash w) _ _
  rw [e, hash_ok w0 w d (okT_okN o)]
/-- a[y] = v: what is behind it -/
def XPut (K : PySem.W.Frag) (H : Hp) (a : Addr) (y v : V) (Q : Hp → Prop) : Prop :=
  (∃ ks k, H a = some (.dK ks) ∧ y = kV k ∧ ks.length < sizeLine ∧ Q (upd H a (.dK (putK ks k v)))) ∨
  ∃ (G : Hp) (xs : List (NestedKey × Addr × Value)) (ds : List (D × D)) (dk : D) (b : Addr), H a = some (DX a xs) ∧ Same G H ∧ RN K G xs ds ∧ y = .ref b ∧ R K G y dk ∧ okT dk = true ∧ xs.length < sizeLine ∧ ∀ u, RelV v u → Q (upd H a (DX a (storedH xs (nk dk) b u)))
theorem x_setItem {Q : Unit → Shared → Prop} {Qh : Hp → Prop} (hu : A.units + 64 < cLine) (I : Inv X pins σ H s) (g : XPut X.K H a y v Qh) (ry : RelV y u) (rv : RelV v r) (h : ∀ H' s', Qh H' → Inv X pins σ H' s' → Q () s') :
    wpAny (model X.prog X.w) A (setItem (.ref a) u r) Q E s := by
  rcases g with ⟨ks, k, e, ey, l, q⟩ | ⟨G, xs, ds, dk, b, e, sg, rr, ey, rk, ok, l, q⟩
  · subst ey
    exact d_setItem (by omega) I (DPut.k e l) ry rv fun s' I' => h _ s' q I'
  · subst ey
    cases (show u = Value.ref b from ry)
    obtain ⟨z1, z2, dd⟩ := dx_rd I (.inl e) sg rr
    refine wpAny_setItem_heap (knd := nestedKind X.prog X.w) (hsz := z1) (by show A.units + 1 + 8 < cLine; omega) (key_kind I (rk.mono sg) ok) dd fun h' dd' hs => h _ _ (q r rv) ?_
    obtain ⟨o, es, ep, hq, h2, h3, h4, _, h5⟩ := dd'
    have hl : (storedH xs (nk dk) b r).length ≤ sizeLine := by
      have := storedH_length xs (nk dk) b r
      omega
    have new : phiX a (storedH xs (nk dk) b r) h' := ⟨hl, z2, o, es, ep, hq, h2, h3, fun w => ?_, h5⟩
    · exact d_write I (by rw [e]; exact True.intro) hs ⟨o, hq⟩ ⟨new, ⟨o, hq⟩, fun h1 h2 p k => by
        obtain ⟨p1, p2, o', es', ep', p3, p4⟩ := p
        exact ⟨p1, p2, o', es', ep', k _ p3, p4⟩⟩
    · exact hash_any h4 (rr.keysOk.put ok b r) w
end
end Dl

set_option Elab.async false
set_option linter.all false
set_option maxRecDepth 100000
set_option maxHeartbeats 4000000
/-! Dlf: dicts in expressions and statements. -/
namespace Dl
open PySem PySem.Spec PyProof.Rows L2 LamX
/-! ### readings -/
def tXGet (K : PySem.W.Frag) (td ty : TE) : TE := fun σ H Q => td σ H fun x H1 => ty σ H1 fun y H2 => ∃ a, x = .ref a ∧ XGet K H2 a y (fun o => ∃ v, o = some v ∧ Q v H2)
def tXIn (K : PySem.W.Frag) (ty td : TE) : TE := fun σ H Q => ty σ H fun y H1 => td σ H1 fun x H2 => ∃ a, x = .ref a ∧ XGet K H2 a y (fun o => Q (.bl o.isSome) H2)
def tXNotIn (K : PySem.W.Frag) (ty td : TE) : TE := fun σ H Q => ty σ H fun y H1 => td σ H1 fun x H2 => ∃ a, x = .ref a ∧ XGet K H2 a y (fun o => Q (.bl (!o.isSome)) H2)
def sXPut (K : PySem.W.Frag) (td ty tv : TE) : TS := fun De σ H => tv σ H fun v H1 => td σ H1 fun x H2 => ty σ H2 fun y H3 => ∃ a, x = .ref a ∧ XPut K H3 a y v (fun H4 => De.nx σ H4)
/-- {}, of either kind -/
def tXNew : TE := fun _ H Q => ∀ p, H p = none → (Q (.ref p) (upd H p (.dK [])) ∨ Q (.ref p) (upd H p (DX p [])))
theorem dx_empty {P : Program} {w : World} {H : Hp} (h : Heap) (hb : sysModules < h.objs.size) : ObjOk P w H (h.push { cls := .type "dict", data := .dict #[] }) h.objs.size (DX h.objs.size []) :=
  ⟨⟨Nat.zero_le _, beq_eq_false_iff_ne.mpr (Ne.symm (Nat.ne_of_lt hb)), _, #[], 0, Heap.get?_push_size _ rfl, ⟨rfl, rfl, rfl⟩, rfl, fun _ => rfl, List.nodup_nil⟩, ⟨_, Heap.get?_push_size _ rfl⟩, fun h1 h2 p k => by
    obtain ⟨p1, p2, o', es', ep', p3, p4⟩ := p
    exact ⟨p1, p2, o', es', ep', k _ p3, p4⟩⟩
section
variable {X : Cx} {K : PySem.W.Frag} {o i value : Expr} {pos pos' : Pos} {td ty tv : TE}
theorem pe_xget (hK : X.K = K) (hu : X.A.units + 64 < cLine) (ho : PE X o td) (hi : PE X i ty) (hs : NoSl i := by exact fun _ _ => rfl) : PE X (.Subscript o i pos) (tXGet K td ty) := by
  subst hK
  refine ⟨fun pins s σ H Q I h => ?_⟩
  refine subD_of PySem.F.slot_dict_getitem.lookup hs (thn (ho.run pins s σ H _ I h) fun u s1 ⟨x, H1, I1, rx, q1⟩ => thn (hi.run pins s1 σ H1 _ I1 q1) fun iv s2 ⟨y, H2, I2, ry, a, ex, g⟩ => ?_)
  subst ex
  obtain rfl : u = Value.ref a := rx
  exact ⟨x_type I2 g, x_getItem hu I2 g ry fun v w' s3 q2 I3 rw' => ⟨v, H2, I3, rw', q2⟩⟩
theorem pc_xin (hK : X.K = K) (hu : X.A.units + 64 < cLine) (hi : PE X i ty) (ho : PE X o td) : PC X .In i o (tXIn K ty td) := by
  subst hK
  refine ⟨fun pins s σ H Q I h => ?_⟩
  refine thn (hi.run pins s σ H _ I h) fun iv s1 ⟨y, H1, I1, ry, q1⟩ => thn (ho.run pins s1 σ H1 _ I1 q1) fun u s2 ⟨x, H2, I2, rx, a, ex, g⟩ => ?_
  subst ex
  obtain rfl : u = Value.ref a := rx
  exact x_in (Qb := fun b => Q (.bl b) H2) hu I2 g ry fun b s3 q2 I3 => ⟨.bl b, H2, I3, rfl, q2⟩
theorem pc_xnotin (hK : X.K = K) (hu : X.A.units + 64 < cLine) (hi : PE X i ty) (ho : PE X o td) : PC X .NotIn i o (tXNotIn K ty td) := by
  subst hK
  refine ⟨fun pins s σ H Q I h => ?_⟩
  refine thn (hi.run pins s σ H _ I h) fun iv s1 ⟨y, H1, I1, ry, q1⟩ => thn (ho.run pins s1 σ H1 _ I1 q1) fun u s2 ⟨x, H2, I2, rx, a, ex, g⟩ => ?_
  subst ex
  obtain rfl : u = Value.ref a := rx
  exact x_notIn (Qb := fun b => Q (.bl b) H2) hu I2 g ry fun b s3 q2 I3 => ⟨.bl b, H2, I3, rfl, q2⟩
theorem ps_xput (hK : X.K = K) (hu : X.A.units + 64 < cLine) (ho : PE X o td) (hi : PE X i ty) (hv : PE X value tv) (hs : swapsWith value (some (.Subscript o i pos')) pos.line X.env = pure false := by rfl) :
    PS X (.Assign [.Subscript o i pos'] value pos) (sXPut K td ty tv) := by
  subst hK
  refine ⟨fun pins s σ H D I h => ?_⟩
  refine wpAny_Assign_Subscript (thn (hv.run pins s σ H _ I h) fun r s1 ⟨v, H1, I1, rv, q1⟩ => thn (ho.run pins s1 σ H1 _ I1 q1) fun u s2 ⟨x, H2, I2, rx, q2⟩ => thn (hi.run pins s2 σ H2 _ I2 q2) fun iv s3 ⟨y, H3, I3, ry, a, ex, g⟩ => ?_) hs
  subst ex
  obtain rfl : u = Value.ref a := rx
  exact x_setItem hu I3 g ry rv fun H4 s4 q3 I4 => ⟨σ, H4, I4, q3⟩
theorem pe_xnew : PE X (.Dict [] [] pos) tXNew := ⟨fun pins s σ H Q I h => by
  rcases h _ (I.hok.fresh (Nat.le_refl _)) with h | h
  · exact wpAny_Dict_empty ⟨.ref s.heap.objs.size, _, I.laid (a := s.heap.objs.size) (o := .dK []) (t' := s.toks) (fun _ _ q => Heap.get?_push_of_some _ q) (Nat.le_refl _) (dk_empty s.heap I.big), rfl, h⟩
  · exact wpAny_Dict_empty ⟨.ref s.heap.objs.size, _, I.laid (a := s.heap.objs.size) (o := DX s.heap.objs.size []) (t' := s.toks) (fun _ _ q => Heap.get?_push_of_some _ q) (Nat.le_refl _) (dx_empty s.heap I.big), rfl, h⟩⟩
/-- a thing that was made is locked for ever -/
def tLkV (t : TE) : TE := fun σ H Q => t σ H fun v H1 => ∃ d u, v = .ref d ∧ H1 d = some u ∧ Mut (some u) ∧ ∀ od, Q v (upd H1 d (.frz od u))
theorem pe_lkV {e : Expr} {t : TE} (h : PE X e t) : PE X e (tLkV t) := ⟨fun pins s σ H Q I hw =>
  thn (h.run pins s σ H _ I hw) fun u s1 ⟨v, H1, I1, rv, d, w, ev, hd, mu, q⟩ => by
    obtain ⟨od, I2⟩ := I1.lock hd mu
    exact ⟨v, _, I2, rv, q od⟩⟩
/-- .. or it stays as it is -/
def tLkO (t : TE) : TE := fun σ H Q => t σ H Q ∨ tLkV t σ H Q
theorem pe_lkO {e : Expr} {t : TE} (h : PE X e t) : PE X e (tLkO t) := ⟨fun pins s σ H Q I hw => hw.elim (h.run pins s σ H Q I) ((pe_lkV h).run pins s σ H Q I)⟩
/-- ahead of what follows a thing may be locked for ever -/
def tLk (t : TS) : TS := fun De σ H => t De σ H ∨ ∃ d u, H d = some u ∧ Mut (some u) ∧ ∀ od, t De σ (upd H d (.frz od u))
theorem pss_lk {sts : List Stmt} {t : TS} (h : PSs X sts t) : PSs X sts (tLk t) := ⟨fun pins s σ H D I hw => by
  rcases hw with hw | ⟨d, u, hd, mu, hw⟩
  · exact h.run pins s σ H D I hw
  · obtain ⟨od, I2⟩ := I.lock hd mu
    exact h.run pins s σ _ D I2 (hw od)⟩
end
/-! ### as data -/
/-- te gives a dict that may be read -/
def EvDc (S : Cf) (te : TE) (ρ : Rho) (f : Bool) (ds : List (D × D)) : Prop := ∀ (σ : L2.St) (G H : Hp), Kn S.fx G H → Env S G H σ ρ → ∀ Q : VK,
  (∀ a G' H', Grow S.fx G H G' H' → Kn S.fx G' H' → (∀ G2 H2, Grow S.fx G' H' G2 H2 → Kn S.fx G2 H2 → DRd S.K G2 H2 a f ds) → Q (.ref a) H') → te σ H Q
theorem KnD.rd {K : PySem.W.Frag} {G H : Hp} {a : Addr} {f : Bool} {ds : List (D × D)} (h : KnD K G a f ds) (e : Same G H) : DRd K G H a f ds := by
  cases f with
  | true =>
    obtain ⟨o, ks, h1, h2⟩ := h
    exact ⟨ks, .inr ⟨o, e _ _ h1⟩, h2⟩
  | false =>
    obtain ⟨o, xs, h1, h2⟩ := h
    exact ⟨xs, .inr ⟨o, e _ _ h1⟩, h2⟩
/-- the dict of one's own: its kind -/
def moD (a : Addr) : Bool → List (D × D) → Mo
  | true, ds => .dK ds
  | false, ds => .dN a ds
theorem moD_ok {K : PySem.W.Frag} {G : Hp} {u : HO} {a : Addr} {f : Bool} {ds : List (D × D)} (h : MoOk K G u (moD a f ds)) : (f = true ∧ ∃ ks, u = .dK ks ∧ RK K G ks ds) ∨ (f = false ∧ ∃ xs, u = DX a xs ∧ RN K G xs ds) := by
  cases f with
  | true =>
    cases u with
    | dK ks => exact .inl ⟨rfl, ks, rfl, h⟩
    | _ => exact h.elim
  | false =>
    cases u with
    | ext φ =>
      obtain ⟨xs, e, r⟩ := h
      exact .inr ⟨rfl, xs, by rw [e]; rfl, r⟩
    | _ => exact h.elim
theorem moD_rd {K : PySem.W.Frag} {G H : Hp} {u : HO} {a : Addr} {f : Bool} {ds : List (D × D)} (h : MoOk K G u (moD a f ds)) (ha : H a = some u) : DRd K G H a f ds := by
  rcases moD_ok h with ⟨rfl, ks, rfl, r⟩ | ⟨rfl, xs, rfl, r⟩
  · exact ⟨ks, .inl ha, r⟩
  · exact ⟨xs, .inl ha, r⟩
section
variable {S : Cf} {ρ : Rho} {te ta tb tc : TE} {P : Oc → Prop} {w : TS} {i j : Nat} {a : Addr} {f : Bool} {ds : List (D × D)}
theorem dc_own (h : ρ[i]? = some (.own a (moD a f ds))) : EvDc S (tVar i) ρ f ds := fun σ G H k e Q q => by
  obtain ⟨v, h1, e1, ga, ba, va, u, ha, r⟩ := e.get h
  cases Option.some.inj e1
  exact ⟨_, h1, q a G H (Grow.refl k) k fun G2 H2 g2 k2 => moD_rd (r.mono g2.gg) (g2.hh a u va ha)⟩
theorem dc_gho (he : Ev S te ρ (Eq (.raw (.ref a)))) (h : ρ[j]? = some (.gho a (moD a f ds))) : EvDc S te ρ f ds := fun σ G H k e Q q => he σ G H k e _ fun v s G1 H1 g1 k1 es r => by
  subst es
  cases (show v = _ from r)
  obtain ⟨o, _, ga, ba, va, u, ha, ru⟩ := (e.grow g1).at_ j _ h
  exact q a G1 H1 g1 k1 fun G2 H2 g2 k2 => moD_rd (ru.mono g2.gg) (g2.hh a u va ha)
theorem dc_of (he : Ev S te ρ (Eq (.dic f ds))) : EvDc S te ρ f ds := fun σ G H k e Q q => he σ G H k e _ fun v s G1 H1 g1 k1 es r => by
  subst es
  obtain ⟨a, rfl, kn⟩ := r
  exact q a G1 H1 g1 k1 fun G2 H2 g2 k2 => (kn.mono g2.gg).rd k2.gh
/-- no key of it is a tuple -/
def flatD (ds : List (D × D)) : Prop := ∀ p ∈ ds, okT p.1 = false
theorem R.dic_inv {K : PySem.W.Frag} {G : Hp} {v : V} (h : R K G v (.dict ds)) (fl : flatD ds) : ∃ a, v = .ref a ∧ KnD K G a true ds := by
  cases h with
  | dic hg r => exact ⟨_, rfl, _, _, hg, r⟩
  | @dicN a o xs _ hg n r =>
    cases r with
    | nil => exact absurd rfl n
    | cons ok _ _ _ _ _ =>
      have := fl _ List.mem_cons_self
      rw [show (_, _).1 = _ from rfl] at this
      simp [ok] at this
theorem ev_dicOf (he : Ev S te ρ (Eq (.dat (.dict ds)))) (fl : flatD ds) : Ev S te ρ (Eq (.dic true ds)) := fun σ G H k e Q q => he σ G H k e _ fun v s G1 H1 g1 k1 es r => by
  subst es
  exact q v _ G1 H1 g1 k1 rfl (R.dic_inv r fl)
theorem KnD.R {K : PySem.W.Frag} {G : Hp} (h : KnD K G a f ds) (n : f = true ∨ ds ≠ []) : R K G (.ref a) (.dict ds) := by
  cases f with
  | true =>
    obtain ⟨o, ks, h1, h2⟩ := h
    exact .dic h1 h2
  | false =>
    obtain ⟨o, xs, h1, h2⟩ := h
    exact .dicN h1 (n.elim (fun z => by cases z) id) h2
theorem ev_datOf (he : Ev S te ρ (Eq (.dic f ds))) (n : f = true ∨ ds ≠ []) : Ev S te ρ (Eq (.dat (.dict ds))) := fun σ G H k e Q q => he σ G H k e _ fun v s G1 H1 g1 k1 es r => by
  subst es
  obtain ⟨a, rfl, kn⟩ := r
  exact q _ _ G1 H1 g1 k1 rfl (kn.R n)
theorem ev_varDic (h : ρ[i]? = some (.dic f ds)) : Ev S (tVar i) ρ (Eq (.dic f ds)) := fun σ G H k e Q q => by
  obtain ⟨v, h1, v', e', r⟩ := e.get h
  cases e'
  exact ⟨v, h1, q v _ G H (Grow.refl k) k rfl r⟩
/-- d[k] -/
theorem ev_xget {dk d : D} (hd : EvDc S te ρ f ds) (hk : Ev S ta ρ (Eq (.dat dk))) (kd : KeyD f dk) (hv : gD ds dk = some d) : Ev S (tXGet S.K te ta) ρ (Eq (.dat d)) := fun σ G H k e Q q =>
  hd σ G H k e _ fun a G1 H1 g1 k1 st => hk σ G1 H1 k1 (e.grow g1) _ fun y s G2 H2 g2 k2 es ry => by
    subst es
    refine ⟨a, rfl, G2, f, ds, dk, k2.gh, st G2 H2 g2 k2, kd, ry, fun z => ?_, fun d' hd' v rv => ?_⟩
    · rw [hv] at z
      cases z
    · rw [hv] at hd'
      cases hd'
      exact ⟨v, rfl, q v _ G2 H2 (g1.trans k1 k2 g2) k2 rfl rv⟩
/-- k in d, k not in d -/
theorem ev_xin {dk : D} (hd : EvDc S te ρ f ds) (hk : Ev S ta ρ (Eq (.dat dk))) (kd : KeyD f dk) : Ev S (tXIn S.K ta te) ρ (Eq (.dat (.bool (gD ds dk).isSome))) := fun σ G H k e Q q =>
  hk σ G H k e _ fun y s G1 H1 g1 k1 es ry => hd σ G1 H1 k1 (e.grow g1) _ fun a G2 H2 g2 k2 st => by
    subst es
    refine ⟨a, rfl, G2, f, ds, dk, k2.gh, st G2 H2 (Grow.refl k2) k2, kd, ry.mono g2.gg, fun z => ?_, fun d' hd' v rv => ?_⟩
    · rw [z] at q
      exact q _ _ G2 H2 (g1.trans k1 k2 g2) k2 rfl (.bl _)
    · rw [hd'] at q
      exact q _ _ G2 H2 (g1.trans k1 k2 g2) k2 rfl (.bl _)
theorem ev_xnotin {dk : D} (hd : EvDc S te ρ f ds) (hk : Ev S ta ρ (Eq (.dat dk))) (kd : KeyD f dk) : Ev S (tXNotIn S.K ta te) ρ (Eq (.dat (.bool (!(gD ds dk).isSome)))) := fun σ G H k e Q q =>
  hk σ G H k e _ fun y s G1 H1 g1 k1 es ry => hd σ G1 H1 k1 (e.grow g1) _ fun a G2 H2 g2 k2 st => by
    subst es
    refine ⟨a, rfl, G2, f, ds, dk, k2.gh, st G2 H2 (Grow.refl k2) k2, kd, ry.mono g2.gg, fun z => ?_, fun d' hd' v rv => ?_⟩
    · rw [z] at q
      exact q _ _ G2 H2 (g1.trans k1 k2 g2) k2 rfl (.bl _)
    · rw [hd'] at q
      exact q _ _ G2 H2 (g1.trans k1 k2 g2) k2 rfl (.bl _)
/-! what was just made -/
def EvQ (S : Cf) (te : TE) (ρ : Rho) (m : Addr → Mo) : Prop := ∀ (σ : L2.St) (G H : Hp), Kn S.fx G H → Env S G H σ ρ → ∀ Q : VK,
  (∀ p u G' H', Grow S.fx G H G' H' → Kn S.fx G' H' → H p = none → G' p = none → H' p = some u → MoOk S.K G' u (m p) → Q (.ref p) H') → te σ H Q
theorem eq_newK : EvQ S tXNew ρ (fun p => moD p true []) := fun σ G H k e Q q p hp => .inl (q p _ G _ (Grow.same k (same_new hp)) (k.same (same_new hp)) hp (k.freeG hp) upd_same .nil)
theorem eq_newN : EvQ S tXNew ρ (fun p => moD p false []) := fun σ G H k e Q q p hp => .inr (q p _ G _ (Grow.same k (same_new hp)) (k.same (same_new hp)) hp (k.freeG hp) upd_same ⟨[], rfl, .nil⟩)
theorem xc_asgQ {m : Addr → Mo} (h : EvQ S te ρ m) (hs : ∀ p, P (.nx (ρ.set i (.own p (m p))))) : Xc S (tAsg te (gName i)) ρ P := fun σ G H De o e fi =>
  h σ G H o.kn e _ fun p u G' H' g k n1 n2 hp r => by
    have o1 := o.grow g k
    exact fi.nx _ G' H' _ o1 g.gg ((e.grow g).put i (some (.ref p)) (.own p (m p)) ⟨rfl, n2, .inl (o.freshB n1), o.kn.fresh n1, _, hp, r⟩ fun b m' z j t m'' nj hj => e.new_none (i := i) (s := .own p (m p)) n1 rfl z hj m'') (hs p)
theorem xs_asgQ {m : Addr → Mo} (h : EvQ S te ρ m) (hs : ∀ p, Xc S w (ρ.set i (.own p (m p))) P) : Xc S (tSeq (tAsg te (gName i)) w) ρ P := xc_seq (xc_asgQ h hs)
/-- x.f = what was just made; slot j stands for it -/
theorem xc_setfQ {m : Addr → Mo} {C dx : Addr} {vf : List (Str × V)} {fs : Fs} {n : Str} (h : ρ[i]? = some (.own a (.ins C dx vf fs))) (hij : j ≠ i) (hj : j < ρ.length) (he : EvQ S te ρ m) (c : Cls S.K C) (na : NoAttr S.K C n) (hl : fs.length < 900)
    (k : ∀ p vf', P (.nx ((ρ.set i (.own a (.ins C dx vf' (putD n (.r (.ref p)) fs)))).set j (.gho p (m p))))) : Xc S (sFld S.K (tVar i) te n) ρ P := fun σ G H De o e fi =>
  he σ G H o.kn e _ fun p u G1 H1 g1 k1 n1 n2 hp r => by
    have o1 := o.grow g1 k1
    have e1 := e.grow g1
    obtain ⟨h1, ga, ba, va, ha, fa⟩ := own_ins e1 h
    obtain ⟨o2, e2⟩ := own_write (u' := .ins C dx (putF n (.ref p) vf)) (m' := .ins C dx (putF n (.ref p) vf) (putD n (.r (.ref p)) fs)) o1 e1 h ⟨⟨rfl, rfl, rfl⟩, fa.put (x := .r (.ref p)) rfl⟩
    have npa : p ≠ a := fun q => by
      obtain ⟨_, _, _, _, ha0, _⟩ := own_ins e h
      rw [← q, n1] at ha0
      cases ha0
    have hp2 : (upd H1 a (.ins C dx (putF n (.ref p) vf))) p = some u := by
      rw [upd_ne npa]
      exact hp
    have e3 := e2.chg j (.gho p (m p)) (fun ov s0 _ _ _ => ⟨n2, .inl (o.freshB n1), o.kn.fresh n1, u, hp2, r⟩) fun b m' z l t m'' nl hlt => by
      rcases set_get hlt with ⟨_, et⟩ | ⟨_, hlt⟩
      · subst et
        intro z2
        cases z
        cases z2
        exact npa rfl
      · exact e.new_none (i := j) (s := .gho p (m p)) n1 rfl z hlt m''
    exact ⟨_, h1, a, C, dx, vf, rfl, ha, c, na, by rw [fa.length]; omega, fi.nx _ G1 _ _ o2 g1.gg e3 (k p _)⟩
theorem xs_setfQ {m : Addr → Mo} {C dx : Addr} {vf : List (Str × V)} {fs : Fs} {n : Str} (h : ρ[i]? = some (.own a (.ins C dx vf fs))) (hij : j ≠ i) (hj : j < ρ.length) (he : EvQ S te ρ m) (c : Cls S.K C) (na : NoAttr S.K C n) (hl : fs.length < 900)
    (k : ∀ p vf', Xc S w ((ρ.set i (.own a (.ins C dx vf' (putD n (.r (.ref p)) fs)))).set j (.gho p (m p))) P) : Xc S (tSeq (sFld S.K (tVar i) te n) w) ρ P := xc_seq (xc_setfQ h hij hj he c na hl k)
/-! d[k] = v -/
theorem x_put {G H : Hp} {y v : V} {dk d : D} {u : HO} {Q : Hp → Prop} (sg : Same G H) (ha : H a = some u) (r : MoOk S.K G u (moD a f ds)) (kd : KeyD f dk) (ry : R S.K G y dk) (rv : R S.K G v d) (hl : ds.length < 1000000)
    (q : ∀ u', MoOk S.K G u' (moD a f (pD ds dk d)) → Q (upd H a u')) : XPut S.K H a y v Q := by
  rcases moD_ok r with ⟨rfl, ks, rfl, rr⟩ | ⟨rfl, xs, rfl, rr⟩
  · obtain ⟨k, rfl⟩ := kd
    exact .inl ⟨ks, k, ha, kD_R ry, Nat.lt_of_lt_of_le (by rw [rr.length]; exact hl) (by decide), q (.dK (putK ks k v)) (rr.put k rv)⟩
  · obtain ⟨b, rfl⟩ := okT_R ry kd
    exact .inr ⟨G, xs, ds, dk, b, ha, sg, rr, rfl, ry, kd, Nat.lt_of_lt_of_le (by rw [rr.length]; exact hl) (by decide), fun u' ru => q (DX a (storedH xs (nk dk) b u')) ⟨_, rfl, rr.put kd ry ru rv⟩⟩
theorem moD_ins {a : Addr} {f : Bool} {ds : List (D × D)} : (moD a f ds).isIns → False := by
  cases f <;> exact fun z => z
theorem xc_xput {dk d : D} (h : ρ[i]? = some (.own a (moD a f ds))) (hv : Ev S tc ρ (Eq (.dat d))) (hk : Ev S ta ρ (Eq (.dat dk))) (kd : KeyD f dk) (hl : ds.length < 1000000) (hs : P (.nx (ρ.set i (.own a (moD a f (pD ds dk d)))))) : Xc S (sXPut S.K (tVar i) ta tc) ρ P := fun σ G H De o e fi =>
  hv σ G H o.kn e _ fun v s G1 H1 g1 k1 es rv => by
    obtain ⟨_, h1, e0, _⟩ := (e.grow g1).get h
    cases Option.some.inj e0
    refine ⟨_, h1, hk σ G1 H1 k1 (e.grow g1) _ fun y s2 G2 H2 g2 k2 es2 ry => ?_⟩
    subst es es2
    have g := g1.trans k1 k2 g2
    obtain ⟨_, _, _, ga, ba, va, u, ha, r⟩ := (e.grow g).get h
    exact ⟨a, rfl, x_put k2.gh ha r kd ry (rv.mono g2.gg) hl fun u' r' => by
      obtain ⟨o2, e2⟩ := own_write (u' := u') (m' := moD a f (pD ds dk d)) (o.grow g k2) (e.grow g) h r' (fun z => absurd z moD_ins)
      exact fi.nx _ G2 _ _ o2 g.gg e2 hs⟩
theorem xs_xput {dk d : D} (h : ρ[i]? = some (.own a (moD a f ds))) (hv : Ev S tc ρ (Eq (.dat d))) (hk : Ev S ta ρ (Eq (.dat dk))) (kd : KeyD f dk) (hl : ds.length < 1000000) (hs : Xc S w (ρ.set i (.own a (moD a f (pD ds dk d)))) P) : Xc S (tSeq (sXPut S.K (tVar i) ta tc) w) ρ P := xc_seq (xc_xput h hv hk kd hl hs)
/-- .. the dict told by an expression, slot j stands for it -/
theorem xc_xputG {dk d : D} (he : Ev S te ρ (Eq (.raw (.ref a)))) (h : ρ[j]? = some (.gho a (moD a f ds))) (hv : Ev S tc ρ (Eq (.dat d))) (hk : Ev S ta ρ (Eq (.dat dk))) (kd : KeyD f dk) (hl : ds.length < 1000000) (hs : P (.nx (ρ.set j (.gho a (moD a f (pD ds dk d)))))) : Xc S (sXPut S.K te ta tc) ρ P := fun σ G H De o e fi =>
  hv σ G H o.kn e _ fun v s G1 H1 g1 k1 es rv => he σ G1 H1 k1 (e.grow g1) _ fun x s0 Ga Ha ga ka es0 rx => hk σ Ga Ha ka ((e.grow g1).grow ga) _ fun y s2 G2 H2 g2 k2 es2 ry => by
    subst es es2 es0
    cases (show x = _ from rx)
    have g := (g1.trans k1 ka ga).trans ka k2 g2
    obtain ⟨_, _, _, ba, va, u, ha, r⟩ := (e.grow g).at_ j _ h
    exact ⟨a, rfl, x_put k2.gh ha r kd ry (rv.mono (ga.gg.trans g2.gg)) hl fun u' r' => by
      obtain ⟨o2, e2⟩ := gho_write (u' := u') (m' := moD a f (pD ds dk d)) (o.grow g k2) (e.grow g) h r' (fun z => absurd z moD_ins)
      exact fi.nx _ G2 _ _ o2 g.gg e2 hs⟩
theorem xs_xputG {dk d : D} (he : Ev S te ρ (Eq (.raw (.ref a)))) (h : ρ[j]? = some (.gho a (moD a f ds))) (hv : Ev S tc ρ (Eq (.dat d))) (hk : Ev S ta ρ (Eq (.dat dk))) (kd : KeyD f dk) (hl : ds.length < 1000000) (hs : Xc S w (ρ.set j (.gho a (moD a f (pD ds dk d)))) P) : Xc S (tSeq (sXPut S.K te ta tc) w) ρ P := xc_seq (xc_xputG he h hv hk kd hl hs)
end
end Dl

set_option Elab.async false
set_option linter.all false
set_option maxRecDepth 100000
set_option maxHeartbeats 4000000
/-! Dlg: dicts known for ever, walked; objects made by their class, which may refuse. -/
namespace Dl
open PySem PySem.Spec PyProof.Rows L2 LamX
theorem moD_mut {K : PySem.W.Frag} {G : Hp} {u : HO} {a : Addr} {f : Bool} {ds : List (D × D)} (h : MoOk K G u (moD a f ds)) : Mut (some u) := by
  rcases moD_ok h with ⟨_, ks, rfl, _⟩ | ⟨_, xs, rfl, _⟩ <;> exact True.intro
theorem moD_kn {K : PySem.W.Frag} {G : Hp} {u : HO} {a : Addr} {f : Bool} {ds : List (D × D)} (h : MoOk K G u (moD a f ds)) (ga : G a = none) (od : Obj) : KnD K (upd G a (.frz od u)) a f ds := by
  have sg : Same G (upd G a (.frz od u)) := same_new ga
  rcases moD_ok h with ⟨rfl, ks, rfl, r⟩ | ⟨rfl, xs, rfl, r⟩
  · exact ⟨od, ks, upd_same, r.mono sg⟩
  · exact ⟨od, xs, upd_same, r.mono sg⟩
section
variable {S : Cf} {ρ : Rho} {te ta tb tc : TE} {P : Oc → Prop} {w t : TS} {i j : Nat} {a : Addr} {f : Bool} {ds : List (D × D)}
theorem xs_nolk (h : Xc S t ρ P) : Xc S (tLk t) ρ P := fun σ G H De o e fi => .inl (h σ G H De o e fi)
theorem OkS.lock {G H : Hp} (o : OkS S G H) {u' : HO} (ba : S.B a = none) (kn : Kn S.fx (upd G a u') (upd H a u')) (sg : Same G (upd G a u')) : OkS S (upd G a u') (upd H a u') :=
  ⟨kn, o.k0, ⟨o.gr.gg.trans sg, kn.gh, fun b w vb mb hb => by
    have q : b ≠ a := fun q => by rw [q, ba] at hb; cases hb
    rw [upd_ne q]
    exact o.gr.hh b w vb mb hb, fun b w mb hb nt n => by
    have q : b ≠ a := fun q => by rw [q, ba] at hb; cases hb
    rw [upd_ne q]
    exact o.gr.nn b w mb hb nt n⟩, fun b m => ⟨(o.mn b m).1, by
    by_cases q : b = a
    · rw [q, upd_same]
      simp
    · rw [upd_ne q]
      exact (o.mn b m).2⟩, o.m0⟩
/-- a dict of ours is known from now on -/
theorem xs_lock (h : ρ[i]? = some (.own a (moD a f ds))) (hs : Xc S t (ρ.set i (.dic f ds)) P) : Xc S (tLk t) ρ P := fun σ G H De o e fi => by
  obtain ⟨v, h1, e1, ga, ba', va, u, ha, r⟩ := e.get h
  have ba : S.B a = none := ba'.elim id fun z => absurd z.2 moD_ins
  refine .inr ⟨a, u, ha, moD_mut r, fun od => ?_⟩
  obtain ⟨k2, sg, e2⟩ := Env.know (u' := .frz od u) (s' := .dic f ds) o.kn e h rfl ha r.noFix (fun o ho ok => ⟨.ref a, ok.1, a, rfl, moD_kn r ga od⟩) rfl
  exact hs σ _ _ De (o.lock ba k2 sg) e2 (fi.same sg)
/-- .. the dict that a field of ours holds -/
theorem xs_lockF {b C dx : Addr} {vf : List (Str × V)} {fs : Fs} {n : Str} (h : ρ[j]? = some (.gho a (moD a f ds))) (hb : ρ[i]? = some (.own b (.ins C dx vf fs))) (hn : fs.lookup n = some (.r (.ref a)))
    (hs : Xc S t ((ρ.set j .no).set i (.own b (.ins C dx vf (putD n (.k f ds) fs)))) P) : Xc S (tLk t) ρ P := fun σ G H De o e fi => by
  obtain ⟨ov, h1, ga, ba', va, u, ha, r⟩ := e.at_ j _ h
  have ba : S.B a = none := ba'.elim id fun z => absurd z.2 moD_ins
  refine .inr ⟨a, u, ha, moD_mut r, fun od => ?_⟩
  obtain ⟨k2, sg, e2⟩ := Env.know (u' := .frz od u) (s' := .no) o.kn e h rfl ha r.noFix (fun o ho ok => True.intro) rfl
  have hij : i ≠ j := fun q => by
    rw [q, h] at hb
    cases hb
  have hb2 : (ρ.set j Sl.no)[i]? = some (.own b (.ins C dx vf fs)) := by
    rw [List.getElem?_set_ne (Ne.symm hij)]
    exact hb
  have kn := moD_kn r ga od
  have e3 := e2.chg i (.own b (.ins C dx vf (putD n (.k f ds) fs))) (fun ov s0 hs0 _ ok => by
    rw [hb2] at hs0
    cases hs0
    obtain ⟨x1, x2, x3, x4, w, x5, x6⟩ := ok
    refine ⟨x1, x2, x3, x4, w, x5, ?_⟩
    cases w with
    | ins C' dx' vs =>
      obtain ⟨⟨z1, z2, z3⟩, fa⟩ := x6
      refine ⟨⟨z1, z2, z3⟩, fa.re (fun v hv => ?_) (by rw [hn]; simp)⟩
      obtain ⟨v', hv', rv⟩ := fa.look hn
      rw [hv'] at hv
      cases hv
      exact ⟨a, rv, kn⟩
    | _ => exact x6.elim) fun c m z l s2 m' nl hl => by
    cases z
    exact e2.alone hb2 rfl nl hl
  exact hs σ _ _ De (o.lock ba k2 sg) e3 (fi.same sg)
/-- what was just made is known at once -/
theorem ev_lkV (h : EvQ S te ρ (fun p => moD p f ds)) : Ev S (tLkV te) ρ (Eq (.dic f ds)) := fun σ G H k e Q q => h σ G H k e _ fun p u G1 H1 g1 k1 n1 n2 hp r => by
  refine ⟨p, u, rfl, hp, moD_mut r, fun od => ?_⟩
  have vp : ¬ S.fx.vol p := k.fresh n1
  have ne : ∀ {b : Addr} {o : HO}, H b = some o → b ≠ p := fun hb => ne_of_none hb n1
  have sh : Same (upd G1 p (.frz od u)) (upd H1 p (.frz od u)) := same_upd2 k1.gh
  have g2 : Grow S.fx G H (upd G1 p (.frz od u)) (upd H1 p (.frz od u)) := ⟨g1.gg.trans (same_new n2), sh, fun b o v hb => by
    rw [upd_ne (ne hb)]
    exact g1.hh b o v hb, fun b o hb nt n => by
    rw [upd_ne (ne hb)]
    exact g1.nn b o hb nt n⟩
  have k2 : Kn S.fx (upd G1 p (.frz od u)) (upd H1 p (.frz od u)) := ⟨sh, S.fx.ext (fun b o hb ho => by
      have q : b ≠ p := fun q => by
        rcases hb with hb | hb
        · exact vp (q ▸ hb)
        · rw [q, hp] at ho
          cases ho
          exact r.noFix hb
      rw [upd_ne q]
      exact ho) k1.inv, fun b vb => by
    have q : b ≠ p := fun q => vp (q ▸ vb)
    rw [upd_ne q]
    exact k1.vn b vb⟩
  exact q _ _ _ _ g2 k2 rfl ⟨p, rfl, moD_kn r n2 od⟩
theorem ev_lkO (h : EvQ S te ρ (fun p => moD p f ds)) : Ev S (tLkO te) ρ (Eq (.dic f ds)) := fun σ G H k e Q q => .inr (ev_lkV h σ G H k e Q q)
theorem eq_lkO {m : Addr → Mo} (h : EvQ S te ρ m) : EvQ S (tLkO te) ρ m := fun σ G H k e Q q => .inl (h σ G H k e Q q)
/-! walks -/
theorem RK.at {K : PySem.W.Frag} {G : Hp} : ∀ {ks : List (Key × V)} {ds : List (D × D)} {i : Nat} {p : D × D}, RK K G ks ds → ds[i]? = some p → ∃ k v, ks[i]? = some (k, v) ∧ p.1 = kD k ∧ R K G v p.2
  | _, _, _, _, .nil, h => by simp at h
  | _, _, 0, _, .cons r _, h => by
    simp only [List.getElem?_cons_zero, Option.some.injEq] at h
    subst h
    exact ⟨_, _, rfl, rfl, r⟩
  | _, _, i + 1, _, .cons _ rs, h => by
    simp only [List.getElem?_cons_succ] at h ⊢
    exact RK.at rs h
theorem R.kV {K : PySem.W.Frag} {G : Hp} (k : Key) : R K G (kV k) (kD k) := by
  cases k with
  | inl i => exact .int i
  | inr x => exact .str x
theorem wk_keys {G : Hp} {o : Obj} {ks : List (Key × V)} (hg : G a = some (.frz o (.dK ks))) (r : RK S.K G ks ds) : Wk S (Itk a o ks) G (ds.map Prod.fst) := fun G2 H2 e k => by
  have h2 : H2 a = some (.frz o (.dK ks)) := k.gh _ _ (e _ _ hg)
  have hl := r.length
  refine ⟨⟨h2, by rw [List.length_map, hl]; exact Nat.le_refl _⟩, fun i d hd => ?_⟩
  rw [List.getElem?_map] at hd
  obtain ⟨p, hp, rfl⟩ := Option.map_eq_some_iff.mp hd
  obtain ⟨q, v, hk, e1, rv⟩ := r.at hp
  refine ⟨⟨h2, (List.getElem?_eq_some_iff.mp hk).1⟩, fun x H3 ⟨e3, q', v', hx, ex⟩ => ?_⟩
  rw [hk] at hx
  cases hx
  exact ⟨G2, by rw [e3]; exact Grow.refl k, by rw [e3]; exact k, by rw [ex, e1]; exact R.kV q⟩
theorem wk_vals {G : Hp} {o : Obj} {ks : List (Key × V)} (hg : G a = some (.frz o (.dK ks))) (r : RK S.K G ks ds) : Wk S (Itd a o ks) G (ds.map Prod.snd) := fun G2 H2 e k => by
  have h2 : H2 a = some (.frz o (.dK ks)) := k.gh _ _ (e _ _ hg)
  have hl := r.length
  refine ⟨⟨h2, by rw [List.length_map, hl]; exact Nat.le_refl _⟩, fun i d hd => ?_⟩
  rw [List.getElem?_map] at hd
  obtain ⟨p, hp, rfl⟩ := Option.map_eq_some_iff.mp hd
  obtain ⟨q, v, hk, e1, rv⟩ := r.at hp
  refine ⟨⟨h2, (List.getElem?_eq_some_iff.mp hk).1⟩, fun x H3 ⟨e3, q', hx⟩ => ?_⟩
  rw [hk] at hx
  cases hx
  exact ⟨G2, by rw [e3]; exact Grow.refl k, by rw [e3]; exact k, rv.mono e⟩
def pairD (p : D × D) : D := .tuple [p.1, p.2]
theorem wk_items {G : Hp} {o : Obj} {ks : List (Key × V)} (hg : G a = some (.frz o (.dK ks))) (r : RK S.K G ks ds) : Wk S (Iti a o ks) G (ds.map pairD) := wk_pair (f := fun a b => .tuple [a, b]) fun G2 H2 e k => by
  have h2 : H2 a = some (.frz o (.dK ks)) := k.gh _ _ (e _ _ hg)
  have hl := r.length
  refine ⟨⟨h2, by rw [List.length_map, hl]; exact Nat.le_refl _⟩, fun i d hd => ?_⟩
  rw [List.getElem?_map] at hd
  obtain ⟨p, hp, rfl⟩ := Option.map_eq_some_iff.mp hd
  obtain ⟨q, v, hk, e1, rv⟩ := r.at hp
  refine ⟨⟨h2, (List.getElem?_eq_some_iff.mp hk).1⟩, fun x H3 ⟨T, k', v', hx, ex, hT, eH⟩ => ?_⟩
  rw [hk] at hx
  cases hx
  exact ⟨T, _, _, p.1, p.2, ex, hT, eH, by rw [e1]; exact R.kV _, rv.mono e, rfl⟩
theorem im_keys (h : Ev S te ρ (Eq (.dic true ds))) : Itm S (iKeys te) ρ (Eq (ds.map Prod.fst)) := fun σ G H k e Rr q => h σ G H k e _ fun v s G1 H1 g1 k1 es r => by
  subst es
  obtain ⟨a, rfl, o, ks, hg, rk⟩ := r
  exact ⟨a, o, rfl, .inl ⟨ks, k1.gh _ _ hg, q _ _ G1 H1 g1 k1 rfl (wk_keys hg rk)⟩⟩
theorem im_vals (h : Ev S te ρ (Eq (.dic true ds))) : Itm S (iVals te) ρ (Eq (ds.map Prod.snd)) := fun σ G H k e Rr q => h σ G H k e _ fun v s G1 H1 g1 k1 es r => by
  subst es
  obtain ⟨a, rfl, o, ks, hg, rk⟩ := r
  exact ⟨a, o, ks, rfl, k1.gh _ _ hg, q _ _ G1 H1 g1 k1 rfl (wk_vals hg rk)⟩
theorem im_items (h : Ev S te ρ (Eq (.dic true ds))) : Itm S (iItems te) ρ (Eq (ds.map pairD)) := fun σ G H k e Rr q => h σ G H k e _ fun v s G1 H1 g1 k1 es r => by
  subst es
  obtain ⟨a, rfl, o, ks, hg, rk⟩ := r
  exact ⟨a, o, ks, rfl, k1.gh _ _ hg, q _ _ G1 H1 g1 k1 rfl (wk_items hg rk)⟩
end
/-! len -/
def rLenX (K : PySem.W.Frag) : List V → Hp → VK → Prop := fun xs H Q => ∃ (a : Addr) (G : Hp) (f : Bool) (ds : List (D × D)), xs = [.ref a] ∧ Same G H ∧ DRd K G H a f ds ∧ Q (.int (ds.length : Nat)) H
theorem cr_lenX {X : Cx} : CallR X (.builtin "len") (rLenX X.K) := by
  intro pins s σ H xs us Q I r h
  obtain ⟨a, G, f, ds, rfl, sg, dr, q⟩ := h
  obtain ⟨u, rfl, ru⟩ := vals1 r
  cases ru
  cases f with
  | true =>
    obtain ⟨ks, e, rr⟩ := dr
    exact d_len I e fun t s' I' => ⟨.int ks.length, H, I', ⟨t, rfl⟩, by rw [rr.length]; exact q⟩
  | false =>
    obtain ⟨xs, e, rr⟩ := dr
    obtain ⟨z1, z2, dd⟩ := dx_rd I e sg rr
    exact call_len_dictH z2 dd (by rw [sizeLine_eq] at z1; omega) ⟨.int xs.length, H, I.tok _, ⟨_, rfl⟩, by rw [rr.length]; exact q⟩
theorem ev_lenX {S : Cf} {ρ : Rho} {te : TE} {f : Bool} {ds : List (D × D)} (h : EvDc S te ρ f ds) : Ev S (tCB (rLenX S.K) (tCons te tNil)) ρ (Eq (.dat (.int (ds.length : Nat)))) := fun σ G H k e Q q =>
  h σ G H k e _ fun a G1 H1 g1 k1 st => ⟨a, G1, f, ds, rfl, k1.gh, st G1 H1 (Grow.refl k1) k1, q _ _ G1 H1 g1 k1 rfl (.int _)⟩
/-! ### objects made by their class -/
inductive ReN where
  | ok (fs : Fs) (g : List (Addr × Mo))
  | ex (C : Addr) (d : D)
/-- things that the maker left, ours still -/
def GhOk (K : PySem.W.Frag) (H G' H' : Hp) (g : List (Addr × Mo)) : Prop := ∀ p ∈ g, H p.1 = none ∧ G' p.1 = none ∧ ∃ u, H' p.1 = some u ∧ MoOk K G' u p.2
def spN (K : PySem.W.Frag) (C : Addr) {ι : Type} (args : ι → List Sl) (pre : ι → Prop) (post : ι → ReN → Prop) : Sp := fun vs H Q E =>
  ∃ (i : ι) (G : Hp) (a dx : Addr) (ws : List V), vs = .ref a :: ws ∧ pre i ∧ Kn fx0 G H ∧ G a = none ∧ H a = some (.ins C dx []) ∧ RSs K G ws (args i) ∧
    (∀ G' H' dx' vf' fs' g, GrO (fxM a) G H G' H' → Kn fx0 G' H' → (G' a = none ∨ G' a = some (.ins C dx' vf')) → H' a = some (.ins C dx' vf') → FA K G' vf' fs' → GhOk K H G' H' g → post i (.ok fs' g) → Q .non H') ∧
    (∀ C' d dd v G' H', GrO (fxM a) G H G' H' → Kn fx0 G' H' → H' dd = some (.xd [("value", v)]) → R K G' v d → post i (.ex C' d) → E (.ref C') (some dd) H')
/-- what is wanted of the maker's body: slot 0 the object -/
def ObjN (a C : Addr) (post : ReN → Prop) : Oc → Prop
  | .nx ρ => ∃ fs' g, ((∃ dx' vf', ρ[0]? = some (.own a (.ins C dx' vf' fs'))) ∨ ρ[0]? = some (.ob (some a) C fs')) ∧ (∀ p ∈ g, ∃ j : Nat, ρ[j]? = some (Sl.gho p.1 p.2)) ∧ post (.ok fs' g)
  | .ex C' d => post (.ex C' d)
  | _ => False
section
variable {P : Program} {w : World} {K : PySem.W.Frag} {mg : Str → Option Value} {base : Heap}
theorem fn_okN {ι : Type} {C : Addr} {args : ι → List Sl} {pre : ι → Prop} {post : ι → ReN → Prop} {x qual : Str} {st : Stmt} {f : Addr} {fd : FuncData} {N ps : List Str} {k : Nat} (F : Fun K x qual st f fd) (Sc : FnScope N ps (defScope st)) (hl : ∀ i, pre i → (args i).length + 1 = ps.length)
    (hg : ∀ i fs g, post i (.ok fs g) → ∀ p ∈ g, ¬ p.2.isIns)
    (hbody : ∀ (cdv : Value) (A : Around) (outer : List PySem.Env) (s : Shared) (H : Hp) (E : XK), Room k (A.deeper (envOfC qual (defScope st) s.heap.objs.size f cdv)) → ∀ (i : ι), pre i →
      ∃ t, PSs (cxOf (L2.CX P w) P w K mg base N qual (defScope st) f cdv A outer s H E) (defBody st) t ∧ ∀ (G : Hp) (a dx : Addr), Xc ⟨K, fxM a, G, H, E⟩ t ((.own a (.ins C dx [] []) :: args i) ++ List.replicate (N.length - ps.length) .no) (ObjN a C (post i))) :
    FnOk P w K mg base (L2.CX P w) (k + 1) f fd ps (spN K C args pre post) := by
  refine F.okX Sc (fun vs H Q E h => ?_) fun cdv A outer s H vs Q E hr h => ?_
  · obtain ⟨i, G, a, dx, ws, rfl, hp, _, _, _, r, _⟩ := h
    rw [List.length_cons, r.length, hl i hp]
  · obtain ⟨i, G, a, dx, ws, rfl, hp, kn, ga, ha, r, q, qx⟩ := h
    obtain ⟨t, ht, hx⟩ := hbody cdv A outer s H E hr i hp
    refine ⟨t, ht, ?_⟩
    have hn : (V.ref a :: ws).length = ps.length := by rw [List.length_cons, r.length, hl i hp]
    have r0 : RSs K G (V.ref a :: ws) (.raw (.ref a) :: args i) := .cons rfl r
    have ev0 := env_start (S := ⟨K, fxM a, G, H, E⟩) (H := H) (N.length - ps.length) r0
    have e1 := ev0.put 0 (some (.ref a)) (.own a (.ins C dx [] [])) ⟨rfl, ga, .inr ⟨rfl, trivial⟩, fun z => z, _, ha, ⟨rfl, rfl, rfl⟩, .nil⟩ (fun b m hb j t m' _ hj z => by
      obtain ⟨o, _, ok⟩ := ev0.at_ j t hj
      by_cases hl : j < (Sl.raw (.ref a) :: args i).length
      · rw [List.getElem?_append_left hl] at hj
        exact RSs.noholds r0 hj z
      · rw [List.getElem?_append_right (by omega), List.getElem?_replicate] at hj
        split at hj
        · cases hj
          cases z
        · cases hj)
    unfold L2.start
    rw [hn]
    have kn' : Kn (fxM a) G H := ⟨kn.gh, trivial, fun b v => v.elim⟩
    have mn : MnOk (fxM a) H := fun b z => by
      cases (show b = a from z)
      exact ⟨fun v => v, by rw [ha]; simp⟩
    refine hx G a dx _ G H _ ⟨kn', kn', GrO.of (Grow.refl kn'), mn, mn⟩ e1 ⟨fun σ G' H' ρ o s e p => ?_, fun σ G' H' ρ o s e p => p.elim, fun σ G' H' ρ o s e p => p.elim, fun σ v s G' H' ρ o e r p => p.elim, fun C' d dd v G' H' o hd r p => qx C' d dd v G' H' o.gr o.kn.low hd r p⟩
    obtain ⟨fs', g, p0, p1, p2⟩ := p
    have gh : GhOk K H G' H' g := fun x hx => by
      obtain ⟨j, hj⟩ := p1 x hx
      obtain ⟨_, _, x1, x2, x3, u, x4, x5⟩ := e.at_ j _ hj
      exact ⟨x2.elim id fun z => absurd z.2 (hg i fs' g p2 x hx), x1, u, x4, x5⟩
    rcases p0 with ⟨dx', vf', p0⟩ | p0
    · obtain ⟨_, ga', _, _, ha', fa'⟩ := own_ins e p0
      exact q G' H' dx' vf' fs' g o.gr o.kn.low (.inl ga') ha' fa' gh p2
    · obtain ⟨v, h1, v', e', b, dx', vf', e1, e2, e3, e4⟩ := e.get p0
      cases e4 a rfl
      exact q G' H' dx' vf' fs' g o.gr o.kn.low (.inr e2) (o.kn.gh _ _ e2) e3 gh p2
theorem mk_calN {ι : Type} {C : Addr} {args : ι → List Sl} {pre : ι → Prop} {post : ι → ReN → Prop} {x qual : Str} {st : Stmt} {N ps : List Str} {k : Nat} (T : DefK K mg x C qual st) (Sc : FnScope N ps (defScope st)) (hl : ∀ i, pre i → (args i).length + 1 = ps.length)
    (hg : ∀ i fs g, post i (.ok fs g) → ∀ p ∈ g, ¬ p.2.isIns)
    (hb : ∀ (kV doc pm : Value) (an : Option Addr) (cdv ct : Value) (us : List Value), us.length = ps.length → bindArgs (PySem.W.fnOf "__init__" qual (defArgs st) (defBody st) (defScope st) .none kV doc pm an cdv ct) ⟨us, []⟩ = pure (ps.zip us))
    (body : ∀ (f : Addr) (cdv : Value) (A : Around) (outer : List PySem.Env) (s : Shared) (H : Hp) (E : XK), Room k (A.deeper (envOfC qual (defScope st) s.heap.objs.size f cdv)) → ∀ (i : ι), pre i →
      ∃ t, PSs (cxOf (L2.CX P w) P w K mg base N qual (defScope st) f cdv A outer s H E) (defBody st) t ∧ ∀ (G : Hp) (a dx : Addr), Xc ⟨K, fxM a, G, H, E⟩ t ((.own a (.ins C dx [] []) :: args i) ++ List.replicate (N.length - ps.length) .no) (ObjN a C (post i))) :
    CalK P w K mg base (k + 1) x C ps (spN K C args pre post) := by
  obtain ⟨⟨f, fd, F, M⟩, g⟩ := T
  exact ⟨f, fd, fn_okN F Sc hl hg fun cdv A outer s H E => body f cdv A outer s H E, M, g, F.binds hb⟩
end
section
variable {X : Cx} {k : Nat} {C : Addr} {x m : Str} {ps : List Str} {sp : Sp} {p pos apos : Pos} {o e : Expr} {es : List Expr} {t : TA} {to : TE}
/-- C(..), which may raise what leaves this def too -/
theorem pe_calKX {E : XK} (c : CalK X.prog X.w X.K X.mg X.base k x C ps sp) (hr : Room (k + 1) X.A) (hg : Gl X x) (ha : PA X (e :: es) t) (tk : Takes X (fun cls d _ H => E cls d H)) (hdb : (x == ("__debug__" : Str)) = false := by decide) (he : starEach (e :: es) X.env = (false, eval e X.env) :: starEach es X.env := by rfl)
    (hpl : (backTo pos (starEach es X.env)).any (·.1) = false := by rfl) : PE X (.Call (.Name x p) (e :: es) [] pos) (tMake C sp [] E t) := by
  obtain ⟨f, fd, F, M, g, hb⟩ := c.ex
  exact pe_make M F hr hg g hb .nil (passes_call tk fun _ _ _ _ h => h) ha hdb he hpl
/-- o.m() -/
theorem pe_calM0 {pl : Sem Bool} (c : CalM X.prog X.w X.K X.mg X.base k C m ps sp) (hr : Room k X.A) (ho : PE X o to)
    (ht : eval (.Call (.Attribute o m apos) [] [] pos) X.env = (do
      let ov ← eval o X.env
      standAt apos.atName
      let (f, first) ← holding [ov] (getMethod ov m pl)
      callWith pos f first (backTo pos (starEach [] X.env)) (backToKw pos (keywordEach [] X.env))) := by rfl) : PE X (.Call (.Attribute o m apos) [] [] pos) (tMeth C m sp [] E0 to tNil) := by
  obtain ⟨f, fd, F, cl, M, hb⟩ := c.ex
  exact pe_meth0 ho cl M F hr hb .nil passL ht
end
section
variable {S : Cf} {ρ : Rho} {te : TE} {tr : TA} {C : Addr} {m : Str} {E : XK} {ι : Type} {args : ι → List Sl} {pre : ι → Prop} {fs : Fs}
/-- behind the maker's call -/
theorem after_make {G1 H1 G' H' : Hp} {x dx : Addr} (k1 : Kn S.fx G1 H1) (hx : H1 x = none) (hd : H1 dx = none) (nd : dx ≠ x) (g : GrO (fxM x) G1 (upd (upd H1 dx (.own x)) x (.ins C dx [])) G' H') (kn : Kn fx0 G' H') : Grow S.fx G1 H1 G' H' ∧ Kn S.fx G' H' := by
  have hh : ∀ b o, H1 b = some o → (upd (upd H1 dx (.own x)) x (.ins C dx [])) b = some o ∧ b ≠ x := fun b o hb => by
    have n1 : b ≠ x := ne_of_none hb hx
    have n2 : b ≠ dx := ne_of_none hb hd
    rw [upd_ne n1, upd_ne n2]
    exact ⟨hb, n1⟩
  have keep : ∀ b o, H1 b = some o → H' b = some o := fun b o hb => g.hh b o (fun z => z) (hh b o hb).2 (hh b o hb).1
  have nn : ∀ b o, H1 b = some o → ¬ isTup o → G1 b = none → G' b = none := fun b o hb nt n => g.nn b o (hh b o hb).2 (hh b o hb).1 nt n
  exact ⟨⟨g.gg, kn.gh, fun b o _ hb => keep b o hb, nn⟩, kn.gh, S.fx.ext (fun b o _ hb => keep b o hb) k1.inv, fun b v => by
    obtain ⟨o, ho, nt⟩ := S.fx.there k1.inv v
    exact nn b o ho nt (k1.vn b v)⟩
theorem evx_make {post : ι → ReN → Prop} {Pok : Sl → Prop} {Pex : Addr → D → Prop} {Pa : List Sl → Prop} (ha : EvA S tr ρ Pa) (h : ∀ ss, Pa ss → ∃ i, ss = args i ∧ pre i ∧ (∀ fs g, post i (.ok fs g) → Pok (.ob none C fs)) ∧ (∀ C' d, post i (.ex C' d) → Pex C' d)) :
    EvX S (fun E => tMake C (spN S.K C args pre post) [] E tr) ρ Pok Pex := fun σ G H k e E Q q1 q2 =>
  ha σ G H k e _ fun vs ss G1 H1 g1 k1 pa r x dx hx hd nd => by
    obtain ⟨i, e1, hp, ho, hxx⟩ := h ss pa
    subst e1
    rw [List.append_nil]
    have sm : Same H1 (upd (upd H1 dx (.own x)) x (.ins C dx [])) := (same_new hd).trans (same_new (by rw [upd_ne nd.symm]; exact hx))
    have gx : G1 x = none := k1.freeG hx
    refine ⟨i, G1, x, dx, vs, rfl, hp, (k1.low).same sm, gx, upd_same, r, fun G' H' dx' vf' fs' g gr kn ga' ha' fa' gh po => ?_, fun C' d dd v G' H' gr kn hdd rv po => ?_⟩
    · refine ⟨rfl, ?_⟩
      obtain ⟨g2, k2⟩ := after_make k1 hx hd nd gr kn
      rcases ga' with ga' | ga'
      · obtain ⟨g3, k3⟩ := grow_know k1 g2 k2 hx ga' ha'
        exact q1 _ _ _ H' (g1.trans k1 k3 g3) k3 (ho fs' g po) ⟨x, dx', vf', rfl, upd_same, fa'.mono (same_new ga'), fun _ z => by cases z⟩
      · exact q1 _ _ G' H' (g1.trans k1 k2 g2) k2 (ho fs' g po) ⟨x, dx', vf', rfl, ga', fa', fun _ z => by cases z⟩
    · obtain ⟨g2, k2⟩ := after_make k1 hx hd nd gr kn
      exact q2 C' d dd v G' H' (g1.trans k1 k2 g2) k2 hdd rv (hxx C' d po)
/-- C(..) that gives an object -/
theorem ev_make {post : ι → ReN → Prop} {Pok : Sl → Prop} {Pa : List Sl → Prop} (ha : EvA S tr ρ Pa) (h : ∀ ss, Pa ss → ∃ i, ss = args i ∧ pre i ∧ (∀ fs g, post i (.ok fs g) → Pok (.ob none C fs)) ∧ (∀ C' d, ¬ post i (.ex C' d))) :
    Ev S (tMake C (spN S.K C args pre post) [] E tr) ρ Pok := fun σ G H k e Q q =>
  evx_make (Pex := fun _ _ => False) ha (fun ss ps => by
    obtain ⟨i, a1, a2, a3, a4⟩ := h ss ps
    exact ⟨i, a1, a2, a3, fun C' d po => absurd po (a4 C' d)⟩) σ G H k e E Q (fun v s G' H' g k' p r => q v s G' H' g k' p r) fun _ _ _ _ _ _ _ _ _ _ z => z.elim
/-- o.m(..), o an object that never changes -/
theorem ev_methK {post : ι → Re → Prop} {P : Sl → Prop} {Pa : List Sl → Prop} {oa : Option Addr} (ho : Ev S te ρ (Eq (.ob oa C fs))) (lm : fs.lookup m = none) (ha : EvA S tr ρ Pa) (h : ∀ ss, Pa ss → ∃ i, .ob none C fs :: ss = args i ∧ pre i ∧ (∀ s, post i (.ok s) → P s) ∧ (∀ C d, ¬ post i (.ex C d))) :
    Ev S (tMeth C m (spI S.K fx0 args pre post) [] E te tr) ρ P := fun σ G H k e Q q =>
  ho σ G H k e _ fun v s G1 H1 g1 k1 es r => by
    subst es
    obtain ⟨a, dx, vf, rfl, hg, fa, _⟩ := r
    refine ⟨a, dx, vf, rfl, k1.gh _ _ hg, fa.lookN lm, ha σ G1 H1 k1 (e.grow g1) _ fun vs ss G2 H2 g2 k2 p2 r2 => ?_⟩
    obtain ⟨i, e1, hp, ho, hx⟩ := h ss p2
    rw [List.append_nil]
    refine ⟨i, G2, hp, k2.low, e1 ▸ .cons ⟨a, dx, vf, rfl, g2.gg _ _ hg, fa.mono g2.gg, fun _ z => by cases z⟩ r2, fun v s G3 H3 g3 k3 r3 po => ?_, fun C d dd v G3 H3 _ _ _ _ po => absurd po (hx C d)⟩
    have k3' := k2.lift g3
    exact q v s G3 H3 ((g1.trans k1 k2 g2).trans k2 k3' g3.lift) k3' (ho s po) r3
/-- .. that may write where all may -/
theorem ev_methKF {post : ι → Re → Prop} {P : Sl → Prop} {Pa : List Sl → Prop} {oa : Option Addr} (ho : Ev S te ρ (Eq (.ob oa C fs))) (lm : fs.lookup m = none) (ha : EvA S tr ρ Pa) (h : ∀ ss, Pa ss → ∃ i, .ob none C fs :: ss = args i ∧ pre i ∧ (∀ s, post i (.ok s) → P s) ∧ (∀ C d, ¬ post i (.ex C d))) :
    Ev S (tMeth C m (spI S.K S.fx args pre post) [] E te tr) ρ P := fun σ G H k e Q q =>
  ho σ G H k e _ fun v s G1 H1 g1 k1 es r => by
    subst es
    obtain ⟨a, dx, vf, rfl, hg, fa, _⟩ := r
    refine ⟨a, dx, vf, rfl, k1.gh _ _ hg, fa.lookN lm, ha σ G1 H1 k1 (e.grow g1) _ fun vs ss G2 H2 g2 k2 p2 r2 => ?_⟩
    obtain ⟨i, e1, hp, ho, hx⟩ := h ss p2
    rw [List.append_nil]
    exact ⟨i, G2, hp, k2, e1 ▸ .cons ⟨a, dx, vf, rfl, g2.gg _ _ hg, fa.mono g2.gg, fun _ z => by cases z⟩ r2, fun v s G3 H3 g3 k3 r3 po => q v s G3 H3 ((g1.trans k1 k2 g2).trans k2 k3 g3) k3 (ho s po) r3, fun C d dd v G3 H3 _ _ _ _ po => absurd po (hx C d)⟩
end
end Dl

set_option Elab.async false
set_option linter.all false
set_option maxRecDepth 100000
set_option maxHeartbeats 4000000
/-! Dlh: x in a list or tuple, zip, parts of tuples, truth, repr of data with dicts, dict(d), displays of dicts. -/
namespace Dl
open PySem PySem.Spec PyProof.Rows L2 LamX RZ
/-! ### x in xs -/
def inD (d : D) (ds : List D) : Bool := ds.any fun z => PyData.eqv z d
def rInS (K : PySem.W.Frag) : R2 := fun x y H Q => ∃ (d : D) (ds : List D) (p : Addr) (vs : List V), Dp K H x d ∧ y = .ref p ∧ (SqL K H p vs ∨ SqT K H p vs) ∧ DpAll K H vs ds ∧ SeqAt.shaped d = true ∧ PyData.canLayAll0 ds = true ∧ Q (.bl (inD d ds)) H
def rNotInS (K : PySem.W.Frag) : R2 := fun x y H Q => ∃ (d : D) (ds : List D) (p : Addr) (vs : List V), Dp K H x d ∧ y = .ref p ∧ (SqL K H p vs ∨ SqT K H p vs) ∧ DpAll K H vs ds ∧ SeqAt.shaped d = true ∧ PyData.canLayAll0 ds = true ∧ Q (.bl (!inD d ds)) H
theorem op_inS {X : Cx} (hu : X.A.units + 65 < cLine) : OpR X (compareOp .In) (rInS X.K) := by
  intro pins s σ H x y v u Q I rx ry h
  obtain ⟨d, ds, p, vs, hd, rfl, hq, ha, sd, sl, q⟩ := h
  obtain ⟨as, r1⟩ := Dp.reads I d x v hd rx
  have dd := SeqAt.depth_of_shaped sd
  have hm : X.A.units + 1 + min (PyData.depthAll ds) d.depth < cLine := by
    have : min (PyData.depthAll ds) d.depth ≤ d.depth := Nat.min_le_right _ _
    omega
  rcases hq with hq | hq
  · obtain ⟨bs, r2⟩ := Dp.reads I (.list ds) (.ref p) u (.lst hq ha) ry
    exact SeqAt.in_list_reads r2 r1 sl (SeqAt.canLay_of_shaped sd) hm ⟨.bl _, H, I, rfl, q⟩
  · obtain ⟨bs, r2⟩ := Dp.reads I (.tuple ds) (.ref p) u (.tup hq ha) ry
    exact SeqAt.in_tuple_reads r2 r1 sl (SeqAt.canLay_of_shaped sd) hm ⟨.bl _, H, I, rfl, q⟩
theorem op_notInS {X : Cx} (hu : X.A.units + 65 < cLine) : OpR X (compareOp .NotIn) (rNotInS X.K) := by
  intro pins s σ H x y v u Q I rx ry h
  obtain ⟨d, ds, p, vs, hd, rfl, hq, ha, sd, sl, q⟩ := h
  obtain ⟨as, r1⟩ := Dp.reads I d x v hd rx
  have dd := SeqAt.depth_of_shaped sd
  have hm : X.A.units + 1 + min (PyData.depthAll ds) d.depth < cLine := by
    have : min (PyData.depthAll ds) d.depth ≤ d.depth := Nat.min_le_right _ _
    omega
  rcases hq with hq | hq
  · obtain ⟨bs, r2⟩ := Dp.reads I (.list ds) (.ref p) u (.lst hq ha) ry
    exact SeqAt.notIn_list_reads r2 r1 sl (SeqAt.canLay_of_shaped sd) hm ⟨.bl _, H, I, rfl, q⟩
  · obtain ⟨bs, r2⟩ := Dp.reads I (.tuple ds) (.ref p) u (.tup hq ha) ry
    exact SeqAt.notIn_tuple_reads r2 r1 sl (SeqAt.canLay_of_shaped sd) hm ⟨.bl _, H, I, rfl, q⟩
section
variable {S : Cf} {ρ : Rho} {te ta tb : TE} {P : Oc → Prop} {w : TS} {d : D} {ds es : List D}
theorem ev_inL (ha : Ev S ta ρ (Eq (.dat d))) (hb : EvL S tb ρ ds) (sd : SeqAt.shaped d = true) (sl : PyData.canLayAll0 ds = true) : Ev S (tOp (rInS S.K) ta tb) ρ (Eq (.dat (.bool (inD d ds)))) := fun σ G H k e Q q =>
  ha σ G H k e _ fun v s G1 H1 g1 k1 es rx => hb σ G1 H1 k1 (e.grow g1) _ fun a vs G2 H2 g2 k2 st ra => by
    subst es
    exact ⟨d, ds, a, vs, ((rx.mono g2.gg).mono k2.gh : R S.K H2 v d).dp (PyData.hasDict_of_canLay _ (SeqAt.canLay_of_shaped sd)), rfl, .inl (st _ _ (Grow.refl k2)), (ra.mono k2.gh).dp (PyData.hasDictAll_of_canLayAll _ sl), sd, sl, q _ _ G2 H2 (g1.trans k1 k2 g2) k2 rfl (.bl _)⟩
theorem ev_inU (ha : Ev S ta ρ (Eq (.dat d))) (hb : EvU S tb ρ ds) (sd : SeqAt.shaped d = true) (sl : PyData.canLayAll0 ds = true) : Ev S (tOp (rInS S.K) ta tb) ρ (Eq (.dat (.bool (inD d ds)))) := fun σ G H k e Q q =>
  ha σ G H k e _ fun v s G1 H1 g1 k1 es rx => hb σ G1 H1 k1 (e.grow g1) _ fun a vs G2 H2 g2 k2 st ra => by
    subst es
    exact ⟨d, ds, a, vs, ((rx.mono g2.gg).mono k2.gh : R S.K H2 v d).dp (PyData.hasDict_of_canLay _ (SeqAt.canLay_of_shaped sd)), rfl, .inr (st _ _ (Grow.refl k2)), (ra.mono k2.gh).dp (PyData.hasDictAll_of_canLayAll _ sl), sd, sl, q _ _ G2 H2 (g1.trans k1 k2 g2) k2 rfl (.bl _)⟩
theorem ev_notInL (ha : Ev S ta ρ (Eq (.dat d))) (hb : EvL S tb ρ ds) (sd : SeqAt.shaped d = true) (sl : PyData.canLayAll0 ds = true) : Ev S (tOp (rNotInS S.K) ta tb) ρ (Eq (.dat (.bool (!inD d ds)))) := fun σ G H k e Q q =>
  ha σ G H k e _ fun v s G1 H1 g1 k1 es rx => hb σ G1 H1 k1 (e.grow g1) _ fun a vs G2 H2 g2 k2 st ra => by
    subst es
    exact ⟨d, ds, a, vs, ((rx.mono g2.gg).mono k2.gh : R S.K H2 v d).dp (PyData.hasDict_of_canLay _ (SeqAt.canLay_of_shaped sd)), rfl, .inl (st _ _ (Grow.refl k2)), (ra.mono k2.gh).dp (PyData.hasDictAll_of_canLayAll _ sl), sd, sl, q _ _ G2 H2 (g1.trans k1 k2 g2) k2 rfl (.bl _)⟩
theorem ev_notInU (ha : Ev S ta ρ (Eq (.dat d))) (hb : EvU S tb ρ ds) (sd : SeqAt.shaped d = true) (sl : PyData.canLayAll0 ds = true) : Ev S (tOp (rNotInS S.K) ta tb) ρ (Eq (.dat (.bool (!inD d ds)))) := fun σ G H k e Q q =>
  ha σ G H k e _ fun v s G1 H1 g1 k1 es rx => hb σ G1 H1 k1 (e.grow g1) _ fun a vs G2 H2 g2 k2 st ra => by
    subst es
    exact ⟨d, ds, a, vs, ((rx.mono g2.gg).mono k2.gh : R S.K H2 v d).dp (PyData.hasDict_of_canLay _ (SeqAt.canLay_of_shaped sd)), rfl, .inr (st _ _ (Grow.refl k2)), (ra.mono k2.gh).dp (PyData.hasDictAll_of_canLayAll _ sl), sd, sl, q _ _ G2 H2 (g1.trans k1 k2 g2) k2 rfl (.bl _)⟩
/-! ### zip -/
def zipD : List D → List D → List D
  | a :: as, b :: bs => .tuple [a, b] :: zipD as bs
  | _, _ => []
theorem zipD_length : ∀ as bs : List D, (zipD as bs).length = min as.length bs.length
  | [], _ => by simp [zipD]
  | _ :: _, [] => by simp [zipD]
  | _ :: as, _ :: bs => by
    simp only [zipD, List.length_cons, zipD_length as bs]
    omega
theorem zipD_get : ∀ {as bs : List D} {i : Nat} {d : D}, (zipD as bs)[i]? = some d → ∃ a b, as[i]? = some a ∧ bs[i]? = some b ∧ d = .tuple [a, b]
  | [], _, _, _, h => by simp [zipD] at h
  | _ :: _, [], _, _, h => by simp [zipD] at h
  | a :: _, b :: _, 0, _, h => by
    simp only [zipD, List.getElem?_cons_zero, Option.some.injEq] at h
    exact ⟨a, b, rfl, rfl, h.symm⟩
  | _ :: as, _ :: bs, i + 1, _, h => by
    simp only [zipD, List.getElem?_cons_succ] at h ⊢
    exact zipD_get h
theorem wk_zipT {G : Hp} {a b : Addr} {vs ws : List V} (hs : SqT S.K G a vs) (ra : RA S.K G vs ds) (hs2 : SqT S.K G b ws) (rb : RA S.K G ws es) : Wk S (ItzT S.K a b) G (zipD ds es) := wk_pair (f := fun a b => .tuple [a, b]) fun G2 H2 e k => by
  have h1 : SqT S.K H2 a vs := sameT (e.trans k.gh) hs
  have h2 : SqT S.K H2 b ws := sameT (e.trans k.gh) hs2
  refine ⟨⟨vs, ws, h1, h2, by rw [zipD_length, ra.length, rb.length]; omega⟩, fun i d hd => ?_⟩
  obtain ⟨x, y, hx, hy, ed⟩ := zipD_get hd
  obtain ⟨v, hv, rv⟩ := ra.get hx
  obtain ⟨u, hu, ru⟩ := rb.get hy
  refine ⟨⟨vs, ws, v, u, h1, h2, hv, hu⟩, fun z H3 ⟨T, p, q, e1, e2, e3, e4, e5⟩ => ?_⟩
  have e4 := e4 vs h1
  have e5 := e5 ws h2
  rw [hv] at e4
  rw [hu] at e5
  cases e4
  cases e5
  exact ⟨T, _, _, x, y, e1, e2, e3, rv.mono e, ru.mono e, ed⟩
theorem im_zipU (ha : Ev S ta ρ (Eq (.dat (.tuple ds)))) (hb : Ev S tb ρ (Eq (.dat (.tuple es)))) : Itm S (iZipA S.K (tCons ta (tCons tb tNil))) ρ (Eq (zipD ds es)) := fun σ G H k e Rr f =>
  ha σ G H k e _ fun v s G1 H1 g1 k1 es1 r1 => hb σ G1 H1 k1 (e.grow g1) _ fun u s2 G2 H2 g2 k2 es2 r2 => by
    subst es1 es2
    have r1 := r1.mono g2.gg
    cases r1 with
    | tup hs ra =>
      cases r2 with
      | tup hs2 rb => exact ⟨_, _, _, _, rfl, .inr ⟨sameT k2.gh hs, sameT k2.gh hs2, f _ _ G2 H2 (g1.trans k1 k2 g2) k2 rfl (wk_zipT hs ra hs2 rb)⟩⟩
/-! ### parts of tuples -/
theorem ev_cutA {lo hi : Option Int} {tl th : TO} (h : Ev S te ρ (Eq (.dat (.tuple ds)))) (hl : EvO S tl ρ lo) (hh : EvO S th ρ hi) : Ev S (tSl (rSlA S.K) te tl th) ρ (Eq (.dat (.tuple (cutD ds lo hi)))) := fun σ G H k e Q q =>
  h σ G H k e _ fun v s G1 H1 g1 k1 es r => hl σ G1 H1 k1 (e.grow g1) _ fun G2 H2 g2 k2 => hh σ G2 H2 k2 ((e.grow g1).grow g2) _ fun G3 H3 g3 k3 => by
    subst es
    have r3 := (r.mono g2.gg).mono g3.gg
    have r0 := r3
    have g := (g1.trans k1 k2 g2).trans k2 k3 g3
    cases r3 with
    | @tup a xs _ hs ra =>
      refine ⟨a, xs, rfl, sameT k3.gh hs, fun ⟨w1, w2⟩ => ?_, fun _ p hp => ?_⟩
      · have e1 : cutD ds lo hi = ds := by
          rw [ra.length] at w1 w2
          unfold cutD
          rw [w1, w2, List.drop_zero, Nat.sub_zero, List.take_length]
        rw [e1] at q
        exact q _ _ G3 H3 g k3 rfl r0
      · have g4 := Grow.new k3 (.tup (cutV xs lo hi)) hp
        have k4 := Kn.new k3 (.tup (cutV xs lo hi)) hp
        exact q _ _ _ _ (g.trans k3 k4 g4) k4 rfl (.tup (SqT.of upd_same) ((ra.mono g4.gg).cut lo hi))
/-! ### truth -/
def tTru (K : PySem.W.Frag) (ta : TE) : TT := fun σ H Q => ta σ H fun x H' => ∃ k, TruV K x H' k ∧ Q k H'
theorem et_truU (h : EvU S te ρ ds) : EvT S (tTru S.K te) ρ (Eq (!ds.isEmpty)) := fun σ G H k e Q q => h σ G H k e _ fun a vs G1 H1 g1 k1 st ra => by
  refine ⟨!vs.isEmpty, .inr (.inl ⟨vs, st _ _ (Grow.refl k1), rfl⟩), ?_⟩
  have : vs.isEmpty = ds.isEmpty := by cases ra <;> rfl
  rw [this]
  exact q _ G1 H1 g1 k1 rfl
theorem et_truL (h : EvL S te ρ ds) : EvT S (tTru S.K te) ρ (Eq (!ds.isEmpty)) := fun σ G H k e Q q => h σ G H k e _ fun a vs G1 H1 g1 k1 st ra => by
  refine ⟨!vs.isEmpty, .inl ⟨vs, st _ _ (Grow.refl k1), rfl⟩, ?_⟩
  have : vs.isEmpty = ds.isEmpty := by cases ra <;> rfl
  rw [this]
  exact q _ G1 H1 g1 k1 rfl
end
/-! ### dict(d), displays -/
section
variable {S : Cf} {ρ : Rho} {te ta tb : TE} {ds : List (D × D)}
def rDictD : List V → Hp → VK → Prop := fun xs H Q => ∃ (a : Addr) (kvs : List (Key × V)), xs = [.ref a] ∧ Rd H a (.dK kvs) ∧ ∀ p, H p = none → Q (.ref p) (upd H p (.dK kvs))
theorem eq_dictD (h : EvDc S te ρ true ds) : EvQ S (tCB rDictD (tCons te tNil)) ρ (fun p => moD p true ds) := fun σ G H k e Q q => h σ G H k e _ fun a G1 H1 g1 k1 st => by
  obtain ⟨ks, hr, rk⟩ := st G1 H1 (Grow.refl k1) k1
  exact ⟨a, ks, rfl, hr, fun p hp => q p _ G1 _ (g1.trans k1 (k1.same (same_new hp)) (Grow.same k1 (same_new hp))) (k1.same (same_new hp)) (fresh_of g1 k1 hp) (k1.freeG hp) upd_same rk⟩
/-- {k: v} -/
theorem eq_disp1 {k1 : Key} {d : D} (ha : Ev S ta ρ (Eq (.dat (kD k1)))) (hb : Ev S tb ρ (Eq (.dat d))) : EvQ S (tDisp [(ta, tb)]) ρ (fun p => moD p true [(kD k1, d)]) := fun σ G H k e Q q p hp => by
  have s0 : Same H (upd H p (.dK [])) := same_new hp
  refine ha σ G _ (k.same s0) (e.grow (Grow.same k s0)) _ fun v s G1 H1 g1 kk1 es1 r1 => hb σ G1 H1 kk1 ((e.grow (Grow.same k s0)).grow g1) _ fun u s2 G2 H2 g2 kk2 es2 r2 => ?_
  subst es1 es2
  have np : ¬ S.fx.vol p := k.fresh hp
  have g := g1.trans kk1 kk2 g2
  have hp2 : H2 p = some (.dK []) := g.hh p _ np upd_same
  have gp2 : G2 p = none := g.nn p _ upd_same (fun z => z) (k.freeG hp)
  have ev := kD_R r1
  refine ⟨hp2, [(k1, u)], by rw [ev]; rfl, by simp, ?_⟩
  have kn : Kn S.fx G2 (upd H2 p (.dK [(k1, u)])) := ⟨fun b w hb => by
    have q : b ≠ p := fun q => by rw [q, gp2] at hb; cases hb
    rw [upd_ne q]
    exact kk2.gh b w hb, S.fx.ext (fun b w hb hw => by
    have q : b ≠ p := fun q => by
      rcases hb with hb | hb
      · exact np (q ▸ hb)
      · rw [q, hp2] at hw
        cases hw
        exact hb
    rw [upd_ne q]
    exact hw) kk2.inv, kk2.vn⟩
  have gg : Grow S.fx G H G2 (upd H2 p (.dK [(k1, u)])) := ⟨g.gg, kn.gh, fun b w v hb => by
    have q : b ≠ p := ne_of_none hb hp
    rw [upd_ne q]
    exact g.hh b w v (by rw [upd_ne q]; exact hb), fun b w hb nt n => g.nn b w (by rw [upd_ne (ne_of_none hb hp)]; exact hb) nt n⟩
  exact q p _ G2 _ gg kn hp gp2 upd_same (.cons r2 .nil)
end
/-! ### repr of data with dicts -/
mutual
def noLst : D → Bool
  | .list _ => false
  | .tuple ds => noLsts ds
  | .dict ds => noLstKv ds
  | _ => true
def noLsts : List D → Bool
  | [] => true
  | d :: ds => noLst d && noLsts ds
def noLstKv : List (D × D) → Bool
  | [] => true
  | (k, d) :: ds => noLst d && noLstKv ds
end
section
variable {X : Cx} {pins : List (Addr × Obj)} {σ : L2.St} {H : Hp} {s : Shared}
theorem rk_reads {G : Hp} {P : Program} {w : World} : ∀ {ks : List (Key × V)} {ds : List (D × D)} {us : List (Key × Value)} {es : List DictEntry}, RK X.K G ks ds → KV ks us → PySem.Pairs (mixKind P w) es us →
    ReadsAll s.heap (es.map (·.key)) (ds.map (·.1)) [] ∧ Vals (ks.map Prod.snd) (es.map (·.val))
  | _, _, _, _, .nil, h, p => by
    cases h
    cases p
    exact ⟨.nil, .nil⟩
  | _, _, _, _, .cons (k := k) r rs, h, p => by
    cases h with
    | cons h1 h2 =>
      cases p with
      | @cons en _ _ _ p1 p2 p3 =>
        obtain ⟨q1, q2⟩ := rk_reads rs h2 p3
        obtain ⟨e1, e2⟩ := h1
        simp only [List.map_cons]
        refine ⟨?_, .cons (p2 ▸ e2) q2⟩
        have p1' : keyIs k en.key = true := by
          rw [← e1] at p1
          exact p1
        have hk : Reads s.heap en.key (kD k) [] := by
          rcases keyIs_shape p1' with ⟨i, t, e, ek⟩ | ⟨x, t, e, ek⟩
          · subst e
            rw [ek]
            exact .int i t
          · subst e
            rw [ek]
            exact .str x t
        exact ReadsAll.cons hk q1
mutual
theorem okN_noLst : ∀ d : D, okN d = true → noLst d = true
  | .none, h => by simp [okN] at h
  | .bool _, h => by simp [okN] at h
  | .int _, _ => by simp [noLst]
  | .str _, h => by simp [okN] at h
  | .list _, h => by simp [okN] at h
  | .tuple ds, h => by
    simp only [noLst]
    exact okNs_noLst ds (by simpa [okN] using h)
  | .dict _, h => by simp [okN] at h
theorem okNs_noLst : ∀ ds : List D, okNs ds = true → noLsts ds = true
  | [], _ => by simp [noLsts]
  | d :: ds, h => by
    simp only [okNs, Bool.and_eq_true] at h
    simp only [noLsts, okN_noLst d h.1, okNs_noLst ds h.2, Bool.and_self]
end
mutual
theorem R.reads (I : Inv X pins σ H s) : ∀ (d : D) (v : V) (u : Value), R X.K H v d → noLst d = true → RelV v u → ∃ as, Reads s.heap u d as ∧ sysModules ∉ as
  | .none, _, _, h, _, r => by
    cases h
    cases r
    exact ⟨_, Reads.none, by simp⟩
  | .bool b, _, _, h, _, r => by
    cases h
    cases r
    exact ⟨_, Reads.bool b, by simp⟩
  | .int i, _, _, h, _, r => by
    cases h
    obtain ⟨t, rfl⟩ := r
    exact ⟨_, Reads.int i t, by simp⟩
  | .str x, _, _, h, _, r => by
    cases h
    obtain ⟨t, rfl⟩ := r
    exact ⟨_, Reads.str x t, by simp⟩
  | .list _, _, _, _, n, _ => by simp [noLst] at n
  | .tuple ds, _, _, h, n, r => by
    cases h with
    | tup hs ha =>
      cases r
      obtain ⟨its, rv, ⟨o, ho, hc, m, hd⟩, _⟩ := I.tuple hs
      obtain ⟨as, hr, na⟩ := RA.reads I ds _ its ha (by simpa [noLst] using n) rv
      exact ⟨_, Reads.tuple ho hc hd hr, na⟩
  | .dict ds, _, _, h, n, r => by
    cases h with
    | @dic a ob ks _ hg rk =>
      cases r
      obtain ⟨hd, z, hs, vs, kv, o, es, ep, ho, hx, hdt, hk, hp, _⟩ := (show ObjOk X.prog X.w H s.heap a (.frz ob (.dK ks)) from I.hok a _ hg)
      obtain ⟨q1, q2⟩ := rk_reads (s := s) rk kv hp
      obtain ⟨bs, q3, q4⟩ := RK.readsV I ds ks _ rk (by simpa [noLst] using n) q2
      refine ⟨_, Reads.dict ho hx.1 hdt q1 q3, ?_⟩
      have : sysModules ≠ a := fun e => by
        rw [e] at hs
        simp at hs
      simp [this, q4]
    | @dicN a ob xs _ hg ne rn =>
      cases r
      obtain ⟨hd, ⟨z, hs, o, es, ep, ho, hx, hdt, he, _⟩, _⟩ := (show ObjOk X.prog X.w H s.heap a (.frz ob (DX a xs)) from I.hok a _ hg)
      have e1 : es.toList.map (·.key) = xs.map fun x => Value.ref x.2.1 := by
        rw [he X.w, List.map_map]
        rfl
      have e2 : es.toList.map (·.val) = xs.map fun x => x.2.2 := by
        rw [he X.w, List.map_map]
        rfl
      obtain ⟨as, bs, q1, q2, n1, n2⟩ := RN.reads I ds xs rn (by simpa [noLst] using n)
      refine ⟨_, Reads.dict ho hx.1 hdt (by rw [e1]; exact q1) (by rw [e2]; exact q2), ?_⟩
      have : sysModules ≠ a := fun e => by
        rw [e] at hs
        simp at hs
      simp [this, n1, n2]
theorem RN.reads (I : Inv X pins σ H s) : ∀ (ds : List (D × D)) (xs : List (NestedKey × Addr × Value)), RN X.K H xs ds → noLstKv ds = true → ∃ as bs, ReadsAll s.heap (xs.map fun x => Value.ref x.2.1) (ds.map (·.1)) as ∧ ReadsAll s.heap (xs.map fun x => x.2.2) (ds.map (·.2)) bs ∧ sysModules ∉ as ∧ sysModules ∉ bs
  | [], _, h, _ => by
    cases h
    exact ⟨_, _, ReadsAll.nil, ReadsAll.nil, by simp, by simp⟩
  | (k, d) :: ds, _, h, n => by
    cases h with
    | cons h1 h2 h3 h4 h5 h6 =>
      simp only [noLstKv, Bool.and_eq_true] at n
      obtain ⟨as, bs, q1, q2, n1, n2⟩ := RN.reads I ds _ h6 n.2
      obtain ⟨as1, q3, n3⟩ := R.reads I k _ _ h3 (okN_noLst k (okT_okN h1)) rfl
      obtain ⟨as2, q4, n4⟩ := R.reads I d _ _ h5 n.1 h4
      exact ⟨_, _, ReadsAll.cons q3 q1, ReadsAll.cons q4 q2, by simp [n1, n3], by simp [n2, n4]⟩
theorem RA.reads (I : Inv X pins σ H s) : ∀ (ds : List D) (vs : List V) (us : List Value), RA X.K H vs ds → noLsts ds = true → Vals vs us → ∃ as, ReadsAll s.heap us ds as ∧ sysModules ∉ as
  | [], _, _, h, _, r => by
    cases h
    cases r
    exact ⟨_, ReadsAll.nil, by simp⟩
  | d :: ds, _, _, h, n, r => by
    cases h with
    | cons h1 h2 =>
      cases r with
      | cons r1 r2 =>
        simp only [noLsts, Bool.and_eq_true] at n
        obtain ⟨as, q1, n1⟩ := R.reads I d _ _ h1 n.1 r1
        obtain ⟨bs, q2, n2⟩ := RA.reads I ds _ _ h2 n.2 r2
        exact ⟨_, ReadsAll.cons q1 q2, by simp [n1, n2]⟩
theorem RK.readsV (I : Inv X pins σ H s) : ∀ (ds : List (D × D)) (ks : List (Key × V)) (us : List Value), RK X.K H ks ds → noLstKv ds = true → Vals (ks.map Prod.snd) us → ∃ as, ReadsAll s.heap us (ds.map (·.2)) as ∧ sysModules ∉ as
  | [], _, _, h, _, r => by
    cases h
    cases r
    exact ⟨_, ReadsAll.nil, by simp⟩
  | (k, d) :: ds, _, _, h, n, r => by
    cases h with
    | cons h1 h2 =>
      cases r with
      | cons r1 r2 =>
        simp only [noLstKv, Bool.and_eq_true] at n
        obtain ⟨as, q1, n1⟩ := R.reads I d _ _ h1 n.1 r1
        obtain ⟨bs, q2, n2⟩ := RK.readsV I ds _ _ h2 n.2 r2
        exact ⟨_, ReadsAll.cons q1 q2, by simp [n1, n2]⟩
end
def rReprX (K : PySem.W.Frag) : List V → Hp → VK → Prop := fun xs H Q => ∃ (x : V) (d : D), xs = [x] ∧ R K H x d ∧ isDisp d = true ∧ (d.hasDict = false ∨ noLst d = true) ∧ d.showable = true ∧ d.shown.length ≤ sizeLine ∧ d.depth ≤ 20 ∧ Q (.str d.shown) H
theorem cr_reprX (hg : X.A.guards = some []) (hu : X.A.units + 64 < cLine) : CallR X (.builtin "repr") (rReprX X.K) := by
  intro pins s σ H xs us Q I r h
  obtain ⟨x, d, rfl, rx, dd, nd, sh, sz, dp, q⟩ := h
  obtain ⟨u, rfl, ru⟩ := vals1 r
  obtain ⟨as, rd, hsm⟩ : ∃ as, Reads s.heap u d as ∧ (d.hasDict = true → sysModules ∉ as) := by
    rcases nd with nd | nd
    · obtain ⟨as, rd⟩ := Dp.reads I d x u (rx.dp nd) ru
      exact ⟨as, rd, PyData.noDict_hsm nd⟩
    · obtain ⟨as, rd, n⟩ := R.reads I d x u rx nd ru
      exact ⟨as, rd, fun _ => n⟩
  obtain ⟨a, rfl⟩ : ∃ a, u = Value.ref a := by
    cases rx with
    | lst _ _ => exact ⟨_, ru⟩
    | tup _ _ => exact ⟨_, ru⟩
    | _ => simp [isDisp] at dd
  exact repr_of_reads' rd sh hsm hg (by omega) (fun _ _ e => e) (fun h' u tk hk => ⟨.str d.shown, H, I.kept hk, ⟨u, rfl⟩, q⟩) sz
end
theorem ev_reprX {S : Cf} {ρ : Rho} {te : TE} {d : D} (h : Ev S te ρ (Eq (.dat d))) (dd : isDisp d = true) (nd : d.hasDict = false ∨ noLst d = true) (sh : d.showable = true) (sz : d.shown.length ≤ sizeLine) (dp : d.depth ≤ 20) : Ev S (tCB (rReprX S.K) (tCons te tNil)) ρ (Eq (.dat (.str d.shown))) := fun σ G H k e Q q =>
  h σ G H k e _ fun v s G1 H1 g1 k1 es r => by
    subst es
    exact ⟨v, d, rfl, r.mono k1.gh, dd, nd, sh, sz, dp, q _ _ G1 H1 g1 k1 rfl (.str _)⟩
end Dl

set_option Elab.async false
set_option linter.all false
set_option maxRecDepth 100000
set_option maxHeartbeats 4000000
/-! Dli: what is a list or a tuple (b tells which); rows refused at their first wrong one; methods with a promise for each z. -/
namespace Dl
open PySem PySem.Spec PyProof.Rows L2 LamX RZ
def seqD : Bool → List D → D
  | true, ds => .list ds
  | false, ds => .tuple ds
section
variable {X : Cx} {K : PySem.W.Frag} {tg it : Expr} {w1 w2 : TI}
theorem pi_alt (h1 : PI X tg it w1) (h2 : PI X tg it w2) : PI X tg it (fun σ H R => w1 σ H R ∨ w2 σ H R) := ⟨fun pins s σ H R I h => h.elim (h1.run pins s σ H R I) (h2.run pins s σ H R I)⟩
def iEnumA (K : PySem.W.Frag) (ta : TA) : TI := fun σ H R => iEnum K ta σ H R ∨ iEnumT K ta σ H R
theorem pi_enumA {e : Expr} {ta : TA} {p pos tpos : Pos} {elts : List Expr} {kk : Nat} (hg : Gl X "enumerate") (hm : X.mg "enumerate" = none) (ha : PA X [e] ta) (hs : starEach [e] X.env = [(false, eval e X.env)] := by rfl) :
    PI X (.Tuple elts kk tpos) (.Call (.Name "enumerate" p) [e] [] pos) (iEnumA X.K ta) := pi_alt (pi_enum hg hm ha hs) (pi_enumT hg hm ha hs)
def iSeqA (K : PySem.W.Frag) (te : TE) : TI := fun σ H R => iList K te σ H R ∨ iTup K te σ H R
theorem pi_seqA {l : Expr} {tl : TE} (hl : PE X l tl) : PI X tg l (iSeqA X.K tl) := pi_alt (pi_list hl) (pi_tup hl)
theorem pi_seqA' {l : Expr} {tl : TE} (hK : X.K = K) (hl : PE X l tl) : PI X tg l (iSeqA K tl) := by
  subst hK
  exact pi_seqA hl
def rIxA (K : PySem.W.Frag) : R2 := fun x y H Q => rIxL K x y H Q ∨ rIxT K x y H Q
theorem ix_seqA (hK : X.K = K) : IxR X (rIxA K) := by
  subst hK
  intro value slice pins s σ H x y v u Q I rx ry h hs
  exact h.elim (fun h => ix_list value slice pins s σ H x y v u Q I rx ry h hs) fun h => ix_tup value slice pins s σ H x y v u Q I rx ry h hs
end
section
variable {S : Cf} {ρ : Rho} {te tb : TE} {b : Bool} {ds : List D}
theorem im_enumA (h : Ev S te ρ (Eq (.dat (seqD b ds)))) : Itm S (iEnumA S.K (tCons te tNil)) ρ (Eq (enumD 0 ds)) := fun σ G H k e Rr f => by
  cases b with
  | true => exact .inl (im_enumL (ds := ds) h σ G H k e Rr f)
  | false => exact .inr (im_enumT (ds := ds) h σ G H k e Rr f)
theorem im_seqA (h : Ev S te ρ (Eq (.dat (seqD b ds)))) : Itm S (iSeqA S.K te) ρ (Eq ds) := fun σ G H k e Rr f => by
  cases b with
  | true => exact .inl (im_listE (ds := ds) h σ G H k e Rr f)
  | false => exact .inr (im_tupE (ds := ds) h σ G H k e Rr f)
theorem ev_ixA {i : Int} {d : D} (h : Ev S te ρ (Eq (.dat (seqD b ds)))) (hb : Ev S tb ρ (Eq (.dat (.int i)))) (hd : atI ds i = some d) : Ev S (tOp (rIxA S.K) te tb) ρ (Eq (.dat d)) := fun σ G H k e Q q => by
  cases b with
  | true =>
    exact h σ G H k e _ fun v s G1 H1 g1 k1 es r => hb σ G1 H1 k1 (e.grow g1) _ fun u s2 G2 H2 g2 k2 es2 r2 => by
      subst es es2
      have r' := r.mono g2.gg
      cases r' with
      | lst hs ra =>
        cases r2
        obtain ⟨w, hw, rw'⟩ := ra.at hd
        exact .inl ⟨_, _, i, w, rfl, rfl, k2.gh.seq hs, hw, q w _ G2 H2 (g1.trans k1 k2 g2) k2 rfl rw'⟩
  | false =>
    exact h σ G H k e _ fun v s G1 H1 g1 k1 es r => hb σ G1 H1 k1 (e.grow g1) _ fun u s2 G2 H2 g2 k2 es2 r2 => by
      subst es es2
      have r' := r.mono g2.gg
      cases r' with
      | tup hs ra =>
        cases r2
        obtain ⟨w, hw, rw'⟩ := ra.at hd
        exact .inr ⟨_, _, i, w, rfl, rfl, sameT k2.gh hs, hw, q w _ G2 H2 (g1.trans k1 k2 g2) k2 rfl rw'⟩
theorem ev_lenA (h : Ev S te ρ (Eq (.dat (seqD b ds)))) : Ev S (tCB (fun xs H Q => ∃ p ys, xs = [.ref p] ∧ (SqL S.K H p ys ∨ SqT S.K H p ys) ∧ Q (.int ys.length) H) (tCons te tNil)) ρ (Eq (.dat (.int (ds.length : Nat)))) := by
  cases b with
  | true => exact ev_lenL (el_of h)
  | false => exact ev_lenU (eu_of h)
theorem at_nat {ds : List D} {i : Nat} {d : D} (h : ds[i]? = some d) : atI ds (i : Int) = some d := by
  have hl := (List.getElem?_eq_some_iff.mp h).1
  unfold atI ixN
  rw [if_pos (by omega), if_pos (by omega), Int.toNat_natCast]
  exact h
end
/-! ### rows of data -/
def rows : D → Option (Bool × List D)
  | .list ds => some (true, ds)
  | .tuple ds => some (false, ds)
  | _ => none
theorem rows_seq {d : D} {b : Bool} {ds : List D} (h : rows d = some (b, ds)) : d = seqD b ds := by
  cases d <;> simp only [rows, Option.some.injEq, Prod.mk.injEq] at h
  all_goals first | (obtain ⟨rfl, rfl⟩ := h; rfl) | cases h
theorem rows_of (b : Bool) (ds : List D) : rows (seqD b ds) = some (b, ds) := by cases b <;> rfl
/-- the first that is not as p says -/
def fbG (p : D → Bool) : Nat → List D → Option Nat
  | _, [] => none
  | k, d :: ds => if p d then fbG p (k + 1) ds else some k
theorem fbG_at {p : D → Bool} : ∀ (ds : List D) (k i : Nat) (d : D), (∀ x ∈ ds.take i, p x = true) → ds[i]? = some d → p d = false → fbG p k ds = some (k + i)
  | [], k, i, d, _, h, _ => by simp at h
  | x :: ds, k, 0, d, _, h, hd => by
    simp only [List.getElem?_cons_zero, Option.some.injEq] at h
    subst h
    unfold fbG
    rw [hd]
    rfl
  | x :: ds, k, i + 1, d, ha, h, hd => by
    have hx : p x = true := ha x (by simp)
    unfold fbG
    rw [hx, if_pos rfl, fbG_at ds (k + 1) i d (fun y hy => ha y (by simp [hy])) (by simpa using h) hd]
    congr 1
    omega
theorem fbG_none {p : D → Bool} : ∀ (ds : List D) (k : Nat), (∀ x ∈ ds, p x = true) → fbG p k ds = none
  | [], _, _ => rfl
  | x :: ds, k, h => by
    unfold fbG
    rw [h x List.mem_cons_self, if_pos rfl, fbG_none ds (k + 1) fun y hy => h y (List.mem_cons_of_mem _ hy)]
theorem fbG_all {p : D → Bool} : ∀ (ds : List D) (k : Nat), fbG p k ds = none → ∀ x ∈ ds, p x = true
  | [], _, _, x, hx => by cases hx
  | y :: ds, k, h, x, hx => by
    unfold fbG at h
    cases hy : p y with
    | false =>
      rw [hy] at h
      cases h
    | true =>
      rw [hy, if_pos rfl] at h
      rcases List.mem_cons.mp hx with q | q
      · rw [q]
        exact hy
      · exact fbG_all ds (k + 1) h x q
/-! ### methods with a promise for each z -/
section
variable {P : Program} {w : World} {K : PySem.W.Frag} {mg : Str → Option Value} {base : Heap}
theorem mk_calMZ {Z ι : Type} {C : Addr} {args : Z → ι → List Sl} {pre : Z → ι → Prop} {post : Z → ι → Re → Prop} {fx : Z → Fx} {m qual : Str} {st : Stmt} {N ps : List Str} {k : Nat} (T : DefM K C m qual st) (Sc : FnScope N ps (defScope st)) (hl : ∀ z i, (args z i).length = ps.length)
    (hb : ∀ (kV doc pm : Value) (an : Option Addr) (cdv ct : Value) (us : List Value), us.length = ps.length → bindArgs (PySem.W.fnOf m qual (defArgs st) (defBody st) (defScope st) .none kV doc pm an cdv ct) ⟨us, []⟩ = pure (ps.zip us))
    (body : ∀ (z : Z) (f : Addr) (cdv : Value) (A : Around) (outer : List PySem.Env) (s : Shared) (H : Hp) (E : XK), Room k (A.deeper (envOfC qual (defScope st) s.heap.objs.size f cdv)) → ∀ (i : ι), pre z i →
      ∃ t, PSs (cxOf (L2.CX P w) P w K mg base N qual (defScope st) f cdv A outer s H E) (defBody st) t ∧ ∀ G : Hp, Xc ⟨K, fx z, G, H, E⟩ t (args z i ++ List.replicate (N.length - ps.length) .no) (RetP (post z i)))
    (hm : ∀ z a, ¬ (fx z).mine a := by exact fun _ _ h => h) : CalM P w K mg base (k + 1) C m ps (spZ fun z => spI K (fx z) (args z) (pre z) (post z)) := by
  obtain ⟨⟨f, fd, F, M⟩, c⟩ := T
  have h := fun z => fn_ok (base := base) (k := k) F Sc (fun i _ => hl z i) (fun cdv A outer s H E => body z f cdv A outer s H E) (hm z)
  exact ⟨f, fd, ⟨fun vs H Q E ⟨z, q⟩ => (h z).len vs H Q E q, fun A outer s H args us vs Q E hr he hbd hv ⟨z, q⟩ => (h z).run A outer s H args us vs Q E hr he hbd hv q⟩, c, M, F.binds hb⟩
theorem mk_calMI {ι : Type} {C : Addr} {args : ι → List Sl} {pre : ι → Prop} {post : ι → Re → Prop} {fx : Fx} {m qual : Str} {st : Stmt} {N ps : List Str} {k : Nat} (T : DefM K C m qual st) (Sc : FnScope N ps (defScope st)) (hl : ∀ i, (args i).length = ps.length)
    (hb : ∀ (kV doc pm : Value) (an : Option Addr) (cdv ct : Value) (us : List Value), us.length = ps.length → bindArgs (PySem.W.fnOf m qual (defArgs st) (defBody st) (defScope st) .none kV doc pm an cdv ct) ⟨us, []⟩ = pure (ps.zip us))
    (body : ∀ (f : Addr) (cdv : Value) (A : Around) (outer : List PySem.Env) (s : Shared) (H : Hp) (E : XK), Room k (A.deeper (envOfC qual (defScope st) s.heap.objs.size f cdv)) → ∀ (i : ι), pre i →
      ∃ t, PSs (cxOf (L2.CX P w) P w K mg base N qual (defScope st) f cdv A outer s H E) (defBody st) t ∧ ∀ G : Hp, Xc ⟨K, fx, G, H, E⟩ t (args i ++ List.replicate (N.length - ps.length) .no) (RetP (post i)))
    (hm : ∀ a, ¬ fx.mine a := by exact fun _ h => h) : CalM P w K mg base (k + 1) C m ps (spI K fx args pre post) := by
  obtain ⟨⟨f, fd, F, M⟩, c⟩ := T
  exact ⟨f, fd, fn_ok F Sc (fun i _ => hl i) (fun cdv A outer s H E => body f cdv A outer s H E) hm, c, M, F.binds hb⟩
theorem CalM.mono {j k : Nat} {C : Addr} {m : Str} {ps : List Str} {sp : Sp} (c : CalM P w K mg base j C m ps sp) (h : j ≤ k) : CalM P w K mg base k C m ps sp := by
  obtain ⟨f, fd, F, r⟩ := c.ex
  exact ⟨f, fd, F.mono h, r⟩
end
section
variable {K : PySem.W.Frag} {G0 B : Hp} {E : XK} {ρ : Rho} {te : TE} {tr : TA} {C : Addr} {m : Str} {Z ι : Type} {fx : Z → Fx} {args : Z → ι → List Sl} {pre : Z → ι → Prop} {post : Z → ι → Re → Prop} {fs : Fs}
/-- o.m(..), o an object that never changes; what may change is y's -/
theorem ev_methZ (y : Z) {P : Sl → Prop} {Pa : List Sl → Prop} {E' : XK} {oa : Option Addr} (ho : Ev ⟨K, fx y, G0, B, E⟩ te ρ (Eq (.ob oa C fs))) (lm : fs.lookup m = none) (ha : EvA ⟨K, fx y, G0, B, E⟩ tr ρ Pa) (h : ∀ ss, Pa ss → ∃ i, .ob none C fs :: ss = args y i ∧ pre y i ∧ (∀ s, post y i (.ok s) → P s) ∧ (∀ C d, ¬ post y i (.ex C d))) :
    Ev ⟨K, fx y, G0, B, E⟩ (tMeth C m (spZ fun z => spI K (fx z) (args z) (pre z) (post z)) [] E' te tr) ρ P := fun σ G H k e Q q =>
  ho σ G H k e _ fun v s G1 H1 g1 k1 es r => by
    subst es
    obtain ⟨a, dx, vf, rfl, hg, fa, _⟩ := r
    refine ⟨a, dx, vf, rfl, k1.gh _ _ hg, fa.lookN lm, ha σ G1 H1 k1 (e.grow g1) _ fun vs ss G2 H2 g2 k2 p2 r2 => ?_⟩
    obtain ⟨i, e1, hp, ho, hx⟩ := h ss p2
    rw [List.append_nil]
    exact ⟨y, i, G2, hp, k2, e1 ▸ .cons ⟨a, dx, vf, rfl, g2.gg _ _ hg, fa.mono g2.gg, fun _ z => by cases z⟩ r2, fun v s G3 H3 g3 k3 r3 po => q v s G3 H3 ((g1.trans k1 k2 g2).trans k2 k3 g3) k3 (ho s po) r3, fun C d dd v G3 H3 _ _ _ _ po => absurd po (hx C d)⟩
end
end Dl

set_option Elab.async false
set_option linter.all false
set_option maxRecDepth 100000
set_option maxHeartbeats 4000000
/-! Dlj: what a law draws: values of which something alone is known. -/
namespace Dl
open PySem PySem.Spec PyProof.Rows L2 LamX RZ
/-- [e for k in ..], not told -/
theorem ef_many {α : Type} {dα : α → D} {S : Cf} {ρ : Rho} {wi : TI} {te : TE} {g : TG} {vs : List Nat} {good : α → Prop} {N : Nat → Prop} (hN : ∀ n, N n → n ≤ 1000) (hi : Itm S wi ρ (fun ds => N ds.length)) (hs : ∀ d, ∃ js ρ2, (∀ j ∈ js, j ∈ vs) ∧ Tgt S g js d (wipeR ρ vs) ρ2 ∧ Ev S te ρ2 (fun s => ∃ p, s = .dat (dα p) ∧ good p)) :
    EvF S (tLc wi g tYes te vs) ρ (fun ds => ∃ ps : List α, ds = ps.map dα ∧ N ps.length ∧ ∀ p ∈ ps, good p) := by
  refine ef_lc hi (fun ds i acc => ∃ ps : List α, acc = ps.map dα ∧ ps.length = i ∧ ∀ p ∈ ps, good p) (fun ds h => ⟨by have := hN _ h; omega, [], rfl, rfl, fun p hp => by cases hp⟩) (fun ds i d acc h hd al hI => ?_) fun ds acc h al ⟨ps, e, hl, hg⟩ => ⟨ps, e, by rw [hl]; exact h, hg⟩
  obtain ⟨ps, rfl, hl, hg⟩ := hI
  obtain ⟨js, ρ2, h1, h2, h3⟩ := hs d
  refine ⟨js, ρ2, h1, h2, fun σ G H k e Q q => q true G H (Grow.refl k) k ?_⟩
  show if true = true then _ else _
  rw [if_pos rfl]
  refine h3.imp fun s ⟨p, es, hp⟩ => ⟨dα p, es, ps ++ [p], by rw [List.map_append]; rfl, by simp [hl], fun r hr => ?_⟩
  rcases List.mem_append.mp hr with h | h
  · exact hg r h
  · rw [List.mem_singleton.mp h]
    exact hp
/-- [x for x in xs if ..], not told which -/
theorem ef_some {α : Type} {dα : α → D} {l : List α} {S : Cf} {ρ : Rho} {wi : TI} {te : TE} {tt : TT} {g : TG} {vs : List Nat} (hi : Itm S wi ρ (Eq (l.map dα))) (hl : l.length ≤ 1000000)
    (hs : ∀ x, x ∈ l → ∃ js ρ2, (∀ j ∈ js, j ∈ vs) ∧ Tgt S g js (dα x) (wipeR ρ vs) ρ2 ∧ EvT S tt ρ2 (fun _ => True) ∧ Ev S te ρ2 (Eq (.dat (dα x)))) : EvF S (tLc wi g tt te vs) ρ (fun ds => ∃ p : List α, ds = p.map dα ∧ p.Sublist l) := by
  refine ef_lc hi (fun _ i acc => ∃ p : List α, acc = p.map dα ∧ p.Sublist (l.take i)) (fun ds' e => e ▸ ⟨by rw [List.length_map]; exact hl, [], rfl, List.nil_sublist _⟩) (fun ds' i d acc e hd al hI => ?_) fun ds' acc e al hI => ?_
  · subst e
    rw [List.getElem?_map] at hd
    obtain ⟨x, hx, rfl⟩ := Option.map_eq_some_iff.mp hd
    obtain ⟨p, rfl, hp⟩ := hI
    obtain ⟨js, ρ2, h1, h2, h3, h4⟩ := hs x (List.mem_of_getElem? hx)
    have et : l.take (i + 1) = l.take i ++ [x] := by
      rw [List.take_add_one, hx]
      rfl
    refine ⟨js, ρ2, h1, h2, h3.imp fun b _ => ?_⟩
    cases b with
    | true =>
      rw [if_pos rfl]
      refine h4.imp fun s es => ⟨dα x, es.symm, p ++ [x], by rw [List.map_append]; rfl, ?_⟩
      rw [et]
      exact List.Sublist.append hp (List.Sublist.refl _)
    | false =>
      rw [if_neg (by decide)]
      exact ⟨p, rfl, by rw [et]; exact hp.trans (List.sublist_append_left _ _)⟩
  · subst e
    obtain ⟨p, e, hp⟩ := hI
    refine ⟨p, e, ?_⟩
    rw [List.length_map, List.take_length] at hp
    exact hp
section
variable {S : Cf} {ρ : Rho} {te ta tb tc : TE} {P : Oc → Prop} {w : TS}
/-- tuple(xs), xs not told -/
theorem ev_tupLP {p : List D → Prop} (ha : Ev S ta ρ (fun s => ∃ ds, s = .dat (.list ds) ∧ p ds)) : Ev S (tCB (fun xs H Q => ∃ p ys, xs = [.ref p] ∧ ((SqL S.K H p ys ∧ ∀ l, H l = none → Q (.ref l) (upd H l (.tup ys))) ∨ (SqT S.K H p ys ∧ Q (.ref p) H))) (tCons ta tNil)) ρ (fun s => ∃ ds, s = .dat (.tuple ds) ∧ p ds) := fun σ G H k e Q q =>
  ha σ G H k e _ fun v s G1 H1 g1 k1 ⟨ds, es, pd⟩ r => by
    subst es
    cases r with
    | @lst a vs _ hs ra =>
      refine ⟨a, vs, rfl, .inl ⟨k1.gh.seq hs, fun l hl => ?_⟩⟩
      have g2 := Grow.new k1 (.tup vs) hl
      have k2 := Kn.new k1 (.tup vs) hl
      exact q _ _ _ _ (g1.trans k1 k2 g2) k2 ⟨ds, rfl, pd⟩ (.tup (SqT.of upd_same) (ra.mono g2.gg))
/-- bools compared by ==, not told -/
abbrev EvB (S : Cf) (te : TE) (ρ : Rho) : Prop := Ev S te ρ (fun s => ∃ b, s = .dat (.bool b) ∧ True)
theorem ev_eqBP (ha : EvB S ta ρ) (hb : EvB S tb ρ) : EvB S (tOp (rEqD S.K) ta tb) ρ :=
  ev_op ha hb fun x y ⟨i, ex, _⟩ ⟨j, ey, _⟩ => by
    subst ex ey
    intro G H v w k rx ry Q qq
    exact (opd_here (z := .bl (PyData.eqv (.bool i) (.bool j))) (s := .dat (.bool (PyData.eqv (.bool i) (.bool j)))) fun G H v w k rx ry => ⟨.bl _, fun Q q => ⟨.bool i, .bool j, (R.mono k.gh rx).dp rfl, (R.mono k.gh ry).dp rfl, rfl, rfl, q⟩⟩) G H v w k rx ry Q fun z s G' H' g k' e r => qq z s G' H' g k' ⟨_, e.symm, trivial⟩ r
theorem Ev.toB {b : Bool} (h : Ev S te ρ (Eq (.dat (.bool b)))) : EvB S te ρ := h.imp fun s e => ⟨b, e.symm, trivial⟩
theorem cb_max2 {i j : Int} : CbD S (fun xs H Q => ∃ i j, xs = [.int i, .int j] ∧ Q (.int (if j > i then j else i)) H) [.dat (.int i), .dat (.int j)] (Eq (.dat (.int (max i j)))) := fun G H vs k r Q q => by
  cases r with
  | cons r1 r =>
    cases r with
    | cons r2 r =>
      cases r
      cases r1
      cases r2
      refine ⟨i, j, rfl, ?_⟩
      have e : (if j > i then j else i) = max i j := by
        rw [Int.max_def]
        split <;> split <;> omega
      rw [e]
      exact q _ _ G H (Grow.refl k) k rfl (.int _)
theorem ev_lst1P {p : D → Prop} (h : Ev S te ρ (fun s => ∃ d, s = .dat d ∧ p d)) : Ev S (tLst (tCons te tNil)) ρ (fun s => ∃ x, s = .dat (.list [x]) ∧ p x) := fun σ G H k e Q q =>
  h σ G H k e _ fun v s G1 H1 g1 k1 ⟨d, es, pd⟩ r1 => by
    subst es
    refine ⟨sz_ok (by show 1 ≤ 1000000; omega), fun l hl => ?_⟩
    have g2 := Grow.new k1 (.lst [v]) hl
    have k2 := Kn.new k1 (.lst [v]) hl
    exact q _ _ _ _ (g1.trans k1 k2 g2) k2 ⟨d, rfl, pd⟩ (.lst (SqL.of upd_same) (.cons (R.mono g2.gg r1) .nil))
theorem ev_cat1P {ds : List D} {p : D → Prop} (ha : EvL S ta ρ ds) (hb : Ev S tb ρ (fun s => ∃ x, s = .dat (.list [x]) ∧ p x)) (hl : ds.length + 1 ≤ 1000000) : Ev S (tOp (rCatL S.K) ta tb) ρ (fun s => ∃ x, s = .dat (.list (ds ++ [x])) ∧ p x) := fun σ G H k e Q q =>
  ha σ G H k e _ fun a vs G1 H1 g1 k1 st1 ra1 => hb σ G1 H1 k1 (e.grow g1) _ fun w s G2 H2 g2 k2 ⟨x, es, px⟩ r2 => by
    subst es
    cases r2 with
    | @lst b ws _ hs2 ra2 =>
      refine ⟨a, b, vs, ws, rfl, rfl, st1 G2 H2 g2, k2.gh.seq hs2, sz_ok (by rw [ra1.length, ra2.length]; exact hl), fun l hp => ?_⟩
      have g3 := Grow.new k2 (.lst (vs ++ ws)) hp
      have k3 := Kn.new k2 (.lst (vs ++ ws)) hp
      exact q _ _ _ _ ((g1.trans k1 k2 g2).trans k2 k3 g3) k3 ⟨x, rfl, px⟩ (.lst (SqL.of upd_same) ((ra1.mono (g2.gg.trans g3.gg)).append (ra2.mono g3.gg)))
theorem evx_callLP {Pok : Sl → Prop} {Pex : Addr → D → Prop} {ι : Type} {args : ι → List Sl} {pre : ι → Prop} {post : ι → Re → Prop} {ta : TA} {j : Nat} {f : Addr} {Pa : List Sl → Prop} (hj : ρ[j]? = some (.raw (.ref f))) (ha : EvA S ta ρ Pa) (h : ∀ ss, Pa ss → ∃ i, ss = args i ∧ pre i ∧ (∀ s, post i (.ok s) → Pok s) ∧ (∀ C d, post i (.ex C d) → Pex C d)) :
    EvX S (fun E => tCallL j f (spI S.K fx0 args pre post) [] E ta) ρ Pok Pex := fun σ G H k e E Q q1 q2 => by
  obtain ⟨v, h1, e'⟩ := e.get hj
  have e2 : v = .ref f := Option.some.inj e'
  subst e2
  exact ⟨h1, evx_callP ha h σ G H k e E Q q1 q2⟩
theorem xs_asgTP {g : TG} {p : D → Prop} (h : Ev S te ρ (fun s => ∃ d, s = .dat d ∧ p d)) (k : ∀ d, p d → ∃ js ρ1, Tgt S g js d ρ ρ1 ∧ Xc S w ρ1 P) : Xc S (tSeq (tAsg te g) w) ρ P := xc_seq fun σ G H De o e f =>
  h σ G H o.kn e _ fun v s G' H' g' k' ⟨d, es, pd⟩ r => by
    subst es
    obtain ⟨js, ρ1, ht, kx⟩ := k d pd
    exact ht σ G' H' v k' (e.grow g') r _ fun σ' _ e' => f.nx σ' G' H' ρ1 (o.grow g' k') g'.gg e' kx
/-- d[k] = e, e not told -/
theorem xc_xputP {i : Nat} {a : Addr} {f : Bool} {ds : List (D × D)} {dk : D} {p : D → Prop} (h : ρ[i]? = some (.own a (moD a f ds))) (hv : Ev S tc ρ (fun s => ∃ d, s = .dat d ∧ p d)) (hk : Ev S ta ρ (Eq (.dat dk))) (kd : KeyD f dk) (hl : ds.length < 1000000) (hs : ∀ d, p d → P (.nx (ρ.set i (.own a (moD a f (pD ds dk d)))))) : Xc S (sXPut S.K (tVar i) ta tc) ρ P := fun σ G H De o e fi =>
  hv σ G H o.kn e _ fun v s G1 H1 g1 k1 ⟨d, es, pd⟩ rv => by
    obtain ⟨_, h1, e0, _⟩ := (e.grow g1).get h
    cases Option.some.inj e0
    refine ⟨_, h1, hk σ G1 H1 k1 (e.grow g1) _ fun y s2 G2 H2 g2 k2 es2 ry => ?_⟩
    subst es es2
    have g := g1.trans k1 k2 g2
    obtain ⟨_, _, _, ga, ba, va, u, ha, r⟩ := (e.grow g).get h
    exact ⟨a, rfl, x_put k2.gh ha r kd ry (rv.mono g2.gg) hl fun u' r' => by
      obtain ⟨o2, e2⟩ := own_write (u' := u') (m' := moD a f (pD ds dk d)) (o.grow g k2) (e.grow g) h r' (fun z => absurd z moD_ins)
      exact fi.nx _ G2 _ _ o2 g.gg e2 (hs d pd)⟩
end
theorem eqv_wn (w : Str) (n : Int) : PyData.eqv (.tuple [.str w, .int n]) (.tuple [.str w, .int n]) = true := by
  simp [PyData.eqv, PyData.eqvAll]
theorem eqv_nilL (ds : List D) : PyData.eqv (.list ds) (.list []) = decide (ds = []) := by
  simp only [PyData.eqv]
  cases ds <;> simp [PyData.eqvAll]
def ShowOk (d : D) : Prop := isDisp d = true ∧ (d.hasDict = false ∨ noLst d = true) ∧ d.showable = true ∧ d.shown.length ≤ sizeLine ∧ d.depth ≤ 20
theorem ev_show {S : Cf} {ρ : Rho} {te : TE} {d : D} (h : Ev S te ρ (Eq (.dat d))) (o : ShowOk d) : Ev S (tCB (rReprX S.K) (tCons te tNil)) ρ (Eq (.dat (.str d.shown))) := ev_reprX h o.1 o.2.1 o.2.2.1 o.2.2.2.1 o.2.2.2.2
theorem shaped_ints (l : List Int) : SeqAt.shaped (.list (l.map PyData.int)) = true := by
  have h1 : (PyData.list (l.map PyData.int)).canLay0 = true := by
    simp only [PyData.canLay0]
    induction l with
    | nil => rfl
    | cons x l ih => simp [PyData.canLayAll0, PyData.canLay0, ih]
  have h2 : (PyData.list (l.map PyData.int)).depth ≤ 64 := by
    have e : PyData.list (l.map PyData.int) = PySem.W.Datum.toD l := rfl
    rw [e]
    exact Nat.le_trans (PySem.W.Datum.depth_le _) (by decide)
  unfold SeqAt.shaped
  rw [h1, decide_eq_true h2]
  rfl
end Dl
namespace Dl
open PySem PySem.Spec PyProof.Rows L2 LamX RZ
section
variable {S : Cf} {ρ : Rho} {te ta tb tc : TE} {P : Oc → Prop} {w t : TS}
/-- x, y = e, what was just made -/
theorem xc_parPQ {i j : Nat} {p : Sl → Prop} {m : Addr → Mo} (ha : Ev S ta ρ p) (hb : EvQ S tb ρ m) (hs : ∀ s a, p s → P (.nx ((ρ.set i s).set j (.own a (m a))))) : Xc S (tPar i j (tCons ta (tCons tb tNil))) ρ P := fun σ G H De o e f =>
  ha σ G H o.kn e _ fun v s G1 H1 g1 k1 ps r1 => hb σ G1 H1 k1 (e.grow g1) _ fun q u G2 H2 g2 k2 n1 n2 hq r => by
    have o2 := (o.grow g1 k1).grow g2 k2
    have e1 := (e.grow g1).set i r1
    have o1 := o.grow g1 k1
    refine ⟨_, _, rfl, f.nx _ G2 H2 _ o2 (g1.gg.trans g2.gg) ((e1.grow g2).put j (some (.ref q)) (.own q (m q)) ⟨rfl, n2, .inl (o1.freshB n1), o1.kn.fresh n1, _, hq, r⟩ fun b m' z l t m'' nl hl => e1.new_none (i := j) (s := .own q (m q)) n1 rfl z hl m'') (hs s q ps)⟩
theorem xs_parPQ {i j : Nat} {p : Sl → Prop} {m : Addr → Mo} (ha : Ev S ta ρ p) (hb : EvQ S tb ρ m) (hs : ∀ s a, p s → Xc S w ((ρ.set i s).set j (.own a (m a))) P) : Xc S (tSeq (tPar i j (tCons ta (tCons tb tNil))) w) ρ P := xc_seq (xc_parPQ ha hb hs)
def NxP (Q : Rho → Prop) : Oc → Prop
  | .nx ρ => Q ρ
  | _ => False
/-- a statement that goes on, and what it leaves -/
theorem xs_cut {Q : Rho → Prop} (h : Xc S t ρ (NxP Q)) (k : ∀ ρ', Q ρ' → Xc S w ρ' P) : Xc S (tSeq t w) ρ P := xc_seq (h.imp fun o ho => by
  cases o with
  | nx ρ' => exact k ρ' ho
  | rt _ _ => exact ho.elim
  | bk _ => exact ho.elim
  | ct _ => exact ho.elim
  | ex _ _ => exact ho.elim)
end
end Dl
namespace Dl
open PySem PySem.Spec PyProof.Rows L2 LamX RZ
section
variable {S : Cf} {ρ : Rho} {te ta tb tc : TE} {P : Oc → Prop} {w t : TS}
/-- (x, y) = (e, what was just made), by a tuple -/
theorem xc_tupPQ {i j : Nat} {p : Sl → Prop} {m : Addr → Mo} (ha : Ev S ta ρ p) (hb : EvQ S tb ρ m) (hs : ∀ s a, p s → P (.nx ((ρ.set i s).set j (.own a (m a))))) : Xc S (tAsg (tTup (tCons ta (tCons tb tNil))) (gTup S.K 2 (gCons (gName i) (gCons (gName j) gNil)))) ρ P := fun σ G H De o e f =>
  ha σ G H o.kn e _ fun v s G1 H1 g1 k1 ps r1 => hb σ G1 H1 k1 (e.grow g1) _ fun q u G2 H2 g2 k2 n1 n2 hq r => by
    have o2 := (o.grow g1 k1).grow g2 k2
    have e1 := (e.grow g1).set i r1
    have o1 := o.grow g1 k1
    have e2 := (e1.grow g2).put j (some (.ref q)) (.own q (m q)) ⟨rfl, n2, .inl (o1.freshB n1), o1.kn.fresh n1, _, hq, r⟩ fun b m' z l t m'' nl hl => e1.new_none (i := j) (s := .own q (m q)) n1 rfl z hl m''
    refine ⟨sz_ok (by show 2 ≤ 1000000; omega), fun x hx => ?_⟩
    have g3 : Grow S.fx G2 H2 G2 (upd H2 x (.tup [v, .ref q])) := Grow.same k2 (same_new hx)
    have k3 : Kn S.fx G2 (upd H2 x (.tup [v, .ref q])) := k2.same (same_new hx)
    exact ⟨x, [v, .ref q], rfl, SqT.of upd_same, rfl, v, [.ref q], rfl, .ref q, [], rfl, rfl, f.nx _ G2 _ _ (o2.grow g3 k3) (g1.gg.trans g2.gg) (e2.grow g3) (hs s q ps)⟩
theorem xs_tupPQ {i j : Nat} {p : Sl → Prop} {m : Addr → Mo} (ha : Ev S ta ρ p) (hb : EvQ S tb ρ m) (hs : ∀ s a, p s → Xc S w ((ρ.set i s).set j (.own a (m a))) P) : Xc S (tSeq (tAsg (tTup (tCons ta (tCons tb tNil))) (gTup S.K 2 (gCons (gName i) (gCons (gName j) gNil)))) w) ρ P := xc_seq (xc_tupPQ ha hb hs)
end
end Dl

set_option Elab.async false
set_option linter.all false
set_option maxRecDepth 100000
set_option maxHeartbeats 4000000
/-! Dlk: lists of ours handed to a def that only reads them; sorted; parts by steps; order of tuples; any; max with default; pop. -/
namespace Dl
open PySem PySem.Spec PyProof.Rows L2 LamX RZ
/-! ### lists that stand still while a body runs -/
def fxB (bs : List (Addr × List V)) : Fx where
  vol a := ∃ p ∈ bs, p.1 = a
  mine _ := False
  inv H := ∀ p ∈ bs, H p.1 = some (.lst p.2)
  ext := fun h i p hp => h p.1 _ (.inl ⟨p, hp, rfl⟩) (i p hp)
  there := fun {H a} i ⟨p, hp, e⟩ => ⟨.lst p.2, e ▸ i p hp, fun z => z⟩
section
variable {K : PySem.W.Frag} {G0 B : Hp} {E : XK} {bs : List (Addr × List V)} {ρ : Rho} {i : Nat} {a : Addr} {vs : List V} {ds : List D}
theorem rd_get {S : Cf} {σ : L2.St} {G H : Hp} (e : Env S G H σ ρ) (h : ρ[i]? = some (.rd a vs ds)) : σ[i]? = some (some (.ref a)) ∧ RA S.K G vs ds := by
  obtain ⟨v, h1, v', e', ev, ra⟩ := e.get h
  cases e'
  subst ev
  exact ⟨h1, ra⟩
theorem im_rd (h : ρ[i]? = some (.rd a vs ds)) (hm : (a, vs) ∈ bs) : Itm ⟨K, fxB bs, G0, B, E⟩ (iList K (tVar i)) ρ (Eq ds) := fun σ G H k e Rr f => by
  obtain ⟨h1, ra⟩ := rd_get e h
  refine ⟨_, h1, a, rfl, ⟨vs, SqL.of (k.inv _ hm)⟩, f _ ds G H (Grow.refl k) k rfl fun G2 H2 e2 k2 => ?_⟩
  have hs2 : SqL K H2 a vs := SqL.of (k2.inv _ hm)
  refine ⟨⟨vs, hs2, by rw [ra.length]; exact Nat.le_refl _⟩, fun j d hd => ?_⟩
  obtain ⟨v, hv, rv⟩ := ra.get hd
  exact ⟨⟨vs, v, hs2, hv⟩, fun x H3 ⟨e3, hx⟩ => ⟨G2, by rw [e3]; exact Grow.refl k2, by rw [e3]; exact k2, by
    have := hx vs hs2
    rw [hv] at this
    cases this
    exact rv.mono e2⟩⟩
theorem ev_lenRd (h : ρ[i]? = some (.rd a vs ds)) (hm : (a, vs) ∈ bs) : Ev ⟨K, fxB bs, G0, B, E⟩ (tCB (fun xs H Q => ∃ p ys, xs = [.ref p] ∧ (SqL K H p ys ∨ SqT K H p ys) ∧ Q (.int ys.length) H) (tCons (tVar i) tNil)) ρ (Eq (.dat (.int (ds.length : Nat)))) := fun σ G H k e Q q => by
  obtain ⟨h1, ra⟩ := rd_get e h
  refine ⟨_, h1, a, vs, rfl, .inl (SqL.of (k.inv _ hm)), ?_⟩
  rw [ra.length]
  exact q _ _ G H (Grow.refl k) k rfl (.int _)
end
abbrev Zb2 := Addr × List V × Addr × List V
def bs2 (z : Zb2) : List (Addr × List V) := [(z.1, z.2.1), (z.2.2.1, z.2.2.2)]
/-- f(xs, ys), both ours, f only reads them -/
theorem ev_call2B {S : Cf} {ρ : Rho} {ι : Type} {args : Zb2 → ι → List Sl} {pre : ι → Prop} {post : ι → Re → Prop} {j1 j2 : Nat} {a1 a2 : Addr} {ds1 ds2 : List D} {E : XK} {P : Sl → Prop} (i : ι)
    (h1 : ρ[j1]? = some (.own a1 (.lst ds1))) (h2 : ρ[j2]? = some (.own a2 (.lst ds2))) (hp : pre i) (he : ∀ vs1 vs2, args (a1, vs1, a2, vs2) i = [.rd a1 vs1 ds1, .rd a2 vs2 ds2])
    (ho : ∀ s, post i (.ok s) → P s) (hx : ∀ C d, ¬ post i (.ex C d)) :
    Ev S (tCall (spZ fun z : Zb2 => spI S.K (fxB (bs2 z)) (args z) pre post) [] E (tCons (tVar j1) (tCons (tVar j2) tNil))) ρ P := fun σ G H k e Q q => by
  obtain ⟨v1, q1, e1, ga1, ba1, va1, u1, ha1, r1⟩ := e.get h1
  obtain ⟨v2, q2, e2, ga2, ba2, va2, u2, ha2, r2⟩ := e.get h2
  cases Option.some.inj e1
  cases Option.some.inj e2
  cases u1 with
  | lst vs1 =>
    cases u2 with
    | lst vs2 =>
      have kn : Kn (fxB (bs2 (a1, vs1, a2, vs2))) G H := ⟨k.gh, fun p hp => by
        rcases List.mem_cons.mp hp with rfl | hp
        · exact ha1
        · rw [List.mem_singleton.mp hp]
          exact ha2, fun b ⟨p, hp, eb⟩ => by
        subst eb
        rcases List.mem_cons.mp hp with rfl | hp
        · exact ga1
        · rw [List.mem_singleton.mp hp]
          exact ga2⟩
      refine ⟨_, q1, _, q2, (a1, vs1, a2, vs2), i, G, hp, kn, ?_, fun v s G' H' g k' r po => ?_, fun C d dd v G' H' _ _ _ _ po => absurd po (hx C d)⟩
      · rw [he]
        exact .cons ⟨rfl, r1⟩ (.cons ⟨rfl, r2⟩ .nil)
      · have keep : ∀ b o, H b = some o → H' b = some o := fun b o hb => by
          by_cases hv : (fxB (bs2 (a1, vs1, a2, vs2))).vol b
          · obtain ⟨p, hp, eb⟩ := hv
            have x1 := kn.inv p hp
            have x2 := k'.inv p hp
            rw [eb, hb] at x1
            rw [eb] at x2
            rw [x2, x1]
          · exact g.hh b o hv hb
        have g' : Grow S.fx G H G' H' := ⟨g.gg, g.gh, fun b o _ hb => keep b o hb, g.nn⟩
        exact q v s G' H' g' (k.grow g' (S.fx.ext (fun b o _ hb => keep b o hb) k.inv)) (ho s po) r
    | _ => exact r2.elim
  | _ => exact r1.elim
/-! ### sorted -/
theorem keyLt_general (x y : Value) : keyLt' general' x y = oneLt' false x y := rfl
section
variable {prog : Program} {w : World} {A : Around} {E : Value → Shared → Prop} {s : Shared}
theorem sortsAt_one {u : Value} {d : D} {as : List Addr} (r : Reads s.heap u d as) (hal : PySem.W.alike d d = true) (hn : d ≠ .none) (hu : A.units + d.depth < cLine) : PySem.W.SortsAt prog w A s (PySem.W.dataKind s.heap [d]) [u] := by
  have ha : PySem.W.AllAlike [d] := fun x hx y hy => by
    rw [List.mem_singleton.mp hx, List.mem_singleton.mp hy]
    exact hal
  refine ⟨fun v hv => ?_, general', fun E x y a b Q hx hy hq => ?_, fun h2 => by simp at h2⟩
  · rw [List.mem_singleton.mp hv]
    exact ⟨_, PySem.W.dataKind_some ha (List.mem_singleton_self _) r⟩
  · obtain ⟨d1, as1, m1, r1, rfl⟩ := PySem.W.dataKind_inv hx
    obtain ⟨d2, as2, m2, r2, rfl⟩ := PySem.W.dataKind_inv hy
    have e1 := List.mem_singleton.mp m1
    have e2 := List.mem_singleton.mp m2
    subst e1
    rw [keyLt_general]
    exact PySem.W.oneLt_alike (fun z => by cases z) r1 r2 (by rw [e2]; exact hal) hn (Nat.lt_of_le_of_lt (Nat.add_le_add_left (Nat.min_le_left _ _) _) hu) hq
theorem collect_tupleX {l : Addr} {vs : List Value} {Q : List Value → Shared → Prop} (hl : s.heap.IsTuple l vs.toArray)
    (h : Q vs { s with heap := (s.heap.push (seqObj "list" #[] 0)).update s.heap.objs.size (Obj.mapSeq (· ++ vs.toArray)) }) (hsz : vs.length ≤ sizeLine) :
    wpAny (model prog w) A (collect (.ref l)) Q E s := by
  obtain ⟨o, ho, hc, n, hd⟩ := id hl
  unfold collect
  refine wpAny_bind (wpAny_runValue (codeAny_builtin entry_proto_collect' ?_))
  show wpAny _ _ (do again (.builtin "list.__iadd__" ⟨[← newList [], .ref l], []⟩)) _ _ s
  refine wpAny_bind (wpAny_newList (wpAny_pure ⟨Code.quiet_builtin _ (by decide +kernel), codeAny_builtin entry_list_iadd' ?_⟩))
  show wpAny _ _ (Builtin.List.listExtendWith (.ref s.heap.objs.size) (.ref l) (.ref s.heap.objs.size)) _ _ { s with heap := s.heap.push (seqObj "list" #[] 0) }
  unfold Builtin.List.listExtendWith
  have ho' : (s.heap.push (seqObj "list" #[] 0)).get? l = some o := Heap.get?_push_of_some _ ho
  refine wpAny_bind (wpAny_typeOf (T := "tuple") ⟨o, ho', hc⟩ ?_)
  have ht : (Value.type "tuple" == Value.type "tuple") = true := by rfl
  rw [if_pos (by rw [ht]; simp)]
  refine wpAny_bind (listItems_at ho' hd ?_)
  refine wpAny_bind (listItems_at (xs := #[]) (n := 0) (Heap.get?_push_size _ rfl) rfl ?_)
  rw [if_neg (by simp)]
  refine wpAny_bind (listUpdate_at (xs := #[]) (n := 0) (Heap.get?_push_size _ rfl) rfl ?_ (Nat.zero_le _) (by show (#[] ++ vs.toArray).size ≤ sizeLine + 1; simp only [Array.size_append, List.size_toArray, List.length_nil]; omega))
  refine wpAny_pure ?_
  show wpAny (model prog w) A (do
      let o ← load s.heap.objs.size
      match o.data with
      | .seq xs _ => pure xs.toList
      | _ => unsupported "internal:collect") Q E { s with heap := (s.heap.push (seqObj "list" #[] 0)).update s.heap.objs.size (Obj.mapSeq (· ++ vs.toArray)) }
  refine wpAny_bind (wpAny_load (get?_update_seq (Heap.get?_push_size _ rfl) _) ?_)
  show wpAny _ _ (pure ((#[] : Array Value) ++ vs.toArray).toList) Q E _
  rw [show ((#[] : Array Value) ++ vs.toArray).toList = vs by simp]
  exact wpAny_pure h
open PySem.W in
theorem sorted_itX {l : Addr} {vs : List Value} {κ : PyProof.Rows.KeyKind} {Q : Value → Shared → Prop} (hl : s.heap.IsList l vs.toArray ∨ s.heap.IsTuple l vs.toArray) (hL : vs.length ≤ sizeLine)
    (S : SortsAt prog w A.in1.in1 { s with heap := sortingHeap (copyHeap s.heap vs) (s.heap.objs.size + 1) vs } κ vs)
    (h : Q (.ref (s.heap.objs.size + 1)) { s with heap := sortedAll s.heap vs (sortVals κ false vs vs).toArray }) :
    wpAny (model prog w) A (call (.builtin "sorted") [.ref l]) Q E s := by
  rcases hl with hl | hl
  · exact sorted_vals hl S hL h
  refine Calls.call_function_entry kind_sorted plain_sorted entry_sorted (args_sorted1 _) ?_
  unfold Builtin.«sorted»
  refine wpAny_bind (m := checkCount "sorted" 1 1 _) (wpAny_pure ?_)
  refine wpAny_bind (collect_tupleX hl ?_ hL)
  refine wpAny_bind (wpAny_newList ?_ hL)
  have hsz : ((s.heap.push (seqObj "list" #[] 0)).update s.heap.objs.size (Obj.mapSeq (· ++ vs.toArray))).objs.size = s.heap.objs.size + 1 := by
    rw [Heap.size_update, size_push']
  show wpAny _ _ _ _ _ { s with heap := copyHeap s.heap vs }
  rw [hsz]
  refine wpAny_bind (wpAny_holding (wpAny_call_entry_kw slot_list_sort ⟨_, copyHeap_at s.heap vs, rfl⟩ entry_list_sort ?body (args_list_sort _)))
  case body =>
    show wpAny (model prog w) A.in1.in1 (Builtin.«list.sort» ⟨[.ref (s.heap.objs.size + 1)], []⟩) _ _ _
    exact list_sort_vals (s := { s with heap := copyHeap s.heap vs }) (copyHeap_at s.heap vs) S hL ⟨_, rfl, wpAny_pure ⟨_, rfl, h⟩⟩
end
/-- the sorted ones of ds, as vs that stand for them -/
noncomputable def srt {α : Type} (vs : List α) (ds : List D) : List (α × D) := (vs.zip ds).mergeSort (PySem.W.dataLe false Prod.snd)
def SortOk (ds : List D) : Prop := PySem.W.AllAlike ds ∧ (PySem.W.Sortable ds ∨ ∃ d, ds = [d] ∧ d ≠ .none) ∧ ds.length ≤ 1000000 ∧ PyData.depthAll ds ≤ 20 ∧ PyData.hasDictAll ds = false
def rSortD (K : PySem.W.Frag) : List V → Hp → VK → Prop := fun xs H Q => ∃ (a : Addr) (vs : List V) (ds : List D), xs = [.ref a] ∧ (SqL K H a vs ∨ SqT K H a vs) ∧ DpAll K H vs ds ∧ vs.length = ds.length ∧ SortOk ds ∧
  ∀ p, H p = none → Q (.ref p) (upd H p (.lst ((srt vs ds).map Prod.fst)))
theorem depth_mem {d : D} : ∀ {ds : List D}, d ∈ ds → d.depth ≤ PyData.depthAll ds
  | x :: ds, h => by
    rw [PyData.depthAll]
    rcases List.mem_cons.mp h with rfl | h
    · exact Nat.le_max_left _ _
    · exact Nat.le_trans (depth_mem h) (Nat.le_max_right _ _)
theorem each_zip {R : Value → V → Prop} {R2 : Value → D → Prop} : ∀ {us : List Value} {vs : List V} {ds : List D}, PySem.W.EachIs R us vs → PySem.W.EachIs R2 us ds → PySem.W.EachIs (fun u p => R u p.1) us (vs.zip ds) ∧ PySem.W.EachIs (fun u p => R2 u p.2) us (vs.zip ds)
  | _, _, _, .nil, .nil => ⟨.nil, .nil⟩
  | _, _, _, .cons a r, .cons b q => ⟨.cons a (each_zip r q).1, .cons b (each_zip r q).2⟩
theorem each_vals : ∀ {vs : List V} {us : List Value}, Vals vs us → PySem.W.EachIs (fun u v => RelV v u) us vs
  | _, _, .nil => .nil
  | _, _, .cons a r => .cons a (each_vals r)
theorem vals_each : ∀ {ps : List (V × D)} {us : List Value}, PySem.W.EachIs (fun u p => RelV p.1 u) us ps → Vals (ps.map Prod.fst) us
  | _, _, .nil => .nil
  | _, _, .cons a r => .cons a (vals_each r)
theorem cr_sortD {X : Cx} (hu : X.A.units + 64 < cLine) : CallR X (.builtin "sorted") (rSortD X.K) := by
  intro pins s σ H xs us Q I r h
  obtain ⟨a, vs, ds, rfl, hs, hd, hl, ⟨hal, hk, hn, hdp, _⟩, q⟩ := h
  obtain ⟨u, rfl, ru⟩ := vals1 r
  cases ru
  obtain ⟨its, rv, pl, hz⟩ : ∃ its, Vals vs its ∧ (s.heap.IsList a its.toArray ∨ s.heap.IsTuple a its.toArray) ∧ its.length ≤ sizeLine := by
    rcases hs with hs | hs
    · obtain ⟨its, rv, pl, hz⟩ := I.list hs
      exact ⟨its, rv, .inl pl.isList, by rw [← rv.length, hl, sizeLine_eq]; omega⟩
    · obtain ⟨its, rv, pl, hz⟩ := I.tuple hs
      exact ⟨its, rv, .inr pl, by rw [← rv.length, hl, sizeLine_eq]; omega⟩
  obtain ⟨as, ra⟩ := Dp.readsAll I ds vs its hd rv
  have er : PySem.W.EachIs (fun v d => ∃ as, Reads s.heap v d as) its ds := by
    have := PySem.W.readsAll_each (enc := id) (bs := ds) (by simpa using ra)
    simpa using this
  obtain ⟨z1, z2⟩ := each_zip (each_vals rv) er
  have hsnd : (vs.zip ds).map Prod.snd = ds := List.map_snd_zip (by omega)
  let h' := PySem.W.sortingHeap (PySem.W.copyHeap s.heap its) (s.heap.objs.size + 1) its
  have keep : ∀ b o, s.heap.get? b = some o → h'.get? b = some o := fun b o e => PySem.W.sorting_copy_old e
  have er' : PySem.W.EachIs (fun v d => ∃ as, Reads h' v d as) its ds := er.mono fun _ _ ⟨as, r⟩ => ⟨as, PyProof.Rows.Reads.keeps keep r⟩
  have z3 : PySem.W.EachIs (fun v p => ∃ as, Reads h' v (Prod.snd p) as) its (vs.zip ds) := z2.mono fun _ _ ⟨as, r⟩ => ⟨as, PyProof.Rows.Reads.keeps keep r⟩
  have S : PySem.W.SortsAt X.prog X.w X.A.in1.in1 { s with heap := h' } (PySem.W.dataKind h' ds) its := by
    have hu2 : ∀ d ∈ ds, X.A.in1.in1.units + d.depth < cLine := fun d hd => by
      have := depth_mem hd
      show X.A.units + 1 + 1 + _ < _
      omega
    rcases hk with hk | ⟨d, e, dn⟩
    · exact PySem.W.SortsAt.data (s := { s with heap := h' }) er' hal hk hu2
    · subst e
      cases er' with
      | cons r1 r2 =>
        cases r2
        obtain ⟨as, r1⟩ := r1
        exact sortsAt_one (s := { s with heap := h' }) r1 (hal d (by simp) d (by simp)) dn (hu2 d (by simp))
  refine sorted_itX pl hz S ?_
  have out := PySem.W.sortVals_data (R := fun u p => RelV (Prod.fst p) u) (enc := Prod.snd) false z1 z3 (by rw [hsnd]; exact hal)
  rw [hsnd] at out
  obtain ⟨ep, he'⟩ := PyProof.Rows.sortedAll_at s.heap its (PySem.W.sortVals (PySem.W.dataKind h' ds) false its its).toArray
  refine ⟨.ref _, upd H (s.heap.objs.size + 1) (.lst ((srt vs ds).map Prod.fst)), I.laid (t' := s.toks) (fun _ _ => PyProof.Rows.sortedAll_old) (Nat.le_succ _) ⟨?_, _, ep, vals_each out, he'⟩, rfl, q _ (I.hok.fresh (Nat.le_succ _))⟩
  unfold srt
  rw [List.length_map, (List.mergeSort_perm _ _).length_eq, List.length_zip, sizeLine_eq]
  omega
/-- sorted data -/
noncomputable def srtD (ds : List D) : List D := ds.mergeSort (PySem.W.dataLe false id)
theorem srt_snd {α : Type} (vs : List α) (ds : List D) (h : vs.length = ds.length) : (srt vs ds).map Prod.snd = srtD ds := by
  unfold srt srtD
  rw [List.map_mergeSort (r := PySem.W.dataLe false Prod.snd) (s := PySem.W.dataLe false id) (f := Prod.snd) (fun a _ b _ => rfl), List.map_snd_zip (by omega)]
theorem ra_zip {K : PySem.W.Frag} {G : Hp} : ∀ {vs : List V} {ds : List D}, RA K G vs ds → ∀ p ∈ vs.zip ds, R K G p.1 p.2
  | _, _, .nil, p, h => by simp at h
  | _, _, .cons a r, p, h => by
    rcases List.mem_cons.mp h with rfl | h
    · exact a
    · exact ra_zip r p h
theorem ra_of {K : PySem.W.Frag} {G : Hp} : ∀ {ps : List (V × D)}, (∀ p ∈ ps, R K G p.1 p.2) → RA K G (ps.map Prod.fst) (ps.map Prod.snd)
  | [], _ => .nil
  | p :: ps, h => .cons (h p List.mem_cons_self) (ra_of fun q hq => h q (List.mem_cons_of_mem _ hq))
section
variable {S : Cf} {ρ : Rho} {te ta tb tc : TE} {ds es : List D}
theorem srt_go {G H : Hp} {a : Addr} {vs : List V} {Q : VK} (k : Kn S.fx G H) (hs : SqL S.K H a vs ∨ SqT S.K H a vs) (ra : RA S.K G vs ds) (m : SortOk ds)
    (q : ∀ v G' H', Grow S.fx G H G' H' → Kn S.fx G' H' → R S.K G' v (.list (srtD ds)) → Q v H') : rSortD S.K [.ref a] H Q := by
  refine ⟨a, vs, ds, rfl, hs, ra_dpAll k.gh ra m.2.2.2.2, ra.length, m, fun p hp => ?_⟩
  have g2 := Grow.new k (.lst ((srt vs ds).map Prod.fst)) hp
  have k2 := Kn.new k (.lst ((srt vs ds).map Prod.fst)) hp
  refine q _ _ _ g2 k2 ?_
  rw [← srt_snd vs ds ra.length]
  exact .lst (SqL.of upd_same) (ra_of fun x hx => (ra_zip ra x ((List.mergeSort_perm _ _).mem_iff.mp hx)).mono g2.gg)
theorem ef_sortL (h : EvL S te ρ ds) (m : SortOk ds) : Ev S (tCB (rSortD S.K) (tCons te tNil)) ρ (Eq (.dat (.list (srtD ds)))) := fun σ G H k e Q q => h σ G H k e _ fun a vs G1 H1 g1 k1 st ra =>
  srt_go k1 (.inl (st _ _ (Grow.refl k1))) ra m fun v G2 H2 g2 k2 r => q v _ G2 H2 (g1.trans k1 k2 g2) k2 rfl r
theorem ef_sortU (h : EvU S te ρ ds) (m : SortOk ds) : Ev S (tCB (rSortD S.K) (tCons te tNil)) ρ (Eq (.dat (.list (srtD ds)))) := fun σ G H k e Q q => h σ G H k e _ fun a vs G1 H1 g1 k1 st ra =>
  srt_go k1 (.inr (st _ _ (Grow.refl k1))) ra m fun v G2 H2 g2 k2 r => q v _ G2 H2 (g1.trans k1 k2 g2) k2 rfl r
end
end Dl

set_option Elab.async false
set_option linter.all false
set_option maxRecDepth 100000
set_option maxHeartbeats 4000000
/-! Dlm: parts by steps; order of tuples; any; max with default; pop; tuples repeated; names for what a list holds. -/
namespace Dl
open PySem PySem.Spec PyProof.Rows L2 LamX RZ
/-! ### t[lo:hi:st] -/
def stepV {α : Type} (xs : List α) (lo hi : Option Int) (st : Int) : List α :=
  (List.range (Builtin.Slice.slicePlaces (Builtin.Slice.sliceAdjust lo hi st (xs.length : Nat)).1 (Builtin.Slice.sliceAdjust lo hi st (xs.length : Nat)).2 st)).filterMap fun (m : Nat) => xs[((Builtin.Slice.sliceAdjust lo hi st (xs.length : Nat)).1 + (m : Int) * st).toNat]?
section
variable {prog : Program} {w : World} {A : Around} {E : Value → Shared → Prop} {s : Shared}
theorem sliceApplied_st {sl : Addr} {vl vu vs : Value} {lo hi : Option Int} {st : Int} {n : Nat} {Q : Int × Int × Nat → Shared → Prop} (hs : s.heap.IsSliceOf sl vl vu vs) (pl : IsPart vl lo) (pu : IsPart vu hi) (ps : IsPart vs (some st)) (h0 : st ≠ 0)
    (h : Q ((Builtin.Slice.sliceAdjust lo hi st (n : Int)).1, st, Builtin.Slice.slicePlaces (Builtin.Slice.sliceAdjust lo hi st (n : Int)).1 (Builtin.Slice.sliceAdjust lo hi st (n : Int)).2 st) s) : wpAny (model prog w) A (Builtin.Slice.sliceApplied (.ref sl) (pure (n : Int))) Q E s := by
  obtain ⟨os, hos, hcs, hds⟩ := id hs
  unfold Builtin.Slice.sliceApplied Builtin.Slice.sliceFields
  refine wpAny_bind (wpAny_bind (wpAny_field hos hds (x := vl) rfl (wpAny_bind (wpAny_field hos hds (x := vu) rfl (wpAny_bind (wpAny_field hos hds (x := vs) rfl (wpAny_pure ?_)))))))
  refine wpAny_bind (HT.slicePart_ ps ?_)
  show wpAny _ _ (if (st == 0) = true then _ else _) _ _ s
  rw [if_neg (by rw [beq_iff_eq]; exact h0)]
  refine wpAny_bind (HT.slicePart_ pl (wpAny_bind (HT.slicePart_ pu (wpAny_bind (wpAny_pure ?_)))))
  exact wpAny_pure h
theorem getItem_tuple_st {t sl : Addr} {items : Array Value} {vl vu vs : Value} {lo hi : Option Int} {st : Int} {Q : Value → Shared → Prop} (ht : IsTup s.heap t items) (hs : s.heap.IsSliceOf sl vl vu vs) (pl : IsPart vl lo) (pu : IsPart vu hi) (ps : IsPart vs (some st)) (h0 : st ≠ 0) (h1 : st ≠ 1)
    (h : Q (.ref s.heap.objs.size) { s with heap := s.heap.push { cls := .type "tuple", data := .seq (stepV items.toList lo hi st).toArray } }) (hsz : (stepV items.toList lo hi st).length ≤ sizeLine) : wpAny (model prog w) A (getItem (.ref t) (.ref sl)) Q E s := by
  have htake : sizeOk (.seq (stepV items.toList lo hi st).toArray) := by
    show (stepV items.toList lo hi st).toArray.size ≤ sizeLine
    rw [List.size_toArray]
    exact hsz
  obtain ⟨os, hos, hcs, hds⟩ := id hs
  have hTs : s.TypeIs (.ref sl) "slice" := ⟨os, hos, hcs⟩
  unfold getItem
  try with_reducible refine wpAny_holding ?_
  first | refine wpAny_bind (wpAny_pure ?_) | skip
  refine wpAny_bind (wpAny_sequenceKey ht.typeIs (by decide) ?_)
  refine wpAny_bind (wpAny_callSpecial?_slot (name := Str.ofString "__getitem__") ht.typeIs PyProof.Rows.slot_tuple_getitem
    (wpAny_call_entry PyProof.Rows.slot_tuple_getitem ht.typeIs entry_tuple_getitem ?_ (args_tuple_getitem _ _)))
  show wpAny _ _ (Builtin.Tuple.tupleItemsOf (.ref t) >>= _) _ _ s
  refine wpAny_bind (tupleItemsOf_ ht ?_)
  refine wpAny_bind (wpAny_typeOf hTs ?_)
  rw [if_pos (by decide)]
  refine wpAny_bind (sliceApplied_st hs pl pu ps h0 ?_)
  show wpAny _ _ (if ((Builtin.Slice.sliceAdjust lo hi st (items.size : Int)).1 == 0 && st == 1 && Builtin.Slice.slicePlaces (Builtin.Slice.sliceAdjust lo hi st (items.size : Int)).1 (Builtin.Slice.sliceAdjust lo hi st (items.size : Int)).2 st == items.size) = true then _ else _) _ _ s
  rw [if_neg (by
    rw [Bool.and_eq_true, Bool.and_eq_true]
    exact fun q => h1 (eq_of_beq q.1.2))]
  have e : ((List.range (Builtin.Slice.slicePlaces (Builtin.Slice.sliceAdjust lo hi st (items.size : Int)).1 (Builtin.Slice.sliceAdjust lo hi st (items.size : Int)).2 st)).filterMap fun (m : Nat) => items[((Builtin.Slice.sliceAdjust lo hi st (items.size : Int)).1 + (m : Int) * st).toNat]?) = stepV items.toList lo hi st := by
    unfold stepV
    rw [Array.length_toList]
    congr 1
    funext m
    rw [Array.getElem?_toList]
  rw [e]
  first
    | exact wpAny_bind (m := Builtin.Tuple.tupleExact _) (wpAny_newObj_type (wpAny_pure ⟨_, rfl, wpAny_pure h⟩) htake)
    | exact wpAny_bind (m := Builtin.Tuple.tupleExact _) (wpAny_newObj_type (wpAny_bind (wpAny_pure (wpAny_pure ⟨_, rfl, wpAny_pure h⟩))) htake)
    | exact wpAny_bind (wpAny_bind (m := Builtin.Tuple.tupleExact _) (wpAny_newObj_type (wpAny_pure (wpAny_pure ⟨_, rfl, wpAny_pure h⟩)) htake))
    | exact wpAny_bind (wpAny_bind (m := Builtin.Tuple.tupleExact _) (wpAny_newObj_type (wpAny_pure ⟨_, rfl, wpAny_pure h⟩) htake))
end
theorem pick_vals {xs : List V} {us : List Value} (r : Vals xs us) (f : Nat → Nat) : ∀ l : List Nat, Vals (l.filterMap fun m => xs[f m]?) (l.filterMap fun m => us[f m]?)
  | [] => .nil
  | m :: l => by
    rw [List.filterMap_cons, List.filterMap_cons]
    cases hx : xs[f m]? with
    | none =>
      have : us[f m]? = none := by
        rw [List.getElem?_eq_none_iff] at hx ⊢
        rw [← r.length]
        exact hx
      rw [this]
      exact pick_vals r f l
    | some x =>
      obtain ⟨u, hu, ru⟩ := r.get hx
      rw [hu]
      exact .cons ru (pick_vals r f l)
theorem stepV_vals {xs : List V} {us : List Value} {lo hi : Option Int} {st : Int} (r : Vals xs us) : Vals (stepV xs lo hi st) (stepV us lo hi st) := by
  unfold stepV
  rw [r.length]
  exact pick_vals r (fun m => ((Builtin.Slice.sliceAdjust lo hi st (us.length : Nat)).1 + (m : Int) * st).toNat) _
theorem pick_ra {K : PySem.W.Frag} {G : Hp} {vs : List V} {ds : List D} (r : RA K G vs ds) (f : Nat → Nat) : ∀ l : List Nat, RA K G (l.filterMap fun m => vs[f m]?) (l.filterMap fun m => ds[f m]?)
  | [] => .nil
  | m :: l => by
    rw [List.filterMap_cons, List.filterMap_cons]
    cases hx : ds[f m]? with
    | none =>
      have : vs[f m]? = none := by
        rw [List.getElem?_eq_none_iff] at hx ⊢
        rw [r.length]
        exact hx
      rw [this]
      exact pick_ra r f l
    | some x =>
      obtain ⟨u, hu, ru⟩ := r.get hx
      rw [hu]
      exact .cons ru (pick_ra r f l)
theorem RA.step {K : PySem.W.Frag} {G : Hp} {vs : List V} {ds : List D} {lo hi : Option Int} {st : Int} (r : RA K G vs ds) : RA K G (stepV vs lo hi st) (stepV ds lo hi st) := by
  unfold stepV
  rw [r.length]
  exact pick_ra r (fun m => ((Builtin.Slice.sliceAdjust lo hi st (ds.length : Nat)).1 + (m : Int) * st).toNat) _
def tStT (K : PySem.W.Frag) (te : TE) (tl th : TO) (st : Int) : TE := fun σ H Q => te σ H fun x H1 => tl σ H1 fun l H2 => th σ H2 fun u H3 => ∃ a xs, x = .ref a ∧ SqT K H3 a xs ∧ (stepV xs l u st).length ≤ sizeLine ∧ ∀ p, H3 p = none → Q (.ref p) (upd H3 p (.tup (stepV xs l u st)))
theorem pe_stepT {X : Cx} {K : PySem.W.Frag} {e : Expr} {lo hi : Option Expr} {te : TE} {tl th : TO} {st : Int} {k : Nat} {p1 p2 pos : Pos} (hK : X.K = K) (he : PE X e te) (hl : PO X lo tl) (hu : PO X hi th) (h0 : st ≠ 0 := by decide) (h1 : st ≠ 1 := by decide) : PE X (.Subscript e (.Slice lo hi (some (.Constant (.int st) k p1)) p2) pos) (tStT K te tl th st) := by
  subst hK
  refine ⟨fun pins s σ H Q I h => ?_⟩
  refine Subscript_ (thn (he.run pins s σ H _ I h) fun v s1 ⟨x, H1, I1, r1, q1⟩ => ?_)
  refine wpAny_Slice (thn (hl.run pins s1 σ H1 _ I1 q1) fun vl s2 ⟨l, H2, I2, pl, q2⟩ => thn (hu.run pins s2 σ H2 _ I2 q2) fun vu s3 ⟨u, H3, I3, pu, q3⟩ => ?_)
  have hst : PO X (some (.Constant (.int st) k p1)) (tPart (tC (.int st))) := po_some pe_int
  refine thn (hst.run pins s3 σ H3 (fun o H4 => o = some st ∧ H4 = H3) I3 ⟨st, rfl, rfl, rfl⟩) fun vs s4 ⟨o, H4, I4, ps, eo, e4⟩ => ?_
  subst eo e4
  obtain ⟨a, xs, ex, hx, hz, q⟩ := q3
  subst ex
  cases r1
  have I5 : Inv X pins σ H4 { s4 with heap := s4.heap.push { cls := .type "slice", data := .fields #[vl, vu, vs] } } := I4.kept (t' := s4.toks) fun b ob q => Heap.get?_push_of_some _ q
  obtain ⟨its, r, ht, hz2⟩ := I5.tuple hx
  show wpAny (model X.prog X.w) X.A (subscriptTail e (.Slice lo hi (some (.Constant (.int st) k p1)) p2) (.ref a) (.ref s4.heap.objs.size)) (EP X pins σ Q) X.xe { s4 with heap := s4.heap.push { cls := .type "slice", data := .fields #[vl, vu, vs] } }
  refine tail_any (ops := [.ref a, .ref s4.heap.objs.size]) ht.typeIs (PyProof.Rows.slot_tuple_getitem.lookup) ?_ (by with_unfolding_all rfl)
  have rv := stepV_vals (lo := l) (hi := u) (st := st) r
  refine getItem_tuple_st ht (Heap.IsSliceOf.new _ vl vu vs) pl pu ps h0 h1 ?_ (by rw [show its.toArray.toList = its from rfl, ← rv.length]; exact hz)
  refine ⟨.ref _, _, I5.laid (t' := s4.toks) (o := .tup (stepV xs l u st)) (fun b ob q => Heap.get?_push_of_some _ q) (Nat.le_refl _) ⟨hz, _, rv, ⟨_, Heap.get?_push_size _ rfl, rfl, 0, rfl⟩⟩, rfl, q _ (I5.hok.fresh (Nat.le_refl _))⟩
section
variable {S : Cf} {ρ : Rho} {te ta tb tc : TE} {ds es : List D} {d : D} {P : Oc → Prop} {w : TS}
theorem ev_stepT {lo hi : Option Int} {tl th : TO} {st : Int} (h : Ev S te ρ (Eq (.dat (.tuple ds)))) (hl : EvO S tl ρ lo) (hh : EvO S th ρ hi) (hz : (stepV ds lo hi st).length ≤ 1000000) : Ev S (tStT S.K te tl th st) ρ (Eq (.dat (.tuple (stepV ds lo hi st)))) := fun σ G H k e Q q =>
  h σ G H k e _ fun v s G1 H1 g1 k1 es r => hl σ G1 H1 k1 (e.grow g1) _ fun G2 H2 g2 k2 => hh σ G2 H2 k2 ((e.grow g1).grow g2) _ fun G3 H3 g3 k3 => by
    subst es
    have r3 := (r.mono g2.gg).mono g3.gg
    have g := (g1.trans k1 k2 g2).trans k2 k3 g3
    cases r3 with
    | @tup a xs _ hs ra =>
      have rs := ra.step (lo := lo) (hi := hi) (st := st)
      refine ⟨a, xs, rfl, sameT k3.gh hs, by rw [rs.length, sizeLine_eq]; omega, fun p hp => ?_⟩
      have g4 := Grow.new k3 (.tup (stepV xs lo hi st)) hp
      have k4 := Kn.new k3 (.tup (stepV xs lo hi st)) hp
      exact q _ _ _ _ (g.trans k3 k4 g4) k4 rfl (.tup (SqT.of upd_same) (rs.mono g4.gg))
/-! ### any -/
theorem ev_any {bs : List Bool} (ha : Ev S ta ρ (Eq (.dat (.list (bs.map PyData.bool))))) : Ev S (tCB (rAny S.K) (tCons ta tNil)) ρ (Eq (.dat (.bool (bs.any id)))) := fun σ G H k e Q q =>
  el_of ha σ G H k e _ fun a vs G1 H1 g1 k1 st ra => ⟨a, bs, rfl, by rw [← ra.bools]; exact st _ _ (Grow.refl k1), q _ _ G1 H1 g1 k1 rfl (.bl _)⟩
theorem ev_anyL {α : Type} {l : List α} {dα : α → D} {p : α → Bool} {wi : TI} {g : TG} {vs : List Nat} (hi : Itm S wi ρ (Eq (l.map dα))) (hl : l.length ≤ 1000000)
    (hs : ∀ x, x ∈ l → ∃ js ρ2, (∀ j ∈ js, j ∈ vs) ∧ Tgt S g js (dα x) (wipeR ρ vs) ρ2 ∧ Ev S te ρ2 (Eq (.dat (.bool (p x))))) : Ev S (tCB (rAny S.K) (tCons (tLc wi g tYes te vs) tNil)) ρ (Eq (.dat (.bool (l.any p)))) := by
  have h := (ef_mapL (f := fun x => .bool (p x)) hi hl hs).evE
  have e : l.map (fun x => PyData.bool (p x)) = (l.map p).map PyData.bool := by rw [List.map_map]; rfl
  rw [e] at h
  refine (ev_any h).cast ?_
  rw [List.any_map]
  rfl
theorem ev_allL {α : Type} {l : List α} {dα : α → D} {p : α → Bool} {wi : TI} {g : TG} {vs : List Nat} (hi : Itm S wi ρ (Eq (l.map dα))) (hl : l.length ≤ 1000000)
    (hs : ∀ x, x ∈ l → ∃ js ρ2, (∀ j ∈ js, j ∈ vs) ∧ Tgt S g js (dα x) (wipeR ρ vs) ρ2 ∧ Ev S te ρ2 (Eq (.dat (.bool (p x))))) : Ev S (tCB (rAll S.K) (tCons (tLc wi g tYes te vs) tNil)) ρ (Eq (.dat (.bool (l.all p)))) := by
  have h := (ef_mapL (f := fun x => .bool (p x)) hi hl hs).evE
  have e : l.map (fun x => PyData.bool (p x)) = (l.map p).map PyData.bool := by rw [List.map_map]; rfl
  rw [e] at h
  refine (ev_all h).cast ?_
  rw [List.all_map]
  rfl
end
/-! ### max(t, default=z) -/
def rMaxDt (K : PySem.W.Frag) : List V → List V → Hp → VK → Prop := fun xs zs H Q => ∃ (a : Addr) (vs : List V) (ds : List D) (z : V), xs = [.ref a] ∧ zs = [z] ∧ SqT K H a vs ∧ DpAll K H vs ds ∧ MinOk ds ∧ (ds = [] → Q z H) ∧
  ∀ y ys (i : Nat) v, ds = y :: ys → vs[i]? = some v → ds[i]? = some (PySem.W.maxD y ys) → Q v H
theorem cr_maxDt {X : Cx} (hc : X.calm = true) (hu : X.A.units + 64 < cLine) : CallRK X (.builtin "max") ["default"] (rMaxDt X.K) := by
  intro pins s σ H xs zs us ws Q I r rz h
  obtain ⟨a, vs, ds, z, rfl, rfl, hs, hd, ⟨m1, m2, m3⟩, q0, q⟩ := h
  obtain ⟨u, rfl, ru⟩ := vals1 r
  obtain ⟨wz, rfl, rwz⟩ := vals1 rz
  cases ru
  obtain ⟨its, rv, pl, hz⟩ := I.tuple hs
  obtain ⟨as, ra⟩ := Dp.readsAll I ds vs its hd rv
  refine PySem.W.max_tuple_default (I.ok.hd hc) pl (as := as) (xs := ds) (by simpa using ra) m1 (by omega) (fun e h' tk hk => ⟨z, H, I.kept hk, rwz, q0 e⟩) fun y ys i v h' tk bs e hi hr hk => ?_
  have hi' : its[i]? = some v := by simpa using hi
  obtain ⟨x, hx, rx⟩ := vals_at rv hi'
  obtain ⟨d, cs, hd1, hd2⟩ := readsAll_get ra hi'
  have eq := (PyProof.Rows.reads_det (fun b o e _ => hk b o e) hd2 hr).1
  exact ⟨x, H, I.kept hk, rx, q y ys i x e hx (by rw [hd1, eq])⟩
def maxO (z : D) : List D → D
  | [] => z
  | y :: ys => PySem.W.maxD y ys
section
variable {S : Cf} {ρ : Rho} {te ta tb tc : TE} {ds es : List D} {d : D} {P : Oc → Prop} {w : TS}
theorem ev_maxDt (ha : EvU S ta ρ ds) (hz : Ev S tb ρ (Eq (.dat d))) (m : MinOk ds) : Ev S (tCKw (rMaxDt S.K) (tCons ta tNil) (tCons tb tNil)) ρ (Eq (.dat (maxO d ds))) := fun σ G H k e Q q =>
  ha σ G H k e _ fun a vs G1 H1 g1 k1 st ra => hz σ G1 H1 k1 (e.grow g1) _ fun z s G2 H2 g2 k2 es rz => by
    subst es
    have g := g1.trans k1 k2 g2
    refine ⟨a, vs, ds, z, rfl, rfl, st _ _ g2, ra_dpAll (g2.gg.trans g2.gh) ra m.2.2, m, fun e => ?_, fun y ys i v e hv hd => ?_⟩
    · subst e
      exact q z _ G2 H2 g k2 rfl rz
    · subst e
      obtain ⟨d, hd', rd⟩ := (ra.mono g2.gg).getV hv
      rw [hd] at hd'
      cases hd'
      exact q v _ G2 H2 g k2 rfl rd
/-- t * n -/
theorem ev_repT {n : Int} (ha : EvU S ta ρ ds) (hb : Ev S tb ρ (Eq (.dat (.int n)))) (h0 : ds ≠ []) (h1 : 2 ≤ n) (h2 : n ≤ 1000) (h3 : ds.length ≤ 1000) : Ev S (tOp (rRepT S.K) ta tb) ρ (Eq (.dat (.tuple (List.replicate n.toNat ds).flatten))) := fun σ G H k e Q q =>
  ha σ G H k e _ fun a vs G1 H1 g1 k1 st ra => hb σ G1 H1 k1 (e.grow g1) _ fun u s2 G2 H2 g2 k2 es2 r2 => by
    subst es2
    cases r2
    refine ⟨a, n, vs, rfl, rfl, st _ _ g2, (fun z => h0 (by subst z; cases ra; rfl)), h1, h2, by rw [ra.length]; exact h3, fun p hp => ?_⟩
    have g4 := Grow.new k2 (.tup (List.replicate n.toNat vs).flatten) hp
    have k4 := Kn.new k2 (.tup (List.replicate n.toNat vs).flatten) hp
    have rr : ∀ m : Nat, RA S.K G1 (List.replicate m vs).flatten (List.replicate m ds).flatten := fun m => by
      induction m with
      | zero => exact .nil
      | succ m ih =>
        rw [List.replicate_succ, List.replicate_succ, List.flatten_cons, List.flatten_cons]
        exact ra.append ih
    exact q _ _ _ _ ((g1.trans k1 k2 g2).trans k2 k4 g4) k4 rfl (.tup (SqT.of upd_same) (((rr _).mono g2.gg).mono g4.gg))
end
end Dl

set_option Elab.async false
set_option linter.all false
set_option maxRecDepth 100000
set_option maxHeartbeats 4000000
/-! Dln: order of tuples of ints; pop within a method's call; two names for what a list holds. -/
namespace Dl
open PySem PySem.Spec PyProof.Rows L2 LamX RZ
/-! ### t >= u, tuples of ints -/
def geI (ns ms : List Int) : Bool := Ob.lexAt (fun j => decide (ns.getD j 0 = ms.getD j 0)) (fun j => decide (ns.getD j 0 ≥ ms.getD j 0)) (decide (ns.length ≥ ms.length)) 0 (min ns.length ms.length)
def rGeT (K : PySem.W.Frag) : R2 := fun x y H Q => ∃ (a b : Addr) (ns ms : List Int), x = .ref a ∧ y = .ref b ∧ SqT K H a (ns.map V.int) ∧ SqT K H b (ms.map V.int) ∧ Q (.bl (geI ns ms)) H
theorem op_geT {X : Cx} {K : PySem.W.Frag} (hK : X.K = K) (hu : X.A.units + 64 < cLine) : OpR X (compareOp .GtE) (rGeT K) := by
  subst hK
  intro pins s σ H x y v u Q I rx ry h
  obtain ⟨a, b, ns, ms, rfl, rfl, ha, hb, q⟩ := h
  cases rx
  cases ry
  obtain ⟨its, r1, p1, _⟩ := I.tuple ha
  obtain ⟨its2, r2, p2, _⟩ := I.tuple hb
  have i1 : IntsAre its ns := Vals.ints r1
  have i2 : IntsAre its2 ms := Vals.ints r2
  have e1 : its.toArray.size = ns.length := by rw [List.size_toArray]; exact i1.length
  have e2 : its2.toArray.size = ms.length := by rw [List.size_toArray]; exact i2.length
  have at1 : ∀ j (h1 : j < its.toArray.size), ∃ t, its.toArray[j] = .int (ns.getD j 0) t := fun j h1 => PyProof.Rows.IntsAre.int_at i1 _ _ (by simp at h1; simp [h1])
  have at2 : ∀ j (h1 : j < its2.toArray.size), ∃ t, its2.toArray[j] = .int (ms.getD j 0) t := fun j h1 => PyProof.Rows.IntsAre.int_at i2 _ _ (by simp at h1; simp [h1])
  have R := Ob.RcOp.tuples_ge (A := X.A) (s := s) (e := fun j => decide (ns.getD j 0 = ms.getD j 0)) (r := fun j => decide (ns.getD j 0 ≥ ms.getD j 0)) p1 p2 (by omega) (fun j h1 h2 => by
    obtain ⟨t, et⟩ := at1 j h1
    obtain ⟨t', et'⟩ := at2 j h2
    rw [et, et']
    have z : (ns.getD j 0 == ms.getD j 0) = decide (ns.getD j 0 = ms.getD j 0) := by
      by_cases q : ns.getD j 0 = ms.getD j 0
      · rw [decide_eq_true q]; exact beq_iff_eq.mpr q
      · rw [decide_eq_false q]; exact beq_eq_false_iff_ne.mpr q
    rw [← z]
    exact SeqAt.EqAt.int_int _ _ _ _) (fun j h1 h2 _ => by
    obtain ⟨t, et⟩ := at1 j h1
    obtain ⟨t', et'⟩ := at2 j h2
    rw [et, et']
    exact Ob.RcOp.ge_int _ _ _ _)
  rw [e1, e2] at R
  have z : wpAny (model X.prog X.w) X.A (compareOp .GtE (.ref a) (.ref b)) (EP X pins σ Q) X.xe s := R X.prog X.w X.xe (EP X pins σ Q) ⟨.bl _, H, I, rfl, q⟩
  exact z
section
variable {S : Cf} {ρ : Rho} {te ta tb tc : TE} {P : Oc → Prop} {w : TS}
theorem ev_geT {ns ms : List Int} (ha : Ev S ta ρ (Eq (.dat (.tuple (ns.map PyData.int))))) (hb : Ev S tb ρ (Eq (.dat (.tuple (ms.map PyData.int))))) : Ev S (tOp (rGeT S.K) ta tb) ρ (Eq (.dat (.bool (geI ns ms)))) := fun σ G H k e Q q =>
  ha σ G H k e _ fun v s G1 H1 g1 k1 es r => hb σ G1 H1 k1 (e.grow g1) _ fun u s2 G2 H2 g2 k2 es2 r2 => by
    subst es es2
    have r := r.mono g2.gg
    cases r with
    | tup hs ra =>
      cases r2 with
      | tup hs2 rb =>
        have x1 := ra.ints
        have x2 := rb.ints
        subst x1 x2
        exact ⟨_, _, ns, ms, rfl, rfl, sameT k2.gh hs, sameT k2.gh hs2, q _ _ G2 H2 (g1.trans k1 k2 g2) k2 rfl (.bl _)⟩
/-! ### o.m(xs.pop()) -/
theorem pop_meth {C : Addr} {m : Str} {sp : Sp} {E : XK} {i j : Nat} {oa : Option Addr} {fs : Fs} {a : Addr} {n : Int} {ns : List Int} {σ : L2.St} {G H : Hp} (hs : ρ[i]? = some (.ob oa C fs)) (lm : fs.lookup m = none) (hw : ρ[j]? = some (.own a (.lst ((ns ++ [n]).map PyData.int)))) (o : OkS S G H) (e : Env S G H σ ρ) :
    ∃ H', OkS S G H' ∧ Env S G H' σ (ρ.set j (.own a (.lst (ns.map PyData.int)))) ∧ ∀ Q, tMeth C m sp [] E (tVar i) (tCons (tC (.int n)) tNil) σ H' Q → tMeth C m sp [] E (tVar i) (tCons (tBM0 S.K "list" rPop (tVar j)) tNil) σ H Q := by
  obtain ⟨v, h1, e1, ga, ba, va, u, ha, r⟩ := e.get hw
  cases Option.some.inj e1
  cases u with
  | lst vs =>
    have ev : vs = (ns ++ [n]).map V.int := RA.ints r
    subst ev
    have r' : MoOk S.K G (.lst (ns.map V.int)) (.lst (ns.map PyData.int)) := RA.of_ints ns
    obtain ⟨o2, e2⟩ := own_write (u' := .lst (ns.map V.int)) (m' := .lst (ns.map PyData.int)) o e hw r'
    refine ⟨_, o2, e2, fun Q q => ?_⟩
    obtain ⟨vo, h2, w0, e0, x, dx, vf, ex, hg, fa, _⟩ := e.get hs
    cases e0
    subst ex
    obtain ⟨v1, h3, a0, dx0, fs0, ea, hf, lk, q⟩ := q
    rw [h2] at h3
    cases h3
    cases ea
    refine ⟨_, h2, x, dx, vf, rfl, o.kn.gh _ _ hg, fa.lookN lm, _, h1, .inl ⟨rfl, _, SqL.of ha⟩, a, (ns ++ [n]).map V.int, .int n, rfl, rfl, ha, by simp, ?_⟩
    have : ((ns ++ [n]).map V.int).dropLast = ns.map V.int := by simp
    rw [this]
    exact q
  | _ => exact r.elim
theorem xc_forPop {C : Addr} {m : Str} {sp : Sp} {E : XK} {i j : Nat} {oa : Option Addr} {fs : Fs} {a : Addr} {n : Int} {ns : List Int} {g : TG} {tb : TS} (hs : ρ[i]? = some (.ob oa C fs)) (lm : fs.lookup m = none) (hw : ρ[j]? = some (.own a (.lst ((ns ++ [n]).map PyData.int))))
    (hx : Xc S (tFor (iList S.K (tMeth C m sp [] E (tVar i) (tCons (tC (.int n)) tNil))) g tb) (ρ.set j (.own a (.lst (ns.map PyData.int)))) P) : Xc S (tFor (iList S.K (tMeth C m sp [] E (tVar i) (tCons (tBM0 S.K "list" rPop (tVar j)) tNil))) g tb) ρ P := fun σ G H De o e f => by
  obtain ⟨H', o2, e2, q⟩ := pop_meth (m := m) (sp := sp) (E := E) (n := n) (ns := ns) hs lm hw o e
  exact q _ (hx σ G H' De o2 e2 f)
end
/-! ### a, b = a list of two -/
def gLst (K : PySem.W.Frag) (n : Nat) (t : TGs) : TG := fun v σ H Q => ∃ a xs, v = .ref a ∧ SqL K H a xs ∧ xs.length = n ∧ t xs σ H Q
theorem pg_lst {X : Cx} {K : PySem.W.Frag} {es : List Expr} {k : Nat} {t : TGs} {n : Nat} {pos : Pos} (hK : X.K = K) (hc : X.calm = true) (h : PGs X es t)
    (hn : (assignEach es X.env).length = n := by rfl) (hst : (assignEach es X.env).findIdx? (·.1) = none := by rfl) : PG X (.Tuple es k pos) (gLst K n t) := by
  subst hK
  refine ⟨fun pins s σ H v u Q I r hw => ?_⟩
  obtain ⟨a, xs, e1, hq, hl, hw⟩ := hw
  subst e1
  cases r
  obtain ⟨its, rv, ht, hz⟩ := I.list hq
  rw [PyProof.Rows.assign_Tuple]
  refine wpAny_bind (wpAny_standAt ?_)
  unfold unpack
  have e1 : (assignEach es X.env).length = its.toArray.size := by simp [hn, ← hl, rv.length]
  rw [e1, hst]
  refine wpAny_bind (wpAny_holding (PySem.W.kun_itemsOf (I.ok.hd hc) ht.isList fun h' hx => ?_))
  have I1 : Inv X pins σ H { s with heap := h' } := I.kept (t' := s.toks) fun b o e => hx b o (Nat.ne_of_lt (Heap.lt_size e)) e
  exact h.run pins _ σ H xs _ Q I1 (by simpa using rv) hw
theorem tg_lst {S : Cf} {ρ ρ1 : Rho} {gs : TGs} {js : List Nat} {ds : List D} {n : Nat} (h : Tgts S gs js ds ρ ρ1) (hn : ds.length = n := by rfl) : Tgt S (gLst S.K n gs) js (.list ds) ρ ρ1 := fun σ G H v k e r Q q => by
  cases r with
  | lst hs ra => exact ⟨_, _, rfl, k.gh.seq hs, by rw [ra.length]; exact hn, h σ G H _ k e ra Q q⟩
theorem tg_two' {S : Cf} {ρ : Rho} {i j : Nat} {a b : D} : Tgt S (gLst S.K 2 (gCons (gName i) (gCons (gName j) gNil))) [i, j] (.list [a, b]) ρ ((ρ.set i (.dat a)).set j (.dat b)) := tg_lst (js := [i, j]) (tgs_cons (js := [i]) tg_name (tgs_cons (js := [j]) tg_name tgs_nil))
end Dl

set_option Elab.async false
set_option linter.all false
set_option maxRecDepth 100000
set_option maxHeartbeats 4000000
/-! Dlp: lists just made, told by two or three names. -/
namespace Dl
open PySem PySem.Spec PyProof.Rows L2 LamX RZ
section
variable {S : Cf} {ρ : Rho} {te ta tb tc : TE} {P : Oc → Prop} {w : TS} {i j l : Nat}
theorem EvF.toQ {ds : List D} (h : EvF S te ρ (Eq ds)) : EvQ S te ρ (fun _ => .lst ds) := fun σ G H k e Q q => h σ G H k e _ fun p vs ds' G' H' g k' n1 n2 hp r pd => by
  subst pd
  exact q p (.lst vs) G' H' g k' n1 n2 hp r
theorem ef_lst1P {p : D → Prop} (h : Ev S te ρ (fun s => ∃ d, s = .dat d ∧ p d)) : EvF S (tLst (tCons te tNil)) ρ (fun ds => ∃ d, ds = [d] ∧ p d) := fun σ G H k e Q q =>
  h σ G H k e _ fun v s G1 H1 g1 k1 ⟨d, es, pd⟩ r1 => by
    subst es
    refine ⟨sz_ok (by show 1 ≤ 1000000; omega), fun p hp => ?_⟩
    have s2 : Same H1 (upd H1 p (.lst [v])) := same_new hp
    exact q p [v] [d] G1 _ (g1.trans k1 (k1.same s2) (Grow.same k1 s2)) (k1.same s2) (fresh_of g1 k1 hp) (k1.freeG hp) upd_same (.cons r1 .nil) ⟨d, rfl, pd⟩
/-- a, b = [..], [..], a tuple between -/
theorem xc_asg2F {p q : List D → Prop} (ha : EvF S ta ρ p) (hb : EvF S tb ρ q) (hij : i ≠ j) (hs : ∀ a b ds es, p ds → q es → P (.nx ((ρ.set i (.own a (.lst ds))).set j (.own b (.lst es))))) :
    Xc S (tAsg (tTup (tCons ta (tCons tb tNil))) (gTup S.K 2 (gCons (gName i) (gCons (gName j) gNil)))) ρ P := fun σ G H De o e f =>
  ha σ G H o.kn e _ fun a vs ds G1 H1 g1 k1 n1 m1 hp r pd => by
    have o1 := o.grow g1 k1
    have e1 := e.grow g1
    refine hb σ G1 H1 k1 e1 _ fun b us es G2 H2 g2 k2 n2 m2 hq r2 qd => ?_
    refine ⟨sz_ok (by show 2 ≤ 1000000; omega), fun t ht => ?_⟩
    have s3 : Same H2 (upd H2 t (.tup [.ref a, .ref b])) := same_new ht
    have g3 : Grow S.fx G2 H2 G2 (upd H2 t (.tup [.ref a, .ref b])) := Grow.same k2 s3
    have k3 := k2.same s3
    have g := (g1.trans k1 k2 g2).trans k2 k3 g3
    have ea : (.own a (.lst ds) : Sl).holds = some (a, .lst ds) := rfl
    have va : ¬ S.fx.vol a := o.kn.fresh n1
    have vb : ¬ S.fx.vol b := k1.fresh n2
    have hab : b ≠ a := fun q => by
      rw [q, hp] at n2
      cases n2
    have ha3 : (upd H2 t (.tup [.ref a, .ref b])) a = some (.lst vs) := s3 _ _ (g2.hh a _ va hp)
    have hb3 : (upd H2 t (.tup [.ref a, .ref b])) b = some (.lst us) := s3 _ _ hq
    have ga3 : G2 a = none := g2.nn a _ hp (fun z => z) m1
    have x1 := (e.grow g).put i (some (.ref a)) (.own a (.lst ds)) ⟨rfl, ga3, .inl (o.freshB n1), va, _, ha3, (r.mono g2.gg : RA S.K G2 vs ds)⟩ fun c m z j t m' nj hj => e.new_none (i := i) (s := .own a (.lst ds)) n1 rfl z hj m'
    have x2 := x1.put j (some (.ref b)) (.own b (.lst es)) ⟨rfl, m2, .inl (o1.freshB n2), vb, _, hb3, r2⟩ fun c m z l t m' nl hl => by
      rcases set_get hl with ⟨_, et⟩ | ⟨_, hl⟩
      · subst et
        intro z2
        cases z
        cases z2
        exact hab rfl
      · exact e1.new_none (i := j) (s := .own b (.lst es)) n2 rfl z hl m'
    refine ⟨t, _, rfl, SqT.of upd_same, rfl, _, _, rfl, _, _, rfl, rfl, ?_⟩
    exact f.nx _ G2 _ _ (o.grow g k3) g.gg x2 (hs a b ds es pd qd)
theorem xs_asg2F {p q : List D → Prop} (ha : EvF S ta ρ p) (hb : EvF S tb ρ q) (hij : i ≠ j) (hs : ∀ a b ds es, p ds → q es → Xc S w ((ρ.set i (.own a (.lst ds))).set j (.own b (.lst es))) P) :
    Xc S (tSeq (tAsg (tTup (tCons ta (tCons tb tNil))) (gTup S.K 2 (gCons (gName i) (gCons (gName j) gNil)))) w) ρ P := xc_seq (xc_asg2F ha hb hij hs)
/-- a, b, c = x, y, what was just made -/
theorem xc_par3Q {x y : Sl} {m : Addr → Mo} (ha : Ev S ta ρ (Eq x)) (hb : Ev S tb ρ (Eq y)) (hc : EvQ S tc ρ m) (hs : ∀ p, P (.nx (((ρ.set i x).set j y).set l (.own p (m p))))) : Xc S (tPar3 i j l (tCons ta (tCons tb (tCons tc tNil)))) ρ P := fun σ G H De o e f =>
  ha σ G H o.kn e _ fun v s G1 H1 g1 k1 es1 r1 => hb σ G1 H1 k1 (e.grow g1) _ fun u s2 G2 H2 g2 k2 es2 r2 => by
    subst es1 es2
    have g12 := g1.trans k1 k2 g2
    have o2 := o.grow g12 k2
    have e2 := e.grow g12
    refine hc σ G2 H2 k2 e2 _ fun p z G3 H3 g3 k3 n1 n2 hp r => ?_
    have g := g12.trans k2 k3 g3
    have x1 := ((e.grow g).set i (r1.mono (g2.gg.trans g3.gg))).set j (r2.mono g3.gg)
    have hh : ∀ (c : Addr) (m' m'' : Mo), (Sl.own p (m p)).holds = some (c, m') → ∀ (k : Nat) (t : Sl), ρ[k]? = some t → t.holds ≠ some (c, m'') := fun c m' m'' hz k t hk => e2.new_none (i := l) (s := .own p (m p)) n1 rfl hz hk m''
    have x2 := x1.put l (some (.ref p)) (.own p (m p)) ⟨rfl, n2, .inl (o2.freshB n1), k2.fresh n1, _, hp, r⟩ fun c m' hz k t m'' nk hk => by
      rcases set_get hk with ⟨_, et⟩ | ⟨_, hk⟩
      · subst et
        intro z2
        cases t <;> first | exact r2.elim | cases z2
      · rcases set_get hk with ⟨_, et⟩ | ⟨_, hk⟩
        · subst et
          intro z2
          cases t <;> first | exact r1.elim | cases z2
        · exact hh c m' m'' hz k t hk
    exact ⟨_, _, _, rfl, f.nx _ G3 H3 _ (o.grow g k3) g.gg x2 (hs p)⟩
theorem xs_par3Q {x y : Sl} {m : Addr → Mo} (ha : Ev S ta ρ (Eq x)) (hb : Ev S tb ρ (Eq y)) (hc : EvQ S tc ρ m) (hs : ∀ p, Xc S w (((ρ.set i x).set j y).set l (.own p (m p))) P) : Xc S (tSeq (tPar3 i j l (tCons ta (tCons tb (tCons tc tNil)))) w) ρ P := xc_seq (xc_par3Q ha hb hc hs)
/-! ### displays of values not told -/
def EaP (S : Cf) (ta : TA) (ρ : Rho) (p : List D → Prop) : Prop := EvA S ta ρ (fun ss => ∃ ds : List D, ss = ds.map Sl.dat ∧ ds.length ≤ 1000 ∧ p ds)
theorem eap_nil : EaP S tNil ρ (fun ds => ds = []) := ea_nil.imp fun ss e => ⟨[], e.symm, by simp, rfl⟩
theorem eap_cons {tr : TA} {p : D → Prop} {q r : List D → Prop} (ha : Ev S ta ρ (fun s => ∃ d, s = .dat d ∧ p d)) (hr : EaP S tr ρ q) (h : ∀ d ds, p d → q ds → r (d :: ds) ∧ ds.length < 1000) : EaP S (tCons ta tr) ρ r := ea_consP ha hr fun x xs ⟨d, e, pd⟩ ⟨ds, e2, _, qd⟩ => ⟨d :: ds, by rw [e, e2]; rfl, by
  have := (h d ds pd qd).2
  rw [List.length_cons]
  omega, (h d ds pd qd).1⟩
theorem eap_tup {tr : TA} {r : List D → Prop} (h : EaP S tr ρ r) : Ev S (tTup tr) ρ (fun s => ∃ ds, s = .dat (.tuple ds) ∧ r ds) := ev_tupP (h.imp fun ss ⟨ds, e, hl, rd⟩ => ⟨ds, e, by omega, rd⟩)
theorem eap_lst {tr : TA} {r : List D → Prop} (h : EaP S tr ρ r) : Ev S (tLst tr) ρ (fun s => ∃ ds, s = .dat (.list ds) ∧ r ds) := fun σ G H k e Q q =>
  h σ G H k e _ fun vs ss G1 H1 g1 k1 ⟨ds, p1, hl, rd⟩ r1 => by
    subst p1
    have ra := r1.toRA
    refine ⟨sz_ok (by rw [ra.length]; omega), fun p hp => ?_⟩
    have g2 := Grow.new k1 (.lst vs) hp
    have k2 := Kn.new k1 (.lst vs) hp
    exact q _ _ _ _ (g1.trans k1 k2 g2) k2 ⟨ds, rfl, rd⟩ (.lst (SqL.of upd_same) (ra.mono g2.gg))
theorem Ev.toP {d : D} {p : D → Prop} (h : Ev S te ρ (Eq (.dat d))) (hp : p d) : Ev S te ρ (fun s => ∃ d, s = .dat d ∧ p d) := h.imp fun s e => ⟨d, e.symm, hp⟩
/-- [a, b], (a, b) -/
theorem ev_lst2P {p q : D → Prop} (ha : Ev S ta ρ (fun s => ∃ d, s = .dat d ∧ p d)) (hb : Ev S tb ρ (fun s => ∃ d, s = .dat d ∧ q d)) : Ev S (tLst (tCons ta (tCons tb tNil))) ρ (fun s => ∃ ds, s = .dat (.list ds) ∧ ∃ x y, ds = [x, y] ∧ p x ∧ q y) :=
  eap_lst (eap_cons ha (eap_cons (q := fun ds => ds = []) (r := fun ds => ∃ y, ds = [y] ∧ q y) hb eap_nil fun d ds qd e => ⟨⟨d, by rw [e], qd⟩, by rw [e]; simp⟩) fun d ds pd ⟨y, e, qy⟩ => ⟨⟨d, y, by rw [e], pd, qy⟩, by rw [e]; simp⟩)
theorem ev_tup2P {p q : D → Prop} (ha : Ev S ta ρ (fun s => ∃ d, s = .dat d ∧ p d)) (hb : Ev S tb ρ (fun s => ∃ d, s = .dat d ∧ q d)) : Ev S (tTup (tCons ta (tCons tb tNil))) ρ (fun s => ∃ ds, s = .dat (.tuple ds) ∧ ∃ x y, ds = [x, y] ∧ p x ∧ q y) :=
  eap_tup (eap_cons ha (eap_cons (q := fun ds => ds = []) (r := fun ds => ∃ y, ds = [y] ∧ q y) hb eap_nil fun d ds qd e => ⟨⟨d, by rw [e], qd⟩, by rw [e]; simp⟩) fun d ds pd ⟨y, e, qy⟩ => ⟨⟨d, y, by rw [e], pd, qy⟩, by rw [e]; simp⟩)
/-- t + u, u not told -/
theorem opd_catA {ds es : List D} (hl : ds.length + es.length ≤ 1000000) : OpD S (rCatA S.K) (.dat (.tuple ds)) (.dat (.tuple es)) (Eq (.dat (.tuple (ds ++ es)))) := fun G H v w k rx ry Q q => by
    have rx0 := rx
    have ry0 := ry
    cases rx with
    | @tup _ xs _ hs1 r1 =>
      cases ry with
      | @tup _ ys _ hs2 r2 =>
        refine ⟨_, _, _, _, rfl, rfl, sameT k.gh hs1, sameT k.gh hs2, sz_ok (by rw [r1.length, r2.length]; exact hl), fun e => ?_, fun _ e => ?_, fun _ _ p hp => ?_⟩
        · subst e
          cases r1
          exact q _ _ G H (Grow.refl k) k rfl ry0
        · subst e
          cases r2
          exact q _ _ G H (Grow.refl k) k (by rw [List.append_nil]) rx0
        · have g2 := Grow.new k (.tup (xs ++ ys)) hp
          have k2 := Kn.new k (.tup (xs ++ ys)) hp
          exact q _ _ _ _ g2 k2 rfl (.tup (SqT.of upd_same) ((r1.mono g2.gg).append (r2.mono g2.gg)))
theorem ev_catAP {ds : List D} {p : List D → Prop} (ha : Ev S ta ρ (Eq (.dat (.tuple ds)))) (hb : Ev S tb ρ (fun s => ∃ es, s = .dat (.tuple es) ∧ p es)) (hl : ∀ es, p es → ds.length + es.length ≤ 1000000) : Ev S (tOp (rCatA S.K) ta tb) ρ (fun s => ∃ es, s = .dat (.tuple (ds ++ es)) ∧ p es) :=
  ev_op ha hb fun x y ex ⟨es, ey, pe⟩ => by
    subst ex ey
    intro G H v w k rx ry Q q
    exact opd_catA (S := S) (hl es pe) G H v w k rx ry Q fun z s G' H' g k' e r => q z s G' H' g k' ⟨es, e.symm, pe⟩ r
/-- sorted of a list not told -/
theorem ev_sortP {p : List D → Prop} (h : Ev S te ρ (fun s => ∃ ds, s = .dat (.list ds) ∧ p ds)) (m : ∀ ds, p ds → SortOk ds) : Ev S (tCB (rSortD S.K) (tCons te tNil)) ρ (fun s => ∃ d, s = .dat d ∧ ∃ ds, d = .list (srtD ds) ∧ p ds) := fun σ G H k e Q q =>
  h σ G H k e _ fun v s G1 H1 g1 k1 ⟨ds, es, pd⟩ r1 => by
    subst es
    cases r1 with
    | lst hs ra => exact srt_go k1 (.inl (k1.gh.seq hs)) ra (m ds pd) fun v G2 H2 g2 k2 r => q v _ G2 H2 (g1.trans k1 k2 g2) k2 ⟨_, rfl, ds, rfl, pd⟩ r
end
end Dl

set_option Elab.async false
set_option linter.all false
set_option maxRecDepth 100000
set_option maxHeartbeats 4000000
/-! Dlz: kinds of data, and what follows of a kind. -/
namespace Dl
open PySem PySem.Spec PyProof.Rows L2 LamX RZ
/-- kinds: any int; a small int; a bool; None; a text of at most k signs; a list, a tuple of at most k of a kind; a tuple of kinds -/
inductive Sc where
  | z
  | i
  | b
  | n
  | s (k : Nat)
  | l (k : Nat) (t : Sc)
  | u (k : Nat) (t : Sc)
  | t (ts : List Sc)
mutual
def okS : PyData → Sc → Bool
  | .int _, .z => true
  | .int x, .i => decide (x.natAbs < 10 ^ 18)
  | .bool _, .b => true
  | .none, .n => true
  | .str x, .s k => decide (x.length ≤ k) && x.cps.toList.all fun c => decide (c < 0x110000)
  | .list ds, .l k t => decide (ds.length ≤ k) && okL ds t
  | .tuple ds, .u k t => decide (ds.length ≤ k) && okL ds t
  | .tuple ds, .t ts => okTs ds ts
  | _, _ => false
def okL : List PyData → Sc → Bool
  | [], _ => true
  | d :: ds, t => okS d t && okL ds t
def okTs : List PyData → List Sc → Bool
  | [], [] => true
  | d :: ds, t :: ts => okS d t && okTs ds ts
  | _, _ => false
end
mutual
def dpS : Sc → Nat
  | .l _ t => dpS t + 1
  | .u _ t => dpS t + 1
  | .t ts => dpT ts + 1
  | _ => 0
def dpT : List Sc → Nat
  | [] => 0
  | t :: ts => max (dpS t) (dpT ts)
end
mutual
/-- no longer than so when shown -/
def lnS : Sc → Nat
  | .z => 0
  | .i => 19
  | .b => 5
  | .n => 4
  | .s k => 10 * k + 2
  | .l k t => k * (lnS t + 2) + 3
  | .u k t => k * (lnS t + 2) + 3
  | .t ts => lnT ts + 3
def lnT : List Sc → Nat
  | [] => 0
  | t :: ts => lnS t + 2 + lnT ts
end
mutual
/-- no int of any size within -/
def nzS : Sc → Bool
  | .z => false
  | .l _ t => nzS t
  | .u _ t => nzS t
  | .t ts => nzT ts
  | _ => true
def nzT : List Sc → Bool
  | [] => true
  | t :: ts => nzS t && nzT ts
end
mutual
/-- rows within are no longer than so -/
def szS : Sc → Nat
  | .l k t => max k (szS t)
  | .u k t => max k (szS t)
  | .t ts => max (ts.length) (szT ts)
  | _ => 0
def szT : List Sc → Nat
  | [] => 0
  | t :: ts => max (szS t) (szT ts)
end
theorem okL_iff {ds : List PyData} {t : Sc} : okL ds t = true ↔ ∀ d ∈ ds, okS d t = true := by
  induction ds with
  | nil => simp [okL]
  | cons d ds ih => simp [okL, ih]
theorem okL_map {α : Type} {l : List α} {f : α → D} {t : Sc} (h : ∀ x ∈ l, okS (f x) t = true) : okL (l.map f) t = true := okL_iff.mpr fun d hd => by
  obtain ⟨x, hx, rfl⟩ := List.mem_map.mp hd
  exact h x hx
theorem okS_l {ds : List D} {k : Nat} {t : Sc} (h : ds.length ≤ k) (h2 : ∀ d ∈ ds, okS d t = true) : okS (.list ds) (.l k t) = true := by
  simp [okS, h, okL_iff.mpr h2]
theorem okS_u {ds : List D} {k : Nat} {t : Sc} (h : ds.length ≤ k) (h2 : ∀ d ∈ ds, okS d t = true) : okS (.tuple ds) (.u k t) = true := by
  simp [okS, h, okL_iff.mpr h2]
theorem okS_lm {α : Type} {l : List α} {f : α → D} {k : Nat} {t : Sc} (h : l.length ≤ k) (h2 : ∀ x ∈ l, okS (f x) t = true) : okS (.list (l.map f)) (.l k t) = true := okS_l (by rw [List.length_map]; exact h) (okL_iff.mp (okL_map h2))
theorem okS_um {α : Type} {l : List α} {f : α → D} {k : Nat} {t : Sc} (h : l.length ≤ k) (h2 : ∀ x ∈ l, okS (f x) t = true) : okS (.tuple (l.map f)) (.u k t) = true := okS_u (by rw [List.length_map]; exact h) (okL_iff.mp (okL_map h2))
theorem okTs_len : ∀ {ds : List PyData} {ts : List Sc}, okTs ds ts = true → ds.length = ts.length
  | [], [], _ => rfl
  | d :: ds, t :: ts, h => by
    simp only [okTs, Bool.and_eq_true] at h
    simp [okTs_len h.2]
  | [], _ :: _, h => by simp [okTs] at h
  | _ :: _, [], h => by simp [okTs] at h
mutual
theorem okS_lay : ∀ {d : PyData} {t : Sc}, okS d t = true → d.canLay0 = true
  | .int _, _, _ => rfl
  | .bool _, _, _ => rfl
  | .none, _, _ => rfl
  | .str x, .s k, h => by
    simp only [okS, Bool.and_eq_true] at h
    show PyData.strOk x = true
    unfold PyData.strOk
    rw [Array.all_eq_true']
    intro c hc
    exact List.all_eq_true.mp h.2 c (by simpa using hc)
  | .list ds, .l k t, h => by
    simp only [okS, Bool.and_eq_true] at h
    simpa only [PyData.canLay0] using okL_lay h.2
  | .tuple ds, .u k t, h => by
    simp only [okS, Bool.and_eq_true] at h
    simpa only [PyData.canLay0] using okL_lay h.2
  | .tuple ds, .t ts, h => by
    simp only [okS] at h
    simpa only [PyData.canLay0] using okTs_lay h
theorem okL_lay : ∀ {ds : List PyData} {t : Sc}, okL ds t = true → PyData.canLayAll0 ds = true
  | [], _, _ => rfl
  | d :: ds, t, h => by
    simp only [okL, Bool.and_eq_true] at h
    simp [PyData.canLayAll0, okS_lay h.1, okL_lay h.2]
theorem okTs_lay : ∀ {ds : List PyData} {ts : List Sc}, okTs ds ts = true → PyData.canLayAll0 ds = true
  | [], _, _ => rfl
  | d :: ds, [], h => by simp [okTs] at h
  | d :: ds, t :: ts, h => by
    simp only [okTs, Bool.and_eq_true] at h
    simp [PyData.canLayAll0, okS_lay h.1, okTs_lay h.2]
end
theorem okS_nd {d : PyData} {t : Sc} (h : okS d t = true) : d.hasDict = false := PyData.hasDict_of_canLay d (okS_lay h)
theorem okL_nd : ∀ {ds : List PyData} {t : Sc}, okL ds t = true → PyData.hasDictAll ds = false
  | [], _, _ => rfl
  | d :: ds, t, h => by
    simp only [okL, Bool.and_eq_true] at h
    simp [PyData.hasDictAll, okS_nd h.1, okL_nd h.2]
mutual
theorem okS_dp : ∀ {d : PyData} {t : Sc}, okS d t = true → d.depth ≤ dpS t
  | .int _, _, _ => Nat.zero_le _
  | .bool _, _, _ => Nat.zero_le _
  | .none, _, _ => Nat.zero_le _
  | .str x, _, h => Nat.zero_le _
  | .list ds, .l k t, h => by
    simp only [okS, Bool.and_eq_true] at h
    simpa only [PyData.depth, dpS] using Nat.succ_le_succ (okL_dp h.2)
  | .tuple ds, .u k t, h => by
    simp only [okS, Bool.and_eq_true] at h
    simpa only [PyData.depth, dpS] using Nat.succ_le_succ (okL_dp h.2)
  | .tuple ds, .t ts, h => by
    simp only [okS] at h
    simpa only [PyData.depth, dpS] using Nat.succ_le_succ (okTs_dp h)
theorem okL_dp : ∀ {ds : List PyData} {t : Sc}, okL ds t = true → PyData.depthAll ds ≤ dpS t
  | [], _, _ => Nat.zero_le _
  | d :: ds, t, h => by
    simp only [okL, Bool.and_eq_true] at h
    simp only [PyData.depthAll]
    exact Nat.max_le.mpr ⟨okS_dp h.1, okL_dp h.2⟩
theorem okTs_dp : ∀ {ds : List PyData} {ts : List Sc}, okTs ds ts = true → PyData.depthAll ds ≤ dpT ts
  | [], _, _ => Nat.zero_le _
  | d :: ds, [], h => by simp [okTs] at h
  | d :: ds, t :: ts, h => by
    simp only [okTs, Bool.and_eq_true] at h
    simp only [PyData.depthAll, dpT]
    exact Nat.max_le.mpr ⟨Nat.le_trans (okS_dp h.1) (Nat.le_max_left _ _), Nat.le_trans (okTs_dp h.2) (Nat.le_max_right _ _)⟩
end
mutual
theorem okS_alike : ∀ {d e : PyData} {t : Sc}, okS d t = true → okS e t = true → PySem.W.alike d e = true
  | .int _, e, t, h, h' => by cases t <;> simp [okS] at h <;> cases e <;> simp [okS] at h' <;> rfl
  | .bool _, e, t, h, h' => by cases t <;> simp [okS] at h <;> cases e <;> simp [okS] at h' <;> rfl
  | .none, e, t, h, h' => by cases t <;> simp [okS] at h <;> cases e <;> simp [okS] at h' <;> rfl
  | .str x, e, t, h, h' => by cases t <;> simp [okS] at h <;> cases e <;> simp [okS] at h' <;> rfl
  | .list ds, e, .l k t, h, h' => by
    cases e <;> simp [okS] at h'
    simp only [okS, Bool.and_eq_true] at h
    simpa only [PySem.W.alike] using okL_alike h.2 h'.2
  | .tuple ds, e, .u k t, h, h' => by
    cases e <;> simp [okS] at h'
    simp only [okS, Bool.and_eq_true] at h
    simpa only [PySem.W.alike] using okL_alike h.2 h'.2
  | .tuple ds, e, .t ts, h, h' => by
    cases e <;> simp [okS] at h'
    simp only [okS] at h
    simpa only [PySem.W.alike] using okTs_alike h h'
theorem okL_alike : ∀ {ds es : List PyData} {t : Sc}, okL ds t = true → okL es t = true → PySem.W.alikeAll ds es = true
  | [], _, _, _, _ => by simp [PySem.W.alikeAll]
  | _ :: _, [], _, _, _ => by simp [PySem.W.alikeAll]
  | d :: ds, e :: es, t, h, h' => by
    simp only [okL, Bool.and_eq_true] at h h'
    simp [PySem.W.alikeAll, okS_alike h.1 h'.1, okL_alike h.2 h'.2]
theorem okTs_alike : ∀ {ds es : List PyData} {ts : List Sc}, okTs ds ts = true → okTs es ts = true → PySem.W.alikeAll ds es = true
  | [], _, _, _, _ => by simp [PySem.W.alikeAll]
  | _ :: _, [], _, _, _ => by simp [PySem.W.alikeAll]
  | d :: ds, e :: es, [], h, h' => by simp [okTs] at h
  | d :: ds, e :: es, t :: ts, h, h' => by
    simp only [okTs, Bool.and_eq_true] at h h'
    simp [PySem.W.alikeAll, okS_alike h.1 h'.1, okTs_alike h.2 h'.2]
end
mutual
theorem okS_eqv : ∀ {d e : PyData} {t : Sc}, okS d t = true → okS e t = true → (PyData.eqv d e = true ↔ d = e)
  | .int _, e, t, h, h' => by cases t <;> simp [okS] at h <;> cases e <;> simp [okS] at h' <;> simp [PyData.eqv]
  | .bool _, e, t, h, h' => by cases t <;> simp [okS] at h <;> cases e <;> simp [okS] at h' <;> simp [PyData.eqv]
  | .none, e, t, h, h' => by cases t <;> simp [okS] at h <;> cases e <;> simp [okS] at h' <;> simp [PyData.eqv]
  | .str x, e, t, h, h' => by cases t <;> simp [okS] at h <;> cases e <;> simp [okS] at h' <;> simp [PyData.eqv]
  | .list ds, e, .l k t, h, h' => by
    cases e <;> simp [okS] at h'
    simp only [okS, Bool.and_eq_true] at h
    simpa only [PyData.eqv, PyData.list.injEq] using okL_eqv h.2 h'.2
  | .tuple ds, e, .u k t, h, h' => by
    cases e <;> simp [okS] at h'
    simp only [okS, Bool.and_eq_true] at h
    simpa only [PyData.eqv, PyData.tuple.injEq] using okL_eqv h.2 h'.2
  | .tuple ds, e, .t ts, h, h' => by
    cases e <;> simp [okS] at h'
    simp only [okS] at h
    simpa only [PyData.eqv, PyData.tuple.injEq] using okTs_eqv h h'
theorem okL_eqv : ∀ {ds es : List PyData} {t : Sc}, okL ds t = true → okL es t = true → (PyData.eqvAll ds es = true ↔ ds = es)
  | [], [], _, _, _ => by simp [PyData.eqvAll]
  | [], _ :: _, _, _, _ => by simp [PyData.eqvAll]
  | _ :: _, [], _, _, _ => by simp [PyData.eqvAll]
  | d :: ds, e :: es, t, h, h' => by
    simp only [okL, Bool.and_eq_true] at h h'
    simp only [PyData.eqvAll, Bool.and_eq_true, okS_eqv h.1 h'.1, okL_eqv h.2 h'.2, List.cons.injEq]
theorem okTs_eqv : ∀ {ds es : List PyData} {ts : List Sc}, okTs ds ts = true → okTs es ts = true → (PyData.eqvAll ds es = true ↔ ds = es)
  | [], [], _, _, _ => by simp [PyData.eqvAll]
  | [], _ :: _, _, _, _ => by simp [PyData.eqvAll]
  | _ :: _, [], _, _, _ => by simp [PyData.eqvAll]
  | d :: ds, e :: es, [], h, h' => by simp [okTs] at h
  | d :: ds, e :: es, t :: ts, h, h' => by
    simp only [okTs, Bool.and_eq_true] at h h'
    simp only [PyData.eqvAll, Bool.and_eq_true, okS_eqv h.1 h'.1, okTs_eqv h.2 h'.2, List.cons.injEq]
end
mutual
theorem okS_show : ∀ {d : PyData} {t : Sc}, okS d t = true → nzS t = true → d.showable = true ∧ d.shown.length ≤ lnS t
  | .int x, t, h, h' => by
    cases t <;> simp [okS] at h <;> simp [nzS] at h'
    refine ⟨?_, ?_⟩
    · simp only [PyData.showable, decide_eq_true_eq]
      rcases Nat.eq_zero_or_pos x.natAbs with h0 | h0
      · rw [h0]
        decide
      · refine (Nat.log2_lt (by omega)).mpr (Nat.lt_trans h (by decide))
    · have := PySem.int_text_length_le10 (a := x) (k := 18) (by decide) (by exact h)
      show (Str.ofString (toString x)).length ≤ 19
      have e : (Str.ofString (toString x)).length = (toString x).length := PySem.ofString_length _
      omega
  | .bool b, t, h, _ => by cases t <;> simp [okS] at h; exact ⟨rfl, by cases b <;> decide⟩
  | .none, t, h, _ => by cases t <;> simp [okS] at h; exact ⟨rfl, by decide⟩
  | .str x, .s k, h, _ => by
    simp only [okS, Bool.and_eq_true, decide_eq_true_eq] at h
    refine ⟨rfl, ?_⟩
    have := PySem.StrLaws.reprText_len x fun c hc => by
      have := of_decide_eq_true (List.all_eq_true.mp h.2 c hc)
      omega
    show (reprText x).length ≤ 10 * k + 2
    omega
  | .list ds, .l k t, h, h' => by
    simp only [okS, Bool.and_eq_true, decide_eq_true_eq] at h
    obtain ⟨q1, q2⟩ := okL_show h.2 (by simpa only [nzS] using h')
    refine ⟨by simpa only [PyData.showable] using q1, ?_⟩
    have := listText_len_le (PyData.shownAll ds)
    have e : (PyData.shownAll ds).length = ds.length := PyData.shownAll_length ds
    have e2 : ds.length * (lnS t) ≤ k * lnS t := Nat.mul_le_mul_right _ h.1
    simp only [PyData.shown, lnS]
    rw [Nat.mul_add]
    omega
  | .tuple ds, .u k t, h, h' => by
    simp only [okS, Bool.and_eq_true, decide_eq_true_eq] at h
    obtain ⟨q1, q2⟩ := okL_show h.2 (by simpa only [nzS] using h')
    refine ⟨by simpa only [PyData.showable] using q1, ?_⟩
    have := tupleText_len_le (PyData.shownAll ds)
    have e : (PyData.shownAll ds).length = ds.length := PyData.shownAll_length ds
    have e2 : ds.length * (lnS t) ≤ k * lnS t := Nat.mul_le_mul_right _ h.1
    simp only [PyData.shown, lnS]
    rw [Nat.mul_add]
    omega
  | .tuple ds, .t ts, h, h' => by
    simp only [okS] at h
    obtain ⟨q1, q2⟩ := okTs_show h (by simpa only [nzS] using h')
    refine ⟨by simpa only [PyData.showable] using q1, ?_⟩
    have := tupleText_len_le (PyData.shownAll ds)
    have e : (PyData.shownAll ds).length = ds.length := PyData.shownAll_length ds
    simp only [PyData.shown, lnS]
    omega
theorem okL_show : ∀ {ds : List PyData} {t : Sc}, okL ds t = true → nzS t = true → PyData.showableAll ds = true ∧ ((PyData.shownAll ds).map (·.length)).sum ≤ ds.length * lnS t
  | [], _, _, _ => ⟨rfl, by simp [PyData.shownAll]⟩
  | d :: ds, t, h, h' => by
    simp only [okL, Bool.and_eq_true] at h
    obtain ⟨q1, q2⟩ := okS_show h.1 h'
    obtain ⟨q3, q4⟩ := okL_show h.2 h'
    refine ⟨by simp [PyData.showableAll, q1, q3], ?_⟩
    simp only [PyData.shownAll, List.map_cons, List.sum_cons, List.length_cons, Nat.add_mul]
    omega
theorem okTs_show : ∀ {ds : List PyData} {ts : List Sc}, okTs ds ts = true → nzT ts = true → PyData.showableAll ds = true ∧ ((PyData.shownAll ds).map (·.length)).sum + 2 * ds.length ≤ lnT ts
  | [], _, _, _ => ⟨rfl, by simp [PyData.shownAll]⟩
  | d :: ds, [], h, _ => by simp [okTs] at h
  | d :: ds, t :: ts, h, h' => by
    simp only [okTs, Bool.and_eq_true] at h
    simp only [nzT, Bool.and_eq_true] at h'
    obtain ⟨q1, q2⟩ := okS_show h.1 h'.1
    obtain ⟨q3, q4⟩ := okTs_show h.2 h'.2
    refine ⟨by simp [PyData.showableAll, q1, q3], ?_⟩
    simp only [PyData.shownAll, List.map_cons, List.sum_cons, List.length_cons, lnT]
    omega
end
/-- repr(x) -/
theorem show_sc {d : D} (t : Sc) (h : okS d t = true) (hd : isDisp d = true) (hz : nzS t = true := by decide) (hl : lnS t ≤ 16000000 := by decide) (hp : dpS t ≤ 20 := by decide) : ShowOk d :=
  ⟨hd, .inl (okS_nd h), (okS_show h hz).1, Nat.le_trans (okS_show h hz).2 (Nat.le_trans hl (by decide)), Nat.le_trans (okS_dp h) hp⟩
theorem shaped_sc {d : D} {t : Sc} (h : okS d t = true) (hp : dpS t ≤ 60 := by decide) : SeqAt.shaped d = true := by
  unfold SeqAt.shaped
  rw [okS_lay h, decide_eq_true (Nat.le_trans (okS_dp h) (by omega))]
  rfl
/-- sorted(xs) -/
theorem sort_sc {ds : List D} (t : Sc) (h : ∀ d ∈ ds, okS d t = true) (hs : PySem.W.Sortable ds) (hl : ds.length ≤ 1000000) (hp : dpS t ≤ 20 := by decide) : SortOk ds :=
  ⟨fun d hd e he => okS_alike (h d hd) (h e he), .inl hs, hl, Nat.le_trans (okL_dp (okL_iff.mpr h)) hp, okL_nd (okL_iff.mpr h)⟩
theorem sort_scT {ds : List D} (t : Sc) (ts : List Sc) (h : ∀ d ∈ ds, okS d (.t (t :: ts)) = true) (hl : ds.length ≤ 1000000) (hp : dpS (.t (t :: ts)) ≤ 20 := by decide) : SortOk ds :=
  sort_sc (.t (t :: ts)) h (.inl fun d hd => by
    have := h d hd
    cases d <;> simp [okS] at this
    rename_i es
    cases es with
    | nil => simp [okTs] at this
    | cons x r => exact ⟨x, r, rfl⟩) hl hp
def notTup : Sc → Bool
  | .n => false
  | .u _ _ => false
  | .t _ => false
  | _ => true
theorem sort_scZ {ds : List D} (t : Sc) (h : ∀ d ∈ ds, okS d t = true) (ht : notTup t = true) (hl : ds.length ≤ 1000000) (hp : dpS t ≤ 20 := by decide) : SortOk ds :=
  sort_sc t h (.inr fun d hd => by
    have := h d hd
    cases d <;> cases t <;> simp [okS] at this <;> simp [notTup] at ht
    all_goals exact ⟨by simp, fun xs e => by cases e⟩) hl hp
theorem notN_sc {d : D} {t : Sc} (h : okS d t = true) (ht : t ≠ .n) : d ≠ .none := fun e => by
  subst e
  cases t <;> simp [okS] at h
  exact ht rfl
theorem min_sc {ds : List D} (t : Sc) (h : ∀ d ∈ ds, okS d t = true) (ht : t ≠ .n) (hp : dpS t ≤ 60 := by decide) : MinOk ds :=
  ⟨⟨fun d hd e he => okS_alike (h d hd) (h e he), fun d hd => notN_sc (h d hd) ht⟩, Nat.le_trans (okL_dp (okL_iff.mpr h)) hp, okL_nd (okL_iff.mpr h)⟩
theorem cmp_sc {d e : D} (t : Sc) (h : okS d t = true) (h' : okS e t = true) (ht : t ≠ .n) (hp : dpS t ≤ 60 := by decide) : CmpD d e := ⟨okS_alike h h', notN_sc h ht, Nat.le_trans (okS_dp h) hp, okS_nd h, okS_nd h'⟩
theorem inD_sc {d : D} {ds : List D} {t : Sc} (h : okS d t = true) (hs : ∀ x ∈ ds, okS x t = true) : inD d ds = true ↔ d ∈ ds := by
  unfold inD
  rw [List.any_eq_true]
  constructor
  · rintro ⟨x, hx, e⟩
    rw [(okS_eqv (hs x hx) h).mp e] at hx
    exact hx
  · exact fun hd => ⟨d, hd, (okS_eqv h h).mpr rfl⟩
section
variable {S : Cf} {ρ : Rho} {te ta tb : TE} {d e : D} {ds : List D}
open Classical in
theorem ev_eqSc (t : Sc) (ha : Ev S ta ρ (Eq (.dat d))) (hb : Ev S tb ρ (Eq (.dat e))) (h : okS d t = true) (h' : okS e t = true) (hp : dpS t ≤ 60 := by decide) : Ev S (tOp (rEqD S.K) ta tb) ρ (Eq (.dat (.bool (decide (d = e))))) :=
  (ev_eqD ha hb (shaped_sc h hp) (shaped_sc h' hp)).cast (by
    have := okS_eqv h h'
    by_cases q : d = e
    · rw [this.mpr q, decide_eq_true q]
    · rw [decide_eq_false q, Bool.eq_false_iff.mpr fun z => q (this.mp z)])
open Classical in
theorem ev_neSc (t : Sc) (ha : Ev S ta ρ (Eq (.dat d))) (hb : Ev S tb ρ (Eq (.dat e))) (h : okS d t = true) (h' : okS e t = true) (hp : dpS t ≤ 60 := by decide) : Ev S (tOp (rNeD S.K) ta tb) ρ (Eq (.dat (.bool (!decide (d = e))))) :=
  (ev_neD ha hb (shaped_sc h hp) (shaped_sc h' hp)).cast (by
    have := okS_eqv h h'
    by_cases q : d = e
    · rw [this.mpr q, decide_eq_true q]
    · rw [decide_eq_false q, Bool.eq_false_iff.mpr fun z => q (this.mp z)])
end
end Dl

set_option Elab.async false
set_option linter.all false
set_option maxRecDepth 100000
set_option maxHeartbeats 4000000
/-! Dly: list(range(n)); least and greatest of any row of data. -/
namespace Dl
open PySem PySem.Spec PyProof.Rows L2 LamX RZ
def rMinA (K : PySem.W.Frag) : List V → Hp → VK → Prop := fun xs H Q => ∃ (a : Addr) (vs : List V) (y : D) (ys : List D), xs = [.ref a] ∧ (SqL K H a vs ∨ SqT K H a vs) ∧ DpAll K H vs (y :: ys) ∧ MinOk (y :: ys) ∧
  ∀ (i : Nat) v, vs[i]? = some v → (y :: ys)[i]? = some (PySem.W.minD y ys) → Q v H
theorem cr_minA {X : Cx} (hc : X.calm = true) (hu : X.A.units + 64 < cLine) : CallR X (.builtin "min") (rMinA X.K) := by
  intro pins s σ H xs us Q I r h
  obtain ⟨a, vs, y, ys, rfl, hs, hd, ⟨m1, m2, m3⟩, q⟩ := h
  obtain ⟨u, rfl, ru⟩ := vals1 r
  cases ru
  rcases hs with hs | hs
  · obtain ⟨its, rv, pl, hz⟩ := I.list hs
    obtain ⟨as, ra⟩ := Dp.readsAll I (y :: ys) vs its hd rv
    refine PySem.W.min_list_data (I.ok.hd hc) pl.isList (as := as) (x := y) (xs := ys) (by simpa using ra) m1 (by omega) fun i v h' tk bs hi hr hk => ?_
    have hi' : its[i]? = some v := by simpa using hi
    obtain ⟨x, hx, rx⟩ := vals_at rv hi'
    obtain ⟨d, cs, hd1, hd2⟩ := readsAll_get ra hi'
    have eq := (PyProof.Rows.reads_det (fun b o e _ => hk b o e) hd2 hr).1
    exact ⟨x, H, I.kept hk, rx, q i x hx (by rw [hd1, eq])⟩
  · obtain ⟨its, rv, pl, hz⟩ := I.tuple hs
    obtain ⟨as, ra⟩ := Dp.readsAll I (y :: ys) vs its hd rv
    refine PySem.W.min_tuple_data (I.ok.hd hc) pl (as := as) (x := y) (xs := ys) (by simpa using ra) m1 (by omega) fun i v h' tk bs hi hr hk => ?_
    have hi' : its[i]? = some v := by simpa using hi
    obtain ⟨x, hx, rx⟩ := vals_at rv hi'
    obtain ⟨d, cs, hd1, hd2⟩ := readsAll_get ra hi'
    have eq := (PyProof.Rows.reads_det (fun b o e _ => hk b o e) hd2 hr).1
    exact ⟨x, H, I.kept hk, rx, q i x hx (by rw [hd1, eq])⟩
def rMaxA (K : PySem.W.Frag) : List V → Hp → VK → Prop := fun xs H Q => ∃ (a : Addr) (vs : List V) (y : D) (ys : List D), xs = [.ref a] ∧ (SqL K H a vs ∨ SqT K H a vs) ∧ DpAll K H vs (y :: ys) ∧ MinOk (y :: ys) ∧
  ∀ (i : Nat) v, vs[i]? = some v → (y :: ys)[i]? = some (PySem.W.maxD y ys) → Q v H
theorem cr_maxA {X : Cx} (hc : X.calm = true) (hu : X.A.units + 64 < cLine) : CallR X (.builtin "max") (rMaxA X.K) := by
  intro pins s σ H xs us Q I r h
  obtain ⟨a, vs, y, ys, rfl, hs, hd, ⟨m1, m2, m3⟩, q⟩ := h
  obtain ⟨u, rfl, ru⟩ := vals1 r
  cases ru
  rcases hs with hs | hs
  · obtain ⟨its, rv, pl, hz⟩ := I.list hs
    obtain ⟨as, ra⟩ := Dp.readsAll I (y :: ys) vs its hd rv
    refine PySem.W.max_list_data (I.ok.hd hc) pl.isList (as := as) (x := y) (xs := ys) (by simpa using ra) m1 (by omega) fun i v h' tk bs hi hr hk => ?_
    have hi' : its[i]? = some v := by simpa using hi
    obtain ⟨x, hx, rx⟩ := vals_at rv hi'
    obtain ⟨d, cs, hd1, hd2⟩ := readsAll_get ra hi'
    have eq := (PyProof.Rows.reads_det (fun b o e _ => hk b o e) hd2 hr).1
    exact ⟨x, H, I.kept hk, rx, q i x hx (by rw [hd1, eq])⟩
  · obtain ⟨its, rv, pl, hz⟩ := I.tuple hs
    obtain ⟨as, ra⟩ := Dp.readsAll I (y :: ys) vs its hd rv
    refine PySem.W.max_tuple_data (I.ok.hd hc) pl (as := as) (x := y) (xs := ys) (by simpa using ra) m1 (by omega) fun i v h' tk bs hi hr hk => ?_
    have hi' : its[i]? = some v := by simpa using hi
    obtain ⟨x, hx, rx⟩ := vals_at rv hi'
    obtain ⟨d, cs, hd1, hd2⟩ := readsAll_get ra hi'
    have eq := (PyProof.Rows.reads_det (fun b o e _ => hk b o e) hd2 hr).1
    exact ⟨x, H, I.kept hk, rx, q i x hx (by rw [hd1, eq])⟩
theorem minD_mem (y : D) (ys : List D) : PySem.W.minD y ys ∈ y :: ys := by
  unfold PySem.W.minD
  induction ys generalizing y with
  | nil => simp
  | cons z ys ih =>
    rw [List.foldl_cons]
    have := ih (if PySem.W.dataLt z y = true then z else y)
    rcases List.mem_cons.mp this with e | e
    · rw [e]
      split <;> simp
    · simp [e]
theorem maxD_mem (y : D) (ys : List D) : PySem.W.maxD y ys ∈ y :: ys := by
  unfold PySem.W.maxD
  induction ys generalizing y with
  | nil => simp
  | cons z ys ih =>
    rw [List.foldl_cons]
    have := ih (if PySem.W.dataLt y z = true then z else y)
    rcases List.mem_cons.mp this with e | e
    · rw [e]
      split <;> simp
    · simp [e]
/-- a row that may be read -/
def EvR (S : Cf) (te : TE) (ρ : Rho) (ds : List D) : Prop := EvL S te ρ ds ∨ EvU S te ρ ds
section
variable {S : Cf} {ρ : Rho} {te ta tb : TE} {y : D} {ys : List D}
theorem ev_minA (h : EvR S te ρ (y :: ys)) (m : MinOk (y :: ys)) : Ev S (tCB (rMinA S.K) (tCons te tNil)) ρ (Eq (.dat (PySem.W.minD y ys))) := fun σ G H k e Q q => by
  have go : ∀ (a : Addr) (vs : List V) (G1 H1 : Hp), Grow S.fx G H G1 H1 → Kn S.fx G1 H1 → (SqL S.K H1 a vs ∨ SqT S.K H1 a vs) → RA S.K G1 vs (y :: ys) → rMinA S.K [.ref a] H1 Q := fun a vs G1 H1 g1 k1 sq ra =>
    ⟨a, vs, y, ys, rfl, sq, ra_dpAll k1.gh ra m.2.2, m, fun i v hv hd => by
      obtain ⟨d, h1, h2⟩ := ra.getV hv
      rw [hd] at h1
      cases h1
      exact q v _ G1 H1 g1 k1 rfl h2⟩
  rcases h with h | h
  · exact h σ G H k e _ fun a vs G1 H1 g1 k1 st ra => go a vs G1 H1 g1 k1 (.inl (st _ _ (Grow.refl k1))) ra
  · exact h σ G H k e _ fun a vs G1 H1 g1 k1 st ra => go a vs G1 H1 g1 k1 (.inr (st _ _ (Grow.refl k1))) ra
theorem ev_maxA (h : EvR S te ρ (y :: ys)) (m : MinOk (y :: ys)) : Ev S (tCB (rMaxA S.K) (tCons te tNil)) ρ (Eq (.dat (PySem.W.maxD y ys))) := fun σ G H k e Q q => by
  have go : ∀ (a : Addr) (vs : List V) (G1 H1 : Hp), Grow S.fx G H G1 H1 → Kn S.fx G1 H1 → (SqL S.K H1 a vs ∨ SqT S.K H1 a vs) → RA S.K G1 vs (y :: ys) → rMaxA S.K [.ref a] H1 Q := fun a vs G1 H1 g1 k1 sq ra =>
    ⟨a, vs, y, ys, rfl, sq, ra_dpAll k1.gh ra m.2.2, m, fun i v hv hd => by
      obtain ⟨d, h1, h2⟩ := ra.getV hv
      rw [hd] at h1
      cases h1
      exact q v _ G1 H1 g1 k1 rfl h2⟩
  rcases h with h | h
  · exact h σ G H k e _ fun a vs G1 H1 g1 k1 st ra => go a vs G1 H1 g1 k1 (.inl (st _ _ (Grow.refl k1))) ra
  · exact h σ G H k e _ fun a vs G1 H1 g1 k1 st ra => go a vs G1 H1 g1 k1 (.inr (st _ _ (Grow.refl k1))) ra
/-- min, max of what is not told -/
theorem min_of {ds : List D} (h : ds ≠ []) : ∃ y ys, ds = y :: ys := by
  cases ds with
  | nil => exact absurd rfl h
  | cons y ys => exact ⟨y, ys, rfl⟩
/-- list(range(n)) -/
theorem ef_listRg {n : Nat} (h : Ev S te ρ (Eq (.dat (.int (n : Nat))))) (hn : n ≤ 1000000) : EvF S (tLstRg (tRg1 te)) ρ (Eq (rngD 0 n)) := fun σ G H k e Q q =>
  h σ G H k e _ fun v s G1 H1 g1 k1 es r => by
    subst es
    cases r
    refine ⟨_, rfl, RgOk.of_le (by decide) (by omega) (by decide) (by omega), fun p hp => ?_⟩
    have g := g1.trans k1 (k1.same (same_new (o := .lst (rgV 0 (n : Int))) hp)) (Grow.same k1 (same_new hp))
    refine q p _ _ G1 _ g (k1.same (same_new hp)) (fresh_of g1 k1 hp) (k1.freeG hp) upd_same ?_ rfl
    have e1 : rgV 0 (n : Int) = ((List.range n).map fun (i : Nat) => (0 + (i : Int))).map V.int := by
      unfold rgV
      rw [List.map_map, Int.sub_zero, Int.toNat_natCast]
      rfl
    have e2 : rngD 0 n = ((List.range n).map fun (i : Nat) => (0 + (i : Int))).map PyData.int := by
      unfold rngD
      rw [List.map_map]
      rfl
    rw [e1, e2]
    exact RA.of_ints _
theorem maxD_nat (l : List Nat) (a : Int) : PySem.W.maxD (.int a) (l.map fun (x : Nat) => PyData.int (x : Int)) = .int ((l.map fun (x : Nat) => (x : Int)).foldl max a) := by
  rw [← PySem.W.maxD_ints, List.map_map]
  rfl
end
/-! ### t * n, n from 1 on -/
theorem tuple_mul1 (l : Addr) (items : Array Value) (n : Nat) (dd : Option Addr) (sl : Array (Option Value)) (x : Int) (u : Tok) (hx : x = 1) :
    Meets (Builtin.«tuple.__mul__» ⟨[.ref l, .int x u], []⟩) (fun _ R s => s.heap.get? l = some { cls := .type "tuple", dict := dd, data := .seq items n, slots := sl } ∧ R (.ok (.ret (Value.ref l))) s) :=
  .of_wp fun prog w A R s h => by
    obtain ⟨hp, g, d, tk, os⟩ := s
    obtain ⟨hl, h⟩ := h
    have f1 := AutoSeq1.idx_int
    wp_walk using wpAny_loadPart' hl
    repeat (first
      | (refine wpAny_ite_false (decide_eq_false (by subst hx; decide)) ?_; wp_walk using wpAny_loadPart' hl)
      | (refine wpAny_ite_true (decide_eq_true (by subst hx; simp)) ?_; wp_walk using wpAny_loadPart' hl))
    exact ⟨_, rfl, h⟩
def rRep1 (K : PySem.W.Frag) : R2 := fun x y H Q => ∃ l xs, x = .ref l ∧ y = .int 1 ∧ SqT K H l xs ∧ Q (.ref l) H
theorem op_rep1 {X : Cx} : OpR X (binaryOp .Mult) (rRep1 X.K) := by
  intro pins s σ H x y v u Q I rx ry h
  obtain ⟨l, xs, rfl, rfl, hT, q⟩ := h
  cases rx
  obtain ⟨t, rfl⟩ := ry
  obtain ⟨its, r, ⟨⟨cls, dd, data, sl⟩, ho, hc, n, hd⟩, hs⟩ := I.tuple hT
  simp only at hc hd
  subst hc hd
  refine wpAny_binaryOp_repeat_ref (T := "tuple") (U := "int") (by decide) ⟨_, ho, rfl⟩ (fun s' => typeIs_int s' 1 t) noFill_tuple_mul F.fills_int_mul F.slot_int_rmul repeat_tuple F.slot_int_index.lookup
    (call_meets F.slot_int_rmul (typeIs_int s 1 t) F.entry_int_rmul (F.args_int_rmul_2 _ _) (int_rmul_tuple 1 t l its.toArray n dd sl)
      ⟨ho, rfl, ⟨_, ho, rfl⟩, call_meets F.slot_tuple_mul ⟨_, ho, rfl⟩ F.entry_tuple_mul (F.args_tuple_mul_2 _ _) (tuple_mul1 l its.toArray n dd sl 1 t rfl) ⟨ho, ?_⟩⟩)
  exact ⟨.ref l, H, I, rfl, q⟩
def rRepA (K : PySem.W.Frag) : R2 := fun x y H Q => rRepT K x y H Q ∨ rRep1 K x y H Q
theorem op_repA {X : Cx} {K : PySem.W.Frag} (hK : X.K = K) : OpR X (binaryOp .Mult) (rRepA K) := by
  subst hK
  intro pins s σ H x y v u Q I rx ry h
  rcases h with h | h
  · exact op_repT _ _ _ _ _ _ _ _ _ I rx ry h
  · exact op_rep1 _ _ _ _ _ _ _ _ _ I rx ry h
theorem ev_repA {S : Cf} {ρ : Rho} {ta tb : TE} {ds : List D} {n : Nat} (ha : Ev S ta ρ (Eq (.dat (.tuple ds)))) (hb : Ev S tb ρ (Eq (.dat (.int (n : Nat))))) (h0 : ds ≠ []) (h1 : 1 ≤ n) (h2 : n ≤ 1000) (h3 : ds.length ≤ 1000) : Ev S (tOp (rRepA S.K) ta tb) ρ (Eq (.dat (.tuple (List.replicate n ds).flatten))) := fun σ G H k e Q q =>
  ha σ G H k e _ fun v s G1 H1 g1 k1 es r1 => by
    subst es
    cases r1 with
    | tup st ra =>
      exact hb σ G1 H1 k1 (e.grow g1) _ fun y s G2 H2 g2 k2 es r2 => by
        subst es
        cases r2
        rename_i a vs
        have sq2 : SqT S.K H2 a vs := sameT (g2.gg.trans g2.gh) st
        by_cases h : 2 ≤ n
        · have hl : vs.length = ds.length := ra.length
          refine .inl ⟨a, (n : Int), vs, rfl, rfl, sq2, fun z => h0 (List.eq_nil_of_length_eq_zero (by rw [← hl, z]; rfl)), by omega, by omega, by omega, fun p hp => ?_⟩
          rw [Int.toNat_natCast]
          refine q (.ref p) _ (upd G2 p (.tup (List.replicate n vs).flatten)) _ (g1.trans k1 (k2.new _ hp) (g2.trans k2 (k2.new _ hp) (Grow.new k2 _ hp))) (k2.new _ hp) rfl ?_
          exact .tup (.inl (.inl upd_same)) (RA.mono (g2.gg.trans (same_new (k2.freeG hp))) (ra.rep n))
        · have e1 : n = 1 := by omega
          subst e1
          refine .inr ⟨a, vs, rfl, rfl, sq2, q (.ref a) _ G2 H2 (g1.trans k1 k2 g2) k2 rfl ?_⟩
          rw [show (List.replicate 1 ds).flatten = ds by simp]
          exact R.mono g2.gg (.tup st ra)
/-! ### sorted, of what stands for a list -/
theorem srtD_map {α : Type} {f : α → D} {le : α → α → Bool} {l : List α} (h : ∀ a ∈ l, ∀ b ∈ l, le a b = !PySem.W.dataLt (f b) (f a)) : srtD (l.map f) = (l.mergeSort le).map f := (List.map_mergeSort fun a ha b hb => h a ha b hb).symm
theorem dle_int (a b : Int) : (!PySem.W.dataLt (.int b) (.int a)) = decide (a ≤ b) := by
  rw [PySem.W.dataLt_int, Bool.eq_iff_iff]
  simp
theorem srtD_perm (l : List D) : (srtD l).Perm l := List.mergeSort_perm l _
theorem srtD_len (l : List D) : (srtD l).length = l.length := List.length_mergeSort l
theorem cb_min2 {S : Cf} {i j : Int} : CbD S (fun xs H Q => ∃ i j, xs = [.int i, .int j] ∧ Q (.int (if j < i then j else i)) H) [.dat (.int i), .dat (.int j)] (Eq (.dat (.int (min i j)))) := fun G H vs k r Q q => by
  cases r with
  | cons r1 r =>
    cases r with
    | cons r2 r =>
      cases r
      cases r1
      cases r2
      refine ⟨i, j, rfl, ?_⟩
      have e : (if j < i then j else i) = min i j := by
        rw [Int.min_def]
        split <;> split <;> omega
      rw [e]
      exact q _ _ G H (Grow.refl k) k rfl (.int _)
theorem inD_ints (x : Int) (p : List Int) : inD (.int x) (p.map PyData.int) = p.contains x := by
  unfold inD
  rw [List.any_map, List.contains_eq_any_beq]
  congr 1
  funext y
  show PyData.eqv (.int y) (.int x) = _
  rw [eqv_int]
  by_cases h : y = x
  · subst h
    simp
  · have h2 : ¬ x = y := fun z => h z.symm
    simp [h, h2]
theorem isNone_minO (l : List D) (h : ∀ d ∈ l, d ≠ .none) : isNone (minO l) = decide (l = []) := by
  cases l with
  | nil => rfl
  | cons y ys =>
    have := h _ (minD_mem y ys)
    show isNone (PySem.W.minD y ys) = _
    cases e : PySem.W.minD y ys <;> simp [isNone]
    exact this e
/-- range(lo, hi) -/
theorem im_rng2E {S : Cf} {ρ : Rho} {ta tb : TE} {lo hi : Int} (ha : Ev S ta ρ (Eq (.dat (.int lo)))) (hb : Ev S tb ρ (Eq (.dat (.int hi)))) (h1 : -1000000000 ≤ lo ∧ lo ≤ 1000000000) (h2 : -1000000000 ≤ hi ∧ hi ≤ 1000000000) : Itm S (iRng2 (tCons ta (tCons tb tNil))) ρ (Eq (rngD lo (hi - lo).toNat)) := fun σ G H k e Rr f =>
  ha σ G H k e _ fun v s G1 H1 g1 k1 es r => hb σ G1 H1 k1 (e.grow g1) _ fun y s2 G2 H2 g2 k2 es2 r2 => by
    subst es es2
    cases r
    cases r2
    exact ⟨lo, hi, rfl, ⟨by omega, by omega, by omega, by omega⟩, f _ _ G2 H2 (g1.trans k1 k2 g2) k2 rfl wk_range⟩
/-- data that _law_alike walks within n calls -/
def FlP : Nat → D → Prop
  | 0, _ => False
  | n + 1, .list ds => ds.length ≤ 1000000 ∧ ∀ x ∈ ds, FlP n x
  | n + 1, .tuple ds => ds.length ≤ 1000000 ∧ ∀ x ∈ ds, FlP n x
  | _ + 1, .dict _ => False
  | _ + 1, .str x => SeqAt.shaped (.str x) = true
  | _ + 1, _ => True
theorem flpT : ∀ (n : Nat) {ds : List D} {ts : List Sc}, (∀ {d : D} {t : Sc}, okS d t = true → dpS t < n → szS t ≤ 1000000 → FlP n d) → okTs ds ts = true → dpT ts < n → szT ts ≤ 1000000 → ∀ x ∈ ds, FlP n x
  | n, [], [], _, _, _, _ => by simp
  | n, [], _ :: _, _, h, _, _ => by simp [okTs] at h
  | n, _ :: _, [], _, h, _, _ => by simp [okTs] at h
  | n, d :: ds, t :: ts, ih, h, h1, h2 => by
    simp only [okTs, Bool.and_eq_true] at h
    simp only [dpT] at h1
    simp only [szT] at h2
    intro x hx
    rcases List.mem_cons.mp hx with rfl | hx
    · exact ih h.1 (by omega) (by omega)
    · exact flpT n ih h.2 (by omega) (by omega) x hx
theorem flp_sc : ∀ (n : Nat) {d : D} {t : Sc}, okS d t = true → dpS t < n → szS t ≤ 1000000 → FlP n d
  | 0, _, _, _, h, _ => by omega
  | n + 1, .list ds, .l k t, h, h1, h2 => by
    simp only [okS, Bool.and_eq_true, decide_eq_true_eq] at h
    simp only [dpS] at h1
    simp only [szS] at h2
    exact ⟨by omega, fun x hx => flp_sc n (okL_iff.mp h.2 x hx) (by omega) (by omega)⟩
  | n + 1, .tuple ds, .u k t, h, h1, h2 => by
    simp only [okS, Bool.and_eq_true, decide_eq_true_eq] at h
    simp only [dpS] at h1
    simp only [szS] at h2
    exact ⟨by omega, fun x hx => flp_sc n (okL_iff.mp h.2 x hx) (by omega) (by omega)⟩
  | n + 1, .tuple ds, .t ts, h, h1, h2 => by
    simp only [okS] at h
    simp only [dpS] at h1
    simp only [szS] at h2
    have hl := okTs_len h
    exact ⟨by omega, flpT n (fun h h1 h2 => flp_sc n h h1 h2) h (by omega) (by omega)⟩
  | n + 1, .int _, _, _, _, _ => True.intro
  | n + 1, .bool _, _, _, _, _ => True.intro
  | n + 1, .none, _, _, _, _ => True.intro
  | n + 1, .str x, .s k, h, _, _ => shaped_sc h (by simp [dpS])
/-! order of lists of numbers -/
theorem lt_nats : ∀ a b : List Nat, (a.map fun (x : Nat) => (x : Int)) < (b.map fun (x : Nat) => (x : Int)) ↔ a < b
  | [], [] => by simp
  | [], _ :: _ => by simp
  | _ :: _, [] => by simp
  | x :: a, y :: b => by
    rw [List.map_cons, List.map_cons, List.cons_lt_cons_iff, List.cons_lt_cons_iff, lt_nats a b]
    constructor
    · rintro (h | ⟨h1, h2⟩)
      · exact .inl (by omega)
      · exact .inr ⟨by omega, h2⟩
    · rintro (h | ⟨h1, h2⟩)
      · exact .inl (by omega)
      · exact .inr ⟨by omega, h2⟩
theorem lexN_trans {a b c : List Nat} (h1 : a < b) (h2 : b < c) : a < c := List.lt_trans h1 h2
theorem lexN_irrefl (a : List Nat) : ¬ a < a := List.lt_irrefl a
theorem lexN_tri (a b : List Nat) : a < b ∨ a = b ∨ b < a := by
  induction a generalizing b with
  | nil =>
    cases b with
    | nil => exact .inr (.inl rfl)
    | cons y b => exact .inl (List.Lex.nil)
  | cons x a ih =>
    cases b with
    | nil => exact .inr (.inr List.Lex.nil)
    | cons y b =>
      rcases Nat.lt_trichotomy x y with h | h | h
      · exact .inl (List.Lex.rel h)
      · subst h
        rcases ih b with h | h | h
        · exact .inl (List.Lex.cons h)
        · exact .inr (.inl (by rw [h]))
        · exact .inr (.inr (List.Lex.cons h))
      · exact .inr (.inr (List.Lex.rel h))
/-- the least of a sorted row -/
theorem first_least {l : List (List Nat)} {c : List Nat → Bool} {m : List Nat} (hm : m ∈ l) (hc : c m = true) (h : ∀ o ∈ l, c o = true → m = o ∨ m < o) : ∃ r, ((l.mergeSort fun a b => !decide (b < a)).filter c) = m :: r := by
  have pw := List.pairwise_mergeSort (le := fun a b : List Nat => !decide (b < a)) (fun a b d h1 h2 => by
    simp only [Bool.not_eq_true', decide_eq_false_iff_not] at *
    intro h3
    rcases lexN_tri b a with q | q | q
    · exact h1 q
    · subst q
      exact h2 h3
    · exact h2 (lexN_trans h3 q)) (fun a b => by
    simp only [Bool.or_eq_true, Bool.not_eq_true', decide_eq_false_iff_not]
    by_cases q : b < a
    · exact .inr fun z => lexN_irrefl _ (lexN_trans q z)
    · exact .inl q) l
  have pf := List.Pairwise.filter c pw
  have mem : ∀ x, x ∈ ((l.mergeSort fun a b => !decide (b < a)).filter c) ↔ x ∈ l ∧ c x = true := fun x => by
    rw [List.mem_filter, List.mem_mergeSort]
  cases e : ((l.mergeSort fun a b => !decide (b < a)).filter c) with
  | nil =>
    have := (mem m).mpr ⟨hm, hc⟩
    rw [e] at this
    cases this
  | cons x r =>
    rw [e] at pf mem
    have hx := (mem x).mp List.mem_cons_self
    rcases h x hx.1 hx.2 with q | q
    · exact ⟨r, by rw [q]⟩
    · have hmem := (mem m).mpr ⟨hm, hc⟩
      rcases List.mem_cons.mp hmem with q2 | q2
      · exact ⟨r, by rw [q2]⟩
      · have := (List.pairwise_cons.mp pf).1 m q2
        simp only [Bool.not_eq_true', decide_eq_false_iff_not] at this
        exact absurd q this
theorem pe_revL' {X : Cx} {K : PySem.W.Frag} {e : Expr} {te : TE} {k : Nat} {p1 p2 p3 pos : Pos} (hK : X.K = K) (he : PE X e te) : PE X (.Subscript e (.Slice none none (some (.UnaryOp .USub (.Constant (.int 1) k p1) p2)) p3) pos) (tRevL K te) := by
  subst hK
  exact pe_revL he
end Dl

set_option Elab.async false
set_option linter.all false
set_option maxRecDepth 100000
set_option maxHeartbeats 4000000
/-! Dla: dicts of either kind: walked, as lists, sorted. -/
namespace Dl
open PySem PySem.Spec PyProof.Rows L2 LamX RZ
theorem _root_.L2.Inv.frzX {X : Cx} {pins : List (Addr × Obj)} {σ : L2.St} {H : Hp} {s : Shared} {d : Addr} {o : Obj} {xs : List (NestedKey × Addr × Value)} (I : Inv X pins σ H s) (h : H d = some (.frz o (DX d xs))) :
    (d == sysModules) = false ∧ s.heap.get? d = some o ∧ o.ExactDict ∧ ∃ (es : Array DictEntry) (ep : Nat), o.data = .dict es ep ∧ es.size = xs.length ∧ es.toList = xs.map (entX X.w) := by
  obtain ⟨hd, ⟨z, hs, o', es, ep, h1, h2, h3, h4, h5⟩, _⟩ := I.hok d _ h
  rw [hd] at h1
  cases h1
  refine ⟨hs, hd, h2, es, ep, h3, ?_, h4 X.w⟩
  have := congrArg List.length (h4 X.w)
  simpa using this
theorem entX_at {w : World} {xs : List (NestedKey × Addr × Value)} {es : Array DictEntry} (h : es.toList = xs.map (entX w)) {i : Nat} {p : NestedKey × Addr × Value} (hp : xs[i]? = some p) : es[i]? = some (entX w p) := by
  rw [← Array.getElem?_toList, h, List.getElem?_map, hp]
  rfl
/-- the keys of the locked dict at d -/
def Itkx (d : Addr) (o : Obj) (xs : List (NestedKey × Addr × Value)) : It :=
  ⟨fun i H => H d = some (.frz o (DX d xs)) ∧ i < xs.length, fun i H x H' => H' = H ∧ ∃ (k : NestedKey) (b : Addr) (u : Value), xs[i]? = some (k, b, u) ∧ x = .ref b, fun i H => H d = some (.frz o (DX d xs)) ∧ xs.length ≤ i⟩
/-- the pairs, each a new tuple; vs stand for the values -/
def Itix (d : Addr) (o : Obj) (xs : List (NestedKey × Addr × Value)) (vs : List V) : It :=
  ⟨fun i H => H d = some (.frz o (DX d xs)) ∧ i < xs.length, fun i H x H' => ∃ (T : Addr) (k : NestedKey) (b : Addr) (u : Value) (v : V), xs[i]? = some (k, b, u) ∧ vs[i]? = some v ∧ x = .ref T ∧ H T = none ∧ H' = upd H T (.tup [.ref b, v]), fun i H => H d = some (.frz o (DX d xs)) ∧ xs.length ≤ i⟩
section
variable {P : Program} {w : World} {K : PySem.W.Frag} {tg : Expr} {d : Addr} {o : Obj} {es : Array DictEntry} {ep : Nat}
theorem turn_keysX {xs : List (NestedKey × Addr × Value)} (it : Addr) (hod : o.data = .dict es ep) : Turn P w K tg (Itkx d o xs) [it] it (fun i h => h.IsKeyIter it d i xs.length ep) where
  mem := by simp
  obj := fun i h st b hb => by
    have e : b = it := by simpa using hb
    subst e
    obtain ⟨oi, e, c, dd⟩ := st
    exact ⟨oi, e, fun v z => by rw [dd] at z; cases z⟩
  keep := fun i h h' st k => st.at fun oi e => k it (by simp) oi e
  item := by
    intro X hP hw hK hc i pins s σ H E I hf st hg
    subst hP hw hK
    obtain ⟨hd, hi⟩ := hg
    obtain ⟨f0, f1, f2, f3, f4, f5⟩ := hf it (by simp)
    obtain ⟨hs, hgd, hx, es', ep', hdt, hsz, ent⟩ := I.frzX hd
    obtain ⟨rfl, rfl⟩ := dict_ep hod hdt
    obtain ⟨⟨k, b, u⟩, hkv⟩ : ∃ p, xs[i]? = some p := ⟨xs[i], List.getElem?_eq_getElem hi⟩
    refine next_key_item st hgd hdt hsz (entX_at ent hkv) fun h' st' sb => ?_
    have I1 : Inv X pins σ H { s with heap := h' } := I.turned (t' := s.toks) (fun b ob hb e => (sb.2 b hb).trans e) f0 f1 f3 f4 f5
    obtain ⟨oi, e, c, dd⟩ := id st'
    exact ⟨_, rfl, go_of (s := { s with heap := h' }) e c dd (by decide) ⟨.ref b, H, I1, rfl, ⟨rfl, k, b, u, hkv, rfl⟩, st', fun b hb => (hf b hb).1⟩⟩
  done := by
    intro X hP hw hK hc i pins s σ H E I hf st hg
    subst hP hw hK
    obtain ⟨hd, hi⟩ := hg
    obtain ⟨f0, f1, f2, f3, f4, f5⟩ := hf it (by simp)
    obtain ⟨hs, hgd, hx, es', ep', hdt, hsz, ent⟩ := I.frzX hd
    obtain ⟨rfl, rfl⟩ := dict_ep hod hdt
    exact next_key_end (I.ok.hd hc) st hgd hdt hsz hi fun h' eb => ⟨rfl, I.turned (t' := s.toks) (fun b ob hb e => eb b ob hb e) f0 f1 f3 f4 f5⟩
  self := fun A i s Q E st h => by
    refine wpAny_pyIter_slot st.typeIs F.slot_dict_keyiterator_iter (wpAny_call_entry F.slot_dict_keyiterator_iter st.typeIs F.entry_dict_keyiterator_iter ?_ (F.args_dict_keyiterator_iter_1 _))
    show wpAny _ _ (ret (.ref it)) _ _ s
    exact wpAny_pure ⟨_, rfl, "dict_keyiterator", _, st.typeIs, F.slot_dict_keyiterator_next.lookup, h⟩
end
/-- for k in d, the dict of either kind -/
def iKeysX (td : TE) : TI := fun σ H R => td σ H fun x H1 => ∃ d o, x = .ref d ∧ ((∃ kvs, H1 d = some (.frz o (.dK kvs)) ∧ R (Itk d o kvs) H1) ∨ ∃ xs, H1 d = some (.frz o (DX d xs)) ∧ R (Itkx d o xs) H1)
theorem pi_keysX {X : Cx} {tg e : Expr} {td : TE} (he : PE X e td) : PI X tg e (iKeysX td) := by
  refine ⟨fun pins s σ H R I h => ?_⟩
  refine thn (he.run pins s σ H _ I h) fun u s1 ⟨x, H1, I1, rx, d, o, ex, q⟩ => ?_
  subst ex
  obtain rfl : u = Value.ref d := rx
  rcases q with ⟨kvs, hd, q⟩ | ⟨xs, hd, q⟩
  · obtain ⟨hs, hgd, hx, es, ep, vs, hdt, hsz, kv, hm⟩ := I1.frzK hd
    refine iter_keys hs hgd hx hdt (pi_one (tk := s1.toks) I1 _ (turn_keys _ hdt) ⟨_, Heap.get?_push_size _ rfl, rfl, ?_⟩ q)
    rw [hsz] <;> rfl
  · obtain ⟨hs, hgd, hx, es, ep, hdt, hsz, ent⟩ := I1.frzX hd
    refine iter_keys hs hgd hx hdt (pi_one (tk := s1.toks) I1 _ (turn_keysX _ hdt) ⟨_, Heap.get?_push_size _ rfl, rfl, ?_⟩ q)
    rw [hsz] <;> rfl
theorem RN.at {K : PySem.W.Frag} {G : Hp} : ∀ {xs : List (NestedKey × Addr × Value)} {ds : List (D × D)} {i : Nat} {p : D × D}, RN K G xs ds → ds[i]? = some p → ∃ k b u v, xs[i]? = some (k, b, u) ∧ R K G (.ref b) p.1 ∧ RelV v u ∧ R K G v p.2 ∧ okT p.1 = true
  | _, _, _, _, .nil, h => by simp at h
  | _, _, 0, _, .cons ok e rb rv r _, h => by
    simp only [List.getElem?_cons_zero, Option.some.injEq] at h
    subst h
    exact ⟨_, _, _, _, rfl, rb, rv, r, ok⟩
  | _, _, i + 1, _, .cons _ _ _ _ _ rs, h => by
    simp only [List.getElem?_cons_succ] at h
    obtain ⟨k, b, u, v, h1, h2⟩ := RN.at rs h
    exact ⟨k, b, u, v, by simpa using h1, h2⟩
/-- the keys, as values -/
theorem RN.keys {K : PySem.W.Frag} {G : Hp} : ∀ {xs : List (NestedKey × Addr × Value)} {ds : List (D × D)}, RN K G xs ds → RA K G (xs.map fun x => V.ref x.2.1) (ds.map Prod.fst)
  | _, _, .nil => .nil
  | _, _, .cons _ _ rb _ _ rs => .cons rb (RN.keys rs)
theorem RK.keys {K : PySem.W.Frag} {G : Hp} : ∀ {ks : List (Key × V)} {ds : List (D × D)}, RK K G ks ds → RA K G (ks.map fun x => kV x.1) (ds.map Prod.fst)
  | _, _, .nil => .nil
  | _, _, .cons _ rs => .cons (R.kV _) (RK.keys rs)
section
variable {S : Cf} {ρ : Rho} {te ta tb tc : TE} {P : Oc → Prop} {w : TS} {i j : Nat} {a : Addr} {f : Bool} {ds : List (D × D)}
theorem wk_keysX {G : Hp} {o : Obj} {xs : List (NestedKey × Addr × Value)} (hg : G a = some (.frz o (DX a xs))) (r : RN S.K G xs ds) : Wk S (Itkx a o xs) G (ds.map Prod.fst) := fun G2 H2 e k => by
  have h2 : H2 a = some (.frz o (DX a xs)) := k.gh _ _ (e _ _ hg)
  have hl := r.length
  refine ⟨⟨h2, by rw [List.length_map, hl]; exact Nat.le_refl _⟩, fun i d hd => ?_⟩
  rw [List.getElem?_map] at hd
  obtain ⟨p, hp, rfl⟩ := Option.map_eq_some_iff.mp hd
  obtain ⟨q, b, u, v, hk, e1, _⟩ := r.at hp
  refine ⟨⟨h2, (List.getElem?_eq_some_iff.mp hk).1⟩, fun x H3 ⟨e3, q', b', u', hx, ex⟩ => ?_⟩
  rw [hk] at hx
  cases hx
  exact ⟨G2, by rw [e3]; exact Grow.refl k, by rw [e3]; exact k, by rw [ex]; exact e1.mono e⟩
/-- for k in d -/
theorem im_keysX (h : Ev S te ρ (Eq (.dic f ds))) : Itm S (iKeysX te) ρ (Eq (ds.map Prod.fst)) := fun σ G H k e Rr q => h σ G H k e _ fun v s G1 H1 g1 k1 es r => by
  subst es
  obtain ⟨a, rfl, kn⟩ := r
  cases f with
  | true =>
    obtain ⟨o, ks, hg, rk⟩ := kn
    exact ⟨a, o, rfl, .inl ⟨ks, k1.gh _ _ hg, q _ _ G1 H1 g1 k1 rfl (wk_keys hg rk)⟩⟩
  | false =>
    obtain ⟨o, xs, hg, rn⟩ := kn
    exact ⟨a, o, rfl, .inr ⟨xs, k1.gh _ _ hg, q _ _ G1 H1 g1 k1 rfl (wk_keysX hg rn)⟩⟩
end
/-! ### list(d) -/
def rListX (K : PySem.W.Frag) : List V → Hp → VK → Prop := fun xs H Q => ∃ (a : Addr) (G : Hp) (f : Bool) (ds : List (D × D)), xs = [.ref a] ∧ Same G H ∧ DRd K G H a f ds ∧ ∀ p vs, H p = none → RA K G vs (ds.map Prod.fst) → Q (.ref p) (upd H p (.lst vs))
section
variable {X : Cx} {pins : List (Addr × Obj)} {σ : L2.St} {H : Hp} {s : Shared}
/-- where the keys of a dict come from -/
theorem src_of (I : Inv X pins σ H s) {a : Addr} {G : Hp} {f : Bool} {ds : List (D × D)} (sg : Same G H) (dr : DRd X.K G H a f ds) :
    ∃ (n : Nat) (Pk : Nat → Value → Prop) (OK : Heap → Prop), PySem.W.KdlSrc X.prog X.w "dict" a a n Pk OK ∧ OK s.heap ∧ n ≤ sizeLine ∧ n = ds.length ∧ ∀ us : List Value, us.length = n → (∀ j v, us[j]? = some v → Pk j v) → ∃ vs, Vals vs us ∧ RA X.K G vs (ds.map Prod.fst) := by
  cases f with
  | true =>
    obtain ⟨ks, e, rr⟩ := dr
    obtain ⟨z, lo, vs, rk, hd⟩ := dk_rd I.hok e
    obtain ⟨ep, hat⟩ := hd.dictAt
    have hl : ks.length = vs.length := Paired.length rk
    refine ⟨vs.length, _, _, PySem.W.kdl_dict (knd := mixKind X.prog X.w) (kvs := vs) (ep := ep) lo, hat, by omega, by rw [← rr.length, hl], fun us hu hp => ⟨ks.map fun x => kV x.1, ?_, rr.keys⟩⟩
    refine vals_of_at (by rw [List.length_map]; omega) fun j x w h1 h2 => ?_
    obtain ⟨k, y, hky, hi⟩ := hp j w h2
    have e1 : (ks.map (·.1))[j]? = some k := by
      rw [KV.keys rk, List.getElem?_map, hky] <;> rfl
    have e2 : (ks.map fun kv => kV kv.1)[j]? = some (kV k) := by
      have e3 : (ks.map fun kv => kV kv.1) = (ks.map (·.1)).map kV := by rw [List.map_map] <;> rfl
      rw [e3, List.getElem?_map, e1] <;> rfl
    rw [e2] at h1
    cases h1
    exact keyIs_rel hi
  | false =>
    obtain ⟨xs, e, rr⟩ := dr
    obtain ⟨⟨z, lo, o, es, ep, h1, h2, h3, h4, h5⟩, _⟩ := (show ObjOk X.prog X.w H s.heap a (DX a xs) from e.ok I.hok)
    have hl : es.size = xs.length := by
      have := congrArg List.length (h4 X.w)
      simpa using this
    refine ⟨es.size, _, _, kdl_raw lo h2 h3, h1, by omega, by rw [← rr.length, hl], fun us hu hp => ⟨xs.map fun x => V.ref x.2.1, ?_, rr.keys⟩⟩
    refine vals_of_at (by rw [List.length_map]; omega) fun j x w q1 q2 => ?_
    obtain ⟨en, hen, rfl⟩ := hp j w q2
    rw [List.getElem?_map] at q1
    obtain ⟨p, hp', rfl⟩ := Option.map_eq_some_iff.mp q1
    have := entX_at (h4 X.w) hp'
    rw [hen] at this
    rw [Option.some.inj this]
    rfl
theorem call_listX (hc : X.calm = true) : CallR X (.type "list") (rListX X.K) := by
  intro pins s σ H xs us Q I r h
  obtain ⟨a, G, f, ds, rfl, sg, dr, q⟩ := h
  obtain ⟨u, rfl, rx⟩ := r.one
  cases rx
  obtain ⟨n, Pk, OK, src, ok, hn, en, hv⟩ := src_of I sg dr
  refine PySem.W.kdl_call src (I.ok.hd hc) ok hn fun h' tk acc' c' kp e it => ?_
  obtain ⟨vs, rv, ra⟩ := hv acc'.toList (by rw [Array.length_toList]; exact it.1) fun j v hj => it.2 j v (by rw [← Array.getElem?_toList]; exact hj)
  refine ⟨.ref s.heap.objs.size, _, I.laid (t' := tk) (o := .lst vs) kp (Nat.le_refl _) ?_, rfl, q _ vs (I.hok.fresh (Nat.le_refl _)) ra⟩
  exact ⟨by rw [ra.length, List.length_map, ← en]; exact hn, acc'.toList, c', rv, by rw [Array.toArray_toList]; exact e⟩
end
/-! ### sorted(d) -/
section
variable {prog : Program} {w : World} {A : Around} {E : Value → Shared → Prop} {s : Shared} {T : String} {r d : Addr} {n : Nat} {P : Nat → Value → Prop} {OK : Heap → Prop}
open DT in
theorem collect_src {R : List Value → Shared → Prop} (K : PySem.W.KdlSrc prog w T r d n P OK) (hh : A.handled = none) (hok : OK s.heap) (hn : n ≤ sizeLine)
    (h : ∀ (h' : Heap) (tk : Nat) (us : List Value), (∀ b o, s.heap.get? b = some o → h'.get? b = some o) → s.heap.objs.size < h'.objs.size → us.length = n → (∀ j v, us[j]? = some v → P j v) → R us { s with heap := h', toks := tk }) :
    wpAny (model prog w) A (collect (.ref r)) R E s := by
  have hlt := K.there _ hok
  unfold collect
  refine wpAny_bind (wpAny_runValue (codeAny_builtin entry_proto_collect' ?_))
  rw [Around.under_plainId PySem.F.plain_proto_collect _]
  show wpAny _ A.in1 (newList [] >>= fun l => again (.builtin "list.__iadd__" ⟨[l, .ref r], []⟩)) _ _ s
  refine wpAny_bind (wpAny_newObj_type ?_)
  refine wpAny_pure ⟨plainId_quiet PySem.F.plain_list_iadd _, codeAny_builtin entry_list_iadd' ?_⟩
  rw [Around.under_plainId PySem.F.plain_list_iadd _]
  have hS₁ : (s.heap.push { cls := .type "list", data := .seq ([] : List Value).toArray }).get? s.heap.objs.size = some { cls := .type "list", data := .seq #[] } := Heap.get?_push_size _ rfl
  show wpAny _ A.in1 (Builtin.List.listExtendWith (.ref s.heap.objs.size) (.ref r) (.ref s.heap.objs.size)) _ _ _
  have key := PySem.W.kdl_extend (prog := prog) (w := w) (A := A) (s := { s with heap := s.heap.push { cls := .type "list", data := .seq ([] : List Value).toArray } }) (R := fun (q : Result) (s' : Shared) => ∃ (h' : Heap) (tk : Nat) (acc' : Array Value) (c' : Nat), q = .ok (.ret (.ref s.heap.objs.size)) ∧ s' = { s with heap := h', toks := tk } ∧
      (∀ b o, s.heap.get? b = some o → h'.get? b = some o) ∧ h'.get? s.heap.objs.size = some { cls := .type "list", dict := none, data := .seq acc' c', slots := #[] } ∧ acc'.toList.length = n ∧ (∀ j v, acc'.toList[j]? = some v → P j v)) K hh (K.keep _ _ hok fun b _ o e => Heap.get?_push_of_some _ e) s.heap.objs.size (Nat.ne_of_gt hlt.1) (Nat.ne_of_gt hlt.2) (.ref s.heap.objs.size) 0 hS₁
    (fun h' tk acc' c' hk hS' hacc => ⟨h', tk, acc', c', rfl, rfl, fun b o e => hk b o (Nat.ne_of_lt (Heap.lt_size e)) (Heap.get?_push_of_some _ e), hS', by rw [Array.length_toList]; exact hacc.1, fun j v e => hacc.2 j v (by rw [← Array.getElem?_toList]; exact e)⟩) hn
  refine wpAny_mono key (fun fin s' x => ?_) fun e s' x => ?_
  · cases fin with
    | done f =>
      obtain ⟨h', tk, acc', c', e, rfl, hk, hS', hl, hacc⟩ := x
      cases e
      show wpAny _ A (load s.heap.objs.size >>= _) _ _ _
      refine wpAny_bind (wpAny_load hS' ?_)
      refine wpAny_pure ?_
      exact h h' tk acc'.toList hk (Heap.lt_size hS') hl hacc
    | again c₁ =>
      refine ⟨x.1, codeAny_mono x.2 fun q s₂ y => ?_⟩
      obtain ⟨h', tk, acc', c', rfl, rfl, hk, hS', hl, hacc⟩ := y
      show wpAny _ A (load s.heap.objs.size >>= _) _ _ _
      refine wpAny_bind (wpAny_load hS' ?_)
      refine wpAny_pure ?_
      exact h h' tk acc'.toList hk (Heap.lt_size hS') hl hacc
  · obtain ⟨_, _, _, _, e', _⟩ := x
    cases e'
end
section
variable {prog : Program} {w : World} {A : Around} {E : Value → Shared → Prop} {s : Shared} {T : String} {r d : Addr} {n : Nat} {P : Nat → Value → Prop} {OK : Heap → Prop}
open PySem.W in
theorem sorted_src {Q : Value → Shared → Prop} (K : KdlSrc prog w T r d n P OK) (hh : A.handled = none) (hok : OK s.heap) (hn : n ≤ sizeLine)
    (h : ∀ (h' : Heap) (tk : Nat) (us : List Value), (∀ b o, s.heap.get? b = some o → h'.get? b = some o) → s.heap.objs.size < h'.objs.size → us.length = n → (∀ j v, us[j]? = some v → P j v) →
      ∃ κ : PyProof.Rows.KeyKind, SortsAt prog w A.in1.in1 { s with heap := sortingHeap (h'.push (seqObj "list" us.toArray 0)) h'.objs.size us, toks := tk } κ us ∧ Q (.ref h'.objs.size) { s with heap := sortedHeap (h'.push (seqObj "list" us.toArray 0)) h'.objs.size us (sortVals κ false us us).toArray, toks := tk }) :
    wpAny (model prog w) A (call (.builtin "sorted") [.ref r]) Q E s := by
  refine Calls.call_function_entry kind_sorted plain_sorted entry_sorted (args_sorted1 _) ?_
  unfold Builtin.«sorted»
  refine wpAny_bind (m := checkCount "sorted" 1 1 _) (wpAny_pure ?_)
  refine wpAny_bind (collect_src (A := A.in1) K hh hok hn fun h' tk us hk hlt hl hp => ?_)
  obtain ⟨κ, S, q⟩ := h h' tk us hk hlt hl hp
  have hL : us.length ≤ sizeLine := by omega
  have at' : (h'.push (seqObj "list" us.toArray 0)).get? h'.objs.size = some (seqObj "list" us.toArray 0) := Heap.get?_push_size _ rfl
  refine wpAny_bind (wpAny_newList ?_ hL)
  refine wpAny_bind (wpAny_holding (wpAny_call_entry_kw slot_list_sort ⟨_, at', rfl⟩ entry_list_sort ?body (args_list_sort _)))
  case body =>
    show wpAny (model prog w) A.in1.in1 (Builtin.«list.sort» ⟨[.ref h'.objs.size], []⟩) _ _ _
    exact list_sort_vals (s := { s with heap := h'.push (seqObj "list" us.toArray 0), toks := tk }) at' S hL ⟨_, rfl, wpAny_pure ⟨_, rfl, q⟩⟩
end
def rSortX (K : PySem.W.Frag) : List V → Hp → VK → Prop := fun xs H Q => ∃ (a : Addr) (G : Hp) (f : Bool) (ds : List (D × D)), xs = [.ref a] ∧ Same G H ∧ DRd K G H a f ds ∧ SortOk (ds.map Prod.fst) ∧ ∀ p vs, H p = none → RA K G vs (srtD (ds.map Prod.fst)) → Q (.ref p) (upd H p (.lst vs))
theorem cr_sortX {X : Cx} (hc : X.calm = true) (hu : X.A.units + 64 < cLine) : CallR X (.builtin "sorted") (rSortX X.K) := by
  intro pins s σ H xs us Q I r h
  obtain ⟨a, G, f, ds0, rfl, sg, dr, hso, q⟩ := h
  obtain ⟨u, rfl, rx⟩ := r.one
  cases rx
  obtain ⟨n, Pk, OK, src, ok, hn, en, hv⟩ := src_of I sg dr
  have hso' := hso
  obtain ⟨hal, hk, hnl, hdp, hnd⟩ := hso
  generalize hds : ds0.map Prod.fst = ds at hal hk hnl hdp hnd hv hso' q
  have en' : n = ds.length := by rw [← hds, List.length_map]; exact en
  refine sorted_src src (I.ok.hd hc) ok hn fun h1 tk us kp hlt hl hp => ?_
  obtain ⟨vs, rv, ra⟩ := hv us hl hp
  have hlv : vs.length = ds.length := ra.length
  obtain ⟨as, rd⟩ := Dp.readsAll I ds vs us (ra_dpAll sg ra hnd) rv
  have er : PySem.W.EachIs (fun v d => ∃ as, Reads s.heap v d as) us ds := by
    have := PySem.W.readsAll_each (enc := id) (bs := ds) (by simpa using rd)
    simpa using this
  obtain ⟨z1, z2⟩ := each_zip (each_vals rv) er
  have hsnd : (vs.zip ds).map Prod.snd = ds := List.map_snd_zip (by omega)
  let h' := PySem.W.sortingHeap (h1.push (seqObj "list" us.toArray 0)) h1.objs.size us
  have keep : ∀ b o, s.heap.get? b = some o → h'.get? b = some o := fun b o e => PySem.W.sortingHeap_old (Nat.ne_of_lt (Nat.lt_of_lt_of_le (Heap.lt_size e) (Nat.le_of_lt hlt))) (Heap.get?_push_of_some _ (kp b o e))
  have er' : PySem.W.EachIs (fun v d => ∃ as, Reads h' v d as) us ds := er.mono fun _ _ ⟨as, r⟩ => ⟨as, PyProof.Rows.Reads.keeps keep r⟩
  have z3 : PySem.W.EachIs (fun v p => ∃ as, Reads h' v (Prod.snd p) as) us (vs.zip ds) := z2.mono fun _ _ ⟨as, r⟩ => ⟨as, PyProof.Rows.Reads.keeps keep r⟩
  have S : PySem.W.SortsAt X.prog X.w X.A.in1.in1 { s with heap := h', toks := tk } (PySem.W.dataKind h' ds) us := by
    have hu2 : ∀ d ∈ ds, X.A.in1.in1.units + d.depth < cLine := fun d hd => by
      have := depth_mem hd
      show X.A.units + 1 + 1 + _ < _
      omega
    rcases hk with hk | ⟨d, e, dn⟩
    · exact PySem.W.SortsAt.data (s := { s with heap := h', toks := tk }) er' hal hk hu2
    · subst e
      cases er' with
      | cons r1 r2 =>
        cases r2
        obtain ⟨as, r1⟩ := r1
        exact sortsAt_one (s := { s with heap := h', toks := tk }) r1 (hal d (by simp) d (by simp)) dn (hu2 d (by simp))
  have out := PySem.W.sortVals_data (R := fun u p => RelV (Prod.fst p) u) (enc := Prod.snd) false z1 z3 (by rw [hsnd]; exact hal)
  rw [hsnd] at out
  refine ⟨_, S, .ref _, upd H h1.objs.size (.lst ((srt vs ds).map Prod.fst)), I.laid (t' := tk) (fun b o e => ?_) (Nat.le_of_lt hlt) ?_, rfl, q _ _ (I.hok.fresh (Nat.le_of_lt hlt)) ?_⟩
  · exact sortedHeap_old (Nat.ne_of_lt (Nat.lt_of_lt_of_le (Heap.lt_size e) (Nat.le_of_lt hlt))) (by rw [size_push']; exact Nat.lt_succ_of_lt (Nat.lt_of_lt_of_le (Heap.lt_size e) (Nat.le_of_lt hlt))) |>.trans (Heap.get?_push_of_some _ (kp b o e))
  · obtain ⟨ep, he'⟩ := sortedHeap_at (h := h1.push (seqObj "list" us.toArray 0)) (a := h1.objs.size) (n := 0) (vs := us) (out := (PySem.W.sortVals (PySem.W.dataKind h' ds) false us us).toArray) (Heap.get?_push_size _ rfl)
    refine ⟨?_, _, ep, vals_each out, he'⟩
    unfold srt
    rw [List.length_map, (List.mergeSort_perm _ _).length_eq, List.length_zip, sizeLine_eq]
    omega
  · rw [← srt_snd vs ds hlv]
    refine ra_of fun p hp => ra_zip ra p ?_
    exact (List.mergeSort_perm _ _).mem_iff.mp hp
end Dl

set_option Elab.async false
set_option linter.all false
set_option maxRecDepth 100000
set_option maxHeartbeats 4000000
/-! Dlb: displays and comprehensions of dicts with tuple keys; get; list and sorted as data; data popped. -/
namespace Dl
open PySem PySem.Spec PyProof.Rows L2 LamX RZ
/-! ### list(d), sorted(d) -/
section
variable {S : Cf} {ρ : Rho} {te ta tb tc : TE} {P : Oc → Prop} {w : TS} {i j : Nat} {a : Addr} {f : Bool} {ds : List (D × D)}
theorem ef_listX (h : EvDc S te ρ f ds) : EvF S (tCB (rListX S.K) (tCons te tNil)) ρ (Eq (ds.map Prod.fst)) := fun σ G H k e Q q =>
  h σ G H k e _ fun a G1 H1 g1 k1 st => ⟨a, G1, f, ds, rfl, k1.gh, st _ _ (Grow.refl k1) k1, fun p vs hp ra =>
    q p vs _ G1 _ (g1.trans k1 (k1.same (same_new hp)) (Grow.same k1 (same_new hp))) (k1.same (same_new hp)) (fresh_of g1 k1 hp) (k1.freeG hp) upd_same ra rfl⟩
theorem ef_sortX (h : EvDc S te ρ f ds) (m : SortOk (ds.map Prod.fst)) : EvF S (tCB (rSortX S.K) (tCons te tNil)) ρ (Eq (srtD (ds.map Prod.fst))) := fun σ G H k e Q q =>
  h σ G H k e _ fun a G1 H1 g1 k1 st => ⟨a, G1, f, ds, rfl, k1.gh, st _ _ (Grow.refl k1) k1, m, fun p vs hp ra =>
    q p vs _ G1 _ (g1.trans k1 (k1.same (same_new hp)) (Grow.same k1 (same_new hp))) (k1.same (same_new hp)) (fresh_of g1 k1 hp) (k1.freeG hp) upd_same ra rfl⟩
/-- what was just made, read at once -/
theorem dc_made (h : EvQ S te ρ (fun p => moD p f ds)) : EvDc S te ρ f ds := fun σ G H k e Q q =>
  h σ G H k e _ fun p u G1 H1 g1 k1 n0 n1 hu mo => q p G1 H1 g1 k1 fun G2 H2 g2 k2 => by
    have vp : ¬ S.fx.vol p := k.fresh n0
    exact moD_rd (mo.mono g2.gg) (g2.hh p u vp hu)
end
/-! ### d.get(k, z) -/
def tXGetO (K : PySem.W.Frag) (td ty tz : TE) : TE := fun σ H Q => td σ H fun x H1 => ∃ (a : Addr) (G : Hp) (f : Bool) (ds : List (D × D)), x = .ref a ∧ Same G H1 ∧ DRd K G H1 a f ds ∧ ty σ H1 fun y H2 => tz σ H2 fun z H3 => XGet K H3 a y (fun o => Q (o.getD z) H3)
def tXGetN (K : PySem.W.Frag) (td ty : TE) : TE := fun σ H Q => td σ H fun x H1 => ∃ (a : Addr) (G : Hp) (f : Bool) (ds : List (D × D)), x = .ref a ∧ Same G H1 ∧ DRd K G H1 a f ds ∧ ty σ H1 fun y H2 => XGet K H2 a y (fun o => Q (o.getD .non) H2)
section
variable {X : Cx} {pins : List (Addr × Obj)} {σ : L2.St} {H : Hp} {s : Shared} {a : Addr} {y v : V} {u r : Value} {A : Around} {E : Value → Shared → Prop}
theorem drd_at (I : Inv X pins σ H s) {G : Hp} {f : Bool} {ds : List (D × D)} (sg : Same G H) (dr : DRd X.K G H a f ds) : s.TypeIs (.ref a) "dict" ∧ (∀ b, Value.ref a = .ref b → ∃ ob, s.heap.get? b = some ob ∧ ob.dict = none) := by
  cases f with
  | true =>
    obtain ⟨ks, e, rr⟩ := dr
    obtain ⟨t1, t2, _⟩ := isD_at I (.inl ⟨ks, e⟩)
    exact ⟨t1, t2⟩
  | false =>
    obtain ⟨xs, e, rr⟩ := dr
    obtain ⟨z1, z2, dd⟩ := dx_rd I e sg rr
    refine ⟨dd.typeIs, fun b q => ?_⟩
    cases q
    obtain ⟨ob, _, _, h1, h2, _⟩ := dd
    exact ⟨ob, h1, h2.2.1⟩
theorem x_get2 {Q : Value → Shared → Prop} {Qo : Option V → Prop} {d : V} (hu : A.units + 64 < cLine) (I : Inv X pins σ H s) (g : XGet X.K H a y Qo) (ry : RelV y u) (rd : RelV d r) (h : ∀ o w' s', Qo o → Inv X pins σ H s' → RelV (o.getD d) w' → Q w' s') :
    wpAny (model X.prog X.w) A (call (.builtin "dict.get") [.ref a, u, r]) Q E s := by
  obtain ⟨G, f, ds, dk, sg, dr, kd, rk, q0, q1⟩ := g
  cases f with
  | true =>
    obtain ⟨ks, e, rr⟩ := dr
    obtain ⟨k, rfl⟩ := kd
    have ey := kD_R rk
    rcases rr.get k with ⟨e1, e2⟩ | ⟨w, d', e1, e2, rw'⟩
    · exact d_get2 (o := none) (by omega) I (.inl ⟨ks, k, e, ey, e1.symm⟩) ry rd fun w' s' I' r' => h none w' s' (q0 e2) I' r'
    · exact d_get2 (o := some w) (by omega) I (.inl ⟨ks, k, e, ey, e1.symm⟩) ry rd fun w' s' I' r' => h (some w) w' s' (q1 d' e2 w rw') I' r'
  | false =>
    obtain ⟨xs, e, rr⟩ := dr
    obtain ⟨z1, z2, dd⟩ := dx_rd I e sg rr
    obtain ⟨b, rfl, rfl⟩ := rk.keyRel (w := u) kd ry
    refine call_meetsIn PySem.F.slot_dict_get dd.typeIs PySem.F.entry_dict_get (PySem.F.args_dict_get_3 _ _ _) (meetsH_dict_get_default (nestedKind X.prog X.w) a b z2 r) ⟨by show A.units + 1 + 8 < cLine; omega, nk dk, xs, key_kind I (rk.mono sg) kd, dd, ?_⟩
    rcases rr.get dk with ⟨e1, e2⟩ | ⟨b', u', w, d', e1, e2, rw', rdd⟩
    · rw [e1]
      exact h none _ _ (q0 e2) (I.tok _) rd
    · rw [e1]
      exact h (some w) _ _ (q1 d' e2 w rdd) (I.tok _) rw'
theorem x_get1 {Q : Value → Shared → Prop} {Qo : Option V → Prop} (hu : A.units + 64 < cLine) (I : Inv X pins σ H s) (g : XGet X.K H a y Qo) (ry : RelV y u) (h : ∀ o w' s', Qo o → Inv X pins σ H s' → RelV (o.getD .non) w' → Q w' s') :
    wpAny (model X.prog X.w) A (call (.builtin "dict.get") [.ref a, u]) Q E s := by
  obtain ⟨G, f, ds, dk, sg, dr, kd, rk, q0, q1⟩ := g
  cases f with
  | true =>
    obtain ⟨ks, e, rr⟩ := dr
    obtain ⟨k, rfl⟩ := kd
    have ey := kD_R rk
    rcases rr.get k with ⟨e1, e2⟩ | ⟨w, d', e1, e2, rw'⟩
    · exact d_get1 (o := none) (by omega) I (.inl ⟨ks, k, e, ey, e1.symm⟩) ry fun w' s' I' r' => h none w' s' (q0 e2) I' r'
    · exact d_get1 (o := some w) (by omega) I (.inl ⟨ks, k, e, ey, e1.symm⟩) ry fun w' s' I' r' => h (some w) w' s' (q1 d' e2 w rw') I' r'
  | false =>
    obtain ⟨xs, e, rr⟩ := dr
    obtain ⟨z1, z2, dd⟩ := dx_rd I e sg rr
    obtain ⟨b, rfl, rfl⟩ := rk.keyRel (w := u) kd ry
    refine call_meetsIn PySem.F.slot_dict_get dd.typeIs PySem.F.entry_dict_get (PySem.F.args_dict_get_2 _ _) (meetsH_dict_get (nestedKind X.prog X.w) a b z2) ⟨by show A.units + 1 + 8 < cLine; omega, nk dk, xs, key_kind I (rk.mono sg) kd, dd, ?_⟩
    rcases rr.get dk with ⟨e1, e2⟩ | ⟨b', u', w, d', e1, e2, rw', rdd⟩
    · rw [e1]
      exact h none _ _ (q0 e2) (I.tok _) rfl
    · rw [e1]
      exact h (some w) _ _ (q1 d' e2 w rdd) (I.tok _) rw'
end
section
variable {X : Cx} {K : PySem.W.Frag} {o e f : Expr} {apos cpos : Pos} {td ty tx : TE}
theorem pe_xget2 (hK : X.K = K) (hu : X.A.units + 64 < cLine) (ho : PE X o td) (he : PE X e ty) (hf : PE X f tx) (m : M2 X o "get" apos e f cpos) : PE X (.Call (.Attribute o "get" apos) [e, f] [] cpos) (tXGetO K td ty tx) := by
  subst hK
  refine ⟨fun pins s σ H Q I h => ?_⟩
  refine wpAny_Call_method m.base m.few m.line PySem.F.plainAttrs_dict PySem.F.slot_dict_get PySem.F.type_dict_get (thn (ho.run pins s σ H _ I h) fun u s1 ⟨x, H1, I1, rx, a, G, ff, ds, ex, sg, dr, q1⟩ => ?_)
  subst ex
  obtain rfl : u = Value.ref a := rx
  obtain ⟨t1, t2⟩ := drd_at I1 sg dr
  refine ⟨t1, t2, ?_⟩
  rw [m.trees]
  refine Calls.callWith_builtin rfl (Calls.evalArgs_plain (Calls.spliced_cons (thn (he.run pins s1 σ H1 _ I1 q1) fun iv s2 ⟨y, H2, I2, ry, q2⟩ =>
    Calls.spliced_cons (thn (hf.run pins s2 σ H2 _ I2 q2) fun fv s3 ⟨z, H3, I3, rz, g⟩ => Calls.spliced_nil ?_))))
  exact x_get2 hu I3 g ry rz fun o w' s4 q I4 rw' => ⟨_, H3, I4, rw', q⟩
theorem pe_xget1 (hK : X.K = K) (hu : X.A.units + 64 < cLine) (ho : PE X o td) (he : PE X e ty) (m : M1 X o "get" apos e cpos) : PE X (.Call (.Attribute o "get" apos) [e] [] cpos) (tXGetN K td ty) := by
  subst hK
  refine ⟨fun pins s σ H Q I h => ?_⟩
  refine wpAny_Call_method m.base m.few m.line PySem.F.plainAttrs_dict PySem.F.slot_dict_get PySem.F.type_dict_get (thn (ho.run pins s σ H _ I h) fun u s1 ⟨x, H1, I1, rx, a, G, ff, ds, ex, sg, dr, q1⟩ => ?_)
  subst ex
  obtain rfl : u = Value.ref a := rx
  obtain ⟨t1, t2⟩ := drd_at I1 sg dr
  refine ⟨t1, t2, ?_⟩
  rw [m.trees]
  refine Calls.callWith_builtin rfl (Calls.evalArgs_plain (Calls.spliced_cons (thn (he.run pins s1 σ H1 _ I1 q1) fun iv s2 ⟨y, H2, I2, ry, g⟩ => Calls.spliced_nil ?_)))
  exact x_get1 hu I2 g ry fun o w' s4 q I4 rw' => ⟨_, H2, I4, rw', q⟩
end
section
variable {S : Cf} {ρ : Rho} {te ta tb tc : TE} {f : Bool} {ds : List (D × D)}
theorem ev_xgetO {dk z : D} (hd : EvDc S te ρ f ds) (hk : Ev S ta ρ (Eq (.dat dk))) (hz : Ev S tb ρ (Eq (.dat z))) (kd : KeyD f dk) : Ev S (tXGetO S.K te ta tb) ρ (Eq (.dat ((gD ds dk).getD z))) := fun σ G H k e Q q =>
  hd σ G H k e _ fun a G1 H1 g1 k1 st => ⟨a, G1, f, ds, rfl, k1.gh, st _ _ (Grow.refl k1) k1, hk σ G1 H1 k1 (e.grow g1) _ fun y s G2 H2 g2 k2 es ry => hz σ G2 H2 k2 ((e.grow g1).grow g2) _ fun zv s2 G3 H3 g3 k3 es2 rz => by
    subst es es2
    have g := (g1.trans k1 k2 g2).trans k2 k3 g3
    refine ⟨G3, f, ds, dk, k3.gh, st G3 H3 (g2.trans k2 k3 g3) k3, kd, ry.mono g3.gg, fun z0 => ?_, fun d' hd' v rv => ?_⟩
    · exact q _ _ G3 H3 g k3 rfl (by rw [z0]; exact rz)
    · exact q _ _ G3 H3 g k3 rfl (by rw [hd']; exact rv)⟩
theorem ev_xgetN {dk : D} (hd : EvDc S te ρ f ds) (hk : Ev S ta ρ (Eq (.dat dk))) (kd : KeyD f dk) : Ev S (tXGetN S.K te ta) ρ (Eq (.dat ((gD ds dk).getD .none))) := fun σ G H k e Q q =>
  hd σ G H k e _ fun a G1 H1 g1 k1 st => ⟨a, G1, f, ds, rfl, k1.gh, st _ _ (Grow.refl k1) k1, hk σ G1 H1 k1 (e.grow g1) _ fun y s G2 H2 g2 k2 es ry => by
    subst es
    have g := g1.trans k1 k2 g2
    refine ⟨G2, f, ds, dk, k2.gh, st G2 H2 g2 k2, kd, ry, fun z0 => ?_, fun d' hd' v rv => ?_⟩
    · exact q _ _ G2 H2 g k2 rfl (by rw [z0]; exact .non)
    · exact q _ _ G2 H2 g k2 rfl (by rw [hd']; exact rv)⟩
end
/-! ### displays -/
inductive PairsR (K : PySem.W.Frag) (G : Hp) : List (V × V) → List (D × D) → Prop
  | nil : PairsR K G [] []
  | cons {x y : V} {k d : D} {ps : List (V × V)} {ds : List (D × D)} : R K G x k → R K G y d → PairsR K G ps ds → PairsR K G ((x, y) :: ps) ((k, d) :: ds)
theorem PairsR.mono {K : PySem.W.Frag} {G G' : Hp} (e : Same G G') : ∀ {ps : List (V × V)} {ds : List (D × D)}, PairsR K G ps ds → PairsR K G' ps ds
  | _, _, .nil => .nil
  | _, _, .cons h1 h2 r => .cons (h1.mono e) (h2.mono e) (PairsR.mono e r)
def pDs (acc : List (D × D)) (ds : List (D × D)) : List (D × D) := ds.foldl (fun a p => pD a p.1 p.2) acc
theorem pDs_len : ∀ (ds acc : List (D × D)), (pDs acc ds).length ≤ acc.length + ds.length
  | [], acc => Nat.le_refl _
  | p :: ds, acc => by
    have := pDs_len ds (pD acc p.1 p.2)
    have h := pD_length acc p.1 p.2
    show (pDs (pD acc p.1 p.2) ds).length ≤ _
    rw [List.length_cons]
    omega
theorem RN.putAll {K : PySem.W.Frag} {G : Hp} : ∀ {xs : List (NestedKey × Addr × Value)} {ds : List (D × D)}, RN K G xs ds → ∀ {ys : List (NestedKey × Addr × Value)} {es : List (D × D)}, RN K G ys es → RN K G (storedAllH ys xs) (pDs es ds)
  | _, _, .nil, _, _, h => h
  | _, _, .cons ok e rb rv r rs, ys, es, h => by
    subst e
    exact RN.putAll rs (h.put ok rb rv r)
theorem storedAll_len : ∀ (xs ys : List (NestedKey × Addr × Value)), (storedAllH ys xs).length ≤ ys.length + xs.length
  | [], _ => Nat.le_refl _
  | x :: xs, ys => by
    have := storedAll_len xs (storedH ys x.1 x.2.1 x.2.2)
    have h := storedH_length ys x.1 x.2.1 x.2.2
    show (storedAllH (storedH ys x.1 x.2.1 x.2.2) xs).length ≤ _
    rw [List.length_cons]
    omega
def tDispN (K : PySem.W.Frag) (trs : List (TE × TE)) : TE := fun σ H Q => ∀ p, H p = none → tPairs trs σ (upd H p (DX p [])) fun ps H2 => H2 p = some (DX p []) ∧ ∃ (G : Hp) (kds : List (D × D)), Same G H2 ∧ PairsR K G ps kds ∧ (∀ q ∈ kds, okT q.1 = true) ∧ kds.length ≤ 15 ∧ ∀ xs, RN K G xs kds → Q (.ref p) (upd H2 p (DX p (storedAllH [] xs)))
theorem carriesN {X : Cx} {pins : List (Addr × Obj)} {σ : L2.St} {H G : Hp} {s : Shared} (I : Inv X pins σ H s) (sg : Same G H) : ∀ {ps : List (V × V)} {ds : List (D × D)} {ws : List (Value × Value)}, PairsR X.K G ps ds → VV ps ws → (∀ q ∈ ds, okT q.1 = true) → ∃ xs, RN X.K G xs ds ∧ CarriesH (nestedKind X.prog X.w) s.heap ws xs ∧ xs.length = ds.length
  | _, _, _, .nil, .nil, _ => ⟨[], .nil, True.intro, rfl⟩
  | _, _, _, .cons h1 h2 r, .cons hr t, ok => by
    obtain ⟨xs, rn, ca, hl⟩ := carriesN I sg r t fun q hq => ok q (List.mem_cons_of_mem _ hq)
    have o1 := ok _ List.mem_cons_self
    obtain ⟨r1, r2⟩ := hr
    rename_i b bs
    obtain ⟨b1, b2⟩ := b
    obtain ⟨c, rfl, e⟩ := h1.keyRel (w := b1) o1 r1
    simp only at e r2
    subst e
    exact ⟨(_, c, b2) :: xs, .cons o1 rfl h1 r2 h2 rn, ⟨rfl, rfl, key_kind I (h1.mono sg) o1, ca⟩, by simp [hl]⟩
theorem pe_dispN {X : Cx} {K : PySem.W.Frag} {pos : Pos} {keys : List (Option Expr)} {values : List Expr} {trs : List (TE × TE)} (hK : X.K = K) (hu : X.A.units + 64 < cLine) (h : PPs X pos keys values trs) (hall : keys.all (·.isSome) = true) (hl : keys.length = values.length) (h0 : keys ≠ [])
    (h15 : keys.length ≤ 15) : PE X (.Dict keys values pos) (tDispN K trs) := by
  subst hK
  refine ⟨fun pins s σ H Q I q => ?_⟩
  have hn := I.hok.fresh (Nat.le_refl s.heap.objs.size)
  have I1 := I.laid (a := s.heap.objs.size) (o := DX s.heap.objs.size []) (h' := s.heap.push { cls := .type "dict", data := .dict #[] }) (t' := s.toks) (fun _ _ q => Heap.get?_push_of_some _ q) (Nat.le_refl _) (dx_empty s.heap I.big)
  have hz := pairTrees_length keys values X.env pos hall hl
  rw [arm_eval_Dict, zip_pairTrees keys values X.env pos hall hl, dictDisplay_pairs (pairTrees keys values X.env pos) (fun e => by
    rw [e] at hz
    exact h0 (List.length_eq_zero_iff.mp hz.symm)) (by omega)]
  refine wpAny_bind (wpAny_standAt (wpAny_bind (wpAny_subDictH (knd := nestedKind X.prog X.w) (Q := fun d s' => wpAny (model X.prog X.w) X.A (pure (Value.ref d)) _ X.xe s') (by show X.A.units + 8 < cLine; omega) (by omega)
    (thn (h.run pins _ σ _ _ I1 (q _ hn)) fun ws s2 ⟨ps, H2, I2, rel, e, G, kds, sg, pr, ok, l15, q2⟩ => ?_))))
  obtain ⟨xs, rn, ca, hlx⟩ := carriesN I2 sg pr rel ok
  have emp := dx_rd I2 (G := fun _ => none) (.inl e) (fun _ _ h => by cases h) .nil
  obtain ⟨_, hs, dd⟩ := emp
  refine ⟨xs, ca, dd, fun h' tk dd' sb => wpAny_pure ⟨.ref s.heap.objs.size, upd H2 s.heap.objs.size (DX s.heap.objs.size (storedAllH [] xs)), ?_, rfl, q2 xs rn⟩⟩
  obtain ⟨o, es, ep, h1, h2, h3, h4, _, h5⟩ := dd'
  have hz2 := storedAll_len xs []
  have new : phiX s.heap.objs.size (storedAllH [] xs) h' := ⟨by rw [sizeLine_eq]; simp at hz2; omega, hs, o, es, ep, h1, h2, h3, fun w => hash_any h4 (rn.putAll .nil).keysOk w, h5⟩
  exact d_write I2 (by rw [e]; exact True.intro) sb ⟨o, h1⟩ ⟨new, ⟨o, h1⟩, fun h1 h2 p k => by
    obtain ⟨p1, p2, o', es', ep', p3, p4⟩ := p
    exact ⟨p1, p2, o', es', ep', k _ p3, p4⟩⟩
section
variable {S : Cf} {ρ : Rho}
def EvPs (S : Cf) (trs : List (TE × TE)) (ρ : Rho) (kds : List (D × D)) : Prop := ∀ (σ : L2.St) (G H : Hp), Kn S.fx G H → Env S G H σ ρ → ∀ Q : List (V × V) → Hp → Prop,
  (∀ ps G' H', Grow S.fx G H G' H' → Kn S.fx G' H' → PairsR S.K G' ps kds → Q ps H') → tPairs trs σ H Q
theorem eps_nil : EvPs S [] ρ [] := fun σ G H k e Q q => q [] G H (Grow.refl k) k .nil
theorem eps_cons {ta tb : TE} {trs : List (TE × TE)} {x y : D} {kds : List (D × D)} (ha : Ev S ta ρ (Eq (.dat x))) (hb : Ev S tb ρ (Eq (.dat y))) (hr : EvPs S trs ρ kds) : EvPs S ((ta, tb) :: trs) ρ ((x, y) :: kds) := fun σ G H k e Q q =>
  ha σ G H k e _ fun v s G1 H1 g1 k1 es1 r1 => hb σ G1 H1 k1 (e.grow g1) _ fun u s2 G2 H2 g2 k2 es2 r2 => hr σ G2 H2 k2 ((e.grow g1).grow g2) _ fun ps G3 H3 g3 k3 pr => by
    subst es1 es2
    exact q _ G3 H3 ((g1.trans k1 k2 g2).trans k2 k3 g3) k3 (.cons (r1.mono (g2.gg.trans g3.gg)) (r2.mono g3.gg) pr)
theorem eq_dispN {trs : List (TE × TE)} {kds : List (D × D)} (h : EvPs S trs ρ kds) (ok : ∀ q ∈ kds, okT q.1 = true) (hl : kds.length ≤ 15) : EvQ S (tDispN S.K trs) ρ (fun p => moD p false (pDs [] kds)) := fun σ G H k e Q q p hp => by
  have s0 : Same H (upd H p (DX p [])) := same_new hp
  refine h σ G _ (k.same s0) (e.grow (Grow.same k s0)) _ fun ps G2 H2 g kk2 pr => ?_
  have np : ¬ S.fx.vol p := k.fresh hp
  have hp2 : H2 p = some (DX p []) := g.hh p _ np upd_same
  have gp2 : G2 p = none := g.nn p _ upd_same (fun z => z) (k.freeG hp)
  refine ⟨hp2, G2, kds, kk2.gh, pr, ok, hl, fun xs rn => ?_⟩
  have kn : Kn S.fx G2 (upd H2 p (DX p (storedAllH [] xs))) := ⟨fun b w hb => by
    have q : b ≠ p := fun q => by rw [q, gp2] at hb; cases hb
    rw [upd_ne q]
    exact kk2.gh b w hb, S.fx.ext (fun b w hb hw => by
    have q : b ≠ p := fun q => by
      rcases hb with hb | hb
      · exact np (q ▸ hb)
      · rw [q, hp2] at hw
        cases hw
        exact dx_noFix hb
    rw [upd_ne q]
    exact hw) kk2.inv, kk2.vn⟩
  have gg : Grow S.fx G H G2 (upd H2 p (DX p (storedAllH [] xs))) := ⟨g.gg, kn.gh, fun b w v hb => by
    have q : b ≠ p := ne_of_none hb hp
    rw [upd_ne q]
    exact g.hh b w v (by rw [upd_ne q]; exact hb), fun b w hb nt n => g.nn b w (by rw [upd_ne (ne_of_none hb hp)]; exact hb) nt n⟩
  exact q p _ G2 _ gg kn hp gp2 upd_same ⟨_, rfl, rn.putAll .nil⟩
end
end Dl

set_option Elab.async false
set_option linter.all false
set_option maxRecDepth 100000
set_option maxHeartbeats 4000000
/-! Dlc: comprehensions of dicts of either kind; data popped off a list of ours; pairs of a dict with tuple keys. -/
namespace Dl
open PySem PySem.Spec PyProof.Rows L2 LamX RZ
/-- an empty dict of a kind -/
def mtD (D : Addr) : Bool → HO
  | true => .dK []
  | false => DX D []
theorem mtD_ok {P : Program} {w : World} {H : Hp} (h : Heap) (hb : sysModules < h.objs.size) (f : Bool) : ObjOk P w H (h.push { cls := .type "dict", data := .dict #[] }) h.objs.size (mtD h.objs.size f) := by
  cases f
  · exact dx_empty h hb
  · exact dk_empty h hb
theorem mtD_mo {K : PySem.W.Frag} {G : Hp} (D : Addr) (f : Bool) : MoOk K G (mtD D f) (moD D f []) := by
  cases f
  · exact ⟨[], rfl, .nil⟩
  · exact RK.nil
/-- a comprehension's d[k] = v -/
theorem x_dictSet {X : Cx} {pins : List (Addr × Obj)} {σ : L2.St} {H : Hp} {s : Shared} {a : Addr} {y v : V} {u r : Value} {E : Value → Shared → Prop} {Q : Unit → Shared → Prop} {Qh : Hp → Prop} (hu : X.A.units + 64 < cLine) (I : Inv X pins σ H s) (g : XPut X.K H a y v Qh) (ry : RelV y u) (rv : RelV v r) (h : ∀ H' s', Qh H' → Inv X pins σ H' s' → Q () s') :
    wpAny (model X.prog X.w) X.A (dictSet a u r) Q E s := by
  rcases g with ⟨ks, k, e, ey, l, q⟩ | ⟨G, xs, ds, dk, b, e, sg, rr, ey, rk, ok, l, q⟩
  · subst ey
    exact d_dictSet I e l ry rv fun s' I' => h _ s' q I'
  · subst ey
    cases (show u = Value.ref b from ry)
    obtain ⟨z1, z2, dd⟩ := dx_rd I (.inl e) sg rr
    refine wpAny_dictSet_heap (knd := nestedKind X.prog X.w) (hsz := z1) (by show X.A.units + 8 < cLine; omega) (key_kind I (rk.mono sg) ok) dd fun h' dd' hs => h _ _ (q r rv) ?_
    obtain ⟨o, es, ep, hq, h2, h3, h4, _, h5⟩ := dd'
    have hl : (storedH xs (nk dk) b r).length ≤ sizeLine := Nat.le_trans (storedH_length xs (nk dk) b r) l
    have new : phiX a (storedH xs (nk dk) b r) h' := ⟨hl, z2, o, es, ep, hq, h2, h3, fun w => hash_any h4 (rr.keysOk.put ok b r) w, h5⟩
    exact d_write I (by rw [e]; exact True.intro) hs ⟨o, hq⟩ ⟨new, ⟨o, hq⟩, fun h1 h2 p k => ⟨p.1, p.2.1, p.2.2.choose, p.2.2.choose_spec.choose, p.2.2.choose_spec.choose_spec.choose, k _ p.2.2.choose_spec.choose_spec.choose_spec.1, p.2.2.choose_spec.choose_spec.choose_spec.2⟩⟩
def tDcX (K : PySem.W.Frag) (wi : TI) (g : TG) (tt : TT) (tk tv : TE) (vs : List Nat) : TE := fun σ H Q => wi σ H fun J H1 => ∀ D, H1 D = none → ∃ (f : Bool) (W : Nat → Nat → Hp → Prop), (∃ m, W 0 m (upd H1 D (mtD D f))) ∧ ∀ i m H, W i m H →
  (J.stop i H ∧ Q (.ref D) H) ∨ (J.go i H ∧ ∃ Nx : Hp → Prop, (∀ H', Nx H' → ∃ m', m' < m ∧ W (i + 1) m' H') ∧ ∀ x H', J.yld i H x H' → g x (L2.wipe σ vs) H' fun σ2 H2 => L2.wipe σ2 vs = L2.wipe σ vs ∧ tt σ2 H2 fun b H3 =>
    if b = true then tk σ2 H3 fun y H4 => tv σ2 H4 fun z H5 => XPut K H5 D y z Nx else Nx H3)
section
variable {X : Cx} {K : PySem.W.Frag}
theorem pe_dcX {kx vx tg iter : Expr} {ifs : List Expr} {scope : Scope} {own : List (Str × Nat)} {pos : Pos} {wi : TI} {g : TG} {tt : TT} {tk tv : TE} (hK : X.K = K) (hu : X.A.units + 64 < cLine) (hc : X.calm = true) (hN : X.N.Nodup) (hi : PI X tg iter wi) (ok : BlkOk X.N X.env.scope scope own)
    (hg : ∀ (s : Shared) (H : Hp) (C : Addr) (cl : List (Str × Addr)) (fp : List Addr), PG (X.blk s H scope (compEnvC scope cl C X.env) fp) tg g) (ht : ∀ (s : Shared) (H : Hp) (C : Addr) (cl : List (Str × Addr)) (fp : List Addr), PTs (X.blk s H scope (compEnvC scope cl C X.env) fp) ifs tt)
    (hk : ∀ (s : Shared) (H : Hp) (C : Addr) (cl : List (Str × Addr)) (fp : List Addr), PE (X.blk s H scope (compEnvC scope cl C X.env) fp) kx tk)
    (he : ∀ (s : Shared) (H : Hp) (C : Addr) (cl : List (Str × Addr)) (fp : List Addr), PE (X.blk s H scope (compEnvC scope cl C X.env) fp) vx tv) (hs : ∀ x, foldedSetIterable iter X.env x = pure x := by intro _; rfl) :
    PE X (.DictComp kx vx [⟨tg, iter, ifs, 0⟩] scope pos) (tDcX K wi g tt tk tv (own.map (·.2))) := by
  subst hK
  refine ⟨fun pins s σ H Q I h => ?_⟩
  rw [arm_eval_DictComp]
  have hfree : ∀ y ∈ scope.names, y.2 = .free → ∃ c, X.env.cells.lookup y.1 = some c := fun y hy e => (ok.free y hy e).elim (fun k => I.ok.has _ (.inl k)) fun k => I.ok.has _ (.inr k)
  refine wpAny_comprehension_free (use := _) rfl hs (closure_ok hfree) ok.kind (fun y hy e => by rw [ok.uniq y hy, e]) (thn (hi.run pins s σ H _ I h) fun xv s1 hx => thn hx fun itv s2 h2 => ?_)
  obtain ⟨it, fp, tn, J, H2, e, I2, T, st2, f2, q⟩ := h2
  subst e
  refine wpAny_newObj_type (newEnv_comp ?_)
  generalize hD : s2.heap.objs.size = D
  obtain ⟨f, W, ⟨m0, w0⟩, turn⟩ := q D (I2.hok.fresh (Nat.le_of_eq hD))
  generalize hs3 : ({ s2 with heap := s2.heap.push { cls := .type "dict", data := .dict #[] } } : Shared) = s3
  have I3 : Inv X pins σ (upd H2 D (mtD D f)) s3 := by
    subst hs3 hD
    exact I2.laid (t' := s2.toks) (fun b o e => Heap.get?_push_of_some _ e) (Nat.le_refl _) (mtD_ok s2.heap I2.big f)
  have h3 : s3.heap = s2.heap.push { cls := .type "dict", data := .dict #[] } := by rw [← hs3]
  have f3 : ∀ b ∈ fp, FpOk X pins (upd H2 D (mtD D f)) b ∧ b < s3.heap.objs.size := fun b hb => by
    obtain ⟨ob, eb, _⟩ := T.obj _ _ st2 b hb
    have hlt := Heap.lt_size eb
    exact ⟨⟨by rw [upd_ne (by rw [← hD]; exact Nat.ne_of_lt hlt)]; exact (f2 b hb).1, (f2 b hb).2⟩, by rw [h3, Heap.size_push]; exact Nat.lt_succ_of_lt hlt⟩
  have st3 : tn 0 s3.heap := T.keep _ _ _ st2 fun b _ o e => by rw [h3]; exact Heap.get?_push_of_some _ e
  have I4 := block_start I3 ok hN f3
  have pg := hg s3 (upd H2 D (mtD D f)) s3.heap.objs.size (cellsFrom (s3.heap.objs.size + 1) scope.names (cloFrom X.env.cells scope.names [])) fp
  have pt := ht s3 (upd H2 D (mtD D f)) s3.heap.objs.size (cellsFrom (s3.heap.objs.size + 1) scope.names (cloFrom X.env.cells scope.names [])) fp
  have pk := hk s3 (upd H2 D (mtD D f)) s3.heap.objs.size (cellsFrom (s3.heap.objs.size + 1) scope.names (cloFrom X.env.cells scope.names [])) fp
  have pe := he s3 (upd H2 D (mtD D f)) s3.heap.objs.size (cellsFrom (s3.heap.objs.size + 1) scope.names (cloFrom X.env.cells scope.names [])) fp
  show codeAny _ _ (.compStart (.DictComp kx vx [⟨tg, iter, ifs, 0⟩] scope pos) 0 (.ref it) (.ref D) (compEnvC scope (cellsFrom (s3.heap.objs.size + 1) scope.names (cloFrom X.env.cells scope.names [])) s3.heap.objs.size X.env)) (compPost (model X.prog X.w) X.A X.xe _ _ (.ref D) s3.heap.objs.size) { s3 with heap := pushCells (s3.heap.push { cls := .type "dict", data := .dict #[] }) scope.names }
  have nfp : ∀ b ∈ fp, (upd H2 D (mtD D f)) b = none := fun b hb => (f3 b hb).1.1
  generalize hce : compEnvC scope (cellsFrom (s3.heap.objs.size + 1) scope.names (cloFrom X.env.cells scope.names [])) s3.heap.objs.size X.env = ce at I4 pg pt pk pe ⊢
  have cL : ce.locals = s3.heap.objs.size := by subst hce; rfl
  generalize hH3 : upd H2 D (mtD D f) = H3 at I3 I4 pg pt pk pe w0 nfp f3
  generalize hs4 : ({ s3 with heap := pushCells (s3.heap.push { cls := .type "dict", data := .dict #[] }) scope.names } : Shared) = s4 at I4 ⊢
  have st4 : tn 0 s4.heap := T.keep _ _ _ st3 fun b _ o e => by rw [← hs4]; exact pushCells_keeps _ _ _ _ (Heap.get?_push_of_some _ e)
  have stat : ∀ {σ' : L2.St} {H' : Hp} {s' : Shared}, Inv (X.blk s3 H3 scope ce fp) [] σ' H' s' → (∀ b ∈ fp, H' b = none) → ∀ b ∈ fp, FpOk (X.blk s3 H3 scope ce fp) [] H' b := fun {σ' H' s'} I' hn b hb =>
    ⟨hn b hb, (I'.ok.exf b hb).1, I'.ok.exfs b hb, .inl hb, fun x c e => (I'.ok.exf b hb).2 x c e, fun p hp => absurd (show p ∈ ([] : List (Addr × Obj)) ++ [] from hp) (by simp)⟩
  have loop : codeAny (model X.prog X.w) X.A (.compLoop (.DictComp kx vx [⟨tg, iter, ifs, 0⟩] scope pos) 0 (.ref it) (.ref D) ce) (compPost (model X.prog X.w) X.A X.xe none (EP X pins σ Q) (.ref D) s3.heap.objs.size) s4 := by
    refine compLoop_anyD (fun n s' => ∃ i H', Inv (X.blk s3 H3 scope ce fp) [] (L2.wipe σ (own.map (·.2))) H' s' ∧ tn i s'.heap ∧ (∀ b ∈ fp, H' b = none) ∧ W i n H') ?_ m0 ⟨0, H3, I4, st4, nfp, w0⟩
    rintro n s5 ⟨i, H5, I5, st5, n5, w5⟩
    rcases turn i n H5 w5 with ⟨stop, qq⟩ | ⟨go, Nx, hNx, step⟩
    · refine thnF (T.done (X.blk s3 H3 scope ce fp) rfl rfl rfl hc i [] s5 _ H5 (fun _ _ => False) I5 (stat I5 n5) st5 stop) fun r s6 ⟨hr, I6⟩ => ?_
      subst hr
      have I7 : Inv X pins σ H5 s6 := I3.call' (ch := fp) I6.os I6.base I6.hok I6.bare fun b hb => ⟨(f3 b hb).1.2.2.2.1, (f3 b hb).1.2.1, (f3 b hb).1.2.2.2.2.1, (f3 b hb).1.2.2.2.2.2⟩
      have nC : H5 s3.heap.objs.size = none := cL ▸ (show H5 ce.locals = none from I6.free)
      obtain ⟨m, hn, _⟩ := I6.loc
      have hn : s6.heap.Ns s3.heap.objs.size m := cL ▸ (show s6.heap.Ns ce.locals m from hn)
      obtain ⟨f0, f1, f2', f3', f4, f5⟩ := I3.fpOk (Nat.le_refl _) nC
      exact ⟨m, hn, fun h'' sb => ⟨.ref D, H5, I7.turned (t' := s6.toks) (fun b o hb e => (sb.2 b hb).trans e) nC f1 f3' f4 f5, rfl, qq⟩⟩
    · refine thnF (T.item (X.blk s3 H3 scope ce fp) rfl rfl rfl hc i [] s5 _ H5 (fun _ _ => False) I5 (stat I5 n5) st5 go) fun r s6 ⟨u, hr, h6⟩ => ?_
      subst hr
      refine thnF h6 fun _ s7 ⟨x, H7, I7, r7, y7, st7, n7⟩ => ?_
      have I7' := I7.pinned (stat I7 n7) (T.obj _ _ st7)
      refine thnF (pg.run _ s7 _ H7 x u _ I7' r7 (step x H7 y7)) fun _ s8 ⟨σ8, H8, I8, hw8, q8⟩ => ?_
      refine thnF (pt.run _ s8 σ8 H8 _ I8 q8) fun b s9 ⟨H9, I9, q9⟩ => ?_
      have fin : ∀ {s' : Shared} {H' : Hp}, Inv (X.blk s3 H3 scope ce fp) ([] ++ pinsAt fp s7.heap) σ8 H' s' → Nx H' → ∃ m, m < n ∧ ∃ i H', Inv (X.blk s3 H3 scope ce fp) [] (L2.wipe σ (own.map (·.2))) H' s' ∧ tn i s'.heap ∧ (∀ b ∈ fp, H' b = none) ∧ W i m H' := fun {s' H'} I' nx => by
        obtain ⟨m', hm, w'⟩ := hNx H' nx
        have pin' : ∀ b ∈ fp, ∀ o, s7.heap.get? b = some o → s'.heap.get? b = some o ∧ H' b = none := fun b hb o e =>
          have z := I'.pin (b, o) (List.mem_append_right _ (List.mem_append_right _ (mem_pinsAt hb e)))
          ⟨z.1, z.2.1⟩
        exact ⟨m', hm, i + 1, H', (I'.unpinned (pins := [])).weak (by rw [← hw8, wipe_length]) (fun j v e => (wipe_some (hw8 ▸ e)).1), T.keep _ _ _ st7 fun b hb o e => (pin' b hb o e).1, fun b hb => (T.obj _ _ st7 b hb).elim fun o z => (pin' b hb o z.1).2, w'⟩
      cases b with
      | false =>
        simp only [Bool.false_eq_true, if_false] at q9 ⊢
        exact fin I9 q9
      | true =>
        simp only [if_true] at q9 ⊢
        exact thnF (pk.run _ s9 σ8 H9 _ I9 q9) fun z s10 ⟨yk, H10, I10, r10, q10⟩ => thnF (pe.run _ s10 σ8 H10 _ I10 q10) fun z2 s11 ⟨yv, H11, I11, r11, g11⟩ => x_dictSet (X := X.blk s3 H3 scope ce fp) hu I11 g11 r10 r11 fun H12 s12 nx I12 => fin I12 nx
  exact codeAny_compStart_dict loop (T.self X.A 0 _ _ _ st4 loop)
end
section
variable {S : Cf} {ρ : Rho} {te ta tb tc tk tv : TE} {tt : TT} {wi : TI} {g : TG} {vs : List Nat} {P : Oc → Prop} {w : TS}
/-- {k: v for x in xs if ..} -/
theorem eq_dc (f : Bool) {α : Type} {l : List α} {dα : α → D} {c : α → Bool} {fk fv : α → D} (hi : Itm S wi ρ (Eq (l.map dα))) (hl : l.length ≤ 1000000)
    (hs : ∀ x, x ∈ l → ∃ js ρ2, (∀ j ∈ js, j ∈ vs) ∧ Tgt S g js (dα x) (wipeR ρ vs) ρ2 ∧ EvT S tt ρ2 (Eq (c x)) ∧ (c x = true → Ev S tk ρ2 (Eq (.dat (fk x))) ∧ Ev S tv ρ2 (Eq (.dat (fv x))) ∧ KeyD f (fk x))) :
    EvQ S (tDcX S.K wi g tt tk tv vs) ρ (fun p => moD p f (pDs [] ((l.filter c).map fun x => (fk x, fv x)))) := fun σ G H k e Q q => hi σ G H k e _ fun J ds G1 H1 g1 k1 pd wk Dl hD => by
  subst pd
  have hnD : H Dl = none := fresh_of g1 k1 hD
  have vD : ¬ S.fx.vol Dl := k1.fresh hD
  have e1 := e.grow g1
  let acc : Nat → List (D × D) := fun i => pDs [] (((l.take i).filter c).map fun x => (fk x, fv x))
  have al : ∀ i, (acc i).length ≤ i := fun i => by
    have h1 := pDs_len (((l.take i).filter c).map fun x => (fk x, fv x)) []
    have h2 := List.length_filter_le c (l.take i)
    rw [List.length_map, List.length_nil] at h1
    rw [List.length_take] at h2
    show (pDs [] _).length ≤ i
    omega
  refine ⟨f, fun i m H2 => m = l.length - i ∧ i ≤ l.length ∧ ∃ G2 u, Grow S.fx G1 H1 G2 H2 ∧ Kn S.fx G2 H2 ∧ G2 Dl = none ∧ H2 Dl = some u ∧ MoOk S.K G2 u (moD Dl f (acc i)),
    ⟨_, rfl, Nat.zero_le _, G1, _, Grow.same k1 (same_new hD), k1.same (same_new hD), k1.freeG hD, upd_same, mtD_mo Dl f⟩, ?_⟩
  rintro i m H2 ⟨rfl, hi, G2, u, g2, k2, nD, aD, mo⟩
  obtain ⟨w1, w2⟩ := wk G2 H2 g2.gg k2
  by_cases hlt : i < l.length
  · obtain ⟨go, yl⟩ := w2 i (dα l[i]) (by simp [hlt])
    refine .inr ⟨go, fun H' => ∃ G2 u, Grow S.fx G1 H1 G2 H' ∧ Kn S.fx G2 H' ∧ G2 Dl = none ∧ H' Dl = some u ∧ MoOk S.K G2 u (moD Dl f (acc (i + 1))), fun H' h' => ⟨l.length - (i + 1), by omega, rfl, hlt, h'⟩, fun x H3 hy => ?_⟩
    obtain ⟨G3, g3, k3, r3⟩ := yl x H3 hy
    obtain ⟨js, ρ2, hj, tg, et, ev⟩ := hs l[i] (List.getElem_mem hlt)
    have ea : acc (i + 1) = if c l[i] = true then pD (acc i) (fk l[i]) (fv l[i]) else acc i := by
      show pDs [] _ = _
      rw [List.take_succ_eq_append_getElem hlt, List.filter_append]
      by_cases hc : c l[i] = true
      · rw [if_pos hc, List.filter_cons_of_pos hc, List.filter_nil, List.map_append]
        unfold pDs
        rw [List.foldl_append]
        rfl
      · rw [if_neg hc, List.filter_cons_of_neg hc, List.filter_nil, List.append_nil]
    have ew : Env S G3 H3 (L2.wipe σ vs) (wipeR ρ vs) := (((e1.grow g2).grow g3)).wipe vs
    refine tg (L2.wipe σ vs) G3 H3 x k3 ew r3 _ fun σ4 df e4 => ⟨wipe_diff df hj, ?_⟩
    refine et σ4 G3 H3 k3 e4 _ fun b G4 H4 g4 k4 pb => ?_
    have nt : ¬ isTup u := mo.noTup
    have g14 : Grow S.fx G1 H1 G4 H4 := ((g2.trans k2 k3 g3).trans k3 k4 g4)
    have aD3 := g3.hh Dl _ vD aD
    have nD4 : G4 Dl = none := g4.nn Dl _ aD3 nt (g3.nn Dl _ aD nt nD)
    have aD4 : H4 Dl = some u := g4.hh Dl _ vD aD3
    have mo4 := mo.mono (g3.gg.trans g4.gg)
    subst pb
    by_cases hc : c l[i] = true
    · rw [if_pos hc]
      rw [if_pos hc] at ea
      obtain ⟨ek, ev', kd⟩ := ev hc
      refine ek σ4 G4 H4 k4 (e4.grow g4) _ fun y s G5 H5 g5 k5 es ry => ev' σ4 G5 H5 k5 ((e4.grow g4).grow g5) _ fun z s2 G6 H6 g6 k6 es2 rz => ?_
      subst es es2
      have aD5 := g5.hh Dl _ vD aD4
      have nD6 : G6 Dl = none := g6.nn Dl _ aD5 nt (g5.nn Dl _ aD4 nt nD4)
      have aD6 : H6 Dl = some u := g6.hh Dl _ vD aD5
      refine x_put k6.gh aD6 (mo4.mono (g5.gg.trans g6.gg)) kd (ry.mono g6.gg) rz (by have := al i; omega) fun u' mo' => ?_
      have g16 := (g14.trans k4 k5 g5).trans k5 k6 g6
      refine ⟨G6, u', ⟨g16.gg, fun b w hb => ?_, fun b w vb hb => ?_, g16.nn⟩, ⟨fun b w hb => ?_, S.fx.ext (fun b w hb hw => ?_) k6.inv, k6.vn⟩, nD6, upd_same, by rw [ea]; exact mo'⟩
      · rw [upd_ne (fun z => by rw [z, nD6] at hb; cases hb)]
        exact k6.gh b w hb
      · rw [upd_ne (fun z => by rw [z, hD] at hb; cases hb)]
        exact g16.hh b w vb hb
      · rw [upd_ne (fun z => by rw [z, nD6] at hb; cases hb)]
        exact k6.gh b w hb
      · rw [upd_ne (fun z => by
          rcases hb with hb | hb
          · exact vD (z ▸ hb)
          · rw [z, aD6] at hw
            cases hw
            exact mo.noFix hb)]
        exact hw
    · rw [if_neg hc]
      rw [if_neg hc] at ea
      exact ⟨G4, u, g14, k4, nD4, aD4, by rw [ea]; exact mo4⟩
  · have e' : i = l.length := by omega
    subst e'
    refine .inl ⟨by rw [List.length_map] at w1; exact w1, q Dl u G2 H2 (g1.trans k1 k2 g2) k2 hnD nD aD ?_⟩
    have : acc l.length = pDs [] ((l.filter c).map fun x => (fk x, fv x)) := by
      show pDs [] _ = _
      rw [List.take_length]
    rw [← this]
    exact mo
/-! ### data popped -/
theorem pop_own {σ : L2.St} {G H : Hp} {j : Nat} {a : Addr} {ds : List D} {d : D} (hw : ρ[j]? = some (.own a (.lst (ds ++ [d])))) (o : OkS S G H) (e : Env S G H σ ρ) :
    ∃ (v : V) (H' : Hp), OkS S G H' ∧ Env S G H' σ (ρ.set j (.own a (.lst ds))) ∧ R S.K G v d ∧ ∀ Q, Q v H' → tBM0 S.K "list" rPop (tVar j) σ H Q := by
  obtain ⟨w0, h1, e1, ga, ba, va, u, ha, r⟩ := e.get hw
  cases Option.some.inj e1
  cases u with
  | lst vs =>
    have hl : vs.length = ds.length + 1 := by
      have := r.length
      rw [List.length_append, List.length_singleton] at this
      exact this
    obtain ⟨v, hv, rv⟩ := RA.get (i := ds.length) (d := d) r (by simp)
    have rd : RA S.K G vs.dropLast ds := by
      have := RA.take ds.length r
      rw [List.take_left' rfl] at this
      rw [List.dropLast_eq_take, hl]
      exact this
    obtain ⟨o2, e2⟩ := own_write (u' := .lst vs.dropLast) (m' := .lst ds) o e hw rd
    exact ⟨v, _, o2, e2, rv, fun Q q => ⟨_, h1, .inl ⟨rfl, _, SqL.of ha⟩, a, vs, v, rfl, rfl, ha, by rw [hl]; exact hv, q⟩⟩
  | _ => exact r.elim
/-- x = xs.pop() -/
theorem xc_pop {i j : Nat} {a : Addr} {ds : List D} {d : D} (hw : ρ[j]? = some (.own a (.lst (ds ++ [d])))) (hs : P (.nx ((ρ.set j (.own a (.lst ds))).set i (.dat d)))) : Xc S (tAsg (tBM0 S.K "list" rPop (tVar j)) (gName i)) ρ P := fun σ G H De o e f => by
  obtain ⟨v, H', o2, e2, rv, q⟩ := pop_own hw o e
  exact q _ (f.nx _ G H' _ o2 (Same.refl G) (e2.set i (s := .dat d) rv) hs)
theorem xs_pop {i j : Nat} {a : Addr} {ds : List D} {d : D} (hw : ρ[j]? = some (.own a (.lst (ds ++ [d])))) (hs : Xc S w ((ρ.set j (.own a (.lst ds))).set i (.dat d)) P) : Xc S (tSeq (tAsg (tBM0 S.K "list" rPop (tVar j)) (gName i)) w) ρ P := xc_seq (xc_pop hw hs)
end
/-! ### for x in o.m(xs.pop()), for x in f(xs.pop()) -/
section
variable {S : Cf} {ρ : Rho} {g : TG} {tb : TS} {P : Oc → Prop}
/-- a loop, once its walk is known -/
theorem for_at {σ : L2.St} {G H : Hp} {De : Ends} (o : OkS S G H) (e : Env S G H σ ρ) (f : Fin S P De G) {wi : TI} {ds : List D}
    (hi : ∀ Rr : It → Hp → Prop, (∀ J G' H', Grow S.fx G H G' H' → Kn S.fx G' H' → Wk S J G' ds → Rr J H') → wi σ H Rr) (I : Nat → Rho → Prop) (h0 : I 0 ρ)
    (hs : ∀ i d ρ1, ds[i]? = some d → I i ρ1 → ∃ js ρ2, Tgt S g js d ρ1 ρ2 ∧ Xc S tb ρ2 (LoopP (I (i + 1)) P)) (hd : ∀ ρ1, I ds.length ρ1 → P (.nx ρ1)) : tFor wi g tb De σ H :=
  hi _ fun J G1 H1 g1 k1 wk => by
    refine ⟨fun i m σ H => m = ds.length - i ∧ i ≤ ds.length ∧ ∃ G ρ', OkS S G H ∧ Same G1 G ∧ Env S G H σ ρ' ∧ I i ρ', ⟨_, rfl, Nat.zero_le _, G1, ρ, o.grow g1 k1, Same.refl _, e.grow g1, h0⟩, ?_⟩
    rintro i m σ2 H2 ⟨rfl, hi, G2, ρ2, o2, s2, e2, hI⟩
    obtain ⟨w1, w2⟩ := wk G2 H2 s2 o2.kn
    by_cases hlt : i < ds.length
    · obtain ⟨go, yl⟩ := w2 i ds[i] (by simp [hlt])
      refine .inr ⟨go, fun σ' H' => ∃ G ρ', OkS S G H' ∧ Same G1 G ∧ Env S G H' σ' ρ' ∧ I (i + 1) ρ', fun σ' H' ⟨G', ρ', q⟩ => ⟨ds.length - (i + 1), by omega, rfl, hlt, G', ρ', q⟩, fun x H3 hy => ?_⟩
      obtain ⟨G3, g3, k3, r3⟩ := yl x H3 hy
      obtain ⟨js, ρ3, tg, xb⟩ := hs i ds[i] ρ2 (by simp [hlt]) hI
      have o3 := o2.grow g3 k3
      refine tg σ2 G3 H3 x k3 (e2.grow g3) r3 _ fun σ4 _ e4 => xb σ4 G3 H3 _ o3 e4 ?_
      have s3 := s2.trans g3.gg
      exact ⟨fun σ' G' H' ρ' o' s' e' p' => ⟨G', ρ', o', s3.trans s', e', p'⟩, fun σ' G' H' ρ' o' s' e' p' => f.nx σ' G' H' ρ' o' ((g1.gg.trans s3).trans s') e' p', fun σ' G' H' ρ' o' s' e' p' => ⟨G', ρ', o', s3.trans s', e', p'⟩, f.rt, f.ex⟩
    · have e' : i = ds.length := by omega
      subst e'
      exact .inl ⟨w1, f.nx σ2 G2 H2 ρ2 o2 (g1.gg.trans s2) e2 (hd ρ2 hI)⟩
/-- for x in o.m(xs.pop()), o an object that never changes, m giving a list -/
theorem xc_forPopM {ι : Type} {args : ι → List Sl} {pre : ι → Prop} {post : ι → Re → Prop} {C : Addr} {m : Str} {E : XK} {i j : Nat} {oa : Option Addr} {fs : Fs} {a : Addr} {ds es : List D} {d : D} (i0 : ι) (hs : ρ[i]? = some (.ob oa C fs)) (lm : fs.lookup m = none) (hw : ρ[j]? = some (.own a (.lst (ds ++ [d]))))
    (ea : args i0 = [.ob none C fs, .dat d]) (hp : pre i0) (ho : ∀ s, post i0 (.ok s) → s = .dat (.list es)) (hx : ∀ C d, ¬ post i0 (.ex C d))
    (I : Nat → Rho → Prop) (h0 : I 0 (ρ.set j (.own a (.lst ds)))) (hb : ∀ i d ρ1, es[i]? = some d → I i ρ1 → ∃ js ρ2, Tgt S g js d ρ1 ρ2 ∧ Xc S tb ρ2 (LoopP (I (i + 1)) P)) (hd : ∀ ρ1, I es.length ρ1 → P (.nx ρ1)) :
    Xc S (tFor (iList S.K (tMeth C m (spI S.K fx0 args pre post) [] E (tVar i) (tCons (tBM0 S.K "list" rPop (tVar j)) tNil))) g tb) ρ P := fun σ G H De o e f => by
  obtain ⟨v, H', o2, e2, rv, q⟩ := pop_own hw o e
  obtain ⟨vo, h2, w0, e0, x, dx, vf, ex, hg, fa, _⟩ := e.get hs
  cases e0
  subst ex
  have key : ∀ Q : VK, (∀ u G1 H1, Grow S.fx G H' G1 H1 → Kn S.fx G1 H1 → R S.K G1 u (.list es) → Q u H1) → tMeth C m (spI S.K fx0 args pre post) [] E (tVar i) (tCons (tBM0 S.K "list" rPop (tVar j)) tNil) σ H Q := fun Q hQ => by
    refine ⟨_, h2, x, dx, vf, rfl, o.kn.gh _ _ hg, fa.lookN lm, q _ ?_⟩
    refine ⟨i0, G, hp, o2.kn.low, ?_, fun u s G1 H1 g1 k1 r1 po => ?_, fun C d dd v G2 H2 _ _ _ _ po => absurd po (hx C d)⟩
    · rw [ea]
      exact .cons ⟨x, dx, vf, rfl, hg, fa, fun b z => by cases z⟩ (.cons rv .nil)
    · have := ho s po
      subst this
      exact hQ u G1 H1 g1.lift (o2.kn.lift g1) r1
  refine for_at (wi := fun σ' _ Rr => iList S.K (tMeth C m (spI S.K fx0 args pre post) [] E (tVar i) (tCons (tBM0 S.K "list" rPop (tVar j)) tNil)) σ' H Rr) (De := De) o2 e2 f (fun Rr hR => ?_) I h0 hb hd
  refine key _ fun u G1 H1 g1 k1 ru => ?_
  cases ru with
  | lst hsq ra => exact ⟨_, rfl, ⟨_, k1.gh.seq hsq⟩, hR _ G1 H1 g1 k1 (wk_list hsq ra)⟩
end
end Dl

set_option Elab.async false
set_option linter.all false
set_option maxRecDepth 100000
set_option maxHeartbeats 4000000
/-! Dlw: order of data of one kind; what sorted gives; keys put one behind another. -/
namespace Dl
open PySem PySem.Spec PyProof.Rows L2 LamX RZ
theorem dlt_irrefl (d : D) : PySem.W.dataLt d d = false := PySem.W.dataLt_self d
theorem dlt_trans {a b c : D} (h1 : PySem.W.dataLt a b = true) (h2 : PySem.W.dataLt b c = true) : PySem.W.dataLt a c = true := lex_trans _ _ _ h1 h2
theorem dlt_neg {a b c : D} (h : PySem.W.dataLt a c = true) : PySem.W.dataLt a b = true ∨ PySem.W.dataLt b c = true := lex_negTrans _ _ _ h
theorem dlt_asymm {a b : D} (h : PySem.W.dataLt a b = true) : PySem.W.dataLt b a = false := by
  cases e : PySem.W.dataLt b a with
  | false => rfl
  | true =>
    have := dlt_trans h e
    rw [dlt_irrefl] at this
    cases this
theorem eqv_of_toks {x y : D} (h : PySem.W.alike x y = true) (e : PySem.W.keyToks x = PySem.W.keyToks y) : PyData.eqv x y = true := by
  cases q : PyData.eqv x y with
  | true => rfl
  | false =>
    have h1 := (PySem.W.toks_eqv x y h).2 q [] [.inl 0]
    rw [e, PySem.W.lex_pre, lex_irrefl] at h1
    exact absurd h1 (by decide)
theorem dlt_anti {a b : D} {t : Sc} (ha : okS a t = true) (hb : okS b t = true) (h1 : PySem.W.dataLt a b = false) (h2 : PySem.W.dataLt b a = false) : a = b :=
  (okS_eqv ha hb).mp (eqv_of_toks (okS_alike ha hb) (lex_total _ _ h1 h2))
theorem dlt_tri {a b : D} {t : Sc} (ha : okS a t = true) (hb : okS b t = true) : PySem.W.dataLt a b = true ∨ a = b ∨ PySem.W.dataLt b a = true := by
  cases h1 : PySem.W.dataLt a b with
  | true => exact .inl rfl
  | false =>
    cases h2 : PySem.W.dataLt b a with
    | true => exact .inr (.inr rfl)
    | false => exact .inr (.inl (dlt_anti ha hb h1 h2))
theorem srtD_pw (l : List D) : (srtD l).Pairwise (fun a b => PySem.W.dataLt b a = false) := by
  have := List.pairwise_mergeSort (le := PySem.W.dataLe false id) (fun a b c h1 h2 => by
    have h1 : (!PySem.W.dataLt b a) = true := h1
    have h2 : (!PySem.W.dataLt c b) = true := h2
    show (!PySem.W.dataLt c a) = true
    rw [Bool.not_eq_true'] at *
    cases e : PySem.W.dataLt c a with
    | false => rfl
    | true =>
      rcases dlt_neg (b := b) e with z | z
      · rw [z] at h2
        cases h2
      · rw [z] at h1
        cases h1) (fun a b => by
    show ((!PySem.W.dataLt b a) || (!PySem.W.dataLt a b)) = true
    cases e : PySem.W.dataLt b a with
    | false => rfl
    | true => rw [dlt_asymm e]; rfl) l
  exact this.imp fun h => (Bool.not_eq_true' _).mp h
/-- sorted is the one sorted row -/
theorem srtD_eq {l m : List D} (t : Sc) (hp : l.Perm m) (hm : m.Pairwise (fun a b => PySem.W.dataLt b a = false)) (ok : ∀ d ∈ m, okS d t = true) : srtD l = m :=
  List.Perm.eq_of_pairwise (le := fun a b => PySem.W.dataLt b a = false) (fun a b ha hb h1 h2 => dlt_anti (ok a (((srtD_perm l).trans hp).mem_iff.mp ha)) (ok b hb) h2 h1) (srtD_pw l) hm ((srtD_perm l).trans hp)
theorem srtD_lt {l m : List D} (t : Sc) (hp : l.Perm m) (hm : m.Pairwise (fun a b => PySem.W.dataLt a b = true)) (ok : ∀ d ∈ m, okS d t = true) : srtD l = m := srtD_eq t hp (hm.imp fun h => dlt_asymm h) ok
theorem okL_perm {l m : List D} {t : Sc} (h : ∀ d ∈ l, okS d t = true) : ∀ d ∈ srtD l, okS d t = true := fun d hd => h d ((srtD_perm l).mem_iff.mp hd)
/-- tuples whose first items are unlike -/
theorem dlt_first {x y : D} {xs ys : List D} {t : Sc} (hx : okS x t = true) (hy : okS y t = true) (ne : x ≠ y) : PySem.W.dataLt (.tuple (x :: xs)) (.tuple (y :: ys)) = PySem.W.dataLt x y := by
  rw [PySem.W.dataLt_tuple, PySem.W.dataLt_all_no (okS_alike hx hy)]
  exact Bool.eq_false_iff.mpr fun z => ne ((okS_eqv hx hy).mp z)
/-! ### keys put one behind another -/
/-- unlike data have unlike keys -/
def NkInj (P : D → Prop) : Prop := ∀ a b, P a → P b → nk a = nk b → a = b
theorem gD_some_mem {P : D → Prop} (inj : NkInj P) : ∀ {ds : List (D × D)} {k : D}, (∀ p ∈ ds, P p.1) → P k → ((gD ds k).isSome = true ↔ k ∈ ds.map Prod.fst)
  | [], k, _, _ => by simp [gD]
  | p :: ds, k, h, hk => by
    have hp := h p List.mem_cons_self
    by_cases e : nk p.1 = nk k
    · have := inj _ _ hp hk e
      rw [gD_pos e]
      simp [this]
    · rw [gD_neg e, gD_some_mem inj (fun q hq => h q (List.mem_cons_of_mem _ hq)) hk, List.map_cons, List.mem_cons]
      exact ⟨.inr, fun z => z.elim (fun z => absurd (by rw [z]) e) id⟩
open Classical in
theorem pD_keys {P : D → Prop} (inj : NkInj P) {ds : List (D × D)} {k v : D} (h : ∀ p ∈ ds, P p.1) (hk : P k) : (pD ds k v).map Prod.fst = if k ∈ ds.map Prod.fst then ds.map Prod.fst else ds.map Prod.fst ++ [k] := by

  unfold pD
  by_cases e : (gD ds k).isSome = true
  · rw [if_pos e, if_pos ((gD_some_mem inj h hk).mp e), List.map_map]
    refine List.map_congr_left fun p _ => ?_
    show (if _ then _ else _ : D × D).1 = _
    split <;> rfl
  · rw [if_neg e, if_neg fun z => e ((gD_some_mem inj h hk).mpr z)]
    simp
theorem pD_P {P : D → Prop} {ds : List (D × D)} {k v : D} (h : ∀ p ∈ ds, P p.1) (hk : P k) : ∀ p ∈ pD ds k v, P p.1 := by
  intro p hp
  unfold pD at hp
  split at hp
  · obtain ⟨q, hq, rfl⟩ := List.mem_map.mp hp
    split
    · exact h q hq
    · exact h q hq
  · rcases List.mem_append.mp hp with q | q
    · exact h p q
    · rw [List.mem_singleton.mp q]
      exact hk
/-- the keys: each once, all of them -/
theorem pDs_keys {P : D → Prop} (inj : NkInj P) : ∀ (ds acc : List (D × D)), (∀ p ∈ acc, P p.1) → (∀ p ∈ ds, P p.1) → (acc.map Prod.fst).Nodup → ((pDs acc ds).map Prod.fst).Nodup ∧ ∀ x, x ∈ (pDs acc ds).map Prod.fst ↔ x ∈ acc.map Prod.fst ∨ x ∈ ds.map Prod.fst
  | [], acc, _, _, nd => ⟨nd, fun x => by simp [pDs]⟩
  | p :: ds, acc, ha, hd, nd => by
    have hp := hd p List.mem_cons_self
    have e := pD_keys inj (v := p.2) ha hp
    have nd2 : ((pD acc p.1 p.2).map Prod.fst).Nodup := by
      rw [e]
      split
      · exact nd
      · rename_i h
        exact List.nodup_append.mpr ⟨nd, by simp, fun a h1 b h2 e => h (by rw [← List.mem_singleton.mp h2, ← e]; exact h1)⟩
    obtain ⟨q1, q2⟩ := pDs_keys inj ds (pD acc p.1 p.2) (pD_P ha hp) (fun q hq => hd q (List.mem_cons_of_mem _ hq)) nd2
    refine ⟨q1, fun x => ?_⟩
    show x ∈ (pDs (pD acc p.1 p.2) ds).map Prod.fst ↔ _
    rw [q2, e, List.map_cons, List.mem_cons]
    constructor
    · rintro (h | h)
      · split at h
        · exact .inl h
        · rcases List.mem_append.mp h with h | h
          · exact .inl h
          · exact .inr (.inl (List.mem_singleton.mp h))
      · exact .inr (.inr h)
    · rintro (h | h | h)
      · refine .inl ?_
        split
        · exact h
        · exact List.mem_append_left _ h
      · refine .inl ?_
        split
        · rw [h]
          assumption
        · rw [h]
          simp
      · exact .inr h
theorem nodup_perm {α : Type} {l m : List α} (h1 : l.Nodup) (h2 : m.Nodup) (h : ∀ x, x ∈ l ↔ x ∈ m) : l.Perm m := (List.perm_ext_iff_of_nodup h1 h2).mpr h
end Dl

set_option Elab.async false
set_option linter.all false
set_option maxRecDepth 100000
set_option maxHeartbeats 4000000
/-! Dm: pairs and values of dicts of either kind; repr of any small thing. -/
namespace Dl
open PySem PySem.Spec PyProof.Rows L2 LamX RZ
section
variable {P : Program} {w : World} {K : PySem.W.Frag} {d : Addr} {o : Obj} {es : Array DictEntry} {ep : Nat}
/-- vs stand for the values of xs -/
def StF (xs : List (NestedKey × Addr × Value)) (vs : List V) : Prop := Vals vs (xs.map fun x => x.2.2)
theorem StF.at {xs : List (NestedKey × Addr × Value)} {vs : List V} (h : StF xs vs) {i : Nat} {p : NestedKey × Addr × Value} (hp : xs[i]? = some p) : ∃ v, vs[i]? = some v ∧ RelV v p.2.2 := by
  unfold StF at h
  have hu : (xs.map fun x => x.2.2)[i]? = some p.2.2 := by rw [List.getElem?_map, hp]; rfl
  have hl := h.length
  obtain ⟨hi, _⟩ := List.getElem?_eq_some_iff.mp hu
  obtain ⟨u, h1, h2⟩ := h.get (i := i) (List.getElem?_eq_getElem (by omega))
  rw [hu] at h1
  cases h1
  exact ⟨_, List.getElem?_eq_getElem (by omega), h2⟩
theorem turn_itemsX {xs : List (NestedKey × Addr × Value)} {vs : List V} {elts : List Expr} {kk : Nat} {tpos : Pos} (it : Addr) (hod : o.data = .dict es ep) (hs : StF xs vs) :
    Turn P w K (.Tuple elts kk tpos) (Itix d o xs vs) [it] it (fun i h => ∃ ok ov, IsItemIter h it d i xs.length ep ok ov) where
  mem := by simp
  obj := fun i h st b hb => by
    have e : b = it := by simpa using hb
    subst e
    obtain ⟨ok, ov, e⟩ := st
    exact ⟨_, e, fun v z => nomatch z⟩
  keep := fun i h h' st k => let ⟨ok, ov, e⟩ := st; ⟨ok, ov, k it (by simp) _ e⟩
  item := by
    intro X hP hw hK hc i pins s σ H E I hf st hg
    subst hP hw hK
    obtain ⟨hd, hi⟩ := hg
    obtain ⟨hss, hgd, hx, es', ep', hdt, hsz, ent⟩ := I.frzX hd
    obtain ⟨rfl, rfl⟩ := dict_ep hod hdt
    obtain ⟨⟨k, b, u⟩, hkv⟩ : ∃ p, xs[i]? = some p := ⟨xs[i], List.getElem?_eq_getElem hi⟩
    obtain ⟨v, hv, ru⟩ := hs.at hkv
    have hen := entX_at ent hkv
    obtain ⟨hlt', hen'⟩ := Array.getElem?_eq_some_iff.mp hen
    obtain ⟨ok, ov, he⟩ := st
    rw [← hsz] at he
    have hlt : it < s.heap.objs.size := Heap.lt_size he
    refine wpAny_pyNext_items_item_raw he ⟨_, hgd, hx, hdt⟩ hlt' fun h' ho hT hz hk => ?_
    rw [hen'] at ho hT
    refine ⟨_, rfl, wpAny_letOwnedTupleGo_items (s := { s with heap := h' }) ho fun h'' he' sb => ?_⟩
    have hT2 : h''.get? s.heap.objs.size = some { cls := .type "tuple", data := .seq #[.ref b, u] } := (sb.2 _ (Nat.ne_of_gt hlt)).trans hT
    have new : ObjOk X.prog X.w (upd H s.heap.objs.size (.tup [.ref b, v])) h'' s.heap.objs.size (.tup [.ref b, v]) :=
      ⟨by show 2 ≤ sizeLine; decide, [.ref b, u], .cons rfl (.cons ru .nil), ⟨_, hT2, rfl, _, rfl⟩⟩
    have I1 : Inv X pins σ (upd H s.heap.objs.size (.tup [.ref b, v])) { s with heap := h'' } :=
      I.turnedNew (t' := s.toks) (ch := [it]) (fun b ob hb e => (sb.2 b (by simpa using hb)).trans (hk b ob (by simpa using hb) e)) hf (Nat.le_refl _) new
    refine ⟨.ref s.heap.objs.size, _, I1, rfl, ⟨_, k, b, u, v, hkv, hv, rfl, I.hok.fresh (Nat.le_refl _), rfl⟩, ⟨.ref b, u, ?_⟩, fun b hb => ?_⟩
    · rw [← hsz]; exact he'
    · have e : b = it := by simpa using hb
      rw [e, upd_ne (Nat.ne_of_lt hlt)]
      exact (hf it (by simp)).1
  done := by
    intro X hP hw hK hc i pins s σ H E I hf st hg
    subst hP hw hK
    obtain ⟨hd, hi⟩ := hg
    obtain ⟨f0, f1, f2, f3, f4, f5⟩ := hf it (by simp)
    obtain ⟨hss, hgd, hx, es', ep', hdt, hsz, ent⟩ := I.frzX hd
    obtain ⟨rfl, rfl⟩ := dict_ep hod hdt
    obtain ⟨ok, ov, he⟩ := st
    rw [← hsz] at he
    exact wpAny_pyNext_items_end_raw (I.ok.hd hc) he ⟨_, hgd, hx, hdt⟩ (by omega) fun h' eb => ⟨rfl, I.turned (t' := s.toks) (fun b ob hb e => eb b ob hb e) f0 f1 f3 f4 f5⟩
  self := fun A i s Q E st h => let ⟨_, _, e⟩ := st; PySem.W.kcp_self e h
end
/-- for k, x in d.items(), the dict of either kind -/
def iItemsX (td : TE) : TI := fun σ H R => td σ H fun x H1 => ∃ d o, x = .ref d ∧ ((∃ kvs, H1 d = some (.frz o (.dK kvs)) ∧ R (Iti d o kvs) H1) ∨ ∃ xs vs, H1 d = some (.frz o (DX d xs)) ∧ StF xs vs ∧ R (Itix d o xs vs) H1)
theorem pi_itemsX {X : Cx} {e : Expr} {td : TE} {apos cpos tpos : Pos} {elts : List Expr} {kk : Nat} (he : PE X e td) (hbase : attributeBase e "items" X.env (eval e X.env) = eval e X.env := by rfl) (hline : (apos.endLine == cpos.line) = true := by rfl) :
    PI X (.Tuple elts kk tpos) (.Call (.Attribute e "items" apos) [] [] cpos) (iItemsX td) := by
  refine ⟨fun pins s σ H R I h => ?_⟩
  refine wpAny_Call_method (T := "dict") (id := "dict.items") hbase rfl hline F.plainAttrs_dict F.slot_dict_items F.type_dict_items (thn (he.run pins s σ H _ I h) fun u s1 ⟨x, H1, I1, rx, d, o, ex, q⟩ => ?_)
  subst ex
  obtain rfl : u = Value.ref d := rx
  have I2 : Inv X pins σ H1 { s1 with heap := s1.heap.push { cls := .type "dict_items", data := .fields #[.ref d] } } := I1.kept (t' := s1.toks) fun b ob q => Heap.get?_push_of_some _ q
  rcases q with ⟨kvs, hd, q⟩ | ⟨xs, vs, hd, hst, q⟩
  · obtain ⟨hs, hgd, hx, es, ep, vs, hdt, hsz, kv, hm⟩ := I1.frzK hd
    have hl : kvs.length = vs.length := Paired.length kv
    refine ⟨hm.dictOf.typeIs, hm.dictOf.mapOf.noDict, ?_⟩
    have fin : wpAny (model X.prog X.w) X.A (pyIter (.ref s1.heap.objs.size)) (PIE X pins σ (.Tuple elts kk tpos) R) X.xe { s1 with heap := s1.heap.push { cls := .type "dict_items", data := .fields #[.ref d] } } := by
      refine wpAny_pyIter_items (d := d) (knd := mixKind X.prog X.w) ⟨_, Heap.get?_push_size _ rfl, rfl, rfl⟩ (hm.push _) (pi_one (tk := s1.toks) I2 _ (turn_items _ hdt) ⟨.none, .none, ?_⟩ q)
      rw [hl]
      exact Heap.get?_push_size _ rfl
    show wpAny _ _ (callWith cpos (.builtin "dict.items") [.ref d] [] []) _ X.xe s1
    exact method_meetsIn F.slot_dict_items F.entry_dict_items rfl (PySem.evalArgs_none ⟨rfl, hm.dictOf.typeIs, F.args_dict_items_1 _, _, meets_dict_items (mixKind X.prog X.w) d hs, ⟨vs, hm.dictOf⟩, fin⟩)
  · obtain ⟨hs, hgd, hx, es, ep, hdt, hsz, ent⟩ := I1.frzX hd
    have raw : s1.heap.DictRaw d es ep := ⟨_, hgd, hx, hdt⟩
    refine ⟨raw.typeIs, fun b q => ?_, ?_⟩
    · cases q
      exact ⟨o, hgd, hx.2.1⟩
    have fin : wpAny (model X.prog X.w) X.A (pyIter (.ref s1.heap.objs.size)) (PIE X pins σ (.Tuple elts kk tpos) R) X.xe { s1 with heap := s1.heap.push { cls := .type "dict_items", data := .fields #[.ref d] } } := by
      refine wpAny_pyIter_items_raw (d := d) ⟨_, Heap.get?_push_size _ rfl, rfl, rfl⟩ (raw.push _) (pi_one (tk := s1.toks) I2 _ (turn_itemsX _ hdt hst) ⟨.none, .none, ?_⟩ q)
      rw [← hsz]
      exact Heap.get?_push_size _ rfl
    show wpAny _ _ (callWith cpos (.builtin "dict.items") [.ref d] [] []) _ X.xe s1
    exact method_meetsIn F.slot_dict_items F.entry_dict_items rfl (PySem.evalArgs_none ⟨rfl, raw.typeIs, F.args_dict_items_1 _, _, meets_dict_items_raw d hs, ⟨⟨es, ep, raw⟩, fin⟩⟩)
theorem RN.vals {K : PySem.W.Frag} {G : Hp} : ∀ {xs : List (NestedKey × Addr × Value)} {ds : List (D × D)}, RN K G xs ds → ∃ vs, StF xs vs ∧ RA K G vs (ds.map Prod.snd)
  | _, _, .nil => ⟨[], .nil, .nil⟩
  | _, _, .cons (v := v) _ _ _ rv r rs => by
    obtain ⟨vs, h1, h2⟩ := RN.vals rs
    exact ⟨v :: vs, .cons rv h1, .cons r h2⟩
theorem RK.vals {K : PySem.W.Frag} {G : Hp} : ∀ {ks : List (Key × V)} {ds : List (D × D)}, RK K G ks ds → RA K G (ks.map Prod.snd) (ds.map Prod.snd)
  | _, _, .nil => .nil
  | _, _, .cons r rs => .cons r (RK.vals rs)
section
variable {S : Cf} {ρ : Rho} {te ta tb tc : TE} {P : Oc → Prop} {w : TS} {i j : Nat} {a : Addr} {f : Bool} {ds : List (D × D)}
theorem wk_itemsX {G : Hp} {o : Obj} {xs : List (NestedKey × Addr × Value)} {vs : List V} (hg : G a = some (.frz o (DX a xs))) (r : RN S.K G xs ds) (rv : RA S.K G vs (ds.map Prod.snd)) : Wk S (Itix a o xs vs) G (ds.map pairD) := wk_pair (f := fun a b => .tuple [a, b]) fun G2 H2 e k => by
  have h2 : H2 a = some (.frz o (DX a xs)) := k.gh _ _ (e _ _ hg)
  have hl := r.length
  refine ⟨⟨h2, by rw [List.length_map, hl]; exact Nat.le_refl _⟩, fun i d hd => ?_⟩
  rw [List.getElem?_map] at hd
  obtain ⟨p, hp, rfl⟩ := Option.map_eq_some_iff.mp hd
  obtain ⟨q, b, u, v, hk, e1, _⟩ := r.at hp
  refine ⟨⟨h2, (List.getElem?_eq_some_iff.mp hk).1⟩, fun x H3 ⟨T, k', b', u', v', hx, hv', ex, hT, eH⟩ => ?_⟩
  rw [hk] at hx
  cases hx
  obtain ⟨v2, hv2, r2⟩ := rv.get (i := i) (d := p.2) (by rw [List.getElem?_map, hp]; rfl)
  rw [hv2] at hv'
  cases hv'
  exact ⟨T, _, _, p.1, p.2, ex, hT, eH, e1.mono e, r2.mono e, rfl⟩
theorem im_itemsX (h : Ev S te ρ (Eq (.dic f ds))) : Itm S (iItemsX te) ρ (Eq (ds.map pairD)) := fun σ G H k e Rr q => h σ G H k e _ fun v s G1 H1 g1 k1 es r => by
  subst es
  obtain ⟨a, rfl, kn⟩ := r
  cases f with
  | true =>
    obtain ⟨o, ks, hg, rk⟩ := kn
    exact ⟨a, o, rfl, .inl ⟨ks, k1.gh _ _ hg, q _ _ G1 H1 g1 k1 rfl (wk_items hg rk)⟩⟩
  | false =>
    obtain ⟨o, xs, hg, rn⟩ := kn
    obtain ⟨vs, h1, h2⟩ := rn.vals
    exact ⟨a, o, rfl, .inr ⟨xs, vs, k1.gh _ _ hg, h1, q _ _ G1 H1 g1 k1 rfl (wk_itemsX hg rn h2)⟩⟩
end
/-! ### list(d.values()) -/
def tListVals (K : PySem.W.Frag) (td : TE) : TE := fun σ H Q => td σ H fun x H1 => ∃ (a : Addr) (G : Hp) (f : Bool) (ds : List (D × D)), x = .ref a ∧ Same G H1 ∧ DRd K G H1 a f ds ∧ ∀ p vs, H1 p = none → RA K G vs (ds.map Prod.snd) → Q (.ref p) (upd H1 p (.lst vs))
section
variable {X : Cx} {pins : List (Addr × Obj)} {σ : L2.St} {H : Hp} {s : Shared}
theorem src_vals (I : Inv X pins σ H s) {a r : Addr} {G : Hp} {f : Bool} {ds : List (D × D)} (sg : Same G H) (dr : DRd X.K G H a f ds) (hv : s.heap.IsValuesView r a) :
    ∃ (n : Nat) (Pk : Nat → Value → Prop) (OK : Heap → Prop), PySem.W.KdlSrc X.prog X.w "dict_values" r a n Pk OK ∧ OK s.heap ∧ n ≤ sizeLine ∧ n = ds.length ∧ ∀ us : List Value, us.length = n → (∀ j v, us[j]? = some v → Pk j v) → ∃ vs, Vals vs us ∧ RA X.K G vs (ds.map Prod.snd) := by
  cases f with
  | true =>
    obtain ⟨ks, e, rr⟩ := dr
    obtain ⟨z, lo, vs, rk, hd⟩ := dk_rd I.hok e
    obtain ⟨ep, hat⟩ := hd.dictAt
    have hl : ks.length = vs.length := Paired.length rk
    refine ⟨vs.length, _, _, PySem.W.kdl_values (knd := mixKind X.prog X.w) (kvs := vs) (ep := ep), ⟨hv, hat⟩, by omega, by rw [← rr.length, hl], fun us hu hp => ⟨ks.map fun x => x.2, ?_, rr.vals⟩⟩
    refine vals_of_at (by rw [List.length_map]; omega) fun j x w h1 h2 => ?_
    obtain ⟨k, hky⟩ := hp j w h2
    obtain ⟨x', h3, h4⟩ := KV.at' rk hky
    rw [List.getElem?_map, h3] at h1
    cases h1
    exact h4
  | false =>
    obtain ⟨xs, e, rr⟩ := dr
    obtain ⟨⟨z, lo, o, es, ep, h1, h2, h3, h4, h5⟩, _⟩ := (show ObjOk X.prog X.w H s.heap a (DX a xs) from e.ok I.hok)
    have hl : es.size = xs.length := by
      have := congrArg List.length (h4 X.w)
      simpa using this
    obtain ⟨vs, hst, hra⟩ := rr.vals
    have hlv := hst.length
    rw [List.length_map] at hlv
    refine ⟨es.size, _, _, KdlSrc.rawValues (ep := ep), ⟨hv, ⟨o, h1, h2, h3⟩⟩, by omega, by rw [← rr.length, hl], fun us hu hp => ⟨vs, ?_, hra⟩⟩
    refine vals_of_at (by omega) fun j x w q1 q2 => ?_
    obtain ⟨hj, rfl⟩ := hp j w q2
    obtain ⟨p, hp'⟩ : ∃ p, xs[j]? = some p := ⟨xs[j]'(by omega), List.getElem?_eq_getElem _⟩
    have en := entX_at (h4 X.w) hp'
    rw [Array.getElem?_eq_getElem hj] at en
    rw [Option.some.inj en]
    obtain ⟨v, hv', rv⟩ := hst.at hp'
    rw [q1] at hv'
    cases hv'
    exact rv
end
theorem pe_listVals {X : Cx} {K : PySem.W.Frag} {o : Expr} {td : TE} {p pos apos mpos : Pos} (hK : X.K = K) (hc : X.calm = true) (hg : Gl X "list") (hm : X.mg "list" = none) (hd : PE X o td) (hbase : attributeBase o "values" X.env (eval o X.env) = eval o X.env := by rfl) (hline : (apos.endLine == mpos.line) = true := by rfl)
    (hse : starEach [Expr.Call (.Attribute o "values" apos) [] [] mpos] X.env = [(false, eval (Expr.Call (.Attribute o "values" apos) [] [] mpos) X.env)] := by rfl) :
    PE X (.Call (.Name "list" p) [.Call (.Attribute o "values" apos) [] [] mpos] [] pos) (tListVals K td) := by
  subst hK
  refine ⟨fun pins s σ H Q I h => ?_⟩
  refine wpAny_Call_Name_kw (ld_blt I hg hm (u := .type "list") (by first | rfl | decide +kernel) ?_ (by first | decide +kernel | decide) (by first | decide +kernel | decide))
  rw [hse]
  refine PySem.callWith_type1 (wpAny_Call_method0_late hbase hline (thn (hd.run pins s σ H _ I h) fun v s1 ⟨x, H1, I1, r1, a, G, f, ds, ex, sg, dr, q⟩ => ?_))
  subst ex
  obtain rfl : v = Value.ref a := r1
  obtain ⟨ht, hnd⟩ := drd_at I1 sg dr
  have I2 : Inv X pins σ H1 { s1 with heap := s1.heap.push { cls := .type "dict_values", data := .fields #[.ref a] } } := I1.kept (t' := s1.toks) fun b ob q => Heap.get?_push_of_some _ q
  obtain ⟨n, Pk, OK, src, ok, hn, en, hv⟩ := src_vals I2 sg dr (r := s1.heap.objs.size) ⟨_, Heap.get?_push_size _ rfl, rfl, rfl⟩
  refine ⟨"dict", "dict.values", F.plainAttrs_dict, F.slot_dict_values, F.type_dict_values, ht, hnd, Calls.callWith_builtin rfl (PySem.evalArgs_none ?_)⟩
  cases f with
  | true =>
    obtain ⟨ks, e, rr⟩ := dr
    obtain ⟨z, lo, vs, rk, hdo⟩ := dk_rd I1.hok e
    refine call_meetsIn F.slot_dict_values ht F.entry_dict_values (F.args_dict_values_1 _) (meets_dict_values (mixKind X.prog X.w) a lo) ⟨⟨vs, hdo⟩, ?_⟩
    refine PySem.W.kdl_call src (I.ok.hd hc) ok hn fun h' tk acc' c' kp e it => ?_
    obtain ⟨vs, rv, ra⟩ := hv acc'.toList (by rw [Array.length_toList]; exact it.1) fun j v hj => it.2 j v (by rw [← Array.getElem?_toList]; exact hj)
    refine ⟨.ref _, _, I2.laid (t' := tk) (o := .lst vs) kp (Nat.le_refl _) ?_, rfl, q _ vs (I2.hok.fresh (Nat.le_refl _)) ra⟩
    exact ⟨by rw [ra.length, List.length_map, ← en]; exact hn, acc'.toList, c', rv, by rw [Array.toArray_toList]; exact e⟩
  | false =>
    obtain ⟨xs, e, rr⟩ := dr
    obtain ⟨⟨z, lo, o, es, ep, h1, h2, h3, h4, h5⟩, _⟩ := (show ObjOk X.prog X.w H1 s1.heap a (DX a xs) from e.ok I1.hok)
    refine call_meetsIn F.slot_dict_values ht F.entry_dict_values (F.args_dict_values_1 _) (meets_dict_values_raw a lo) ⟨⟨es, ep, ⟨o, h1, h2, h3⟩⟩, ?_⟩
    refine PySem.W.kdl_call src (I.ok.hd hc) ok hn fun h' tk acc' c' kp e it => ?_
    obtain ⟨vs, rv, ra⟩ := hv acc'.toList (by rw [Array.length_toList]; exact it.1) fun j v hj => it.2 j v (by rw [← Array.getElem?_toList]; exact hj)
    refine ⟨.ref _, _, I2.laid (t' := tk) (o := .lst vs) kp (Nat.le_refl _) ?_, rfl, q _ vs (I2.hok.fresh (Nat.le_refl _)) ra⟩
    exact ⟨by rw [ra.length, List.length_map, ← en]; exact hn, acc'.toList, c', rv, by rw [Array.toArray_toList]; exact e⟩
theorem ef_listVals {S : Cf} {ρ : Rho} {te : TE} {f : Bool} {ds : List (D × D)} (h : EvDc S te ρ f ds) : EvF S (tListVals S.K te) ρ (Eq (ds.map Prod.snd)) := fun σ G H k e Q q =>
  h σ G H k e _ fun a G1 H1 g1 k1 st => ⟨a, G1, f, ds, rfl, k1.gh, st _ _ (Grow.refl k1) k1, fun p vs hp ra =>
    q p vs _ G1 _ (g1.trans k1 (k1.same (same_new hp)) (Grow.same k1 (same_new hp))) (k1.same (same_new hp)) (fresh_of g1 k1 hp) (k1.freeG hp) upd_same ra rfl⟩
/-! ### repr of a small thing -/
def isFlatR : D → Bool
  | .none => true
  | .int _ => true
  | .bool _ => true
  | _ => false
def ShowY (d : D) : Prop := (isDisp d = true ∧ (d.hasDict = false ∨ noLst d = true) ∧ d.shown.length ≤ sizeLine ∧ d.depth ≤ 20 ∨ isFlatR d = true) ∧ d.showable = true
def rReprY (K : PySem.W.Frag) : List V → Hp → VK → Prop := fun xs H Q => ∃ (x : V) (d : D), xs = [x] ∧ R K H x d ∧ ShowY d ∧ Q (.str d.shown) H
theorem cr_reprY {X : Cx} (hg : X.A.guards = some []) (hu : X.A.units + 64 < cLine) : CallR X (.builtin "repr") (rReprY X.K) := by
  intro pins s σ H xs us Q I r h
  obtain ⟨x, d, rfl, rx, ⟨hs, sh⟩, q⟩ := h
  rcases hs with ⟨dd, nd, sz, dp⟩ | hf
  · exact cr_reprX hg hu pins s σ H [x] us Q I r ⟨x, d, rfl, rx, dd, nd, sh, sz, dp, q⟩
  · obtain ⟨u, rfl, ru⟩ := vals1 r
    cases d with
    | none =>
      cases rx
      cases ru
      exact PySem.P.repr_of_none ⟨.str _, H, I.tok _, ⟨_, rfl⟩, by rw [PyData.shown_none] at q; exact q⟩
    | bool b =>
      cases rx
      cases ru
      exact PySem.P.repr_of_bool ⟨.str _, H, I.tok _, ⟨_, rfl⟩, by rw [PyData.shown_bool] at q; exact q⟩
    | int i =>
      cases rx
      obtain ⟨t, rfl⟩ := ru
      exact PySem.P.repr_of_int (of_decide_eq_true sh) ⟨.str _, H, I.tok _, ⟨_, rfl⟩, by rw [PyData.shown_int] at q; exact q⟩
    | _ => cases hf
theorem ev_reprY {S : Cf} {ρ : Rho} {te : TE} {d : D} (h : Ev S te ρ (Eq (.dat d))) (o : ShowY d) : Ev S (tCB (rReprY S.K) (tCons te tNil)) ρ (Eq (.dat (.str d.shown))) := fun σ G H k e Q q =>
  h σ G H k e _ fun v s G1 H1 g1 k1 es r => by
    subst es
    exact ⟨v, d, rfl, r.mono k1.gh, o, q _ _ G1 H1 g1 k1 rfl (.str _)⟩
theorem ShowOk.y {d : D} (h : ShowOk d) : ShowY d := by
  obtain ⟨a, b, c, e, f⟩ := h
  exact ⟨.inl ⟨a, b, e, f⟩, c⟩
end Dl

set_option Elab.async false
set_option linter.all false
set_option maxRecDepth 100000
set_option maxHeartbeats 4000000
/-! Dmq: == and != of objects by the text's own __eq__. -/
namespace HN
open PySem PySem.Spec PyProof.Rows PySem.SeqAt
section
variable {M : Model} {prog : Program} {w : World} {A : Around} {E : Value → Shared → Prop} {s : Shared} {K : PySem.W.Frag} {x C f : Addr} {ox : Obj} {od : Option Obj} {b tb : Value}
theorem ifBound_objNe {args : List Value} {Q : Option Value → Shared → Prop} (X : K.In s.heap) (I : PySem.W.InstAt s.heap x ox C od) (hs : PySem.W.findIn K (.ref C) "__ne__" = some (some (.builtin "object.__ne__")))
    (h : wpAny M A (call (.builtin "object.__ne__") (.ref x :: args)) (fun v => Q (some v)) E s) : wpAny M A (callSpecialIfBound? (.ref x) "__ne__" args) Q E s := by
  simp only [callSpecialIfBound?, bindSpecialIfBound?]
  refine wpAny_holding (wpAny_bind (wpAny_bind (wpAny_bind (I.type.here ((PySem.W.looks_findIn X hs).here ?_)))))
  refine wpAny_bind (wpAny_askSetting (wpAny_ite ?_))
  have fin : wpAny M A (call (.builtin "object.__ne__") ([.ref x] ++ args) >>= fun v => pure (some v)) Q E s := wpAny_bind (wpAny_mono h (fun v s' h' => wpAny_pure h') fun _ _ h' => h')
  split
  · exact wpAny_bind (wpAny_of_eq (F.cmp_object.ne.bind _) (wpAny_pure (by exact fin)))
  · exact wpAny_tryCatch (wpAny_bind (wpAny_of_eq (F.cmp_object.ne.bind _) (wpAny_pure (by exact fin))))
theorem entry_ne {Q : Fin → Shared → Prop} (hu : A.units < cLine) (X : K.In s.heap) (I : PySem.W.InstAt s.heap x ox C od) (hs : PySem.W.findIn K (.ref C) "__eq__" = some (some (.ref f))) (hf : PySem.W.isFn K (.ref f) = true)
    (h : wpAny M A (call (.ref f) [.ref x, b]) (fun v s' => ∃ r, v = .bool r ∧ Q (.done (.ret (.bool (!r)))) s') E s) : wpAny M A (Builtin.«object.__ne__» ⟨[.ref x, b], []⟩) Q E s := by
  unfold Builtin.«object.__ne__»
  repeat (first
    | with_reducible refine wpAny_cRoomFor hu ?_
    | (refine wpAny_bind (m := callSpecialIfBound? (.ref x) (Str.ofString "__eq__") [b]) (PySem.W.ifBound_K X I hs hf (wpAny_mono h (fun r s' hr => ?_) fun _ _ e => e))
       obtain ⟨r, rfl, hq⟩ := hr
       repeat (first | exact hq | exact wpAny_pure hq | exact wpAny_truthy_bool hq | (refine wpAny_bind (m := truthy (.bool _)) (wpAny_truthy_bool ?_)) | wp_step))
    | wp_step)
theorem rc_neK {Q : Value → Shared → Prop} (hu : A.units + 1 < cLine) (X : K.In s.heap) (I : PySem.W.InstAt s.heap x ox C od) (hb : PySem.W.Looks (model prog w) s.heap (typeOf b) tb) (hn : PySem.W.notFirst K C tb = true) (hm : PySem.W.mroIn K C (.type "object") = some true)
    (hs : PySem.W.findIn K (.ref C) "__ne__" = some (some (.builtin "object.__ne__"))) (he : PySem.W.findIn K (.ref C) "__eq__" = some (some (.ref f))) (hf : PySem.W.isFn K (.ref f) = true)
    (h : wpAny (model prog w) A.in1 (call (.ref f) [.ref x, b]) (fun v s' => ∃ r, v = .bool r ∧ Q (.bool (!r)) s') E s) : wpAny (model prog w) A (richCompare .NotEq (.ref x) b) Q E s := by
  have one : wpAny (model prog w) A (tryCompare (.ref x) "__ne__" b) (fun r s' => ∃ v, r = some v ∧ Q v s') E s := by
    unfold tryCompare
    refine wpAny_bind (ifBound_objNe X I hs (wpAny_call (codeAny_call_builtin F.cmp_object.ne.plain F.cmpEntry_ne (PySem.W.check_slot F.cmpKind_ne F.cmpSplit_ne (I.type.andThen (PySem.W.looks_mroIn X hm)) (F.cmpArgs_ne _ _) (entry_ne (by show A.units + 1 < _; omega) X I he hf (wpAny_mono h (fun v s' hv => ?_) fun _ _ e => e))))))
    obtain ⟨r, rfl, q⟩ := hv
    exact ⟨r, rfl, wpAny_pure ⟨_, rfl, q⟩⟩
  unfold richCompare
  simp only [oneThing_ref]
  refine wpAny_holding (wpAny_bind (wpAny_cRoomFor (by omega) ?_))
  refine wpAny_bind (I.type.here (wpAny_bind (hb.here ?_)))
  split
  · rename_i q
    have e : PySem.W.subIn K tb (.ref C) = some false := by
      rcases Bool.or_eq_true_iff.mp hn with e | e
      · rw [beq_iff_eq.mp e] at q; simp at q
      · exact beq_iff_eq.mp e
    refine wpAny_bind ((PySem.W.looks_subIn X e).here ?_)
    simp only [Bool.false_eq_true, if_false]
    refine wpAny_bind (wpAny_mono one (fun r s' z => ?_) fun _ _ e => e)
    obtain ⟨v, rfl, hq⟩ := z
    exact wpAny_pure hq
  · refine wpAny_bind (wpAny_pure ?_)
    simp only [Bool.false_eq_true, if_false]
    refine wpAny_bind (wpAny_mono one (fun r s' z => ?_) fun _ _ e => e)
    obtain ⟨v, rfl, hq⟩ := z
    exact wpAny_pure hq
end
end HN
namespace Dl
open PySem PySem.Spec PyProof.Rows L2 LamX RZ
/-- what == and isinstance ask of a class with an __eq__ of its own -/
structure EqC (K : PySem.W.Frag) (C : Addr) : Prop where
  cl : Cls K C
  ha : PySem.W.findIn K (.ref C) "__class__" = some (some (.builtin "object.__class__"))
  hn : PySem.W.specialIn K (.builtin "object.__class__") "__get__" = some (some (.builtin "getset_descriptor.__get__"))
  htk : PySem.W.takesIn K (.builtin "object.__class__") = some true
  hm : PySem.W.mroIn K C (.type "object") = some true
  hc : PySem.W.isClsIn K C = true
  ht : PySem.W.typeIn K (.ref C) = some (.type "type")
  ne : PySem.W.findIn K (.ref C) "__ne__" = some (some (.builtin "object.__ne__"))
theorem sub_tuple {K : PySem.W.Frag} {C : Addr} : PySem.W.subIn K (.type "tuple") (.ref C) = some false := by
  have e : fastBuiltinMro "tuple" = some [.type "tuple", .type "object"] := by decide +kernel
  show (fastBuiltinMro "tuple").map (·.contains (.ref C)) = some false
  rw [e]
  first
    | rfl
    | simp
theorem EqC.me {K : PySem.W.Frag} {C : Addr} : PySem.W.kitOne K (.ref C) (.ref C) = some true := by
  unfold PySem.W.kitOne
  rw [if_pos (by simp)]
theorem EqC.tu {K : PySem.W.Frag} {C : Addr} (h : EqC K C) : PySem.W.kitOne K (.type "tuple") (.ref C) = some false := by
  unfold PySem.W.kitOne
  rw [if_neg (by simp)]
  show (if ((PySem.W.clsIn K C).isSome && PySem.W.typeIn K (.ref C) == some (.type "type")) = true then PySem.W.subIn K (.type "tuple") (.ref C) else none) = some false
  have h1 : (PySem.W.clsIn K C).isSome = true := h.hc
  rw [h1, h.ht, if_pos (by simp), sub_tuple]
/-- an object of the class at C, or a tuple -/
def ObTu (K : PySem.W.Frag) (C : Addr) (H : Hp) (y : V) : Prop := (∃ b dy wf, y = .ref b ∧ H b = some (.ins C dy wf)) ∨ TyX K H y (.type "tuple")
def rEqM (K : PySem.W.Frag) (C : Addr) (sp : Sp) : R2 := fun x y H Q => ∃ a dx vf, x = .ref a ∧ H a = some (.ins C dx vf) ∧ ObTu K C H y ∧ sp [x, y] H (fun v H' => ∃ b, v = .bl b ∧ Q (.bl b) H') E0
def rNeM (K : PySem.W.Frag) (C : Addr) (sp : Sp) : R2 := fun x y H Q => ∃ a dx vf, x = .ref a ∧ H a = some (.ins C dx vf) ∧ ObTu K C H y ∧ sp [x, y] H (fun v H' => ∃ b, v = .bl b ∧ Q (.bl (!b)) H') E0
section
variable {X : Cx} {k : Nat} {C : Addr} {ps : List Str} {sp : Sp}
theorem obtu_looks {pins : List (Addr × Obj)} {σ : L2.St} {H : Hp} {s : Shared} {y : V} {u : Value} (I : Inv X pins σ H s) (ry : RelV y u) (h : ObTu X.K C H y) : ∃ tb, PySem.W.Looks (model X.prog X.w) s.heap (typeOf u) tb ∧ PySem.W.notFirst X.K C tb = true := by
  rcases h with ⟨b, dy, wf, rfl, hb⟩ | ht
  · cases ry
    obtain ⟨mB, J, _⟩ := ins_get I.hok hb
    obtain ⟨od, J, _⟩ := J.look
    exact ⟨_, J.type, by simp [PySem.W.notFirst]⟩
  · obtain ⟨P, Z, p, _⟩ := kit_of I ry ht
    exact ⟨_, Z.ty _ _ I.kIn p, by unfold PySem.W.notFirst; rw [sub_tuple]; simp⟩
theorem run_eq {A : Around} {pins : List (Addr × Obj)} {σ : L2.St} {H : Hp} {s : Shared} {a f : Addr} {y : V} {u : Value} {fd : FuncData} {Q : VK} (F : FnOk X.prog X.w X.K X.mg X.base (L2.CX X.prog X.w) k f fd ps sp) (hb : Binds X.K fd ps []) (hr : Room k A) (hf : A.frames = X.A.frames) (I : Inv X pins σ H s) (ry : RelV y u) (h : sp [.ref a, y] H Q E0) :
    wpAny (model X.prog X.w) A (call (.ref f) [.ref a, u]) (EP X pins σ Q) X.xe s := by
  have e0 : Env0 X.prog X.w X.K X.mg X.base A X.stack s H := by
    have e := I.env0
    exact ⟨by rw [hf]; exact e.frames, e.mod, e.bs, e.bsz, e.funs, e.frf, e.hok, e.bare⟩
  have hl := F.len _ _ _ _ h
  have r2 : Vals [V.ref a, y] [Value.ref a, u] := .cons rfl (.cons ry .nil)
  refine wpAny_call (codeAny_mono (F.run A X.stack s H ⟨[.ref a, u], []⟩ [.ref a, u] [.ref a, y] _ E0 hr e0 (by
    have := hb s [.ref a, u] I.kIn (by simpa using hl)
    simpa using this) r2 h) fun r s' hq => ?_)
  cases r with
  | error e => exact passL pins σ H s e s' I hq
  | ok fl =>
    cases fl with
    | ret w => exact I.after hq
    | next => exact False.elim hq
    | brk => exact False.elim hq
    | cont => exact False.elim hq
theorem op_eqM (c : CalM X.prog X.w X.K X.mg X.base k C "__eq__" ps sp) (hr : Room k X.A) : OpR X (compareOp .Eq) (rEqM X.K C sp) := by
  intro pins s σ H x y v u Q I rx ry h
  obtain ⟨a, dx, vf, rfl, ha, hy, hsp⟩ := h
  obtain ⟨f, fd, F, cl, M, hb⟩ := c.ex
  cases rx
  obtain ⟨mA, J, _⟩ := ins_get I.hok ha
  obtain ⟨od, J, _⟩ := J.look
  obtain ⟨tb, LT, nf⟩ := obtu_looks I ry hy
  obtain ⟨m, hF⟩ := I.fr
  show wpAny (model X.prog X.w) X.A (richCompare .Eq (.ref a) u) (EP X pins σ Q) X.xe s
  refine PySem.W.cmp_K (op := .Eq) hr.units0 hF I.ok.mod.kin J LT nf M.at_ M.fn (wpAny_mono (run_eq F hb hr rfl I ry hsp) (fun v s' q => ?_) fun _ _ x => x)
  obtain ⟨z, H', I', rz, b, ez, q⟩ := q
  subst ez
  cases rz
  exact ⟨.bl b, H', I', rfl, q⟩
theorem op_neM (c : CalM X.prog X.w X.K X.mg X.base k C "__eq__" ps sp) (q : EqC X.K C) (hr : Room (k + 1) X.A) : OpR X (compareOp .NotEq) (rNeM X.K C sp) := by
  intro pins s σ H x y v u Q I rx ry h
  obtain ⟨a, dx, vf, rfl, ha, hy, hsp⟩ := h
  obtain ⟨f, fd, F, cl, M, hb⟩ := c.ex
  cases rx
  obtain ⟨mA, J, _⟩ := ins_get I.hok ha
  obtain ⟨od, J, _⟩ := J.look
  obtain ⟨tb, LT, nf⟩ := obtu_looks I ry hy
  show wpAny (model X.prog X.w) X.A (richCompare .NotEq (.ref a) u) (EP X pins σ Q) X.xe s
  refine HN.rc_neK (by have := hr.un; omega) I.kIn J LT nf q.hm q.ne M.at_ M.fn (wpAny_mono (run_eq F hb hr.in1 rfl I ry hsp) (fun v s' q => ?_) fun _ _ x => x)
  obtain ⟨z, H', I', rz, b, ez, q⟩ := q
  subst ez
  cases rz
  exact ⟨b, rfl, .bl (!b), H', I', rfl, q⟩
end
/-! ### as data -/
section
variable {S : Cf} {ρ : Rho} {te ta tb : TE} {C : Addr} {ι : Type} {args : ι → List Sl} {pre : ι → Prop} {fs gs : Fs}
/-- what may stand on the right -/
def ObTuS (C : Addr) : Sl → Prop
  | .ob _ D _ => D = C
  | .dat (.tuple _) => True
  | _ => False
theorem tyx_tup {K : PySem.W.Frag} {G H : Hp} {v : V} {ds : List D} (k : Same G H) (r : R K G v (.tuple ds)) : TyX K H v (.type "tuple") := by
  cases r with
  | tup hs _ =>
    rcases hs with (h | ⟨o, h⟩) | ⟨o, its, n, hk, hc, _⟩
    · exact .base (.tup (k _ _ h))
    · exact .fTuple (k _ _ h)
    · exact .kTuple hk hc
theorem obtu_of {G H : Hp} {v : V} {s : Sl} (k : Same G H) (h : ObTuS C s) (r : RS S.K G v s) : ObTu S.K C H v := by
  cases s with
  | ob oa D fs =>
    cases h
    obtain ⟨a, dx, vf, rfl, hg, _⟩ := r
    exact .inl ⟨a, dx, vf, rfl, k _ _ hg⟩
  | dat d =>
    cases d with
    | tuple ds => exact .inr (tyx_tup k r)
    | _ => cases h
  | _ => cases h
def noneOb : Sl → Sl
  | .ob _ C fs => .ob none C fs
  | s => s
theorem rs_noneOb {G : Hp} {v : V} {s : Sl} (r : RS S.K G v s) : RS S.K G v (noneOb s) := by
  cases s with
  | ob oa C fs =>
    obtain ⟨a, dx, vf, rfl, hg, fa, _⟩ := r
    exact ⟨a, dx, vf, rfl, hg, fa, fun _ z => by cases z⟩
  | _ => exact r
theorem ev_eqM {post : ι → Re → Prop} {b : Bool} {oa : Option Addr} {y : Sl} (i : ι) (ha : Ev S ta ρ (Eq (.ob oa C fs))) (hb : Ev S tb ρ (Eq y)) (hy : ObTuS C y) (ea : args i = [.ob none C fs, noneOb y]) (hp : pre i) (ho : ∀ s, post i (.ok s) → s = .dat (.bool b)) (hx : ∀ C d, ¬ post i (.ex C d)) :
    Ev S (tOp (rEqM S.K C (spI S.K fx0 args pre post)) ta tb) ρ (Eq (.dat (.bool b))) := ev_op' ha hb fun G H v w kn rv rw' Q q => by
  obtain ⟨a, dx, vf, rfl, hg, fa, hoa⟩ := rv
  refine ⟨a, dx, vf, rfl, kn.gh _ _ hg, obtu_of kn.gh hy rw', i, G, hp, kn.low, ea ▸ .cons ⟨a, dx, vf, rfl, hg, fa, fun _ z => by cases z⟩ (.cons (rs_noneOb rw') .nil), fun z s G3 H3 g3 k3 r3 po => ?_, fun C d dd v G3 H3 _ _ _ _ po => absurd po (hx C d)⟩
  have k3' := kn.lift g3
  rw [ho s po] at r3
  cases r3
  exact ⟨b, rfl, q _ _ G3 H3 g3.lift k3' rfl (.bl b)⟩
theorem ev_neM {post : ι → Re → Prop} {b : Bool} {oa : Option Addr} {y : Sl} (i : ι) (ha : Ev S ta ρ (Eq (.ob oa C fs))) (hb : Ev S tb ρ (Eq y)) (hy : ObTuS C y) (ea : args i = [.ob none C fs, noneOb y]) (hp : pre i) (ho : ∀ s, post i (.ok s) → s = .dat (.bool b)) (hx : ∀ C d, ¬ post i (.ex C d)) :
    Ev S (tOp (rNeM S.K C (spI S.K fx0 args pre post)) ta tb) ρ (Eq (.dat (.bool (!b)))) := ev_op' ha hb fun G H v w kn rv rw' Q q => by
  obtain ⟨a, dx, vf, rfl, hg, fa, hoa⟩ := rv
  refine ⟨a, dx, vf, rfl, kn.gh _ _ hg, obtu_of kn.gh hy rw', i, G, hp, kn.low, ea ▸ .cons ⟨a, dx, vf, rfl, hg, fa, fun _ z => by cases z⟩ (.cons (rs_noneOb rw') .nil), fun z s G3 H3 g3 k3 r3 po => ?_, fun C d dd v G3 H3 _ _ _ _ po => absurd po (hx C d)⟩
  have k3' := kn.lift g3
  rw [ho s po] at r3
  cases r3
  exact ⟨b, rfl, q _ _ G3 H3 g3.lift k3' rfl (.bl (!b))⟩
/-- isinstance(x, C) -/
def isObS (C : Addr) : Sl → Bool
  | .ob _ _ _ => true
  | _ => false
theorem ev_isOb {y : Sl} (c : EqC S.K C) (hb : Ev S tb ρ (Eq y)) (hy : ObTuS C y) : Ev S (tCB (rIsY S.K) (tCons tb (tCons (tC (.ref C)) tNil))) ρ (Eq (.dat (.bool (isObS C y)))) := fun σ G H k e Q q =>
  hb σ G H k e _ fun v s G1 H1 g1 k1 es r => by
    subst es
    have ob := obtu_of (C := C) k1.gh hy r
    cases y with
    | ob oa D fs =>
      cases hy
      rcases ob with ⟨b, dy, wf, rfl, hb'⟩ | ht
      · exact ⟨_, .ref C, .ref C, .ref C, true, rfl, .own C, .inl (.base (.ins hb' c.cl c.ha c.hn c.htk c.hm)), EqC.me, q _ _ G1 H1 g1 k1 rfl (.bl true)⟩
      · obtain ⟨a, dx, vf, rfl, hg, _⟩ := r
        exact ⟨_, .ref C, .ref C, .ref C, true, rfl, .own C, .inl (.base (.ins (k1.gh _ _ hg) c.cl c.ha c.hn c.htk c.hm)), EqC.me, q _ _ G1 H1 g1 k1 rfl (.bl true)⟩
    | dat d =>
      cases d with
      | tuple ds =>
        have ht : TyX S.K H1 v (.type "tuple") := tyx_tup k1.gh r
        exact ⟨v, .ref C, .type "tuple", .ref C, false, rfl, .own C, .inl ht, c.tu, q _ _ G1 H1 g1 k1 rfl (.bl false)⟩
      | _ => cases hy
    | _ => cases hy
end
end Dl

set_option Elab.async false
set_option linter.all false
set_option maxRecDepth 100000
set_option maxHeartbeats 4000000
namespace K11
open PySem PySem.Spec PyProof.Rows L2 Dl LamX StX RZ
def top (i : Nat) : Stmt := PySem.Challenge.pw_sailcut_k11_whole_sails.main.body.getD i (.Pass ⟨0, 0, 0, 0⟩)
abbrev s_is_integer : Stmt := top 1
theorem sc_is_integer : FnScope ["thing"] ["thing"] (defScope s_is_integer) := ⟨rfl, rfl, rfl, by decide +kernel, rfl, by decide +kernel, by decide +kernel⟩
abbrev s_is_within : Stmt := top 2
theorem sc_is_within : FnScope ["thing", "least", "most"] ["thing", "least", "most"] (defScope s_is_within) := ⟨rfl, rfl, rfl, by decide +kernel, rfl, by decide +kernel, by decide +kernel⟩
abbrev s_is_row : Stmt := top 3
theorem sc_is_row : FnScope ["thing"] ["thing"] (defScope s_is_row) := ⟨rfl, rfl, rfl, by decide +kernel, rfl, by decide +kernel, by decide +kernel⟩
abbrev s_is_tuple_of : Stmt := top 4
theorem sc_is_tuple_of : FnScope ["thing", "many"] ["thing", "many"] (defScope s_is_tuple_of) := ⟨rfl, rfl, rfl, by decide +kernel, rfl, by decide +kernel, by decide +kernel⟩
abbrev s_SailError___init__ : Stmt := inClass (top 6) 0
theorem sc_SailError___init__ : FnScope ["self", "value"] ["self", "value"] (defScope s_SailError___init__) := ⟨rfl, rfl, rfl, by decide +kernel, rfl, by decide +kernel, by decide +kernel⟩
abbrev s_is_point : Stmt := top 13
theorem sc_is_point : FnScope ["thing", "one"] ["thing"] (defScope s_is_point) := ⟨rfl, rfl, rfl, by decide +kernel, rfl, by decide +kernel, by decide +kernel⟩
abbrev s_crossed : Stmt := top 14
theorem sc_crossed : FnScope ["one", "middle", "other"] ["one", "middle", "other"] (defScope s_crossed) := ⟨rfl, rfl, rfl, by decide +kernel, rfl, by decide +kernel, by decide +kernel⟩
abbrev s_is_panel : Stmt := top 15
theorem sc_is_panel : FnScope ["thing", "point"] ["thing"] (defScope s_is_panel) := ⟨rfl, rfl, rfl, by decide +kernel, rfl, by decide +kernel, by decide +kernel⟩
abbrev s_long_of : Stmt := top 16
theorem sc_long_of : FnScope ["panel", "side", "one", "other"] ["panel", "side"] (defScope s_long_of) := ⟨rfl, rfl, rfl, by decide +kernel, rfl, by decide +kernel, by decide +kernel⟩
abbrev s_is_seam : Stmt := top 17
theorem sc_is_seam : FnScope ["panels", "thing", "one"] ["panels", "thing"] (defScope s_is_seam) := ⟨rfl, rfl, rfl, by decide +kernel, rfl, by decide +kernel, by decide +kernel⟩
abbrev s_Sail___init__ : Stmt := inClass (top 18) 0
theorem sc_Sail___init__ : FnScope ["self", "panels", "seams", "index", "panel", "seam"] ["self", "panels", "seams"] (defScope s_Sail___init__) := ⟨rfl, rfl, rfl, by decide +kernel, rfl, by decide +kernel, by decide +kernel⟩
abbrev s_Sail___eq__ : Stmt := inClass (top 18) 1
theorem sc_Sail___eq__ : FnScope ["self", "other"] ["self", "other"] (defScope s_Sail___eq__) := ⟨rfl, rfl, rfl, by decide +kernel, rfl, by decide +kernel, by decide +kernel⟩
abbrev s_Sail_beside : Stmt := inClass (top 18) 2
theorem sc_Sail_beside : FnScope ["self", "panel", "side"] ["self", "panel"] (defScope s_Sail_beside) := ⟨rfl, rfl, rfl, by decide +kernel, rfl, by decide +kernel, by decide +kernel⟩
abbrev s_Sail_reached : Stmt := inClass (top 18) 3
theorem sc_Sail_reached : FnScope ["self", "panel", "seen", "waiting", "other"] ["self", "panel"] (defScope s_Sail_reached) := ⟨rfl, rfl, rfl, by decide +kernel, rfl, by decide +kernel, by decide +kernel⟩
abbrev s_Sail_sides : Stmt := inClass (top 18) 4
theorem sc_Sail_sides : FnScope ["self", "found", "panel", "side"] ["self"] (defScope s_Sail_sides) := ⟨rfl, rfl, rfl, by decide +kernel, rfl, by decide +kernel, by decide +kernel⟩
abbrev s_Sail_near_corners : Stmt := inClass (top 18) 5
theorem sc_Sail_near_corners : FnScope ["self", "corner", "panel", "number", "found", "other", "side", "behind"] ["self", "corner"] (defScope s_Sail_near_corners) := ⟨rfl, rfl, rfl, by decide +kernel, rfl, by decide +kernel, by decide +kernel⟩
abbrev s_Sail_point_of : Stmt := inClass (top 18) 6
theorem sc_Sail_point_of : FnScope ["self", "corner", "seen", "waiting", "other"] ["self", "corner"] (defScope s_Sail_point_of) := ⟨rfl, rfl, rfl, by decide +kernel, rfl, by decide +kernel, by decide +kernel⟩
abbrev s_points : Stmt := top 19
theorem sc_points : FnScope ["sail", "corner"] ["sail"] (defScope s_points) := ⟨rfl, rfl, rfl, by decide +kernel, rfl, by decide +kernel, by decide +kernel⟩
abbrev s_rim : Stmt := top 20
theorem sc_rim : FnScope ["sail", "side"] ["sail"] (defScope s_rim) := ⟨rfl, rfl, rfl, by decide +kernel, rfl, by decide +kernel, by decide +kernel⟩
abbrev s_rim_ahead : Stmt := top 21
theorem sc_rim_ahead : FnScope ["sail", "side", "here", "panel", "number"] ["sail", "side"] (defScope s_rim_ahead) := ⟨rfl, rfl, rfl, by decide +kernel, rfl, by decide +kernel, by decide +kernel⟩
abbrev s_rims : Stmt := top 22
theorem sc_rims : FnScope ["sail", "left", "found", "way", "side"] ["sail"] (defScope s_rims) := ⟨rfl, rfl, rfl, by decide +kernel, rfl, by decide +kernel, by decide +kernel⟩
abbrev s_holes : Stmt := top 23
theorem sc_holes : FnScope ["sail"] ["sail"] (defScope s_holes) := ⟨rfl, rfl, rfl, by decide +kernel, rfl, by decide +kernel, by decide +kernel⟩
abbrev s__law_taken : Stmt := top 25
theorem sc__law_taken : FnScope ["row", "many", "found", "cell"] ["row", "many"] (defScope s__law_taken) := ⟨rfl, rfl, rfl, by decide +kernel, rfl, by decide +kernel, by decide +kernel⟩
abbrev s__law_pick : Stmt := top 26
theorem sc__law_pick : FnScope ["row", "some"] ["row", "some"] (defScope s__law_pick) := ⟨rfl, rfl, rfl, by decide +kernel, rfl, by decide +kernel, by decide +kernel⟩
abbrev s__law_alike : Stmt := top 27
theorem sc__law_alike : FnScope ["found", "due", "k", "key"] ["found", "due"] (defScope s__law_alike) := ⟨rfl, rfl, rfl, by decide +kernel, rfl, by decide +kernel, by decide +kernel⟩
abbrev s__law_long : Stmt := top 28
theorem sc__law_long : FnScope ["panel", "side", "one", "other"] ["panel", "side"] (defScope s__law_long) := ⟨rfl, rfl, rfl, by decide +kernel, rfl, by decide +kernel, by decide +kernel⟩
abbrev s__law_area : Stmt := top 29
theorem sc__law_area : FnScope ["one", "middle", "other"] ["one", "middle", "other"] (defScope s__law_area) := ⟨rfl, rfl, rfl, by decide +kernel, rfl, by decide +kernel, by decide +kernel⟩
abbrev s__law_free : Stmt := top 30
theorem sc__law_free : FnScope ["panels", "seams", "sewn", "found", "panel", "seam", "side"] ["panels", "seams"] (defScope s__law_free) := ⟨rfl, rfl, rfl, by decide +kernel, rfl, by decide +kernel, by decide +kernel⟩
abbrev s__law_drawn_panel : Stmt := top 31
theorem sc__law_drawn_panel : FnScope ["row", "spots", "k", "area", "j"] ["row"] (defScope s__law_drawn_panel) := ⟨rfl, rfl, rfl, by decide +kernel, rfl, by decide +kernel, by decide +kernel⟩
abbrev s__law_sail : Stmt := top 32
theorem sc__law_sail : FnScope ["row", "many", "panels", "seams", "k", "side", "new", "same", "free", "one", "other", "at"] ["row", "many"] (defScope s__law_sail) := ⟨rfl, rfl, rfl, by decide +kernel, rfl, by decide +kernel, by decide +kernel⟩
abbrev s__law_points : Stmt := top 33
theorem sc__law_points : FnScope ["panels", "seams", "group", "panel", "corner", "side", "other", "number", "one", "two", "old", "new", "found", "name"] ["panels", "seams"] (defScope s__law_points) := ⟨rfl, rfl, rfl, by decide +kernel, rfl, by decide +kernel, by decide +kernel⟩
abbrev s__law_wrong : Stmt := top 34
theorem sc__law_wrong : FnScope ["panels", "seams", "taken", "at", "seam", "reached", "k", "one"] ["panels", "seams"] (defScope s__law_wrong) := ⟨rfl, rfl, rfl, by decide +kernel, rfl, by decide +kernel, by decide +kernel⟩
abbrev s__law_ahead : Stmt := top 35
theorem sc__law_ahead : FnScope ["panels", "seams", "side", "sewn", "seam", "here", "k"] ["panels", "seams", "side"] (defScope s__law_ahead) := ⟨rfl, rfl, rfl, by decide +kernel, rfl, by decide +kernel, by decide +kernel⟩
abbrev s__law_refused : Stmt := top 36
theorem sc__law_refused : FnScope ["ask", "e"] ["ask"] (defScope s__law_refused) := ⟨rfl, rfl, rfl, by decide +kernel, rfl, by decide +kernel, by decide +kernel⟩
abbrev s_law : Stmt := top 37
theorem sc_law : FnScope ["script", "seams", "sail", "free", "spots", "left", "due", "k", "way", "j", "ahead", "turn", "at", "new", "one", "other", "wrong", "bad", "panels", "row", "some", "side"] ["script"] (defScope s_law) := ⟨rfl, rfl, rfl, by decide +kernel, rfl, by decide +kernel, by decide +kernel⟩
/-- what the top has written -/
structure Tx (P : Program) (w : World) (K : PySem.W.Frag) (mg : Str → Option Value) (base : Heap) (C1 C2 fI CS : Addr) : Prop where
  d_is_integer : Def K mg "is_integer" s_is_integer
  d_is_within : Def K mg "is_within" s_is_within
  d_is_row : Def K mg "is_row" s_is_row
  d_is_tuple_of : Def K mg "is_tuple_of" s_is_tuple_of
  d_is_point : Def K mg "is_point" s_is_point
  d_crossed : Def K mg "crossed" s_crossed
  d_is_panel : Def K mg "is_panel" s_is_panel
  d_long_of : Def K mg "long_of" s_long_of
  d_is_seam : Def K mg "is_seam" s_is_seam
  d_points : Def K mg "points" s_points
  d_rim : Def K mg "rim" s_rim
  d_rim_ahead : Def K mg "rim_ahead" s_rim_ahead
  d_rims : Def K mg "rims" s_rims
  d_holes : Def K mg "holes" s_holes
  d__law_taken : Def K mg "_law_taken" s__law_taken
  d__law_pick : Def K mg "_law_pick" s__law_pick
  d__law_alike : Def K mg "_law_alike" s__law_alike
  d__law_long : Def K mg "_law_long" s__law_long
  d__law_area : Def K mg "_law_area" s__law_area
  d__law_free : Def K mg "_law_free" s__law_free
  d__law_drawn_panel : Def K mg "_law_drawn_panel" s__law_drawn_panel
  d__law_sail : Def K mg "_law_sail" s__law_sail
  d__law_points : Def K mg "_law_points" s__law_points
  d__law_wrong : Def K mg "_law_wrong" s__law_wrong
  d__law_ahead : Def K mg "_law_ahead" s__law_ahead
  d__law_refused : Def K mg "_law_refused" s__law_refused
  k_Sail : DefK K mg "Sail" CS "Sail.__init__" s_Sail___init__
  m___eq__ : DefM K CS "__eq__" "Sail.__eq__" s_Sail___eq__
  m_beside : DefM K CS "beside" "Sail.beside" s_Sail_beside
  m_reached : DefM K CS "reached" "Sail.reached" s_Sail_reached
  m_sides : DefM K CS "sides" "Sail.sides" s_Sail_sides
  m_near_corners : DefM K CS "near_corners" "Sail.near_corners" s_Sail_near_corners
  m_point_of : DefM K CS "point_of" "Sail.point_of" s_Sail_point_of
  a_sewn : NoAttr K CS "sewn"
  a_panels : NoAttr K CS "panels"
  a_seams : NoAttr K CS "seams"
  q_Sail : EqC K CS
  b_isinstance : mg "isinstance" = none
  b_len : mg "len" = none
  b_all : mg "all" = none
  b_any : mg "any" = none
  b_enumerate : mg "enumerate" = none
  b_range : mg "range" = none
  b_int : mg "int" = none
  b_bool : mg "bool" = none
  b_str : mg "str" = none
  b_list : mg "list" = none
  b_tuple : mg "tuple" = none
  b_dict : mg "dict" = none
  b_repr : mg "repr" = none
  b_max : mg "max" = none
  b_min : mg "min" = none
  b_sum : mg "sum" = none
  b_sorted : mg "sorted" = none
  k_MOST_PLACE : ∃ t, mg "MOST_PLACE" = some (.int 100 t)
  k_MOST_PANELS : ∃ t, mg "MOST_PANELS" = some (.int 12 t)
  k_MOST_SEAMS : ∃ t, mg "MOST_SEAMS" = some (.int 18 t)
  e_BadPanels : ErrC K mg "BadPanels" C1 fI
  e_BadSeams : ErrC K mg "BadSeams" C2 fI
  ini : IniF P w K mg base fI
  told1 : Told K C1 "panels" [(C1, "panels"), (C2, "seams")]
  told2 : Told K C2 "seams" [(C1, "panels"), (C2, "seams")]
section
variable {P : Program} {w : World} {K : PySem.W.Frag} {mg : Str → Option Value} {base : Heap} {C1 C2 fI CS : Addr} (T : Tx P w K mg base C1 C2 fI CS)
include T
/-! ### basics -/
def isInt : D → Bool
  | .int _ => true
  | _ => false
theorem c_is_integer : Cal P w K mg base 1 "is_integer" ["thing"] (spI K fx0 (fun d : D => [.dat d]) (fun _ => True) (fun d => Eq (.ok (.dat (.bool (isInt d)))))) := by
  refine mk_cal T.d_is_integer sc_is_integer (fun _ => rfl) (fun _ _ _ _ _ _ us hl => match us, hl with | [_], _ => rfl) (fun f cdv A outer s H E hr d _ => ⟨_, (pss_one (ps_ret (pe_and (pe_callB (r := rIsY K) call_isY (by rfl) T.b_isinstance (by decide +kernel) (pa_cons (pv 0) (pa_cons (pe_bltn (v := .ty "int") (u := .type "int") (by rfl) T.b_int (by decide +kernel) rfl) pa_nil))) (pe_one (pe_not (pe_callB (r := rIsY K) call_isY (by rfl) T.b_isinstance (by decide +kernel) (pa_cons (pv 0) (pa_cons (pe_bltn (v := .ty "bool") (u := .type "bool") (by rfl) T.b_bool (by decide +kernel) rfl) pa_nil)))))))), fun G => ?_⟩)
  cases d <;> exact xc_ret (ev_andV (ev_isInt (ev_var rfl)) fun _ => ev_notV (ev_isBool (ev_var rfl))) rfl
def isWithin (lo hi : Int) : D → Bool
  | .int i => decide (lo ≤ i) && decide (i ≤ hi)
  | _ => false
theorem c_is_within : Cal P w K mg base 2 "is_within" ["thing", "least", "most"] (spI K fx0 (fun i : D × Int × Int => [.dat i.1, .dat (.int i.2.1), .dat (.int i.2.2)]) (fun _ => True) (fun i => Eq (.ok (.dat (.bool (isWithin i.2.1 i.2.2 i.1)))))) := by
  have c_is_integer := c_is_integer T
  refine mk_cal T.d_is_within sc_is_within (fun _ => rfl) (fun _ _ _ _ _ _ us hl => match us, hl with | [_, _, _], _ => rfl) (fun f cdv A outer s H E hr i _ => ⟨_, (pss_one (ps_ret (pe_and (pe_cal c_is_integer (hr.mono (by first | decide | omega)) rfl (pa_cons (pv 0) pa_nil)) (pe_one (pe_chain op_le op_le (pv 1) (pv 0) (pv 2)))))), fun G => ?_⟩)
  obtain ⟨d, lo, hi⟩ := i
  cases d with
  | int n => exact xc_retB (ev_andV (ev_callE (PyData.int n) (ea_cons (ev_var rfl) ea_nil) True.intro) fun _ => ev_chain (ev_var rfl) (ev_var rfl) fun _ => ev_var rfl) rfl
  | none => exact xc_retB (ev_andV (b := false) (ev_callE PyData.none (ea_cons (ev_var rfl) ea_nil) True.intro) fun z => by cases z) rfl
  | bool b => exact xc_retB (ev_andV (b := false) (ev_callE (PyData.bool b) (ea_cons (ev_var rfl) ea_nil) True.intro) fun z => by cases z) rfl
  | str b => exact xc_retB (ev_andV (b := false) (ev_callE (PyData.str b) (ea_cons (ev_var rfl) ea_nil) True.intro) fun z => by cases z) rfl
  | list b => exact xc_retB (ev_andV (b := false) (ev_callE (PyData.list b) (ea_cons (ev_var rfl) ea_nil) True.intro) fun z => by cases z) rfl
  | tuple b => exact xc_retB (ev_andV (b := false) (ev_callE (PyData.tuple b) (ea_cons (ev_var rfl) ea_nil) True.intro) fun z => by cases z) rfl
  | dict b => exact xc_retB (ev_andV (b := false) (ev_callE (PyData.dict b) (ea_cons (ev_var rfl) ea_nil) True.intro) fun z => by cases z) rfl
theorem c_is_row : Cal P w K mg base 1 "is_row" ["thing"] (spI K fx0 (fun d : D => [.dat d]) (fun _ => True) (fun d => Eq (.ok (.dat (.bool (dList d || dTuple d)))))) := by
  refine mk_cal T.d_is_row sc_is_row (fun _ => rfl) (fun _ _ _ _ _ _ us hl => match us, hl with | [_], _ => rfl) (fun f cdv A outer s H E hr d _ => ⟨_, (pss_one (ps_ret (pe_callB (r := rIsYT K) call_isYT (by rfl) T.b_isinstance (by decide +kernel) (pa_cons (pv 0) (pa_cons (pe_tup (pa_cons (pe_bltn (v := .ty "list") (u := .type "list") (by rfl) T.b_list (by decide +kernel) rfl) (pa_cons (pe_bltn (v := .ty "tuple") (u := .type "tuple") (by rfl) T.b_tuple (by decide +kernel) rfl) pa_nil))) pa_nil))))), fun G => ?_⟩)
  exact xc_retB (ev_isLT (ev_var rfl)) rfl

def isTupOf (n : Int) : D → Bool
  | .tuple ds => decide ((ds.length : Int) = n)
  | _ => false
theorem c_is_tuple_of : Cal P w K mg base 1 "is_tuple_of" ["thing", "many"] (spI K fx0 (fun i : D × Int => [.dat i.1, .dat (.int i.2)]) (fun _ => True) (fun i => Eq (.ok (.dat (.bool (isTupOf i.2 i.1)))))) := by
  refine mk_cal T.d_is_tuple_of sc_is_tuple_of (fun _ => rfl) (fun _ _ _ _ _ _ us hl => match us, hl with | [_, _], _ => rfl) (fun f cdv A outer s H E hr i _ => ⟨_, (pss_one (ps_ret (pe_and (pe_callB (r := rIsY K) call_isY (by rfl) T.b_isinstance (by decide +kernel) (pa_cons (pv 0) (pa_cons (pe_bltn (v := .ty "tuple") (u := .type "tuple") (by rfl) T.b_tuple (by decide +kernel) rfl) pa_nil))) (pe_one (pe_cmpR (r := rEqD K) (op_eqD (u64 hr)) (pe_callB (r := fun xs H Q => ∃ p ys, xs = [.ref p] ∧ (SqL K H p ys ∨ SqT K H p ys) ∧ Q (.int ys.length) H) call_len_seq (by rfl) T.b_len (by decide +kernel) (pa_cons (pv 0) pa_nil)) (pv 1) (nomark _)))))), fun G => ?_⟩)
  obtain ⟨d, n⟩ := i
  cases d with
  | tuple ds => exact xc_retB (ev_andV (ev_isTuple (d := PyData.tuple ds) (ev_var rfl)) fun _ => ev_eqI (ev_lenU (ds := ds) (eu_of (ev_var rfl))) (ev_var (d := PyData.int n) rfl)) rfl
  | none => exact xc_retB (ev_andV (b := false) (ev_isTuple (d := PyData.none) (ev_var rfl)) fun z => by cases z) rfl
  | bool b => exact xc_retB (ev_andV (b := false) (ev_isTuple (d := PyData.bool b) (ev_var rfl)) fun z => by cases z) rfl
  | int b => exact xc_retB (ev_andV (b := false) (ev_isTuple (d := PyData.int b) (ev_var rfl)) fun z => by cases z) rfl
  | str b => exact xc_retB (ev_andV (b := false) (ev_isTuple (d := PyData.str b) (ev_var rfl)) fun z => by cases z) rfl
  | list b => exact xc_retB (ev_andV (b := false) (ev_isTuple (d := PyData.list b) (ev_var rfl)) fun z => by cases z) rfl
  | dict b => exact xc_retB (ev_andV (b := false) (ev_isTuple (d := PyData.dict b) (ev_var rfl)) fun z => by cases z) rfl

theorem c__law_taken : Cal P w K mg base 1 "_law_taken" ["row", "many"] (spTaken K) := by
  refine mk_calR T.d__law_taken sc__law_taken (fun vs H Q E h => ?_) (fun _ _ _ _ _ _ us hl => match us, hl with | [_, _], _ => rfl) (fun f cdv A outer s H E vs Q hr h => ⟨_, (pss_cons (ps_if (pt_cmpR op_gt (pe_ix (r := rIxL K) ix_list (pv 0) pe_int (fun _ _ => rfl)) pe_int (nomark _)) (pss_cons (ps_set (i := 2) sc__law_taken.nd rfl (Or.inl rfl) (pe_op op_mod (pe_callTy (T := "int") call_int1 (by rfl) T.b_int (by decide +kernel) (pa_cons (pe_ix (r := rIxL K) ix_list (pv 0) pe_int (fun _ _ => rfl)) pa_nil)) (pv 1)))
      (pss_cons (ps_asg (pe_op op_fdiv (pe_ix (r := rIxL K) ix_list (pv 0) pe_int (fun _ _ => rfl)) (pv 1)) (pg_sub (pv 0) pe_int set_list))
      (pss_one (ps_ret (pv 2))))) pss_nil)
      (pss_cons (ps_asg (pe_op op_add (pe_ix (r := rIxL K) ix_list (pv 0) pe_int (fun _ _ => rfl)) pe_int) (pg_sub (pv 0) pe_int set_list))
      (pss_cons (ps_if (pt_cmpR op_gt (pe_ix (r := rIxL K) ix_list (pv 0) pe_int (fun _ _ => rfl)) (pe_callB (r := fun xs H Q => ∃ p ys, xs = [.ref p] ∧ (SqL K H p ys ∨ SqT K H p ys) ∧ Q (.int ys.length) H) call_len_seq (by rfl) T.b_len (by decide +kernel) (pa_cons (pe_ix (r := rIxL K) ix_list (pv 0) pe_int (fun _ _ => rfl)) pa_nil)) (nomark _)) (pss_cons (ps_asg (pe_op op_mod (pe_callTy (T := "int") call_int1 (by rfl) T.b_int (by decide +kernel) (pa_cons (pe_op op_add (pe_op op_mul (pe_ix (r := rIxL K) ix_list (pv 0) pe_int (fun _ _ => rfl)) pe_int) pe_int) pa_nil)) pe_int) (pg_sub (pv 0) pe_int set_list))
      (pss_one (ps_ret (pe_op op_mod (pe_callTy (T := "int") call_int1 (by rfl) T.b_int (by decide +kernel) (pa_cons (pe_op op_fdiv (pe_ix (r := rIxL K) ix_list (pv 0) pe_int (fun _ _ => rfl)) pe_int) pa_nil)) (pv 1))))) pss_nil)
      (pss_cons (ps_set (i := 3) sc__law_taken.nd rfl (Or.inl rfl) (pe_ix (r := rIxL K) ix_list (pe_ix (r := rIxL K) ix_list (pv 0) pe_int (fun _ _ => rfl)) (pe_op op_sub (pe_ix (r := rIxL K) ix_list (pv 0) pe_int (fun _ _ => rfl)) pe_int) (fun _ _ => rfl)))
      (pss_cons (ps_asg (pe_op op_mod (pe_callTy (T := "int") call_int1 (by rfl) T.b_int (by decide +kernel) (pa_cons (pe_op op_add (pe_op op_add (pe_op op_mul (pe_ix (r := rIxL K) ix_list (pv 0) pe_int (fun _ _ => rfl)) pe_int) (pv 3)) pe_int) pa_nil)) pe_int) (pg_sub (pv 0) pe_int set_list))
      (pss_cons (ps_if (pt_cmpR op_ge (pv 3) (pe_op op_pow pe_int pe_int) (nomark _)) (pss_one (ps_asg (pe_op op_fdiv (pv 3) (pv 1)) (pg_sub (pv 0) pe_int set_list))) pss_nil)
      (pss_one (ps_ret (pe_op op_mod (pe_callTy (T := "int") call_int1 (by rfl) T.b_int (by decide +kernel) (pa_cons (pv 3) pa_nil)) (pv 1)))))))))), ?_⟩)
  · obtain ⟨r, sc, ns, many, p, m, c, rfl, _⟩ := h
    rfl
  obtain ⟨r, sc, ns, many, p, m, c, rfl, h0, h1, p0, m0, m1, hr, hs, hso, q⟩ := h
  have mm : ∀ k : Int, 0 ≤ k % 2147483647 ∧ k % 2147483647 < 2147483648 := fun k => by omega
  refine gs_when (gt_test (gv_C0 (gv_ix (gv_var rfl) gv_int (SqL.of hr) rfl) gv_int)) (fun _ => ?_) fun _ => ?_
  · refine gs_asg (gv_IC (gv_toInt (gv_ix (gv_var rfl) gv_int (SqL.of hr) rfl)) (gv_var rfl) h0) ?_
    refine gs_put (gv_IC (gv_ix (gv_var rfl) gv_int (SqL.of hr) rfl) (gv_var rfl) ⟨h0, h1⟩) rfl hr rfl ?_
    exact gs_ret (gv_var rfl) (q _ p m _ (Int.emod_nonneg _ (by omega)) (Int.emod_lt_of_pos _ h0) p0 m0 m1)
  refine gs_put (gv_I0 (gv_ix (gv_var rfl) gv_int (SqL.of hr) rfl) gv_int) rfl hr rfl ?_
  change tSeq _ _ _ _ (upd H r (rowHO sc (p + 1) m c))
  have hr1 : upd H r (rowHO sc (p + 1) m c) r = some (.lst [.ref sc, .int (p + 1), .int m, .int c]) := upd_same
  have hs1 : SqL K (upd H r (rowHO sc (p + 1) m c)) sc (ns.map V.int) := hso _
  refine gs_when (gt_test (gv_C0 (gv_ix (gv_var rfl) gv_int (SqL.of hr1) rfl) (gv_len (gv_ix (gv_var rfl) gv_int (SqL.of hr1) rfl) hs1))) (fun _ => ?_) fun z => ?_
  · refine gs_put (gv_IC (gv_toInt (gv_I0 (gv_IC (gv_ix (gv_var rfl) gv_int (SqL.of hr1) rfl) gv_int (.inl ⟨by omega, by omega⟩)) gv_int)) gv_int (by omega)) rfl hr1 rfl ?_
    rw [upd_twice]
    have hr2 : upd H r (rowHO sc (p + 1) ((m * 48271 + 11) % 2147483647) c) r = some (.lst [.ref sc, .int (p + 1), .int ((m * 48271 + 11) % 2147483647), .int c]) := upd_same
    refine gs_ret (gv_IC (gv_toInt (gv_IC (gv_ix (gv_var rfl) gv_int (SqL.of hr2) rfl) gv_int ⟨by omega, by omega⟩)) (gv_var rfl) h0) ?_
    exact q _ _ _ _ (Int.emod_nonneg _ (by omega)) (Int.emod_lt_of_pos _ h0) (by omega) (mm _).1 (mm _).2
  · have zl : ¬ (p + 1 > ((ns.map V.int).length : Int)) := of_decide_eq_false z
    rw [List.length_map] at zl
    obtain ⟨i, rfl⟩ : ∃ i : Nat, p = i := ⟨p.toNat, by omega⟩
    have hi : i < ns.length := by omega
    have hv : atI (ns.map V.int) ((i : Int) + 1 - 1) = some (.int ns[i]) := by
      unfold atI ixN
      rw [if_pos (by omega), if_pos (by rw [List.length_map]; omega), show ((i : Int) + 1 - 1).toNat = i by omega]
      simp [hi]
    refine gs_asg (gv_ix (gv_ix (gv_var rfl) gv_int (SqL.of hr1) rfl) (gv_I0 (gv_ix (gv_var rfl) gv_int (SqL.of hr1) rfl) gv_int) hs1 hv) ?_
    refine gs_put (gv_IC (gv_toInt (gv_I0 (gv_I0 (gv_IC (gv_ix (gv_var rfl) gv_int (SqL.of hr1) rfl) gv_int (.inl ⟨by omega, by omega⟩)) (gv_var rfl)) gv_int)) gv_int (by omega)) rfl hr1 rfl ?_
    rw [upd_twice]
    have hr2 : upd H r (rowHO sc ((i : Int) + 1) ((m * 48271 + ns[i] + 11) % 2147483647) c) r = some (.lst [.ref sc, .int ((i : Int) + 1), .int ((m * 48271 + ns[i] + 11) % 2147483647), .int c]) := upd_same
    refine gs_if (gt_test (gv_C0 (gv_var rfl) (gv_IC gv_int gv_int ⟨by omega, by omega, by decide⟩))) (fun _ => ?_) fun _ => ?_
    · refine gs_put1 (gv_IC (gv_var rfl) (gv_var rfl) ⟨h0, h1⟩) rfl hr2 rfl ?_
      dsimp only
      rw [upd_twice]
      exact gs_ret (gv_IC (gv_toInt (gv_var rfl)) (gv_var rfl) h0) (q _ _ _ _ (Int.emod_nonneg _ (by omega)) (Int.emod_lt_of_pos _ h0) (by omega) (mm _).1 (mm _).2)
    · unfold tNext
      dsimp only
      exact gs_ret (gv_IC (gv_toInt (gv_var rfl)) (gv_var rfl) h0) (q _ _ _ c (Int.emod_nonneg _ (by omega)) (Int.emod_lt_of_pos _ h0) (by omega) (mm _).1 (mm _).2)
theorem c__law_pick : Cal P w K mg base 2 "_law_pick" ["row", "some"] (spZ fun z : RowZ => spI K (rowFx K z) (fun ds : List D => [.raw (.ref z.r), .dat (.list ds)]) (fun ds => ds ≠ [] ∧ ds.length < 1073741824) (fun ds r => ∃ d, d ∈ ds ∧ r = .ok (.dat d))) := by
  have c__law_taken := c__law_taken T
  refine mk_calZ T.d__law_pick sc__law_pick (fun _ _ => rfl) (fun _ _ _ _ _ _ us hl => match us, hl with | [_, _], _ => rfl) (fun z f cdv A outer s H E hr ds hp => ⟨_, (pss_one (ps_ret (pe_ix (r := rIxL K) ix_list (pv 1) (pe_cal c__law_taken (hr.mono (by first | decide | omega)) rfl (pa_cons (pv 0) (pa_cons (pe_callB (r := fun xs H Q => ∃ p ys, xs = [.ref p] ∧ (SqL K H p ys ∨ SqT K H p ys) ∧ Q (.int ys.length) H) call_len_seq (by rfl) T.b_len (by decide +kernel) (pa_cons (pv 1) pa_nil)) pa_nil))) (fun _ _ => rfl)))), fun G => ?_⟩)
  obtain ⟨h0, h1⟩ := hp
  have hl : 0 < ds.length := List.length_pos_iff.mpr h0
  refine xc_retP (ev_ixLI (S := ⟨K, rowFx K z, G, H, E⟩) (el_of (ev_var rfl)) (ev_taken (ev_varR rfl) (ev_lenL (ds := ds) (el_of (ev_var rfl))) (by omega) (by omega)) (P := fun d => d ∈ ds) fun i hi => ?_) fun s ⟨d, e, hd⟩ => ⟨d, hd, by rw [e]⟩
  obtain ⟨n, rfl⟩ : ∃ n : Nat, i = n := ⟨i.toNat, by omega⟩
  have hn : n < ds.length := by omega
  refine ⟨ds[n], ?_, List.getElem_mem hn⟩
  unfold atI ixN
  rw [if_pos (by omega), if_pos (by omega), show ((n : Int)).toNat = n by omega]
  simp [hn]
omit T in
theorem fm_none (l : List D) : l.filterMap (fun _ => (none : Option D)) = [] := by
  induction l with
  | nil => rfl
  | cons a l ih => rw [List.filterMap_cons, ih]
omit T in
theorem at_rng {ds : List D} {n : Nat} {d : D} (hn : n = ds.length) (h : d ∈ rngD 0 n) : ∃ i x, d = .int i ∧ atI ds i = some x ∧ x ∈ ds := by
  obtain ⟨i, hi⟩ := List.getElem?_of_mem h
  obtain ⟨h1, h2⟩ := rngD_get hi
  have hl : i < ds.length := by omega
  refine ⟨_, ds[i], h2, ?_, List.getElem_mem hl⟩
  unfold atI ixN
  rw [if_pos (by omega), if_pos (by omega), show ((0 : Int) + (i : Int)).toNat = i by omega]
  simp [hl]
omit T in
theorem eqv_b (b c : Bool) : PyData.eqv (.bool b) (.bool c) = (b == c) := by
  cases b <;> cases c <;> kernel_rfl
omit T in
theorem eqv_s (x : Str) : PyData.eqv (.str x) (.str x) = true := by
  simp [PyData.eqv]
theorem c__law_alike : ∀ n, Cal P w K mg base (n + 1) "_law_alike" ["found", "due"] (spI K fx0 (fun d : D => [.dat d, .dat d]) (fun d => FlP n d) (fun d => Eq (.ok (.dat (.bool true))))) := by
  intro n
  induction n with
  | zero => exact mk_cal T.d__law_alike sc__law_alike (fun _ => rfl) (fun _ _ _ _ _ _ us hl => match us, hl with | [_, _], _ => rfl) (fun f cdv A outer s H E hr d hp => hp.elim)
  | succ n c__law_alike =>
    refine mk_cal T.d__law_alike sc__law_alike (fun _ => rfl) (fun _ _ _ _ _ _ us hl => match us, hl with | [_, _], _ => rfl) (fun f cdv A outer s H E hr d hp => ?_)
    cases d with
    | list ds =>
      refine ⟨_, (pss_cons (ps_if (pt_val (pe_callB (r := rIsYT K) call_isYT (by rfl) T.b_isinstance (by decide +kernel) (pa_cons (pv 1) (pa_cons (pe_tup (pa_cons (pe_bltn (v := .ty "tuple") (u := .type "tuple") (by rfl) T.b_tuple (by decide +kernel) rfl) (pa_cons (pe_bltn (v := .ty "list") (u := .type "list") (by rfl) T.b_list (by decide +kernel) rfl) pa_nil))) pa_nil)))) (pss_cons (ps_if (PW.pt (pw_or (pt_not (pt_val (pe_callB (r := rIsYT K) call_isYT (by rfl) T.b_isinstance (by decide +kernel) (pa_cons (pv 0) (pa_cons (pe_tup (pa_cons (pe_bltn (v := .ty "tuple") (u := .type "tuple") (by rfl) T.b_tuple (by decide +kernel) rfl) (pa_cons (pe_bltn (v := .ty "list") (u := .type "list") (by rfl) T.b_list (by decide +kernel) rfl) pa_nil))) pa_nil))))) (pw_or1 (pt_cmpR (r := rNeD K) (op_neD (u64 hr)) (pe_callB (r := rIsY K) call_isY (by rfl) T.b_isinstance (by decide +kernel) (pa_cons (pv 0) (pa_cons (pe_bltn (v := .ty "list") (u := .type "list") (by rfl) T.b_list (by decide +kernel) rfl) pa_nil))) (pe_callB (r := rIsY K) call_isY (by rfl) T.b_isinstance (by decide +kernel) (pa_cons (pv 1) (pa_cons (pe_bltn (v := .ty "list") (u := .type "list") (by rfl) T.b_list (by decide +kernel) rfl) pa_nil))) (nomark _))))) (pss_one (ps_ret pe_bl)) pss_nil)
      (pss_cons (ps_if (pt_cmpR (r := rNeD K) (op_neD (u64 hr)) (pe_callB (r := fun xs H Q => ∃ p ys, xs = [.ref p] ∧ (SqL K H p ys ∨ SqT K H p ys) ∧ Q (.int ys.length) H) call_len_seq (by rfl) T.b_len (by decide +kernel) (pa_cons (pv 0) pa_nil)) (pe_callB (r := fun xs H Q => ∃ p ys, xs = [.ref p] ∧ (SqL K H p ys ∨ SqT K H p ys) ∧ Q (.int ys.length) H) call_len_seq (by rfl) T.b_len (by decide +kernel) (pa_cons (pv 1) pa_nil)) (nomark _)) (pss_one (ps_ret pe_bl)) pss_nil)
      (pss_one (ps_ret (pe_cmpR (r := rEqD K) (op_eqD (u64 hr)) (pe_lc (own := [("k", 2)]) (by rfl) sc__law_alike.nd (pi_range1 (by rfl) T.b_range (pa_cons (pe_callB (r := fun xs H Q => ∃ p ys, xs = [.ref p] ∧ (SqL K H p ys ∨ SqT K H p ys) ∧ Q (.int ys.length) H) call_len_seq (by rfl) T.b_len (by decide +kernel) (pa_cons (pv 1) pa_nil)) pa_nil)) (blkOk_by (N := ["found", "due", "k", "key"]) (sc := defScope s__law_alike) (own := [("k", 2)]) (by decide +kernel)) (fun _ _ _ _ _ => (pg_name (i := 2) sc__law_alike.nd rfl (by first | exact Or.inl rfl | exact Or.inr rfl))) (fun _ _ _ _ _ => (pts_one (pt_not (pt_val (pe_cal c__law_alike hr rfl (pa_cons (pe_ix (r := rIxL K) ix_list (pv 0) (pv 2) (fun _ _ => rfl)) (pa_cons (pe_ix (r := rIxL K) ix_list (pv 1) (pv 2) (fun _ _ => rfl)) pa_nil))))))) (fun _ _ _ _ _ => (pv 2))) (pe_lst pa_nil) (nomark _)))))) pss_nil)
      (pss_cons (ps_if (pt_val (pe_callB (r := rIsY K) call_isY (by rfl) T.b_isinstance (by decide +kernel) (pa_cons (pv 1) (pa_cons (pe_bltn (v := .ty "dict") (u := .type "dict") (by rfl) T.b_dict (by decide +kernel) rfl) pa_nil)))) (pss_cons (ps_if (PW.pt (pw_or (pt_not (pt_val (pe_callB (r := rIsY K) call_isY (by rfl) T.b_isinstance (by decide +kernel) (pa_cons (pv 0) (pa_cons (pe_bltn (v := .ty "dict") (u := .type "dict") (by rfl) T.b_dict (by decide +kernel) rfl) pa_nil))))) (pw_or1 (pt_cmpR (r := rNeD K) (op_neD (u64 hr)) (pe_callTy (T := "list") (r := fun xs H Q => ∃ p ys, xs = [.ref p] ∧ (SqL K H p ys ∨ SqT K H p ys) ∧ ∀ l, H l = none → Q (.ref l) (upd H l (.lst ys))) call_list_of (by rfl) T.b_list (by decide +kernel) (pa_cons (pv 0) pa_nil)) (pe_callTy (T := "list") (r := fun xs H Q => ∃ p ys, xs = [.ref p] ∧ (SqL K H p ys ∨ SqT K H p ys) ∧ ∀ l, H l = none → Q (.ref l) (upd H l (.lst ys))) call_list_of (by rfl) T.b_list (by decide +kernel) (pa_cons (pv 1) pa_nil)) (nomark _))))) (pss_one (ps_ret pe_bl)) pss_nil)
      (pss_one (ps_ret (pe_cmpR (r := rEqD K) (op_eqD (u64 hr)) (pe_lc (own := [("key", 3)]) (by rfl) sc__law_alike.nd (pi_list (pv 1)) (blkOk_by (N := ["found", "due", "k", "key"]) (sc := defScope s__law_alike) (own := [("key", 3)]) (by decide +kernel)) (fun _ _ _ _ _ => (pg_name (i := 3) sc__law_alike.nd rfl (by first | exact Or.inl rfl | exact Or.inr rfl))) (fun _ _ _ _ _ => (pts_one (pt_not (pt_val (pe_cal c__law_alike hr rfl (pa_cons (pe_ix (r := rIxL K) ix_list (pv 0) (pv 3) (fun _ _ => rfl)) (pa_cons (pe_ix (r := rIxL K) ix_list (pv 1) (pv 3) (fun _ _ => rfl)) pa_nil))))))) (fun _ _ _ _ _ => (pv 3))) (pe_lst pa_nil) (nomark _))))) pss_nil)
      (pss_cons (ps_if (PW.pt (pw_or (pt_cmpR op_isN (pv 1) pe_non (nomark _)) (pw_or1 (pt_val (pe_callB (r := rIsY K) call_isY (by rfl) T.b_isinstance (by decide +kernel) (pa_cons (pv 1) (pa_cons (pe_bltn (v := .ty "str") (u := .type "str") (by rfl) T.b_str (by decide +kernel) rfl) pa_nil))))))) (pss_one (ps_ret (pe_and (pe_cmpR (r := rEqD K) (op_eqD (u64 hr)) (pv 0) (pv 1) (nomark _)) (pe_one (pe_cmpR (r := rEqD K) (op_eqD (u64 hr)) (pe_callB (r := rIsY K) call_isY (by rfl) T.b_isinstance (by decide +kernel) (pa_cons (pv 0) (pa_cons (pe_bltn (v := .ty "str") (u := .type "str") (by rfl) T.b_str (by decide +kernel) rfl) pa_nil))) (pe_callB (r := rIsY K) call_isY (by rfl) T.b_isinstance (by decide +kernel) (pa_cons (pv 1) (pa_cons (pe_bltn (v := .ty "str") (u := .type "str") (by rfl) T.b_str (by decide +kernel) rfl) pa_nil))) (nomark _)))))) pss_nil)
      (pss_one (ps_ret (pe_and (pe_callB (r := rIsY K) call_isY (by rfl) T.b_isinstance (by decide +kernel) (pa_cons (pv 0) (pa_cons (pe_bltn (v := .ty "int") (u := .type "int") (by rfl) T.b_int (by decide +kernel) rfl) pa_nil))) (pe_and (pe_cmpR (r := rEqD K) (op_eqD (u64 hr)) (pe_callB (r := rIsY K) call_isY (by rfl) T.b_isinstance (by decide +kernel) (pa_cons (pv 0) (pa_cons (pe_bltn (v := .ty "bool") (u := .type "bool") (by rfl) T.b_bool (by decide +kernel) rfl) pa_nil))) (pe_callB (r := rIsY K) call_isY (by rfl) T.b_isinstance (by decide +kernel) (pa_cons (pv 1) (pa_cons (pe_bltn (v := .ty "bool") (u := .type "bool") (by rfl) T.b_bool (by decide +kernel) rfl) pa_nil))) (nomark _)) (pe_one (pe_cmpR (r := rEqD K) (op_eqD (u64 hr)) (pv 0) (pv 1) (nomark _)))))))))), fun G => ?_⟩
      obtain ⟨hl, hd⟩ := hp
      refine xs_when (S := ⟨K, fx0, G, H, E⟩) (et_B (ev_isTL (d := .list ds) (ev_var rfl))) (fun _ => ?_) fun z => by cases z
      refine xs_when (et_or (et_not (et_B (ev_isTL (d := .list ds) (ev_var rfl)))) fun _ => et_B (ev_neD (ev_isList (d := .list ds) (ev_var rfl)) (ev_isList (d := .list ds) (ev_var rfl)) rfl rfl)) (fun z => ?_) fun _ => ?_
      · rw [eqv_b] at z
        cases z
      refine xs_when (et_B (ev_neI (ev_lenL (ds := ds) (el_of (ev_var rfl))) (ev_lenL (ds := ds) (el_of (ev_var rfl))))) (fun z => ?_) fun _ => ?_
      · simp at z
      refine xs_ret (ev_eqD (d := .list ((rngD 0 ds.length).filterMap fun _ => none)) (d' := .list []) (ef_filterMap (im_rng1E (ev_lenL (ds := ds) (el_of (ev_var rfl))) (by omega)) (by rw [rngD_length]; exact hl) fun d hdm => ?_).evE ev_lst0 (by rw [fm_none]; rfl) rfl) (by rw [fm_none]; rfl)
      obtain ⟨i, x, rfl, hat, hx⟩ := at_rng rfl hdm
      exact ⟨[2], _, by simp, tg_name, et_is (et_not (et_B (ev_callE x (ea_cons (ev_ixL (el_of (ev_var rfl)) (ev_var rfl) hat) (ea_cons (ev_ixL (el_of (ev_var rfl)) (ev_var rfl) hat) ea_nil)) (hd x hx)))) rfl, fun y hy => by cases hy⟩
    | tuple ds =>
      refine ⟨_, (pss_cons (ps_if (pt_val (pe_callB (r := rIsYT K) call_isYT (by rfl) T.b_isinstance (by decide +kernel) (pa_cons (pv 1) (pa_cons (pe_tup (pa_cons (pe_bltn (v := .ty "tuple") (u := .type "tuple") (by rfl) T.b_tuple (by decide +kernel) rfl) (pa_cons (pe_bltn (v := .ty "list") (u := .type "list") (by rfl) T.b_list (by decide +kernel) rfl) pa_nil))) pa_nil)))) (pss_cons (ps_if (PW.pt (pw_or (pt_not (pt_val (pe_callB (r := rIsYT K) call_isYT (by rfl) T.b_isinstance (by decide +kernel) (pa_cons (pv 0) (pa_cons (pe_tup (pa_cons (pe_bltn (v := .ty "tuple") (u := .type "tuple") (by rfl) T.b_tuple (by decide +kernel) rfl) (pa_cons (pe_bltn (v := .ty "list") (u := .type "list") (by rfl) T.b_list (by decide +kernel) rfl) pa_nil))) pa_nil))))) (pw_or1 (pt_cmpR (r := rNeD K) (op_neD (u64 hr)) (pe_callB (r := rIsY K) call_isY (by rfl) T.b_isinstance (by decide +kernel) (pa_cons (pv 0) (pa_cons (pe_bltn (v := .ty "list") (u := .type "list") (by rfl) T.b_list (by decide +kernel) rfl) pa_nil))) (pe_callB (r := rIsY K) call_isY (by rfl) T.b_isinstance (by decide +kernel) (pa_cons (pv 1) (pa_cons (pe_bltn (v := .ty "list") (u := .type "list") (by rfl) T.b_list (by decide +kernel) rfl) pa_nil))) (nomark _))))) (pss_one (ps_ret pe_bl)) pss_nil)
      (pss_cons (ps_if (pt_cmpR (r := rNeD K) (op_neD (u64 hr)) (pe_callB (r := fun xs H Q => ∃ p ys, xs = [.ref p] ∧ (SqL K H p ys ∨ SqT K H p ys) ∧ Q (.int ys.length) H) call_len_seq (by rfl) T.b_len (by decide +kernel) (pa_cons (pv 0) pa_nil)) (pe_callB (r := fun xs H Q => ∃ p ys, xs = [.ref p] ∧ (SqL K H p ys ∨ SqT K H p ys) ∧ Q (.int ys.length) H) call_len_seq (by rfl) T.b_len (by decide +kernel) (pa_cons (pv 1) pa_nil)) (nomark _)) (pss_one (ps_ret pe_bl)) pss_nil)
      (pss_one (ps_ret (pe_cmpR (r := rEqD K) (op_eqD (u64 hr)) (pe_lc (own := [("k", 2)]) (by rfl) sc__law_alike.nd (pi_range1 (by rfl) T.b_range (pa_cons (pe_callB (r := fun xs H Q => ∃ p ys, xs = [.ref p] ∧ (SqL K H p ys ∨ SqT K H p ys) ∧ Q (.int ys.length) H) call_len_seq (by rfl) T.b_len (by decide +kernel) (pa_cons (pv 1) pa_nil)) pa_nil)) (blkOk_by (N := ["found", "due", "k", "key"]) (sc := defScope s__law_alike) (own := [("k", 2)]) (by decide +kernel)) (fun _ _ _ _ _ => (pg_name (i := 2) sc__law_alike.nd rfl (by first | exact Or.inl rfl | exact Or.inr rfl))) (fun _ _ _ _ _ => (pts_one (pt_not (pt_val (pe_cal c__law_alike hr rfl (pa_cons (pe_ix (r := rIxT K) ix_tup (pv 0) (pv 2) (fun _ _ => rfl)) (pa_cons (pe_ix (r := rIxT K) ix_tup (pv 1) (pv 2) (fun _ _ => rfl)) pa_nil))))))) (fun _ _ _ _ _ => (pv 2))) (pe_lst pa_nil) (nomark _)))))) pss_nil)
      (pss_cons (ps_if (pt_val (pe_callB (r := rIsY K) call_isY (by rfl) T.b_isinstance (by decide +kernel) (pa_cons (pv 1) (pa_cons (pe_bltn (v := .ty "dict") (u := .type "dict") (by rfl) T.b_dict (by decide +kernel) rfl) pa_nil)))) (pss_cons (ps_if (PW.pt (pw_or (pt_not (pt_val (pe_callB (r := rIsY K) call_isY (by rfl) T.b_isinstance (by decide +kernel) (pa_cons (pv 0) (pa_cons (pe_bltn (v := .ty "dict") (u := .type "dict") (by rfl) T.b_dict (by decide +kernel) rfl) pa_nil))))) (pw_or1 (pt_cmpR (r := rNeD K) (op_neD (u64 hr)) (pe_callTy (T := "list") (r := fun xs H Q => ∃ p ys, xs = [.ref p] ∧ (SqL K H p ys ∨ SqT K H p ys) ∧ ∀ l, H l = none → Q (.ref l) (upd H l (.lst ys))) call_list_of (by rfl) T.b_list (by decide +kernel) (pa_cons (pv 0) pa_nil)) (pe_callTy (T := "list") (r := fun xs H Q => ∃ p ys, xs = [.ref p] ∧ (SqL K H p ys ∨ SqT K H p ys) ∧ ∀ l, H l = none → Q (.ref l) (upd H l (.lst ys))) call_list_of (by rfl) T.b_list (by decide +kernel) (pa_cons (pv 1) pa_nil)) (nomark _))))) (pss_one (ps_ret pe_bl)) pss_nil)
      (pss_one (ps_ret (pe_cmpR (r := rEqD K) (op_eqD (u64 hr)) (pe_lc (own := [("key", 3)]) (by rfl) sc__law_alike.nd (pi_list (pv 1)) (blkOk_by (N := ["found", "due", "k", "key"]) (sc := defScope s__law_alike) (own := [("key", 3)]) (by decide +kernel)) (fun _ _ _ _ _ => (pg_name (i := 3) sc__law_alike.nd rfl (by first | exact Or.inl rfl | exact Or.inr rfl))) (fun _ _ _ _ _ => (pts_one (pt_not (pt_val (pe_cal c__law_alike hr rfl (pa_cons (pe_ix (r := rIxT K) ix_tup (pv 0) (pv 3) (fun _ _ => rfl)) (pa_cons (pe_ix (r := rIxT K) ix_tup (pv 1) (pv 3) (fun _ _ => rfl)) pa_nil))))))) (fun _ _ _ _ _ => (pv 3))) (pe_lst pa_nil) (nomark _))))) pss_nil)
      (pss_cons (ps_if (PW.pt (pw_or (pt_cmpR op_isN (pv 1) pe_non (nomark _)) (pw_or1 (pt_val (pe_callB (r := rIsY K) call_isY (by rfl) T.b_isinstance (by decide +kernel) (pa_cons (pv 1) (pa_cons (pe_bltn (v := .ty "str") (u := .type "str") (by rfl) T.b_str (by decide +kernel) rfl) pa_nil))))))) (pss_one (ps_ret (pe_and (pe_cmpR (r := rEqD K) (op_eqD (u64 hr)) (pv 0) (pv 1) (nomark _)) (pe_one (pe_cmpR (r := rEqD K) (op_eqD (u64 hr)) (pe_callB (r := rIsY K) call_isY (by rfl) T.b_isinstance (by decide +kernel) (pa_cons (pv 0) (pa_cons (pe_bltn (v := .ty "str") (u := .type "str") (by rfl) T.b_str (by decide +kernel) rfl) pa_nil))) (pe_callB (r := rIsY K) call_isY (by rfl) T.b_isinstance (by decide +kernel) (pa_cons (pv 1) (pa_cons (pe_bltn (v := .ty "str") (u := .type "str") (by rfl) T.b_str (by decide +kernel) rfl) pa_nil))) (nomark _)))))) pss_nil)
      (pss_one (ps_ret (pe_and (pe_callB (r := rIsY K) call_isY (by rfl) T.b_isinstance (by decide +kernel) (pa_cons (pv 0) (pa_cons (pe_bltn (v := .ty "int") (u := .type "int") (by rfl) T.b_int (by decide +kernel) rfl) pa_nil))) (pe_and (pe_cmpR (r := rEqD K) (op_eqD (u64 hr)) (pe_callB (r := rIsY K) call_isY (by rfl) T.b_isinstance (by decide +kernel) (pa_cons (pv 0) (pa_cons (pe_bltn (v := .ty "bool") (u := .type "bool") (by rfl) T.b_bool (by decide +kernel) rfl) pa_nil))) (pe_callB (r := rIsY K) call_isY (by rfl) T.b_isinstance (by decide +kernel) (pa_cons (pv 1) (pa_cons (pe_bltn (v := .ty "bool") (u := .type "bool") (by rfl) T.b_bool (by decide +kernel) rfl) pa_nil))) (nomark _)) (pe_one (pe_cmpR (r := rEqD K) (op_eqD (u64 hr)) (pv 0) (pv 1) (nomark _)))))))))), fun G => ?_⟩
      obtain ⟨hl, hd⟩ := hp
      refine xs_when (S := ⟨K, fx0, G, H, E⟩) (et_B (ev_isTL (d := .tuple ds) (ev_var rfl))) (fun _ => ?_) fun z => by cases z
      refine xs_when (et_or (et_not (et_B (ev_isTL (d := .tuple ds) (ev_var rfl)))) fun _ => et_B (ev_neD (ev_isList (d := .tuple ds) (ev_var rfl)) (ev_isList (d := .tuple ds) (ev_var rfl)) rfl rfl)) (fun z => ?_) fun _ => ?_
      · rw [eqv_b] at z
        cases z
      refine xs_when (et_B (ev_neI (ev_lenU (ds := ds) (eu_of (ev_var rfl))) (ev_lenU (ds := ds) (eu_of (ev_var rfl))))) (fun z => ?_) fun _ => ?_
      · simp at z
      refine xs_ret (ev_eqD (d := .list ((rngD 0 ds.length).filterMap fun _ => none)) (d' := .list []) (ef_filterMap (im_rng1E (ev_lenU (ds := ds) (eu_of (ev_var rfl))) (by omega)) (by rw [rngD_length]; exact hl) fun d hdm => ?_).evE ev_lst0 (by rw [fm_none]; rfl) rfl) (by rw [fm_none]; rfl)
      obtain ⟨i, x, rfl, hat, hx⟩ := at_rng rfl hdm
      exact ⟨[2], _, by simp, tg_name, et_is (et_not (et_B (ev_callE x (ea_cons (ev_ixT (eu_of (ev_var rfl)) (ev_var rfl) hat) (ea_cons (ev_ixT (eu_of (ev_var rfl)) (ev_var rfl) hat) ea_nil)) (hd x hx)))) rfl, fun y hy => by cases hy⟩
    | dict ds => exact hp.elim
    | none =>
      refine ⟨_, (pss_cons (ps_if (pt_val (pe_callB (r := rIsYT K) call_isYT (by rfl) T.b_isinstance (by decide +kernel) (pa_cons (pv 1) (pa_cons (pe_tup (pa_cons (pe_bltn (v := .ty "tuple") (u := .type "tuple") (by rfl) T.b_tuple (by decide +kernel) rfl) (pa_cons (pe_bltn (v := .ty "list") (u := .type "list") (by rfl) T.b_list (by decide +kernel) rfl) pa_nil))) pa_nil)))) (pss_cons (ps_if (PW.pt (pw_or (pt_not (pt_val (pe_callB (r := rIsYT K) call_isYT (by rfl) T.b_isinstance (by decide +kernel) (pa_cons (pv 0) (pa_cons (pe_tup (pa_cons (pe_bltn (v := .ty "tuple") (u := .type "tuple") (by rfl) T.b_tuple (by decide +kernel) rfl) (pa_cons (pe_bltn (v := .ty "list") (u := .type "list") (by rfl) T.b_list (by decide +kernel) rfl) pa_nil))) pa_nil))))) (pw_or1 (pt_cmpR (r := rNeD K) (op_neD (u64 hr)) (pe_callB (r := rIsY K) call_isY (by rfl) T.b_isinstance (by decide +kernel) (pa_cons (pv 0) (pa_cons (pe_bltn (v := .ty "list") (u := .type "list") (by rfl) T.b_list (by decide +kernel) rfl) pa_nil))) (pe_callB (r := rIsY K) call_isY (by rfl) T.b_isinstance (by decide +kernel) (pa_cons (pv 1) (pa_cons (pe_bltn (v := .ty "list") (u := .type "list") (by rfl) T.b_list (by decide +kernel) rfl) pa_nil))) (nomark _))))) (pss_one (ps_ret pe_bl)) pss_nil)
      (pss_cons (ps_if (pt_cmpR (r := rNeD K) (op_neD (u64 hr)) (pe_callB (r := fun xs H Q => ∃ p ys, xs = [.ref p] ∧ (SqL K H p ys ∨ SqT K H p ys) ∧ Q (.int ys.length) H) call_len_seq (by rfl) T.b_len (by decide +kernel) (pa_cons (pv 0) pa_nil)) (pe_callB (r := fun xs H Q => ∃ p ys, xs = [.ref p] ∧ (SqL K H p ys ∨ SqT K H p ys) ∧ Q (.int ys.length) H) call_len_seq (by rfl) T.b_len (by decide +kernel) (pa_cons (pv 1) pa_nil)) (nomark _)) (pss_one (ps_ret pe_bl)) pss_nil)
      (pss_one (ps_ret (pe_cmpR (r := rEqD K) (op_eqD (u64 hr)) (pe_lc (own := [("k", 2)]) (by rfl) sc__law_alike.nd (pi_range1 (by rfl) T.b_range (pa_cons (pe_callB (r := fun xs H Q => ∃ p ys, xs = [.ref p] ∧ (SqL K H p ys ∨ SqT K H p ys) ∧ Q (.int ys.length) H) call_len_seq (by rfl) T.b_len (by decide +kernel) (pa_cons (pv 1) pa_nil)) pa_nil)) (blkOk_by (N := ["found", "due", "k", "key"]) (sc := defScope s__law_alike) (own := [("k", 2)]) (by decide +kernel)) (fun _ _ _ _ _ => (pg_name (i := 2) sc__law_alike.nd rfl (by first | exact Or.inl rfl | exact Or.inr rfl))) (fun _ _ _ _ _ => (pts_one (pt_not (pt_val (pe_cal c__law_alike hr rfl (pa_cons (pe_ix (r := rIxT K) ix_tup (pv 0) (pv 2) (fun _ _ => rfl)) (pa_cons (pe_ix (r := rIxT K) ix_tup (pv 1) (pv 2) (fun _ _ => rfl)) pa_nil))))))) (fun _ _ _ _ _ => (pv 2))) (pe_lst pa_nil) (nomark _)))))) pss_nil)
      (pss_cons (ps_if (pt_val (pe_callB (r := rIsY K) call_isY (by rfl) T.b_isinstance (by decide +kernel) (pa_cons (pv 1) (pa_cons (pe_bltn (v := .ty "dict") (u := .type "dict") (by rfl) T.b_dict (by decide +kernel) rfl) pa_nil)))) (pss_cons (ps_if (PW.pt (pw_or (pt_not (pt_val (pe_callB (r := rIsY K) call_isY (by rfl) T.b_isinstance (by decide +kernel) (pa_cons (pv 0) (pa_cons (pe_bltn (v := .ty "dict") (u := .type "dict") (by rfl) T.b_dict (by decide +kernel) rfl) pa_nil))))) (pw_or1 (pt_cmpR (r := rNeD K) (op_neD (u64 hr)) (pe_callTy (T := "list") (r := fun xs H Q => ∃ p ys, xs = [.ref p] ∧ (SqL K H p ys ∨ SqT K H p ys) ∧ ∀ l, H l = none → Q (.ref l) (upd H l (.lst ys))) call_list_of (by rfl) T.b_list (by decide +kernel) (pa_cons (pv 0) pa_nil)) (pe_callTy (T := "list") (r := fun xs H Q => ∃ p ys, xs = [.ref p] ∧ (SqL K H p ys ∨ SqT K H p ys) ∧ ∀ l, H l = none → Q (.ref l) (upd H l (.lst ys))) call_list_of (by rfl) T.b_list (by decide +kernel) (pa_cons (pv 1) pa_nil)) (nomark _))))) (pss_one (ps_ret pe_bl)) pss_nil)
      (pss_one (ps_ret (pe_cmpR (r := rEqD K) (op_eqD (u64 hr)) (pe_lc (own := [("key", 3)]) (by rfl) sc__law_alike.nd (pi_list (pv 1)) (blkOk_by (N := ["found", "due", "k", "key"]) (sc := defScope s__law_alike) (own := [("key", 3)]) (by decide +kernel)) (fun _ _ _ _ _ => (pg_name (i := 3) sc__law_alike.nd rfl (by first | exact Or.inl rfl | exact Or.inr rfl))) (fun _ _ _ _ _ => (pts_one (pt_not (pt_val (pe_cal c__law_alike hr rfl (pa_cons (pe_ix (r := rIxT K) ix_tup (pv 0) (pv 3) (fun _ _ => rfl)) (pa_cons (pe_ix (r := rIxT K) ix_tup (pv 1) (pv 3) (fun _ _ => rfl)) pa_nil))))))) (fun _ _ _ _ _ => (pv 3))) (pe_lst pa_nil) (nomark _))))) pss_nil)
      (pss_cons (ps_if (PW.pt (pw_or (pt_cmpR op_isN (pv 1) pe_non (nomark _)) (pw_or1 (pt_val (pe_callB (r := rIsY K) call_isY (by rfl) T.b_isinstance (by decide +kernel) (pa_cons (pv 1) (pa_cons (pe_bltn (v := .ty "str") (u := .type "str") (by rfl) T.b_str (by decide +kernel) rfl) pa_nil))))))) (pss_one (ps_ret (pe_and (pe_cmpR (r := rEqD K) (op_eqD (u64 hr)) (pv 0) (pv 1) (nomark _)) (pe_one (pe_cmpR (r := rEqD K) (op_eqD (u64 hr)) (pe_callB (r := rIsY K) call_isY (by rfl) T.b_isinstance (by decide +kernel) (pa_cons (pv 0) (pa_cons (pe_bltn (v := .ty "str") (u := .type "str") (by rfl) T.b_str (by decide +kernel) rfl) pa_nil))) (pe_callB (r := rIsY K) call_isY (by rfl) T.b_isinstance (by decide +kernel) (pa_cons (pv 1) (pa_cons (pe_bltn (v := .ty "str") (u := .type "str") (by rfl) T.b_str (by decide +kernel) rfl) pa_nil))) (nomark _)))))) pss_nil)
      (pss_one (ps_ret (pe_and (pe_callB (r := rIsY K) call_isY (by rfl) T.b_isinstance (by decide +kernel) (pa_cons (pv 0) (pa_cons (pe_bltn (v := .ty "int") (u := .type "int") (by rfl) T.b_int (by decide +kernel) rfl) pa_nil))) (pe_and (pe_cmpR (r := rEqD K) (op_eqD (u64 hr)) (pe_callB (r := rIsY K) call_isY (by rfl) T.b_isinstance (by decide +kernel) (pa_cons (pv 0) (pa_cons (pe_bltn (v := .ty "bool") (u := .type "bool") (by rfl) T.b_bool (by decide +kernel) rfl) pa_nil))) (pe_callB (r := rIsY K) call_isY (by rfl) T.b_isinstance (by decide +kernel) (pa_cons (pv 1) (pa_cons (pe_bltn (v := .ty "bool") (u := .type "bool") (by rfl) T.b_bool (by decide +kernel) rfl) pa_nil))) (nomark _)) (pe_one (pe_cmpR (r := rEqD K) (op_eqD (u64 hr)) (pv 0) (pv 1) (nomark _)))))))))), fun G => ?_⟩
      refine xs_when (S := ⟨K, fx0, G, H, E⟩) (et_B (ev_isTL (d := .none) (ev_var rfl))) (fun z => by cases z) fun _ => ?_
      refine xs_when (et_B (ev_isDict (d := .none) (ev_var rfl))) (fun z => by cases z) fun _ => ?_
      refine xs_when (et_orT (et_B (ev_isN (d := .none) (ev_var rfl)))) (fun _ => ?_) fun z => by cases z
      exact xs_ret (ev_andV (ev_eqD (d := .none) (d' := .none) (ev_var rfl) (ev_var rfl) rfl rfl) fun _ => ev_eqD (ev_isStr (d := .none) (ev_var rfl)) (ev_isStr (d := .none) (ev_var rfl)) rfl rfl) rfl
    | str x =>
      refine ⟨_, (pss_cons (ps_if (pt_val (pe_callB (r := rIsYT K) call_isYT (by rfl) T.b_isinstance (by decide +kernel) (pa_cons (pv 1) (pa_cons (pe_tup (pa_cons (pe_bltn (v := .ty "tuple") (u := .type "tuple") (by rfl) T.b_tuple (by decide +kernel) rfl) (pa_cons (pe_bltn (v := .ty "list") (u := .type "list") (by rfl) T.b_list (by decide +kernel) rfl) pa_nil))) pa_nil)))) (pss_cons (ps_if (PW.pt (pw_or (pt_not (pt_val (pe_callB (r := rIsYT K) call_isYT (by rfl) T.b_isinstance (by decide +kernel) (pa_cons (pv 0) (pa_cons (pe_tup (pa_cons (pe_bltn (v := .ty "tuple") (u := .type "tuple") (by rfl) T.b_tuple (by decide +kernel) rfl) (pa_cons (pe_bltn (v := .ty "list") (u := .type "list") (by rfl) T.b_list (by decide +kernel) rfl) pa_nil))) pa_nil))))) (pw_or1 (pt_cmpR (r := rNeD K) (op_neD (u64 hr)) (pe_callB (r := rIsY K) call_isY (by rfl) T.b_isinstance (by decide +kernel) (pa_cons (pv 0) (pa_cons (pe_bltn (v := .ty "list") (u := .type "list") (by rfl) T.b_list (by decide +kernel) rfl) pa_nil))) (pe_callB (r := rIsY K) call_isY (by rfl) T.b_isinstance (by decide +kernel) (pa_cons (pv 1) (pa_cons (pe_bltn (v := .ty "list") (u := .type "list") (by rfl) T.b_list (by decide +kernel) rfl) pa_nil))) (nomark _))))) (pss_one (ps_ret pe_bl)) pss_nil)
      (pss_cons (ps_if (pt_cmpR (r := rNeD K) (op_neD (u64 hr)) (pe_callB (r := fun xs H Q => ∃ p ys, xs = [.ref p] ∧ (SqL K H p ys ∨ SqT K H p ys) ∧ Q (.int ys.length) H) call_len_seq (by rfl) T.b_len (by decide +kernel) (pa_cons (pv 0) pa_nil)) (pe_callB (r := fun xs H Q => ∃ p ys, xs = [.ref p] ∧ (SqL K H p ys ∨ SqT K H p ys) ∧ Q (.int ys.length) H) call_len_seq (by rfl) T.b_len (by decide +kernel) (pa_cons (pv 1) pa_nil)) (nomark _)) (pss_one (ps_ret pe_bl)) pss_nil)
      (pss_one (ps_ret (pe_cmpR (r := rEqD K) (op_eqD (u64 hr)) (pe_lc (own := [("k", 2)]) (by rfl) sc__law_alike.nd (pi_range1 (by rfl) T.b_range (pa_cons (pe_callB (r := fun xs H Q => ∃ p ys, xs = [.ref p] ∧ (SqL K H p ys ∨ SqT K H p ys) ∧ Q (.int ys.length) H) call_len_seq (by rfl) T.b_len (by decide +kernel) (pa_cons (pv 1) pa_nil)) pa_nil)) (blkOk_by (N := ["found", "due", "k", "key"]) (sc := defScope s__law_alike) (own := [("k", 2)]) (by decide +kernel)) (fun _ _ _ _ _ => (pg_name (i := 2) sc__law_alike.nd rfl (by first | exact Or.inl rfl | exact Or.inr rfl))) (fun _ _ _ _ _ => (pts_one (pt_not (pt_val (pe_cal c__law_alike hr rfl (pa_cons (pe_ix (r := rIxT K) ix_tup (pv 0) (pv 2) (fun _ _ => rfl)) (pa_cons (pe_ix (r := rIxT K) ix_tup (pv 1) (pv 2) (fun _ _ => rfl)) pa_nil))))))) (fun _ _ _ _ _ => (pv 2))) (pe_lst pa_nil) (nomark _)))))) pss_nil)
      (pss_cons (ps_if (pt_val (pe_callB (r := rIsY K) call_isY (by rfl) T.b_isinstance (by decide +kernel) (pa_cons (pv 1) (pa_cons (pe_bltn (v := .ty "dict") (u := .type "dict") (by rfl) T.b_dict (by decide +kernel) rfl) pa_nil)))) (pss_cons (ps_if (PW.pt (pw_or (pt_not (pt_val (pe_callB (r := rIsY K) call_isY (by rfl) T.b_isinstance (by decide +kernel) (pa_cons (pv 0) (pa_cons (pe_bltn (v := .ty "dict") (u := .type "dict") (by rfl) T.b_dict (by decide +kernel) rfl) pa_nil))))) (pw_or1 (pt_cmpR (r := rNeD K) (op_neD (u64 hr)) (pe_callTy (T := "list") (r := fun xs H Q => ∃ p ys, xs = [.ref p] ∧ (SqL K H p ys ∨ SqT K H p ys) ∧ ∀ l, H l = none → Q (.ref l) (upd H l (.lst ys))) call_list_of (by rfl) T.b_list (by decide +kernel) (pa_cons (pv 0) pa_nil)) (pe_callTy (T := "list") (r := fun xs H Q => ∃ p ys, xs = [.ref p] ∧ (SqL K H p ys ∨ SqT K H p ys) ∧ ∀ l, H l = none → Q (.ref l) (upd H l (.lst ys))) call_list_of (by rfl) T.b_list (by decide +kernel) (pa_cons (pv 1) pa_nil)) (nomark _))))) (pss_one (ps_ret pe_bl)) pss_nil)
      (pss_one (ps_ret (pe_cmpR (r := rEqD K) (op_eqD (u64 hr)) (pe_lc (own := [("key", 3)]) (by rfl) sc__law_alike.nd (pi_list (pv 1)) (blkOk_by (N := ["found", "due", "k", "key"]) (sc := defScope s__law_alike) (own := [("key", 3)]) (by decide +kernel)) (fun _ _ _ _ _ => (pg_name (i := 3) sc__law_alike.nd rfl (by first | exact Or.inl rfl | exact Or.inr rfl))) (fun _ _ _ _ _ => (pts_one (pt_not (pt_val (pe_cal c__law_alike hr rfl (pa_cons (pe_ix (r := rIxT K) ix_tup (pv 0) (pv 3) (fun _ _ => rfl)) (pa_cons (pe_ix (r := rIxT K) ix_tup (pv 1) (pv 3) (fun _ _ => rfl)) pa_nil))))))) (fun _ _ _ _ _ => (pv 3))) (pe_lst pa_nil) (nomark _))))) pss_nil)
      (pss_cons (ps_if (PW.pt (pw_or (pt_cmpR op_isN (pv 1) pe_non (nomark _)) (pw_or1 (pt_val (pe_callB (r := rIsY K) call_isY (by rfl) T.b_isinstance (by decide +kernel) (pa_cons (pv 1) (pa_cons (pe_bltn (v := .ty "str") (u := .type "str") (by rfl) T.b_str (by decide +kernel) rfl) pa_nil))))))) (pss_one (ps_ret (pe_and (pe_cmpR (r := rEqD K) (op_eqD (u64 hr)) (pv 0) (pv 1) (nomark _)) (pe_one (pe_cmpR (r := rEqD K) (op_eqD (u64 hr)) (pe_callB (r := rIsY K) call_isY (by rfl) T.b_isinstance (by decide +kernel) (pa_cons (pv 0) (pa_cons (pe_bltn (v := .ty "str") (u := .type "str") (by rfl) T.b_str (by decide +kernel) rfl) pa_nil))) (pe_callB (r := rIsY K) call_isY (by rfl) T.b_isinstance (by decide +kernel) (pa_cons (pv 1) (pa_cons (pe_bltn (v := .ty "str") (u := .type "str") (by rfl) T.b_str (by decide +kernel) rfl) pa_nil))) (nomark _)))))) pss_nil)
      (pss_one (ps_ret (pe_and (pe_callB (r := rIsY K) call_isY (by rfl) T.b_isinstance (by decide +kernel) (pa_cons (pv 0) (pa_cons (pe_bltn (v := .ty "int") (u := .type "int") (by rfl) T.b_int (by decide +kernel) rfl) pa_nil))) (pe_and (pe_cmpR (r := rEqD K) (op_eqD (u64 hr)) (pe_callB (r := rIsY K) call_isY (by rfl) T.b_isinstance (by decide +kernel) (pa_cons (pv 0) (pa_cons (pe_bltn (v := .ty "bool") (u := .type "bool") (by rfl) T.b_bool (by decide +kernel) rfl) pa_nil))) (pe_callB (r := rIsY K) call_isY (by rfl) T.b_isinstance (by decide +kernel) (pa_cons (pv 1) (pa_cons (pe_bltn (v := .ty "bool") (u := .type "bool") (by rfl) T.b_bool (by decide +kernel) rfl) pa_nil))) (nomark _)) (pe_one (pe_cmpR (r := rEqD K) (op_eqD (u64 hr)) (pv 0) (pv 1) (nomark _)))))))))), fun G => ?_⟩
      refine xs_when (S := ⟨K, fx0, G, H, E⟩) (et_B (ev_isTL (d := .str x) (ev_var rfl))) (fun z => by cases z) fun _ => ?_
      refine xs_when (et_B (ev_isDict (d := .str x) (ev_var rfl))) (fun z => by cases z) fun _ => ?_
      refine xs_when (et_or (et_B (ev_isN (d := .str x) (ev_var rfl))) fun _ => et_B (ev_isStr (d := .str x) (ev_var rfl))) (fun _ => ?_) fun z => by cases z
      exact xs_ret (ev_andV (ev_eqD (d := .str x) (d' := .str x) (ev_var rfl) (ev_var rfl) hp hp) fun _ => ev_eqD (ev_isStr (d := .str x) (ev_var rfl)) (ev_isStr (d := .str x) (ev_var rfl)) rfl rfl) (by rw [eqv_s, eqv_b]; rfl)
    | int i =>
      refine ⟨_, (pss_cons (ps_if (pt_val (pe_callB (r := rIsYT K) call_isYT (by rfl) T.b_isinstance (by decide +kernel) (pa_cons (pv 1) (pa_cons (pe_tup (pa_cons (pe_bltn (v := .ty "tuple") (u := .type "tuple") (by rfl) T.b_tuple (by decide +kernel) rfl) (pa_cons (pe_bltn (v := .ty "list") (u := .type "list") (by rfl) T.b_list (by decide +kernel) rfl) pa_nil))) pa_nil)))) (pss_cons (ps_if (PW.pt (pw_or (pt_not (pt_val (pe_callB (r := rIsYT K) call_isYT (by rfl) T.b_isinstance (by decide +kernel) (pa_cons (pv 0) (pa_cons (pe_tup (pa_cons (pe_bltn (v := .ty "tuple") (u := .type "tuple") (by rfl) T.b_tuple (by decide +kernel) rfl) (pa_cons (pe_bltn (v := .ty "list") (u := .type "list") (by rfl) T.b_list (by decide +kernel) rfl) pa_nil))) pa_nil))))) (pw_or1 (pt_cmpR (r := rNeD K) (op_neD (u64 hr)) (pe_callB (r := rIsY K) call_isY (by rfl) T.b_isinstance (by decide +kernel) (pa_cons (pv 0) (pa_cons (pe_bltn (v := .ty "list") (u := .type "list") (by rfl) T.b_list (by decide +kernel) rfl) pa_nil))) (pe_callB (r := rIsY K) call_isY (by rfl) T.b_isinstance (by decide +kernel) (pa_cons (pv 1) (pa_cons (pe_bltn (v := .ty "list") (u := .type "list") (by rfl) T.b_list (by decide +kernel) rfl) pa_nil))) (nomark _))))) (pss_one (ps_ret pe_bl)) pss_nil)
      (pss_cons (ps_if (pt_cmpR (r := rNeD K) (op_neD (u64 hr)) (pe_callB (r := fun xs H Q => ∃ p ys, xs = [.ref p] ∧ (SqL K H p ys ∨ SqT K H p ys) ∧ Q (.int ys.length) H) call_len_seq (by rfl) T.b_len (by decide +kernel) (pa_cons (pv 0) pa_nil)) (pe_callB (r := fun xs H Q => ∃ p ys, xs = [.ref p] ∧ (SqL K H p ys ∨ SqT K H p ys) ∧ Q (.int ys.length) H) call_len_seq (by rfl) T.b_len (by decide +kernel) (pa_cons (pv 1) pa_nil)) (nomark _)) (pss_one (ps_ret pe_bl)) pss_nil)
      (pss_one (ps_ret (pe_cmpR (r := rEqD K) (op_eqD (u64 hr)) (pe_lc (own := [("k", 2)]) (by rfl) sc__law_alike.nd (pi_range1 (by rfl) T.b_range (pa_cons (pe_callB (r := fun xs H Q => ∃ p ys, xs = [.ref p] ∧ (SqL K H p ys ∨ SqT K H p ys) ∧ Q (.int ys.length) H) call_len_seq (by rfl) T.b_len (by decide +kernel) (pa_cons (pv 1) pa_nil)) pa_nil)) (blkOk_by (N := ["found", "due", "k", "key"]) (sc := defScope s__law_alike) (own := [("k", 2)]) (by decide +kernel)) (fun _ _ _ _ _ => (pg_name (i := 2) sc__law_alike.nd rfl (by first | exact Or.inl rfl | exact Or.inr rfl))) (fun _ _ _ _ _ => (pts_one (pt_not (pt_val (pe_cal c__law_alike hr rfl (pa_cons (pe_ix (r := rIxT K) ix_tup (pv 0) (pv 2) (fun _ _ => rfl)) (pa_cons (pe_ix (r := rIxT K) ix_tup (pv 1) (pv 2) (fun _ _ => rfl)) pa_nil))))))) (fun _ _ _ _ _ => (pv 2))) (pe_lst pa_nil) (nomark _)))))) pss_nil)
      (pss_cons (ps_if (pt_val (pe_callB (r := rIsY K) call_isY (by rfl) T.b_isinstance (by decide +kernel) (pa_cons (pv 1) (pa_cons (pe_bltn (v := .ty "dict") (u := .type "dict") (by rfl) T.b_dict (by decide +kernel) rfl) pa_nil)))) (pss_cons (ps_if (PW.pt (pw_or (pt_not (pt_val (pe_callB (r := rIsY K) call_isY (by rfl) T.b_isinstance (by decide +kernel) (pa_cons (pv 0) (pa_cons (pe_bltn (v := .ty "dict") (u := .type "dict") (by rfl) T.b_dict (by decide +kernel) rfl) pa_nil))))) (pw_or1 (pt_cmpR (r := rNeD K) (op_neD (u64 hr)) (pe_callTy (T := "list") (r := fun xs H Q => ∃ p ys, xs = [.ref p] ∧ (SqL K H p ys ∨ SqT K H p ys) ∧ ∀ l, H l = none → Q (.ref l) (upd H l (.lst ys))) call_list_of (by rfl) T.b_list (by decide +kernel) (pa_cons (pv 0) pa_nil)) (pe_callTy (T := "list") (r := fun xs H Q => ∃ p ys, xs = [.ref p] ∧ (SqL K H p ys ∨ SqT K H p ys) ∧ ∀ l, H l = none → Q (.ref l) (upd H l (.lst ys))) call_list_of (by rfl) T.b_list (by decide +kernel) (pa_cons (pv 1) pa_nil)) (nomark _))))) (pss_one (ps_ret pe_bl)) pss_nil)
      (pss_one (ps_ret (pe_cmpR (r := rEqD K) (op_eqD (u64 hr)) (pe_lc (own := [("key", 3)]) (by rfl) sc__law_alike.nd (pi_list (pv 1)) (blkOk_by (N := ["found", "due", "k", "key"]) (sc := defScope s__law_alike) (own := [("key", 3)]) (by decide +kernel)) (fun _ _ _ _ _ => (pg_name (i := 3) sc__law_alike.nd rfl (by first | exact Or.inl rfl | exact Or.inr rfl))) (fun _ _ _ _ _ => (pts_one (pt_not (pt_val (pe_cal c__law_alike hr rfl (pa_cons (pe_ix (r := rIxT K) ix_tup (pv 0) (pv 3) (fun _ _ => rfl)) (pa_cons (pe_ix (r := rIxT K) ix_tup (pv 1) (pv 3) (fun _ _ => rfl)) pa_nil))))))) (fun _ _ _ _ _ => (pv 3))) (pe_lst pa_nil) (nomark _))))) pss_nil)
      (pss_cons (ps_if (PW.pt (pw_or (pt_cmpR op_isN (pv 1) pe_non (nomark _)) (pw_or1 (pt_val (pe_callB (r := rIsY K) call_isY (by rfl) T.b_isinstance (by decide +kernel) (pa_cons (pv 1) (pa_cons (pe_bltn (v := .ty "str") (u := .type "str") (by rfl) T.b_str (by decide +kernel) rfl) pa_nil))))))) (pss_one (ps_ret (pe_and (pe_cmpR (r := rEqD K) (op_eqD (u64 hr)) (pv 0) (pv 1) (nomark _)) (pe_one (pe_cmpR (r := rEqD K) (op_eqD (u64 hr)) (pe_callB (r := rIsY K) call_isY (by rfl) T.b_isinstance (by decide +kernel) (pa_cons (pv 0) (pa_cons (pe_bltn (v := .ty "str") (u := .type "str") (by rfl) T.b_str (by decide +kernel) rfl) pa_nil))) (pe_callB (r := rIsY K) call_isY (by rfl) T.b_isinstance (by decide +kernel) (pa_cons (pv 1) (pa_cons (pe_bltn (v := .ty "str") (u := .type "str") (by rfl) T.b_str (by decide +kernel) rfl) pa_nil))) (nomark _)))))) pss_nil)
      (pss_one (ps_ret (pe_and (pe_callB (r := rIsY K) call_isY (by rfl) T.b_isinstance (by decide +kernel) (pa_cons (pv 0) (pa_cons (pe_bltn (v := .ty "int") (u := .type "int") (by rfl) T.b_int (by decide +kernel) rfl) pa_nil))) (pe_and (pe_cmpR (r := rEqD K) (op_eqD (u64 hr)) (pe_callB (r := rIsY K) call_isY (by rfl) T.b_isinstance (by decide +kernel) (pa_cons (pv 0) (pa_cons (pe_bltn (v := .ty "bool") (u := .type "bool") (by rfl) T.b_bool (by decide +kernel) rfl) pa_nil))) (pe_callB (r := rIsY K) call_isY (by rfl) T.b_isinstance (by decide +kernel) (pa_cons (pv 1) (pa_cons (pe_bltn (v := .ty "bool") (u := .type "bool") (by rfl) T.b_bool (by decide +kernel) rfl) pa_nil))) (nomark _)) (pe_one (pe_cmpR (r := rEqD K) (op_eqD (u64 hr)) (pv 0) (pv 1) (nomark _)))))))))), fun G => ?_⟩
      refine xs_when (S := ⟨K, fx0, G, H, E⟩) (et_B (ev_isTL (d := .int i) (ev_var rfl))) (fun z => by cases z) fun _ => ?_
      refine xs_when (et_B (ev_isDict (d := .int i) (ev_var rfl))) (fun z => by cases z) fun _ => ?_
      refine xs_when (et_or (et_B (ev_isN (d := .int i) (ev_var rfl))) fun _ => et_B (ev_isStr (d := .int i) (ev_var rfl))) (fun z => by cases z) fun _ => ?_
      exact xc_retB (ev_andV (ev_isInt (d := .int i) (ev_var rfl)) fun _ => ev_andV (ev_eqD (ev_isBool (d := .int i) (ev_var rfl)) (ev_isBool (d := .int i) (ev_var rfl)) rfl rfl) fun _ => ev_eqI (ev_var rfl) (ev_var rfl)) (by rw [eqv_b]; simp [dInt, dBool])
    | bool b =>
      refine ⟨_, (pss_cons (ps_if (pt_val (pe_callB (r := rIsYT K) call_isYT (by rfl) T.b_isinstance (by decide +kernel) (pa_cons (pv 1) (pa_cons (pe_tup (pa_cons (pe_bltn (v := .ty "tuple") (u := .type "tuple") (by rfl) T.b_tuple (by decide +kernel) rfl) (pa_cons (pe_bltn (v := .ty "list") (u := .type "list") (by rfl) T.b_list (by decide +kernel) rfl) pa_nil))) pa_nil)))) (pss_cons (ps_if (PW.pt (pw_or (pt_not (pt_val (pe_callB (r := rIsYT K) call_isYT (by rfl) T.b_isinstance (by decide +kernel) (pa_cons (pv 0) (pa_cons (pe_tup (pa_cons (pe_bltn (v := .ty "tuple") (u := .type "tuple") (by rfl) T.b_tuple (by decide +kernel) rfl) (pa_cons (pe_bltn (v := .ty "list") (u := .type "list") (by rfl) T.b_list (by decide +kernel) rfl) pa_nil))) pa_nil))))) (pw_or1 (pt_cmpR (r := rNeD K) (op_neD (u64 hr)) (pe_callB (r := rIsY K) call_isY (by rfl) T.b_isinstance (by decide +kernel) (pa_cons (pv 0) (pa_cons (pe_bltn (v := .ty "list") (u := .type "list") (by rfl) T.b_list (by decide +kernel) rfl) pa_nil))) (pe_callB (r := rIsY K) call_isY (by rfl) T.b_isinstance (by decide +kernel) (pa_cons (pv 1) (pa_cons (pe_bltn (v := .ty "list") (u := .type "list") (by rfl) T.b_list (by decide +kernel) rfl) pa_nil))) (nomark _))))) (pss_one (ps_ret pe_bl)) pss_nil)
      (pss_cons (ps_if (pt_cmpR (r := rNeD K) (op_neD (u64 hr)) (pe_callB (r := fun xs H Q => ∃ p ys, xs = [.ref p] ∧ (SqL K H p ys ∨ SqT K H p ys) ∧ Q (.int ys.length) H) call_len_seq (by rfl) T.b_len (by decide +kernel) (pa_cons (pv 0) pa_nil)) (pe_callB (r := fun xs H Q => ∃ p ys, xs = [.ref p] ∧ (SqL K H p ys ∨ SqT K H p ys) ∧ Q (.int ys.length) H) call_len_seq (by rfl) T.b_len (by decide +kernel) (pa_cons (pv 1) pa_nil)) (nomark _)) (pss_one (ps_ret pe_bl)) pss_nil)
      (pss_one (ps_ret (pe_cmpR (r := rEqD K) (op_eqD (u64 hr)) (pe_lc (own := [("k", 2)]) (by rfl) sc__law_alike.nd (pi_range1 (by rfl) T.b_range (pa_cons (pe_callB (r := fun xs H Q => ∃ p ys, xs = [.ref p] ∧ (SqL K H p ys ∨ SqT K H p ys) ∧ Q (.int ys.length) H) call_len_seq (by rfl) T.b_len (by decide +kernel) (pa_cons (pv 1) pa_nil)) pa_nil)) (blkOk_by (N := ["found", "due", "k", "key"]) (sc := defScope s__law_alike) (own := [("k", 2)]) (by decide +kernel)) (fun _ _ _ _ _ => (pg_name (i := 2) sc__law_alike.nd rfl (by first | exact Or.inl rfl | exact Or.inr rfl))) (fun _ _ _ _ _ => (pts_one (pt_not (pt_val (pe_cal c__law_alike hr rfl (pa_cons (pe_ix (r := rIxT K) ix_tup (pv 0) (pv 2) (fun _ _ => rfl)) (pa_cons (pe_ix (r := rIxT K) ix_tup (pv 1) (pv 2) (fun _ _ => rfl)) pa_nil))))))) (fun _ _ _ _ _ => (pv 2))) (pe_lst pa_nil) (nomark _)))))) pss_nil)
      (pss_cons (ps_if (pt_val (pe_callB (r := rIsY K) call_isY (by rfl) T.b_isinstance (by decide +kernel) (pa_cons (pv 1) (pa_cons (pe_bltn (v := .ty "dict") (u := .type "dict") (by rfl) T.b_dict (by decide +kernel) rfl) pa_nil)))) (pss_cons (ps_if (PW.pt (pw_or (pt_not (pt_val (pe_callB (r := rIsY K) call_isY (by rfl) T.b_isinstance (by decide +kernel) (pa_cons (pv 0) (pa_cons (pe_bltn (v := .ty "dict") (u := .type "dict") (by rfl) T.b_dict (by decide +kernel) rfl) pa_nil))))) (pw_or1 (pt_cmpR (r := rNeD K) (op_neD (u64 hr)) (pe_callTy (T := "list") (r := fun xs H Q => ∃ p ys, xs = [.ref p] ∧ (SqL K H p ys ∨ SqT K H p ys) ∧ ∀ l, H l = none → Q (.ref l) (upd H l (.lst ys))) call_list_of (by rfl) T.b_list (by decide +kernel) (pa_cons (pv 0) pa_nil)) (pe_callTy (T := "list") (r := fun xs H Q => ∃ p ys, xs = [.ref p] ∧ (SqL K H p ys ∨ SqT K H p ys) ∧ ∀ l, H l = none → Q (.ref l) (upd H l (.lst ys))) call_list_of (by rfl) T.b_list (by decide +kernel) (pa_cons (pv 1) pa_nil)) (nomark _))))) (pss_one (ps_ret pe_bl)) pss_nil)
      (pss_one (ps_ret (pe_cmpR (r := rEqD K) (op_eqD (u64 hr)) (pe_lc (own := [("key", 3)]) (by rfl) sc__law_alike.nd (pi_list (pv 1)) (blkOk_by (N := ["found", "due", "k", "key"]) (sc := defScope s__law_alike) (own := [("key", 3)]) (by decide +kernel)) (fun _ _ _ _ _ => (pg_name (i := 3) sc__law_alike.nd rfl (by first | exact Or.inl rfl | exact Or.inr rfl))) (fun _ _ _ _ _ => (pts_one (pt_not (pt_val (pe_cal c__law_alike hr rfl (pa_cons (pe_ix (r := rIxT K) ix_tup (pv 0) (pv 3) (fun _ _ => rfl)) (pa_cons (pe_ix (r := rIxT K) ix_tup (pv 1) (pv 3) (fun _ _ => rfl)) pa_nil))))))) (fun _ _ _ _ _ => (pv 3))) (pe_lst pa_nil) (nomark _))))) pss_nil)
      (pss_cons (ps_if (PW.pt (pw_or (pt_cmpR op_isN (pv 1) pe_non (nomark _)) (pw_or1 (pt_val (pe_callB (r := rIsY K) call_isY (by rfl) T.b_isinstance (by decide +kernel) (pa_cons (pv 1) (pa_cons (pe_bltn (v := .ty "str") (u := .type "str") (by rfl) T.b_str (by decide +kernel) rfl) pa_nil))))))) (pss_one (ps_ret (pe_and (pe_cmpR (r := rEqD K) (op_eqD (u64 hr)) (pv 0) (pv 1) (nomark _)) (pe_one (pe_cmpR (r := rEqD K) (op_eqD (u64 hr)) (pe_callB (r := rIsY K) call_isY (by rfl) T.b_isinstance (by decide +kernel) (pa_cons (pv 0) (pa_cons (pe_bltn (v := .ty "str") (u := .type "str") (by rfl) T.b_str (by decide +kernel) rfl) pa_nil))) (pe_callB (r := rIsY K) call_isY (by rfl) T.b_isinstance (by decide +kernel) (pa_cons (pv 1) (pa_cons (pe_bltn (v := .ty "str") (u := .type "str") (by rfl) T.b_str (by decide +kernel) rfl) pa_nil))) (nomark _)))))) pss_nil)
      (pss_one (ps_ret (pe_and (pe_callB (r := rIsY K) call_isY (by rfl) T.b_isinstance (by decide +kernel) (pa_cons (pv 0) (pa_cons (pe_bltn (v := .ty "int") (u := .type "int") (by rfl) T.b_int (by decide +kernel) rfl) pa_nil))) (pe_and (pe_cmpR (r := rEqD K) (op_eqD (u64 hr)) (pe_callB (r := rIsY K) call_isY (by rfl) T.b_isinstance (by decide +kernel) (pa_cons (pv 0) (pa_cons (pe_bltn (v := .ty "bool") (u := .type "bool") (by rfl) T.b_bool (by decide +kernel) rfl) pa_nil))) (pe_callB (r := rIsY K) call_isY (by rfl) T.b_isinstance (by decide +kernel) (pa_cons (pv 1) (pa_cons (pe_bltn (v := .ty "bool") (u := .type "bool") (by rfl) T.b_bool (by decide +kernel) rfl) pa_nil))) (nomark _)) (pe_one (pe_cmpR (r := rEqD K) (op_eqD (u64 hr)) (pv 0) (pv 1) (nomark _)))))))))), fun G => ?_⟩
      refine xs_when (S := ⟨K, fx0, G, H, E⟩) (et_B (ev_isTL (d := .bool b) (ev_var rfl))) (fun z => by cases z) fun _ => ?_
      refine xs_when (et_B (ev_isDict (d := .bool b) (ev_var rfl))) (fun z => by cases z) fun _ => ?_
      refine xs_when (et_or (et_B (ev_isN (d := .bool b) (ev_var rfl))) fun _ => et_B (ev_isStr (d := .bool b) (ev_var rfl))) (fun z => by cases z) fun _ => ?_
      exact xc_retB (ev_andV (ev_isInt (d := .bool b) (ev_var rfl)) fun _ => ev_andV (ev_eqD (ev_isBool (d := .bool b) (ev_var rfl)) (ev_isBool (d := .bool b) (ev_var rfl)) rfl rfl) fun _ => ev_eqD (ev_var rfl) (ev_var rfl) rfl rfl) (by rw [eqv_b, eqv_b]; simp [dInt, dBool])

end
end K11

/-! SailM: panels, seams and what hangs together, in plain words. -/
set_option autoImplicit false
namespace SM
abbrev Pt := Int × Int
abbrev Pn := Pt × Pt × Pt
abbrev Sd := Nat × Nat
abbrev Sm := Sd × Sd
def cross (a b c : Pt) : Int := (b.1 - a.1) * (c.2 - a.2) - (b.2 - a.2) * (c.1 - a.1)
def atC (t : Pn) : Nat → Pt
  | 0 => t.1
  | 1 => t.2.1
  | _ => t.2.2
def sq (a b : Pt) : Int := (a.1 - b.1) ^ 2 + (a.2 - b.2) ^ 2
def lng (t : Pn) (k : Nat) : Int := sq (atC t k) (atC t ((k + 1) % 3))
def near (m : Int) (p : Pt) : Prop := -m ≤ p.1 ∧ p.1 ≤ m ∧ -m ≤ p.2 ∧ p.2 ≤ m
def nearP (m : Int) (t : Pn) : Prop := near m t.1 ∧ near m t.2.1 ∧ near m t.2.2
theorem near_at {m : Int} {t : Pn} (h : nearP m t) (k : Nat) : near m (atC t k) := by
  match k with
  | 0 => exact h.1
  | 1 => exact h.2.1
  | _ + 2 => exact h.2.2
/-- both ways over each seam -/
def sewn (ss : List Sm) : List (Sd × Sd) := ss.flatMap fun s => [(s.1, s.2), (s.2, s.1)]
theorem sewn_app (ss tt : List Sm) : sewn (ss ++ tt) = sewn ss ++ sewn tt := List.flatMap_append
def beside (ss : List Sm) (p : Nat) : List Nat := (List.range 3).filterMap fun s => ((sewn ss).lookup (p, s)).map (·.1)
/-- what can be reached from panel a -/
inductive Rch (ss : List Sm) (a : Nat) : Nat → Prop
  | start : Rch ss a a
  | step {p q : Nat} : Rch ss a p → q ∈ beside ss p → Rch ss a q
def seamOk (ps : List Pn) (s : Sm) : Bool :=
  decide (s.1.1 < ps.length ∧ s.2.1 < ps.length ∧ s.1.2 < 3 ∧ s.2.2 < 3) && (decide (s.1.1 < s.2.1 ∨ (s.1.1 = s.2.1 ∧ s.1.2 < s.2.2)) && decide (lng (ps.getD s.1.1 default) s.1.2 = lng (ps.getD s.2.1 default) s.2.2))
theorem seamOk_iff {ps : List Pn} {s : Sm} : seamOk ps s = true ↔ (s.1.1 < ps.length ∧ s.2.1 < ps.length ∧ s.1.2 < 3 ∧ s.2.2 < 3) ∧ (s.1.1 < s.2.1 ∨ (s.1.1 = s.2.1 ∧ s.1.2 < s.2.2)) ∧ lng (ps.getD s.1.1 default) s.1.2 = lng (ps.getD s.2.1 default) s.2.2 := by
  unfold seamOk
  rw [Bool.and_eq_true, Bool.and_eq_true, decide_eq_true_eq, decide_eq_true_eq, decide_eq_true_eq]
theorem lookup_mem {α β : Type} [BEq α] [LawfulBEq α] {k : α} {v : β} : ∀ {l : List (α × β)}, l.lookup k = some v → (k, v) ∈ l
  | (a, b) :: l, h => by
    rw [List.lookup_cons] at h
    cases e : k == a with
    | true =>
      rw [e] at h
      simp only [Option.some.injEq] at h
      rw [eq_of_beq e, h]
      exact List.mem_cons_self
    | false =>
      rw [e] at h
      exact List.mem_cons_of_mem _ (lookup_mem h)
theorem mem_lookup {α β : Type} [BEq α] [LawfulBEq α] {k : α} {v : β} : ∀ {l : List (α × β)}, (l.map Prod.fst).Nodup → (k, v) ∈ l → l.lookup k = some v
  | (a, b) :: l, nd, h => by
    rw [List.map_cons, List.nodup_cons] at nd
    rw [List.lookup_cons]
    rcases List.mem_cons.mp h with q | q
    · cases q
      simp
    · have ne : k ≠ a := fun e => nd.1 (e ▸ List.mem_map.mpr ⟨_, q, rfl⟩)
      have : (k == a) = false := beq_eq_false_iff_ne.mpr ne
      rw [this]
      exact mem_lookup nd.2 q
theorem beside_mem {ss : List Sm} {p q : Nat} (h : q ∈ beside ss p) : ∃ s t, s < 3 ∧ ((p, s), (q, t)) ∈ sewn ss := by
  unfold beside at h
  rw [List.mem_filterMap] at h
  obtain ⟨s, hs, e⟩ := h
  cases hl : (sewn ss).lookup (p, s) with
  | none =>
    rw [hl] at e
    cases e
  | some v =>
    rw [hl] at e
    obtain ⟨v1, v2⟩ := v
    cases e
    exact ⟨s, v2, List.mem_range.mp hs, lookup_mem hl⟩
theorem mem_beside {ss : List Sm} {p q s t : Nat} (nd : ((sewn ss).map Prod.fst).Nodup) (hs : s < 3) (h : ((p, s), (q, t)) ∈ sewn ss) : q ∈ beside ss p := by
  unfold beside
  rw [List.mem_filterMap]
  exact ⟨s, List.mem_range.mpr hs, by rw [mem_lookup nd h]; rfl⟩
theorem sewn_mem {ss : List Sm} {x : Sd × Sd} : x ∈ sewn ss ↔ ∃ s ∈ ss, x = (s.1, s.2) ∨ x = (s.2, s.1) := by
  unfold sewn
  rw [List.mem_flatMap]
  simp
theorem beside_lt {ps : List Pn} {ss : List Sm} (h : ∀ s ∈ ss, seamOk ps s = true) {p q : Nat} (hq : q ∈ beside ss p) : q < ps.length := by
  obtain ⟨s, t, _, hm⟩ := beside_mem hq
  obtain ⟨e, he, h2⟩ := sewn_mem.mp hm
  obtain ⟨⟨x1, x2, _, _⟩, _⟩ := seamOk_iff.mp (h e he)
  rcases h2 with z | z
  · have : q = e.2.1 := congrArg (fun x : Sd × Sd => x.2.1) z
    rw [this]
    exact x2
  · have : q = e.1.1 := congrArg (fun x : Sd × Sd => x.2.1) z
    rw [this]
    exact x1
theorem beside_len (ss : List Sm) (p : Nat) : (beside ss p).length ≤ 3 := by
  unfold beside
  exact Nat.le_trans (List.length_filterMap_le _ _) (by simp)
/-- a sail that stands -/
structure Ok (ps : List Pn) (ss : List Sm) : Prop where
  n1 : 1 ≤ ps.length
  n2 : ps.length ≤ 12
  pn : ∀ t ∈ ps, 0 < cross t.1 t.2.1 t.2.2 ∧ nearP 100 t
  m : ss.length ≤ 18
  ok : ∀ s ∈ ss, seamOk ps s = true
  nd : ((sewn ss).map Prod.fst).Nodup
  cn : ∀ p, p < ps.length → Rch ss 0 p
/-! ### sides without a seam, and how a sail grows -/
def used (ss : List Sm) : List Sd := ss.map Prod.fst ++ ss.map Prod.snd
theorem mem_used {ss : List Sm} {x : Sd} : x ∈ used ss ↔ x ∈ (sewn ss).map Prod.fst := by
  unfold used
  rw [List.mem_append, List.mem_map, List.mem_map, List.mem_map]
  constructor
  · rintro (⟨s, hs, rfl⟩ | ⟨s, hs, rfl⟩)
    · exact ⟨(s.1, s.2), sewn_mem.mpr ⟨s, hs, .inl rfl⟩, rfl⟩
    · exact ⟨(s.2, s.1), sewn_mem.mpr ⟨s, hs, .inr rfl⟩, rfl⟩
  · rintro ⟨y, hy, rfl⟩
    obtain ⟨s, hs, h⟩ := sewn_mem.mp hy
    rcases h with rfl | rfl
    · exact .inl ⟨s, hs, rfl⟩
    · exact .inr ⟨s, hs, rfl⟩
def rowF (ss : List Sm) (p : Nat) : List Sd := ((List.range 3).filter fun s => !(used ss).contains (p, s)).map fun s => (p, s)
def freeL (n : Nat) (ss : List Sm) : List Sd := (List.range n).flatMap (rowF ss)
theorem mem_rowF {ss : List Sm} {p : Nat} {x : Sd} : x ∈ rowF ss p ↔ x.1 = p ∧ x.2 < 3 ∧ x ∉ used ss := by
  unfold rowF
  rw [List.mem_map]
  constructor
  · rintro ⟨s, hs, rfl⟩
    rw [List.mem_filter] at hs
    exact ⟨rfl, List.mem_range.mp hs.1, by simpa using hs.2⟩
  · rintro ⟨h1, h2, h3⟩
    obtain ⟨a, b⟩ := x
    simp only at h1 h2
    subst h1
    exact ⟨b, List.mem_filter.mpr ⟨List.mem_range.mpr h2, by simpa using h3⟩, rfl⟩
theorem mem_free {n : Nat} {ss : List Sm} {x : Sd} : x ∈ freeL n ss ↔ x.1 < n ∧ x.2 < 3 ∧ x ∉ used ss := by
  unfold freeL
  rw [List.mem_flatMap]
  constructor
  · rintro ⟨p, hp, h⟩
    obtain ⟨h1, h2, h3⟩ := mem_rowF.mp h
    exact ⟨by rw [h1]; exact List.mem_range.mp hp, h2, h3⟩
  · rintro ⟨h1, h2, h3⟩
    exact ⟨x.1, List.mem_range.mpr h1, mem_rowF.mpr ⟨rfl, h2, h3⟩⟩
theorem rowF_len (ss : List Sm) (p : Nat) : (rowF ss p).length ≤ 3 := by
  unfold rowF
  rw [List.length_map]
  exact Nat.le_trans (List.length_filter_le _ _) (by simp)
theorem freeL_succ (n : Nat) (ss : List Sm) : freeL (n + 1) ss = freeL n ss ++ rowF ss n := by
  unfold freeL
  rw [List.range_succ, List.flatMap_append]
  simp
theorem freeL_len (n : Nat) (ss : List Sm) : (freeL n ss).length ≤ 3 * n := by
  induction n with
  | zero => simp [freeL]
  | succ n ih =>
    rw [freeL_succ, List.length_append]
    have := rowF_len ss n
    omega
theorem rch_mono {ss tt : List Sm} (nd : ((sewn (ss ++ tt)).map Prod.fst).Nodup) {a p : Nat} (h : Rch ss a p) : Rch (ss ++ tt) a p := by
  induction h with
  | start => exact .start
  | step _ hq ih =>
    obtain ⟨s, t, hs, hm⟩ := beside_mem hq
    exact .step ih (mem_beside nd hs (by rw [sewn_app]; exact List.mem_append_left _ hm))
theorem nd_snoc {ss : List Sm} {x y : Sd} (nd : ((sewn ss).map Prod.fst).Nodup) (hx : x ∉ used ss) (hy : y ∉ used ss) (ne : x ≠ y) : ((sewn (ss ++ [(x, y)])).map Prod.fst).Nodup := by
  rw [sewn_app, List.map_append, List.nodup_append]
  refine ⟨nd, ?_, fun a ha b hb e => ?_⟩
  · show [x, y].Nodup
    simp [ne]
  · subst e
    have hb : a ∈ [x, y] := hb
    simp only [List.mem_cons, List.not_mem_nil, or_false] at hb
    rcases hb with rfl | rfl
    · exact hx (mem_used.mpr ha)
    · exact hy (mem_used.mpr ha)
theorem ok_one {t : Pn} (h : 0 < cross t.1 t.2.1 t.2.2) (hn : nearP 100 t) : Ok [t] [] := by
  refine ⟨by simp, by simp, fun x hx => ?_, by simp, fun s hs => (by cases hs), by simp [sewn], fun p hp => ?_⟩
  · rw [List.mem_singleton.mp hx]
    exact ⟨h, hn⟩
  · have : p = 0 := by simp at hp; exact hp
    rw [this]
    exact .start
theorem getD_left {ps : List Pn} {t : Pn} {i : Nat} (h : i < ps.length) : (ps ++ [t]).getD i default = ps.getD i default := by
  simp [List.getD, List.getElem?_append_left h]
theorem getD_last {ps : List Pn} {t : Pn} : (ps ++ [t]).getD ps.length default = t := by
  simp [List.getD]
theorem seamOk_left {ps : List Pn} {t : Pn} {s : Sm} (h : seamOk ps s = true) : seamOk (ps ++ [t]) s = true := by
  obtain ⟨⟨h1, h2, h3, h4⟩, h5, h6⟩ := seamOk_iff.mp h
  rw [seamOk_iff]
  refine ⟨⟨by simp; omega, by simp; omega, h3, h4⟩, h5, ?_⟩
  rw [getD_left h1, getD_left h2]
  exact h6
theorem ok_grow {ps : List Pn} {ss : List Sm} {t : Pn} {x : Sd} {k : Nat} (h : Ok ps ss) (ht : 0 < cross t.1 t.2.1 t.2.2) (hn : nearP 100 t) (hx : x ∈ freeL ps.length ss) (hk : k < 3) (hl : lng t k = lng (ps.getD x.1 default) x.2) (h12 : ps.length < 12) (h18 : ss.length < 18) :
    Ok (ps ++ [t]) (ss ++ [(x, (ps.length, k))]) := by
  obtain ⟨x1, x2, x3⟩ := mem_free.mp hx
  have hy : ((ps.length, k) : Sd) ∉ used ss := fun z => by
    obtain ⟨s, hs, e⟩ := List.mem_map.mp (mem_used.mp z)
    obtain ⟨u, hu, e2⟩ := sewn_mem.mp hs
    obtain ⟨⟨q1, q2, _, _⟩, _⟩ := seamOk_iff.mp (h.ok u hu)
    rcases e2 with rfl | rfl
    · have : u.1.1 = ps.length := congrArg Prod.fst e
      omega
    · have : u.2.1 = ps.length := congrArg Prod.fst e
      omega
  have ne : x ≠ (ps.length, k) := fun e => by
    rw [e] at x1
    exact Nat.lt_irrefl _ x1
  have nd := nd_snoc h.nd x3 hy ne
  refine ⟨by simp, by simp; omega, fun u hu => ?_, by simp; omega, fun s hs => ?_, nd, fun p hp => ?_⟩
  · rcases List.mem_append.mp hu with q | q
    · exact h.pn u q
    · rw [List.mem_singleton.mp q]
      exact ⟨ht, hn⟩
  · rcases List.mem_append.mp hs with q | q
    · exact seamOk_left (h.ok s q)
    · rw [List.mem_singleton.mp q, seamOk_iff]
      refine ⟨⟨by simp; omega, by simp, x2, hk⟩, .inl x1, ?_⟩
      show lng ((ps ++ [t]).getD x.1 default) x.2 = lng ((ps ++ [t]).getD ps.length default) k
      rw [getD_left x1, getD_last]
      exact hl.symm
  · by_cases q : p < ps.length
    · exact rch_mono nd (h.cn p q)
    · have e : p = ps.length := by simp at hp; omega
      rw [e]
      refine .step (rch_mono nd (h.cn x.1 x1)) (mem_beside (s := x.2) (t := k) nd x2 ?_)
      rw [sewn_app]
      exact List.mem_append_right _ (by simp [sewn])
theorem ok_close {ps : List Pn} {ss : List Sm} {x y : Sd} (h : Ok ps ss) (hx : x ∈ freeL ps.length ss) (hy : y ∈ freeL ps.length ss) (lt : x.1 < y.1 ∨ (x.1 = y.1 ∧ x.2 < y.2)) (hl : lng (ps.getD x.1 default) x.2 = lng (ps.getD y.1 default) y.2) (h18 : ss.length < 18) :
    Ok ps (ss ++ [(x, y)]) := by
  obtain ⟨x1, x2, x3⟩ := mem_free.mp hx
  obtain ⟨y1, y2, y3⟩ := mem_free.mp hy
  have ne : x ≠ y := fun e => by
    rw [e] at lt
    omega
  have nd := nd_snoc h.nd x3 y3 ne
  refine ⟨h.n1, h.n2, h.pn, by simp; omega, fun s hs => ?_, nd, fun p hp => rch_mono nd (h.cn p hp)⟩
  rcases List.mem_append.mp hs with q | q
  · exact h.ok s q
  · rw [List.mem_singleton.mp q, seamOk_iff]
    exact ⟨⟨x1, y1, x2, y2⟩, lt, hl⟩
end SM

set_option Elab.async false
set_option linter.all false
set_option maxRecDepth 100000
set_option maxHeartbeats 4000000
/-! SailD: panels and seams as data. -/
namespace SD
open PySem PySem.Spec PyProof.Rows L2 Dl LamX RZ SM
def dPt (p : Pt) : D := .tuple [.int p.1, .int p.2]
def dPn (t : Pn) : D := .tuple [dPt t.1, dPt t.2.1, dPt t.2.2]
def dSd (s : Sd) : D := .tuple [.int (s.1 : Nat), .int (s.2 : Nat)]
def dSm (s : Sm) : D := .tuple [.int (s.1.1 : Nat), .int (s.1.2 : Nat), .int (s.2.1 : Nat), .int (s.2.2 : Nat)]
def dSw (l : List (Sd × Sd)) : List (D × D) := l.map fun p => (dSd p.1, dSd p.2)
def dNs (l : List Nat) : List D := l.map fun (x : Nat) => PyData.int (x : Int)
def isWi (lo hi : Int) : D → Bool
  | .int i => decide (lo ≤ i) && decide (i ≤ hi)
  | _ => false
def isPt : D → Bool
  | .tuple [a, b] => isWi (-100) 100 a && isWi (-100) 100 b
  | _ => false
def toI : D → Int
  | .int i => i
  | _ => 0
def ptOf : D → Pt
  | .tuple [a, b] => (toI a, toI b)
  | _ => (0, 0)
theorem isWi_int {lo hi : Int} {d : D} (h : isWi lo hi d = true) : ∃ i, d = .int i ∧ lo ≤ i ∧ i ≤ hi := by
  cases d <;> simp [isWi] at h
  exact ⟨_, rfl, h.1, h.2⟩
theorem isWi_of {lo hi i : Int} (h1 : lo ≤ i) (h2 : i ≤ hi) : isWi lo hi (.int i) = true := by
  simp [isWi, h1, h2]
theorem isPt_get {d : D} (h : isPt d = true) : d = dPt (ptOf d) ∧ near 100 (ptOf d) := by
  unfold isPt at h
  split at h
  · rw [Bool.and_eq_true] at h
    obtain ⟨i, rfl, h1, h2⟩ := isWi_int h.1
    obtain ⟨j, rfl, h3, h4⟩ := isWi_int h.2
    exact ⟨rfl, h1, h2, h3, h4⟩
  · cases h
theorem isPt_of {p : Pt} (h : near 100 p) : isPt (dPt p) = true := by
  unfold isPt dPt
  simp only
  rw [isWi_of h.1 h.2.1, isWi_of h.2.2.1 h.2.2.2]
  rfl
theorem ptOf_d (p : Pt) : ptOf (dPt p) = p := rfl
def isPn : D → Bool
  | .tuple [a, b, c] => isPt a && (isPt b && isPt c) && decide (0 < cross (ptOf a) (ptOf b) (ptOf c))
  | _ => false
def pnOf : D → Pn
  | .tuple [a, b, c] => (ptOf a, ptOf b, ptOf c)
  | _ => default
theorem pnOf_d (t : Pn) : pnOf (dPn t) = t := rfl
theorem isPn_get {d : D} (h : isPn d = true) : d = dPn (pnOf d) ∧ nearP 100 (pnOf d) ∧ 0 < cross (pnOf d).1 (pnOf d).2.1 (pnOf d).2.2 := by
  unfold isPn at h
  split at h
  · rename_i a b c
    simp only [Bool.and_eq_true, decide_eq_true_eq] at h
    obtain ⟨⟨h1, h2, h3⟩, h4⟩ := h
    obtain ⟨e1, n1⟩ := isPt_get h1
    obtain ⟨e2, n2⟩ := isPt_get h2
    obtain ⟨e3, n3⟩ := isPt_get h3
    refine ⟨?_, ⟨n1, n2, n3⟩, h4⟩
    show PyData.tuple [a, b, c] = .tuple [dPt (ptOf a), dPt (ptOf b), dPt (ptOf c)]
    rw [← e1, ← e2, ← e3]
  · cases h
theorem isPn_of {t : Pn} (h : nearP 100 t) (h2 : 0 < cross t.1 t.2.1 t.2.2) : isPn (dPn t) = true := by
  unfold isPn dPn
  simp only
  rw [isPt_of h.1, isPt_of h.2.1, isPt_of h.2.2]
  simp only [Bool.true_and]
  exact decide_eq_true h2
theorem map_pn {ds : List D} (h : ∀ d ∈ ds, isPn d = true) : ds = (ds.map pnOf).map dPn := by
  rw [List.map_map]
  refine ((List.map_congr_left fun d hd => ?_).trans (List.map_id ds)).symm
  exact (isPn_get (h d hd)).1.symm
/-- a seam told -/
def smOf : D → Sm
  | .tuple [a, b, c, d] => (((toI a).toNat, (toI b).toNat), ((toI c).toNat, (toI d).toNat))
  | _ => default
def isSm (ps : List Pn) : D → Bool
  | .tuple [a, b, c, d] => (isWi 0 ((ps.length : Int) - 1) a && isWi 0 ((ps.length : Int) - 1) c) && ((isWi 0 2 b && isWi 0 2 d) && seamOk ps (smOf (.tuple [a, b, c, d])))
  | _ => false
theorem smOf_d (s : Sm) : smOf (dSm s) = s := rfl
theorem isSm_get {ps : List Pn} {d : D} (h : isSm ps d = true) : d = dSm (smOf d) ∧ seamOk ps (smOf d) = true := by
  unfold isSm at h
  split at h
  · simp only [Bool.and_eq_true] at h
    obtain ⟨⟨h1, h2⟩, ⟨h3, h4⟩, h5⟩ := h
    obtain ⟨i, rfl, i1, i2⟩ := isWi_int h1
    obtain ⟨j, rfl, j1, j2⟩ := isWi_int h2
    obtain ⟨k, rfl, k1, k2⟩ := isWi_int h3
    obtain ⟨l, rfl, l1, l2⟩ := isWi_int h4
    refine ⟨?_, h5⟩
    show PyData.tuple [.int i, .int k, .int j, .int l] = .tuple [.int ((toI (.int i)).toNat : Nat), .int ((toI (.int k)).toNat : Nat), .int ((toI (.int j)).toNat : Nat), .int ((toI (.int l)).toNat : Nat)]
    unfold toI
    rw [Int.toNat_of_nonneg i1, Int.toNat_of_nonneg j1, Int.toNat_of_nonneg k1, Int.toNat_of_nonneg l1]
  · cases h
theorem isSm_of {ps : List Pn} {s : Sm} (h : seamOk ps s = true) : isSm ps (dSm s) = true := by
  have h0 := h
  obtain ⟨⟨h1, h2, h3, h4⟩, _⟩ := seamOk_iff.mp h
  show ((isWi 0 ((ps.length : Int) - 1) (.int (s.1.1 : Nat)) && isWi 0 ((ps.length : Int) - 1) (.int (s.2.1 : Nat))) && ((isWi 0 2 (.int (s.1.2 : Nat)) && isWi 0 2 (.int (s.2.2 : Nat))) && seamOk ps (smOf (dSm s)))) = true
  rw [isWi_of (by omega) (by omega), isWi_of (by omega) (by omega), isWi_of (by omega) (by omega), isWi_of (by omega) (by omega), smOf_d, h0]
  rfl
/-! the dict of sides -/
theorem nk_sd {a b : Sd} (h : nk (dSd a) = nk (dSd b)) : a = b := by
  simp only [dSd, nk, nkAll, NestedKey.tup.injEq, List.cons.injEq, NestedKey.num.injEq] at h
  obtain ⟨h1, h2, _⟩ := h
  exact Prod.ext (by omega) (by omega)
theorem key_sd (k : Sd) : KeyD false (dSd k) := by
  show okT (dSd k) = true
  obtain ⟨a, b⟩ := k
  rfl
theorem gD_sw (l : List (Sd × Sd)) (k : Sd) : gD (dSw l) (dSd k) = (l.lookup k).map dSd := by
  induction l with
  | nil => rfl
  | cons p l ih =>
    show gD ((dSd p.1, dSd p.2) :: dSw l) (dSd k) = _
    rw [show p = (p.1, p.2) from rfl, List.lookup_cons]
    by_cases e : k = p.1
    · subst e
      rw [gD_pos rfl]
      simp
    · rw [gD_neg (fun z => e (nk_sd z).symm), ih]
      have : (k == p.1) = false := beq_eq_false_iff_ne.mpr e
      rw [this]
theorem pD_sw {l : List (Sd × Sd)} {k v : Sd} (h : l.lookup k = none) : pD (dSw l) (dSd k) (dSd v) = dSw (l ++ [(k, v)]) := by
  unfold pD
  rw [gD_sw, h, if_neg (by simp)]
  unfold dSw
  rw [List.map_append]
  rfl
theorem lookup_none {α β : Type} [BEq α] [LawfulBEq α] {k : α} : ∀ {l : List (α × β)}, l.lookup k = none ↔ k ∉ l.map Prod.fst
  | [] => by simp
  | (a, b) :: l => by
    rw [List.lookup_cons, List.map_cons, List.mem_cons]
    cases e : k == a with
    | true => simp [eq_of_beq e]
    | false =>
      have := beq_eq_false_iff_ne.mp e
      simp [this, lookup_none (l := l)]
/-- the first seam that cannot stand -/
def fbS (ps : List Pn) : Nat → List (Sd × Sd) → List D → Option Nat
  | _, _, [] => none
  | k, sw, d :: ds => if isSm ps d && ((sw.lookup (smOf d).1).isNone && (sw.lookup (smOf d).2).isNone) then fbS ps (k + 1) (sw ++ [((smOf d).1, (smOf d).2), ((smOf d).2, (smOf d).1)]) ds else some k
/-- the fields of a sail -/
def sailFs (ps : List Pn) (ss : List Sm) : Fs := [("sewn", .k false (dSw (sewn ss))), ("panels", .d (.tuple (ps.map dPn))), ("seams", .d (.tuple (ss.map dSm)))]
/-- what the class makes of what it is handed -/
def initP (C1 C2 : Addr) (d1 d2 : D) (r : ReN) : Prop :=
  match rows d1 with
  | none => r = .ex C1 (.int (-1))
  | some (_, e1) => if 1 ≤ e1.length ∧ e1.length ≤ 12 then
      match fbG isPn 0 e1 with
      | some k => r = .ex C1 (.int (k : Nat))
      | none => match rows d2 with
        | none => r = .ex C2 (.int (-1))
        | some (_, e2) => if e2.length ≤ 18 then
            match fbS (e1.map pnOf) 0 [] e2 with
            | some k => r = .ex C2 (.int (k : Nat))
            | none => ((∀ p, p < e1.length → Rch (e2.map smOf) 0 p) ∧ r = .ok (sailFs (e1.map pnOf) (e2.map smOf)) []) ∨ ((¬ ∀ p, p < e1.length → Rch (e2.map smOf) 0 p) ∧ r = .ex C2 (.int (-1)))
          else r = .ex C2 (.int (-1))
    else r = .ex C1 (.int (-1))
theorem fbS_none {ps : List Pn} : ∀ {ds : List D} {k : Nat} {sw : List (Sd × Sd)}, fbS ps k sw ds = none → (sw.map Prod.fst).Nodup →
    (∀ d ∈ ds, isSm ps d = true) ∧ ((sw ++ sewn (ds.map smOf)).map Prod.fst).Nodup
  | [], k, sw, _, nd => ⟨fun d h => (by cases h), by simpa [sewn] using nd⟩
  | d :: ds, k, sw, h, nd => by
    unfold fbS at h
    split at h
    · rename_i hc
      simp only [Bool.and_eq_true, Option.isNone_iff_eq_none] at hc
      obtain ⟨h1, h2, h3⟩ := hc
      obtain ⟨_, hs⟩ := isSm_get h1
      obtain ⟨_, hlt, _⟩ := seamOk_iff.mp hs
      have ne : (smOf d).1 ≠ (smOf d).2 := fun e => by
        rw [e] at hlt
        omega
      have nd2 : ((sw ++ [((smOf d).1, (smOf d).2), ((smOf d).2, (smOf d).1)]).map Prod.fst).Nodup := by
        rw [List.map_append, List.nodup_append]
        refine ⟨nd, by simp [ne], fun a ha b hb e => ?_⟩
        subst e
        simp only [List.map_cons, List.map_nil, List.mem_cons, List.not_mem_nil, or_false] at hb
        rcases hb with rfl | rfl
        · exact lookup_none.mp h2 ha
        · exact lookup_none.mp h3 ha
      obtain ⟨q1, q2⟩ := fbS_none h nd2
      refine ⟨fun x hx => ?_, ?_⟩
      · rcases List.mem_cons.mp hx with rfl | hx
        · exact h1
        · exact q1 x hx
      · have e : sw ++ sewn ((d :: ds).map smOf) = sw ++ [((smOf d).1, (smOf d).2), ((smOf d).2, (smOf d).1)] ++ sewn (ds.map smOf) := by
          rw [List.map_cons, List.append_assoc]
          rfl
        rw [e]
        exact q2
    · cases h
theorem fbS_of {ps : List Pn} : ∀ {ss : List Sm} {k : Nat} {sw : List (Sd × Sd)}, (∀ s ∈ ss, seamOk ps s = true) → ((sw ++ sewn ss).map Prod.fst).Nodup → fbS ps k sw (ss.map dSm) = none
  | [], _, _, _, _ => rfl
  | s :: ss, k, sw, h, nd => by
    rw [List.map_cons]
    unfold fbS
    have e : sw ++ sewn (s :: ss) = sw ++ [(s.1, s.2), (s.2, s.1)] ++ sewn ss := by
      rw [List.append_assoc]
      rfl
    rw [e] at nd
    have nd1 := nd
    rw [List.map_append, List.nodup_append] at nd
    obtain ⟨n1, _, _⟩ := nd
    rw [List.map_append, List.nodup_append] at n1
    obtain ⟨_, _, n3⟩ := n1
    have l1 : sw.lookup s.1 = none := lookup_none.mpr fun z => n3 _ z s.1 (by simp) rfl
    have l2 : sw.lookup s.2 = none := lookup_none.mpr fun z => n3 _ z s.2 (by simp) rfl
    rw [isSm_of (h s List.mem_cons_self), smOf_d, l1, l2]
    exact fbS_of (fun x hx => h x (List.mem_cons_of_mem _ hx)) nd1
/-- a sail that stands is made -/
theorem init_ok {C1 C2 : Addr} {ps : List Pn} {ss : List Sm} (b c : Bool) (h : Ok ps ss) (r : ReN) (q : initP C1 C2 (seqD b (ps.map dPn)) (seqD c (ss.map dSm)) r) : r = .ok (sailFs ps ss) [] := by
  unfold initP at q
  rw [rows_of] at q
  simp only at q
  rw [if_pos (by rw [List.length_map]; exact ⟨h.n1, h.n2⟩), fbG_none _ _ (fun x hx => by
    obtain ⟨t, ht, rfl⟩ := List.mem_map.mp hx
    exact isPn_of (h.pn t ht).2 (h.pn t ht).1)] at q
  simp only at q
  have e1 : (ps.map dPn).map pnOf = ps := by
    rw [List.map_map]
    exact (List.map_congr_left fun x _ => pnOf_d x).trans (List.map_id ps)
  have e2 : (ss.map dSm).map smOf = ss := by
    rw [List.map_map]
    exact (List.map_congr_left fun x _ => smOf_d x).trans (List.map_id ss)
  rw [rows_of, e1] at q
  simp only at q
  rw [e2, if_pos (by rw [List.length_map]; exact h.m), fbS_of h.ok (by simpa using h.nd)] at q
  simp only at q
  rcases q with ⟨_, q⟩ | ⟨q, _⟩
  · exact q
  · exact absurd (fun p hp => h.cn p (by rw [List.length_map] at hp; exact hp)) q
/-! kinds -/
abbrev kSd : Sc := .t [.z, .z]
abbrev kPn : Sc := .t [kSd, kSd, kSd]
abbrev kSm : Sc := .t [.z, .z, .z, .z]
theorem sc_sd (x : Sd) : okS (dSd x) kSd = true := rfl
theorem sc_pt (x : Pt) : okS (dPt x) kSd = true := rfl
theorem sc_pn (x : Pn) : okS (dPn x) kPn = true := rfl
theorem sc_sm (x : Sm) : okS (dSm x) kSm = true := rfl
theorem dSd_inj {a b : Sd} : dSd a = dSd b ↔ a = b := by
  obtain ⟨a1, a2⟩ := a
  obtain ⟨b1, b2⟩ := b
  simp only [dSd, PyData.tuple.injEq, List.cons.injEq, PyData.int.injEq, and_true, Prod.mk.injEq]
  omega
theorem dPt_inj {a b : Pt} : dPt a = dPt b ↔ a = b := by
  obtain ⟨a1, a2⟩ := a
  obtain ⟨b1, b2⟩ := b
  simp only [dPt, PyData.tuple.injEq, List.cons.injEq, PyData.int.injEq, and_true, Prod.mk.injEq]
theorem dSm_inj {a b : Sm} : dSm a = dSm b ↔ a = b := by
  obtain ⟨⟨a1, a2⟩, a3, a4⟩ := a
  obtain ⟨⟨b1, b2⟩, b3, b4⟩ := b
  simp only [dSm, PyData.tuple.injEq, List.cons.injEq, PyData.int.injEq, and_true, Prod.mk.injEq]
  omega
theorem dPn_inj {a b : Pn} : dPn a = dPn b ↔ a = b := by
  obtain ⟨a1, a2, a3⟩ := a
  obtain ⟨b1, b2, b3⟩ := b
  simp only [dPn, PyData.tuple.injEq, List.cons.injEq, dPt_inj, and_true, Prod.mk.injEq]
/-! ints from 0 on -/
theorem sc_nats (l : List Nat) : ∀ d ∈ dNs l, okS d .z = true := fun d hd => by
  obtain ⟨x, _, rfl⟩ := List.mem_map.mp hd
  rfl
theorem dNs_inj {a b : List Nat} : dNs a = dNs b ↔ a = b := by
  constructor
  · intro h
    have : (dNs a).map (fun d => (toI d).toNat) = (dNs b).map fun d => (toI d).toNat := by rw [h]
    unfold dNs at this
    rw [List.map_map, List.map_map] at this
    have e : ∀ l : List Nat, l.map ((fun d => (toI d).toNat) ∘ fun (x : Nat) => PyData.int (x : Int)) = l := fun l => (List.map_congr_left fun x _ => (by show (toI (.int (x : Int))).toNat = x; simp [toI])).trans (List.map_id l)
    rwa [e, e] at this
  · exact fun h => by rw [h]
theorem dNs_perm {a b : List Nat} : (dNs a).Perm (dNs b) ↔ a.Perm b := by
  constructor
  · intro h
    have := h.map fun d => (toI d).toNat
    unfold dNs at this
    rw [List.map_map, List.map_map] at this
    have e : ∀ l : List Nat, l.map ((fun d => (toI d).toNat) ∘ fun (x : Nat) => PyData.int (x : Int)) = l := fun l => (List.map_congr_left fun x _ => (by show (toI (.int (x : Int))).toNat = x; simp [toI])).trans (List.map_id l)
    rwa [e, e] at this
  · exact fun h => h.map _
theorem srtN (o : List Nat) : srtD (dNs o) = dNs (o.mergeSort fun a b => decide (a ≤ b)) := srtD_map fun a _ b _ => by
  rw [dle_int]
  apply decide_eq_decide.mpr
  omega
theorem srtN_perm {o : List Nat} {m : Nat} : srtD (dNs o) = dNs (List.range m) ↔ o.Perm (List.range m) := by
  rw [srtN, dNs_inj]
  constructor
  · intro h
    exact (List.mergeSort_perm o _).symm.trans (by rw [h])
  · intro h
    refine List.Perm.eq_of_pairwise (le := fun a b => a ≤ b) (fun a b _ _ h1 h2 => Nat.le_antisymm h1 h2) ?_ (List.pairwise_lt_range.imp fun h => Nat.le_of_lt h) ((List.mergeSort_perm o _).trans h)
    have := List.pairwise_mergeSort (le := fun a b : Nat => decide (a ≤ b)) (fun a b c h1 h2 => by simp at *; omega) (fun a b => by simp; omega) o
    exact this.imp fun h => by simpa using h
theorem rng_dNs (n : Nat) : rngD 0 n = dNs (List.range n) := by
  unfold rngD dNs
  exact List.map_congr_left fun x _ => by rw [Int.zero_add]
theorem at_dNs {l : List Nat} {i : Nat} (h : i < l.length) : atI (dNs l) (i : Int) = some (.int (l.getD i 0 : Nat)) := at_nat (by
  unfold dNs
  rw [List.getElem?_map, List.getElem?_eq_getElem h]
  simp [List.getD, h])
theorem dNs_len (l : List Nat) : (dNs l).length = l.length := by
  unfold dNs
  rw [List.length_map]
theorem inD_nat (x : Nat) (l : List Nat) : inD (.int (x : Int)) (dNs l) = l.contains x := by
  have : dNs l = (l.map fun (x : Nat) => (x : Int)).map PyData.int := by
    unfold dNs
    rw [List.map_map]
    rfl
  rw [this, inD_ints, Bool.eq_iff_iff, List.contains_iff_mem, List.contains_iff_mem, List.mem_map]
  constructor
  · rintro ⟨y, hy, e⟩
    have : y = x := by omega
    exact this ▸ hy
  · exact fun h => ⟨x, h, rfl⟩
theorem lay_nats (l : List Nat) : PyData.canLayAll0 (dNs l) = true := okL_lay (okL_iff.mpr (sc_nats l))
def dT (l : List Nat) : D := .tuple (dNs l)
theorem dNs_app (a b : List Nat) : dNs (a ++ b) = dNs a ++ dNs b := List.map_append
theorem dNs_get {l : List Nat} {k : Nat} {d : D} (h : (dNs l)[k]? = some d) : ∃ x : Nat, l[k]? = some x ∧ d = .int (x : Nat) := by
  unfold dNs at h
  rw [List.getElem?_map] at h
  obtain ⟨x, hx, rfl⟩ := Option.map_eq_some_iff.mp h
  exact ⟨x, hx, rfl⟩
theorem map_get {α : Type} {f : α → D} {l : List α} {k : Nat} {d : D} (h : (l.map f)[k]? = some d) : ∃ x, l[k]? = some x ∧ d = f x := by
  rw [List.getElem?_map] at h
  obtain ⟨x, hx, rfl⟩ := Option.map_eq_some_iff.mp h
  exact ⟨x, hx, rfl⟩
theorem take_get {α : Type} {l : List α} {k : Nat} {x : α} (h : l[k]? = some x) : l.take (k + 1) = l.take k ++ [x] := by
  rw [List.take_add_one, h]
  rfl
theorem im_rngN {S : Cf} {ρ : Rho} {te : TE} {n : Nat} (h : Ev S te ρ (Eq (.dat (.int (n : Nat))))) (hn : n ≤ 1000000) : Itm S (iRng1 (tCons te tNil)) ρ (Eq (dNs (List.range n))) := by
  have := im_rng1E h (by omega)
  rwa [rng_dNs] at this
end SD
namespace SD
open PySem PySem.Spec PyProof.Rows L2 Dl LamX RZ SM
theorem lt_dT (a b : List Nat) : PySem.W.dataLt (dT a) (dT b) = decide (a < b) := by
  have e : ∀ l : List Nat, dNs l = (l.map fun (x : Nat) => (x : Int)).map PyData.int := fun l => by
    unfold dNs
    rw [List.map_map]
    rfl
  unfold dT
  rw [PySem.W.dataLt_tuple, e, e]
  show PySem.W.rowLt _ _ = _
  rw [PySem.W.dataLt_ints]
  exact decide_eq_decide.mpr (lt_nats a b)
theorem srt_dT (l : List (List Nat)) : srtD (l.map dT) = (l.mergeSort fun a b => !decide (b < a)).map dT := srtD_map fun a _ b _ => by rw [lt_dT]
theorem dT_inj {a b : List Nat} : dT a = dT b ↔ a = b := by
  unfold dT
  rw [PyData.tuple.injEq, dNs_inj]
theorem dle_bool (a b : Bool) : (!PySem.W.dataLt (.bool b) (.bool a)) = (!a || b) := by
  rw [PySem.W.dataLt_bool]
  cases a <;> cases b <;> decide
def dBs (l : List Bool) : List D := l.map PyData.bool
theorem dBs_inj {a b : List Bool} : dBs a = dBs b ↔ a = b := by
  unfold dBs
  constructor
  · intro h
    exact (List.map_inj_right (by intro x y e; cases e; rfl)).mp h
  · exact fun h => by rw [h]
theorem sc_bools (l : List Bool) : ∀ d ∈ dBs l, okS d .b = true := fun d hd => by
  obtain ⟨x, _, rfl⟩ := List.mem_map.mp hd
  rfl
theorem dBs_len (l : List Bool) : (dBs l).length = l.length := by
  unfold dBs
  rw [List.length_map]
end SD

set_option Elab.async false
set_option linter.all false
set_option maxRecDepth 100000
set_option maxHeartbeats 4000000
namespace K11
open PySem PySem.Spec PyProof.Rows L2 Dl LamX StX RZ SM SD
section
variable {P : Program} {w : World} {K : PySem.W.Frag} {mg : Str → Option Value} {base : Heap} {C1 C2 fI CS : Addr} (T : Tx P w K mg base C1 C2 fI CS)
include T
omit T in
theorem isWithin_eq (lo hi : Int) (d : D) : isWithin lo hi d = isWi lo hi d := by cases d <;> rfl
theorem c_is_point : Cal P w K mg base 3 "is_point" ["thing"] (spI K fx0 (fun d : D => [.dat d]) (fun _ => True) (fun d => Eq (.ok (.dat (.bool (isPt d)))))) := by
  have c_is_tuple_of := c_is_tuple_of T
  have c_is_within := c_is_within T
  obtain ⟨_, k1⟩ := T.k_MOST_PLACE
  refine mk_cal T.d_is_point sc_is_point (fun _ => rfl) (fun _ _ _ _ _ _ us hl => match us, hl with | [_], _ => rfl) (fun f cdv A outer s H E hr d _ => ⟨_, (pss_one (ps_ret (pe_and (pe_cal c_is_tuple_of (hr.mono (by first | decide | omega)) rfl (pa_cons (pv 0) (pa_cons pe_int pa_nil))) (pe_one (pe_callB (r := rAll K) (cr_all rfl) (by rfl) T.b_all (by decide +kernel) (pa_cons (pe_lc (own := [("one", 1)]) (by rfl) sc_is_point.nd (pi_tup (pv 0)) (blkOk_by (N := ["thing", "one"]) (sc := defScope s_is_point) (own := [("one", 1)]) (by decide +kernel)) (fun _ _ _ _ _ => (pg_name (i := 1) sc_is_point.nd rfl (by first | exact Or.inl rfl | exact Or.inr rfl))) (fun _ _ _ _ _ => pts_nil) (fun _ _ _ _ _ => (pe_cal c_is_within (hr.mono (by first | decide | omega)) rfl (pa_cons (pv 1) (pa_cons (pe_un un_neg (pe_gint rfl T.k_MOST_PLACE)) (pa_cons (pe_gint rfl T.k_MOST_PLACE) pa_nil)))))) pa_nil)))))), fun G => ?_⟩)
  by_cases h2 : isTupOf 2 d = true
  · obtain ⟨a, b, rfl⟩ : ∃ a b, d = .tuple [a, b] := by
      cases d <;> simp [isTupOf] at h2
      rename_i ds
      match ds, h2 with
      | [a, b], _ => exact ⟨a, b, rfl⟩
    refine xc_retB (ev_andV (b := isWi (-100) 100 a && isWi (-100) 100 b) (ev_callE (PyData.tuple [a, b], (2 : Int)) (ea_cons (ev_var rfl) (ea_cons ev_int ea_nil)) True.intro) fun _ => (ev_allL (l := [a, b]) (dα := id) (p := isWi (-100) 100) (im_tupE (ds := [a, b]) (ev_var rfl)) (by simp) fun x _ => ⟨[1], _, by simp, tg_name, (ev_callE (x, (-100 : Int), (100 : Int)) (ea_cons (ev_var rfl) (ea_cons (ev_neg ev_int) (ea_cons ev_int ea_nil))) True.intro).cast (by rw [isWithin_eq])⟩).cast (by simp)) ?_
    rfl
  · have e : isPt d = false := by
      rw [Bool.eq_false_iff]
      intro z
      obtain ⟨e, _⟩ := isPt_get z
      rw [e] at h2
      exact h2 rfl
    exact xc_retB (ev_andV (b := false) ((ev_callE (d, (2 : Int)) (ea_cons (ev_var rfl) (ea_cons ev_int ea_nil)) True.intro).cast (by rw [Bool.eq_false_iff.mpr h2])) fun z => by cases z) (by rw [e]; rfl)
theorem c_crossed : Cal P w K mg base 1 "crossed" ["one", "middle", "other"] (spI K fx0 (fun i : Pn => [.dat (dPt i.1), .dat (dPt i.2.1), .dat (dPt i.2.2)]) (fun i => nearP 100000 i) (fun i => Eq (.ok (.dat (.int (cross i.1 i.2.1 i.2.2)))))) := by
  refine mk_cal T.d_crossed sc_crossed (fun _ => rfl) (fun _ _ _ _ _ _ us hl => match us, hl with | [_, _, _], _ => rfl) (fun f cdv A outer s H E hr i hp => ⟨_, (pss_one (ps_ret (pe_op op_sub (pe_op op_mul (pe_op op_sub (pe_ix (r := rIxT K) ix_tup (pv 1) pe_int (fun _ _ => rfl)) (pe_ix (r := rIxT K) ix_tup (pv 0) pe_int (fun _ _ => rfl))) (pe_op op_sub (pe_ix (r := rIxT K) ix_tup (pv 2) pe_int (fun _ _ => rfl)) (pe_ix (r := rIxT K) ix_tup (pv 0) pe_int (fun _ _ => rfl)))) (pe_op op_mul (pe_op op_sub (pe_ix (r := rIxT K) ix_tup (pv 1) pe_int (fun _ _ => rfl)) (pe_ix (r := rIxT K) ix_tup (pv 0) pe_int (fun _ _ => rfl))) (pe_op op_sub (pe_ix (r := rIxT K) ix_tup (pv 2) pe_int (fun _ _ => rfl)) (pe_ix (r := rIxT K) ix_tup (pv 0) pe_int (fun _ _ => rfl))))))), fun G => ?_⟩)
  obtain ⟨⟨a1, a2⟩, ⟨b1, b2⟩, ⟨c1, c2⟩⟩ := i
  obtain ⟨⟨x1, x2, x3, x4⟩, ⟨y1, y2, y3, y4⟩, ⟨z1, z2, z3, z4⟩⟩ := hp
  simp only at x1 x2 x3 x4 y1 y2 y3 y4 z1 z2 z3 z4
  have g : ∀ {i : Nat} {p : Pt} {ρ : Rho}, ρ[i]? = some (.dat (dPt p)) → Ev ⟨K, fx0, G, H, E⟩ (tOp (rIxT K) (tVar i) (tC (.int 0))) ρ (Eq (.dat (.int p.1))) ∧ Ev ⟨K, fx0, G, H, E⟩ (tOp (rIxT K) (tVar i) (tC (.int 1))) ρ (Eq (.dat (.int p.2))) := fun h => ⟨ev_ixU (ev_var h) ev_int rfl, ev_ixU (ev_var h) ev_int rfl⟩
  exact xc_ret (ev_I0 (ev_IC (ev_I0 (g (i := 1) rfl).1 (g (i := 0) rfl).1) (ev_I0 (g (i := 2) rfl).2 (g (i := 0) rfl).2) (.inl ⟨by show _ < b1 - a1; omega, by show b1 - a1 < _; omega⟩)) (ev_IC (ev_I0 (g (i := 1) rfl).2 (g (i := 0) rfl).2) (ev_I0 (g (i := 2) rfl).1 (g (i := 0) rfl).1) (.inl ⟨by show _ < b2 - a2; omega, by show b2 - a2 < _; omega⟩))) rfl
omit T in
theorem near_mono {m n : Int} {p : Pt} (h : near m p) (e : m ≤ n) : near n p := by
  obtain ⟨h1, h2, h3, h4⟩ := h
  exact ⟨by omega, by omega, by omega, by omega⟩
omit T in
theorem nearP_mono {m n : Int} {p : Pn} (h : nearP m p) (e : m ≤ n) : nearP n p := ⟨near_mono h.1 e, near_mono h.2.1 e, near_mono h.2.2 e⟩
theorem c_is_panel : Cal P w K mg base 4 "is_panel" ["thing"] (spI K fx0 (fun d : D => [.dat d]) (fun _ => True) (fun d => Eq (.ok (.dat (.bool (isPn d)))))) := by
  have c_is_tuple_of := c_is_tuple_of T
  have c_is_point := c_is_point T
  have c_crossed := c_crossed T
  refine mk_cal T.d_is_panel sc_is_panel (fun _ => rfl) (fun _ _ _ _ _ _ us hl => match us, hl with | [_], _ => rfl) (fun f cdv A outer s H E hr d _ => ⟨_, (pss_cons (ps_if (PW.pt (pw_or (pt_not (pt_val (pe_cal c_is_tuple_of (hr.mono (by first | decide | omega)) rfl (pa_cons (pv 0) (pa_cons pe_int pa_nil))))) (pw_or1 (pt_not (pt_val (pe_callB (r := rAll K) (cr_all rfl) (by rfl) T.b_all (by decide +kernel) (pa_cons (pe_lc (own := [("point", 1)]) (by rfl) sc_is_panel.nd (pi_tup (pv 0)) (blkOk_by (N := ["thing", "point"]) (sc := defScope s_is_panel) (own := [("point", 1)]) (by decide +kernel)) (fun _ _ _ _ _ => (pg_name (i := 1) sc_is_panel.nd rfl (by first | exact Or.inl rfl | exact Or.inr rfl))) (fun _ _ _ _ _ => pts_nil) (fun _ _ _ _ _ => (pe_cal c_is_point (hr.mono (by first | decide | omega)) rfl (pa_cons (pv 1) pa_nil)))) pa_nil))))))) (pss_one (ps_ret pe_bl)) pss_nil)
      (pss_one (ps_ret (pe_cmpR op_gt (pe_cal c_crossed (hr.mono (by first | decide | omega)) rfl (pa_cons (pe_ix (r := rIxT K) ix_tup (pv 0) pe_int (fun _ _ => rfl)) (pa_cons (pe_ix (r := rIxT K) ix_tup (pv 0) pe_int (fun _ _ => rfl)) (pa_cons (pe_ix (r := rIxT K) ix_tup (pv 0) pe_int (fun _ _ => rfl)) pa_nil)))) pe_int (nomark _))))), fun G => ?_⟩)
  by_cases h2 : isTupOf 3 d = true
  · obtain ⟨a, b, c, rfl⟩ : ∃ a b c, d = .tuple [a, b, c] := by
      cases d <;> simp [isTupOf] at h2
      rename_i ds
      match ds, h2 with
      | [a, b, c], _ => exact ⟨a, b, c, rfl⟩
    have e0 : isPn (.tuple [a, b, c]) = ((isPt a && (isPt b && isPt c)) && decide (0 < cross (ptOf a) (ptOf b) (ptOf c))) := rfl
    refine xs_when (S := ⟨K, fx0, G, H, E⟩) (b := !(isPt a && (isPt b && isPt c))) (et_is (et_or (et_not (et_B (ev_callE (PyData.tuple [a, b, c], (3 : Int)) (ea_cons (ev_var rfl) (ea_cons ev_int ea_nil)) True.intro))) fun _ => et_not (et_B (ev_allL (l := [a, b, c]) (dα := id) (p := isPt) (im_tupE (ds := [a, b, c]) (ev_var rfl)) (by simp) fun x _ => ⟨[1], _, by simp, tg_name, ev_callE x (ea_cons (ev_var rfl) ea_nil) True.intro⟩))) (by simp [isTupOf])) (fun z => ?_) fun z => ?_
    · have hz := (Bool.not_eq_true' _).mp z
      rw [e0, hz]
      exact xc_ret ev_bl rfl
    · have hz := (Bool.not_eq_false' _).mp z
      rw [e0, hz]
      simp only [Bool.and_eq_true] at hz
      obtain ⟨e1, n1⟩ := isPt_get hz.1
      obtain ⟨e2, n2⟩ := isPt_get hz.2.1
      obtain ⟨e3, n3⟩ := isPt_get hz.2.2
      rw [e1, e2, e3]
      exact xc_retB (ev_C0 (ev_callE (ptOf a, ptOf b, ptOf c) (ea_cons (ev_ixU (ev_var rfl) ev_int rfl) (ea_cons (ev_ixU (ev_var rfl) ev_int rfl) (ea_cons (ev_ixU (ev_var rfl) ev_int rfl) ea_nil))) (nearP_mono ⟨n1, n2, n3⟩ (by decide))) ev_int) rfl
  · have e : isPn d = false := by
      rw [Bool.eq_false_iff]
      intro z
      obtain ⟨e, _⟩ := isPn_get z
      rw [e] at h2
      exact h2 rfl
    rw [e]
    exact xs_when (S := ⟨K, fx0, G, H, E⟩) (b := true) (et_orT ((et_not (et_B (ev_callE (d, (3 : Int)) (ea_cons (ev_var rfl) (ea_cons ev_int ea_nil)) True.intro))).imp fun b hb => by rw [← hb, Bool.eq_false_iff.mpr h2]; rfl)) (fun _ => xc_ret ev_bl rfl) fun z => by cases z
omit T in
theorem at_pn {t : Pn} {k : Nat} (h : k < 3) : atI [dPt t.1, dPt t.2.1, dPt t.2.2] (k : Int) = some (dPt (atC t k)) := by
  match k, h with
  | 0, _ => rfl
  | 1, _ => rfl
  | 2, _ => rfl
theorem c_long_of : Cal P w K mg base 1 "long_of" ["panel", "side"] (spI K fx0 (fun i : Pn × Nat => [.dat (dPn i.1), .dat (.int (i.2 : Nat))]) (fun i => nearP 100 i.1 ∧ i.2 < 3) (fun i => Eq (.ok (.dat (.int (lng i.1 i.2)))))) := by
  refine mk_cal T.d_long_of sc_long_of (fun _ => rfl) (fun _ _ _ _ _ _ us hl => match us, hl with | [_, _], _ => rfl) (fun f cdv A outer s H E hr i hp => ⟨_, (pss_cons (ps_par (i := 2) (j := 3) (by rfl) sc_long_of.nd rfl rfl (by decide) rfl rfl (pa_cons (pe_ix (r := rIxT K) ix_tup (pv 0) (pv 1) (fun _ _ => rfl)) (pa_cons (pe_ix (r := rIxT K) ix_tup (pv 0) (pe_op op_mod (pe_op op_add (pv 1) pe_int) pe_int) (fun _ _ => rfl)) pa_nil)) (by rfl))
      (pss_one (ps_ret (pe_op op_add (pe_op op_pow (pe_op op_sub (pe_ix (r := rIxT K) ix_tup (pv 2) pe_int (fun _ _ => rfl)) (pe_ix (r := rIxT K) ix_tup (pv 3) pe_int (fun _ _ => rfl))) pe_int) (pe_op op_pow (pe_op op_sub (pe_ix (r := rIxT K) ix_tup (pv 2) pe_int (fun _ _ => rfl)) (pe_ix (r := rIxT K) ix_tup (pv 3) pe_int (fun _ _ => rfl))) pe_int))))), fun G => ?_⟩)
  obtain ⟨t, k⟩ := i
  obtain ⟨hn, hk⟩ := hp
  have hk' : k < 3 := hk
  have hk2 : (k + 1) % 3 < 3 := Nat.mod_lt _ (by decide)
  refine xs_par (x := .dat (dPt (atC t k))) (y := .dat (dPt (atC t ((k + 1) % 3)))) (ea_cons (ev_ixU (ds := [dPt t.1, dPt t.2.1, dPt t.2.2]) (ev_var rfl) (ev_var rfl) (at_pn hk')) (ea_cons (ev_ixU (ds := [dPt t.1, dPt t.2.1, dPt t.2.2]) (i := (((k + 1) % 3 : Nat) : Int)) (ev_var rfl) ((ev_IC (i := (k : Int) + 1) (j := 3) (ev_I0 (ev_var rfl) ev_int) ev_int (by decide)).cast (by show Sl.dat (.int _) = .dat (.int _); congr 2 <;> omega)) (at_pn hk2)) ea_nil)) ?_
  have n1 := near_at hn k
  have n2 := near_at hn ((k + 1) % 3)
  show Xc _ _ _ (RetP (Eq (.ok (.dat (.int (sq (atC t k) (atC t ((k + 1) % 3))))))))
  generalize atC t k = p at n1 ⊢
  generalize atC t ((k + 1) % 3) = q at n2 ⊢
  obtain ⟨p1, p2⟩ := p
  obtain ⟨q1, q2⟩ := q
  obtain ⟨x1, x2, x3, x4⟩ := n1
  obtain ⟨y1, y2, y3, y4⟩ := n2
  simp only at x1 x2 x3 x4 y1 y2 y3 y4
  exact xc_ret (ev_I0 (ev_IC (ev_I0 (ev_ixU (ds := [.int p1, .int p2]) (ev_var rfl) ev_int rfl) (ev_ixU (ds := [.int q1, .int q2]) (ev_var rfl) ev_int rfl)) ev_int ⟨by decide, by decide, by omega⟩) (ev_IC (ev_I0 (ev_ixU (ds := [.int p1, .int p2]) (ev_var rfl) ev_int rfl) (ev_ixU (ds := [.int q1, .int q2]) (ev_var rfl) ev_int rfl)) ev_int ⟨by decide, by decide, by omega⟩)) rfl

omit T in
theorem geI2 (i k j l : Int) : geI [i, k] [j, l] = !decide (i < j ∨ (i = j ∧ k < l)) := by
  unfold geI
  show Ob.lexAt _ _ _ 0 2 = _
  rw [Ob.lexAt_succ, Ob.lexAt_succ, Ob.lexAt_zero]
  simp only [List.getD_cons_zero, List.getD_cons_succ, Nat.zero_add]
  by_cases h1 : i = j
  · by_cases h2 : k = l
    · simp [h1, h2]
    · rw [Bool.eq_iff_iff]
      simp [h1, h2]
  · rw [Bool.eq_iff_iff]
    simp [h1]
omit T in
theorem step4_0 {α : Type} (a b c d : α) : stepV [a, b, c, d] none none 2 = [a, c] := by
  unfold stepV
  have e : Builtin.Slice.sliceAdjust none none 2 (([a, b, c, d].length : Nat) : Int) = (0, 4) := by
    show Builtin.Slice.sliceAdjust none none 2 4 = (0, 4)
    decide
  rw [e, show Builtin.Slice.slicePlaces 0 4 2 = 2 by decide]
  rfl
omit T in
theorem step4_1 {α : Type} (a b c d : α) : stepV [a, b, c, d] (some 1) none 2 = [b, d] := by
  unfold stepV
  have e : Builtin.Slice.sliceAdjust (some 1) none 2 (([a, b, c, d].length : Nat) : Int) = (1, 4) := by
    show Builtin.Slice.sliceAdjust (some 1) none 2 4 = (1, 4)
    decide
  rw [e, show Builtin.Slice.slicePlaces 1 4 2 = 2 by decide]
  rfl
theorem c_is_seam : Cal P w K mg base 3 "is_seam" ["panels", "thing"] (spI K fx0 (fun i : (Bool × List Pn) × D => [.dat (seqD i.1.1 (i.1.2.map dPn)), .dat i.2]) (fun i => i.1.2.length ≤ 1000 ∧ ∀ t ∈ i.1.2, nearP 100 t) (fun i => Eq (.ok (.dat (.bool (isSm i.1.2 i.2)))))) := by
  have c_is_tuple_of := c_is_tuple_of T
  have c_is_within := c_is_within T
  have c_long_of := c_long_of T
  refine mk_cal T.d_is_seam sc_is_seam (fun _ => rfl) (fun _ _ _ _ _ _ us hl => match us, hl with | [_, _], _ => rfl) (fun f cdv A outer s H E hr i hp => ⟨_, (pss_cons (ps_if (PW.pt (pw_or (pt_not (pt_val (pe_cal c_is_tuple_of (hr.mono (by first | decide | omega)) rfl (pa_cons (pv 1) (pa_cons pe_int pa_nil))))) (pw_or1 (pt_not (pt_val (pe_callB (r := rAll K) (cr_all rfl) (by rfl) T.b_all (by decide +kernel) (pa_cons (pe_lc (own := [("one", 2)]) (by rfl) sc_is_seam.nd (pi_tup (pe_stepT (K := K) rfl (pv 1) po_none po_none)) (blkOk_by (N := ["panels", "thing", "one"]) (sc := defScope s_is_seam) (own := [("one", 2)]) (by decide +kernel)) (fun _ _ _ _ _ => (pg_name (i := 2) sc_is_seam.nd rfl (by first | exact Or.inl rfl | exact Or.inr rfl))) (fun _ _ _ _ _ => pts_nil) (fun _ _ _ _ _ => (pe_cal c_is_within (hr.mono (by first | decide | omega)) rfl (pa_cons (pv 2) (pa_cons pe_int (pa_cons (pe_op op_sub (pe_callB (r := fun xs H Q => ∃ p ys, xs = [.ref p] ∧ (SqL K H p ys ∨ SqT K H p ys) ∧ Q (.int ys.length) H) call_len_seq (by rfl) T.b_len (by decide +kernel) (pa_cons (pv 0) pa_nil)) pe_int) pa_nil)))))) pa_nil))))))) (pss_one (ps_ret pe_bl)) pss_nil)
      (pss_cons (ps_if (PW.pt (pw_or (pt_not (pt_val (pe_callB (r := rAll K) (cr_all rfl) (by rfl) T.b_all (by decide +kernel) (pa_cons (pe_lc (own := [("one", 2)]) (by rfl) sc_is_seam.nd (pi_tup (pe_stepT (K := K) rfl (pv 1) (po_some pe_int) po_none)) (blkOk_by (N := ["panels", "thing", "one"]) (sc := defScope s_is_seam) (own := [("one", 2)]) (by decide +kernel)) (fun _ _ _ _ _ => (pg_name (i := 2) sc_is_seam.nd rfl (by first | exact Or.inl rfl | exact Or.inr rfl))) (fun _ _ _ _ _ => pts_nil) (fun _ _ _ _ _ => (pe_cal c_is_within (hr.mono (by first | decide | omega)) rfl (pa_cons (pv 2) (pa_cons pe_int (pa_cons pe_int pa_nil)))))) pa_nil)))) (pw_or1 (pt_cmpR (r := rGeT K) (op_geT rfl (u64 hr)) (pe_slice (r := rSlA K) sl_tupA (pv 1) po_none (po_some pe_int)) (pe_slice (r := rSlA K) sl_tupA (pv 1) (po_some pe_int) po_none) (nomark _))))) (pss_one (ps_ret pe_bl)) pss_nil)
      (pss_one (ps_ret (pe_cmpR (r := rEqD K) (op_eqD (u64 hr)) (pe_cal c_long_of (hr.mono (by first | decide | omega)) rfl (pa_cons (pe_ix (r := rIxA K) (ix_seqA rfl) (pv 0) (pe_ix (r := rIxT K) ix_tup (pv 1) pe_int (fun _ _ => rfl)) (fun _ _ => rfl)) (pa_cons (pe_ix (r := rIxT K) ix_tup (pv 1) pe_int (fun _ _ => rfl)) pa_nil))) (pe_cal c_long_of (hr.mono (by first | decide | omega)) rfl (pa_cons (pe_ix (r := rIxA K) (ix_seqA rfl) (pv 0) (pe_ix (r := rIxT K) ix_tup (pv 1) pe_int (fun _ _ => rfl)) (fun _ _ => rfl)) (pa_cons (pe_ix (r := rIxT K) ix_tup (pv 1) pe_int (fun _ _ => rfl)) pa_nil))) (nomark _)))))), fun G => ?_⟩)
  obtain ⟨⟨b, ps⟩, d⟩ := i
  obtain ⟨hl, hn⟩ := hp
  have hl : ps.length ≤ 1000 := hl
  have hn : ∀ t ∈ ps, nearP 100 t := hn
  by_cases h4 : isTupOf 4 d = true
  · obtain ⟨a, c, e, g, rfl⟩ : ∃ a c e g, d = .tuple [a, c, e, g] := by
      cases d <;> simp [isTupOf] at h4
      rename_i ds
      match ds, h4 with
      | [a, c, e, g], _ => exact ⟨a, c, e, g, rfl⟩
    have e0 : isSm ps (.tuple [a, c, e, g]) = ((isWi 0 ((ps.length : Int) - 1) a && isWi 0 ((ps.length : Int) - 1) e) && ((isWi 0 2 c && isWi 0 2 g) && seamOk ps (smOf (.tuple [a, c, e, g])))) := rfl
    have s1 := step4_0 a c e g
    have len : ∀ {ρ : Rho}, ρ[0]? = some (.dat (seqD b (ps.map dPn))) → Ev ⟨K, fx0, G, H, E⟩ (tOp (rI0 fun i j => .int (i - j)) (tCB (fun xs H Q => ∃ p ys, xs = [.ref p] ∧ (SqL K H p ys ∨ SqT K H p ys) ∧ Q (.int ys.length) H) (tCons (tVar 0) tNil)) (tC (.int 1))) ρ (Eq (.dat (.int ((ps.length : Int) - 1)))) := fun h => (ev_I0 (ev_lenA (b := b) (ds := ps.map dPn) (ev_var h)) ev_int).cast (by rw [List.length_map])
    refine xs_when (S := ⟨K, fx0, G, H, E⟩) (b := !(isWi 0 ((ps.length : Int) - 1) a && isWi 0 ((ps.length : Int) - 1) e)) (et_is (et_or (et_not (et_B (ev_callE (PyData.tuple [a, c, e, g], (4 : Int)) (ea_cons (ev_var rfl) (ea_cons ev_int ea_nil)) True.intro))) fun _ => et_not (et_B (ev_allL (l := [a, e]) (dα := id) (p := isWi 0 ((ps.length : Int) - 1)) (im_tupE (ds := [a, e]) ((ev_stepT (ds := [a, c, e, g]) (lo := none) (hi := none) (st := 2) (ev_var rfl) eo_none eo_none (by rw [s1]; simp)).cast (by rw [s1]))) (by simp) fun x _ => ⟨[2], _, by simp, tg_name, (ev_callE (x, (0 : Int), (ps.length : Int) - 1) (ea_cons (ev_var rfl) (ea_cons ev_int (ea_cons (len rfl) ea_nil))) True.intro).cast (by rw [isWithin_eq])⟩))) (by simp [isTupOf])) (fun z => ?_) fun z => ?_
    · rw [e0, (Bool.not_eq_true' _).mp z]
      exact xc_ret ev_bl rfl
    have z1 := (Bool.not_eq_false' _).mp z
    rw [e0, z1]
    have hae := z1
    rw [Bool.and_eq_true] at hae
    obtain ⟨i, rfl, i1, i2⟩ := isWi_int hae.1
    obtain ⟨j, rfl, j1, j2⟩ := isWi_int hae.2
    cases hcg : (isWi 0 2 c && isWi 0 2 g) with
    | false =>
      exact xs_when (S := ⟨K, fx0, G, H, E⟩) (b := true) (et_orT (et_is (et_not (et_B (ev_allL (l := [c, g]) (dα := id) (p := isWi 0 2) (im_tupE (ds := [c, g]) ((ev_stepT (ds := [.int i, c, .int j, g]) (lo := some 1) (hi := none) (st := 2) (ev_var rfl) (eo_some ev_int) eo_none (by rw [step4_1]; simp)).cast (by rw [step4_1]))) (by simp) fun x _ => ⟨[2], _, by simp, tg_name, (ev_callE (x, (0 : Int), (2 : Int)) (ea_cons (ev_var rfl) (ea_cons ev_int (ea_cons ev_int ea_nil))) True.intro).cast (by rw [isWithin_eq])⟩))) (by simp only [List.all_cons, List.all_nil, Bool.and_true, hcg]; rfl))) (fun _ => xc_ret ev_bl rfl) fun z => by cases z
    | true =>
      have hcg' := hcg
      rw [Bool.and_eq_true] at hcg'
      obtain ⟨k, rfl, k1, k2⟩ := isWi_int hcg'.1
      obtain ⟨l, rfl, l1, l2⟩ := isWi_int hcg'.2
      obtain ⟨p, rfl⟩ : ∃ p : Nat, i = p := ⟨i.toNat, by omega⟩
      obtain ⟨q, rfl⟩ : ∃ q : Nat, j = q := ⟨j.toNat, by omega⟩
      obtain ⟨u, rfl⟩ : ∃ u : Nat, k = u := ⟨k.toNat, by omega⟩
      obtain ⟨v, rfl⟩ : ∃ v : Nat, l = v := ⟨l.toNat, by omega⟩
      have hp : p < ps.length := by omega
      have hq : q < ps.length := by omega
      have e1 : seamOk ps (smOf (.tuple [.int (p : Nat), .int (u : Nat), .int (q : Nat), .int (v : Nat)])) = (decide (p < q ∨ (p = q ∧ u < v)) && decide (lng (ps.getD p default) u = lng (ps.getD q default) v)) := by
        show seamOk ps ((p, u), (q, v)) = _
        unfold seamOk
        simp only
        rw [decide_eq_true (by omega), Bool.true_and]
      rw [e1]
      refine xs_when (S := ⟨K, fx0, G, H, E⟩) (b := !decide (p < q ∨ (p = q ∧ u < v))) (et_is (et_or (a := false) (et_is (et_not (et_B (ev_allL (l := [.int (u : Nat), .int (v : Nat)]) (dα := id) (p := isWi 0 2) (im_tupE (ds := [.int (u : Nat), .int (v : Nat)]) ((ev_stepT (ds := [.int (p : Nat), .int (u : Nat), .int (q : Nat), .int (v : Nat)]) (lo := some 1) (hi := none) (st := 2) (ev_var rfl) (eo_some ev_int) eo_none (by rw [step4_1]; simp)).cast (by rw [step4_1]))) (by simp) fun x _ => ⟨[2], _, by simp, tg_name, (ev_callE (x, (0 : Int), (2 : Int)) (ea_cons (ev_var rfl) (ea_cons ev_int (ea_cons ev_int ea_nil))) True.intro).cast (by rw [isWithin_eq])⟩))) (by simp only [List.all_cons, List.all_nil, Bool.and_true, hcg]; rfl)) fun _ => et_B (ev_geT (ns := [(p : Int), (u : Int)]) (ms := [(q : Int), (v : Int)]) (ev_cutA (ds := [.int (p : Nat), .int (u : Nat), .int (q : Nat), .int (v : Nat)]) (ev_var rfl) eo_none (eo_some ev_int)) (ev_cutA (ds := [.int (p : Nat), .int (u : Nat), .int (q : Nat), .int (v : Nat)]) (ev_var rfl) (eo_some ev_int) eo_none))) (by rw [geI2, Bool.false_or]; congr 1; apply decide_eq_decide.mpr; omega)) (fun z => ?_) fun z => ?_
      · rw [(Bool.not_eq_true' _).mp z]
        exact xc_ret ev_bl rfl
      rw [(Bool.not_eq_false' _).mp z]
      have gp : ∀ {x : Nat}, x < ps.length → atI (ps.map dPn) (x : Int) = some (dPn (ps.getD x default)) := fun {x} h => at_nat (by rw [List.getElem?_map, List.getElem?_eq_getElem h]; simp [List.getD, h])
      have gn : ∀ {x : Nat}, x < ps.length → nearP 100 (ps.getD x default) := fun {x} h => by
        rw [show ps.getD x default = ps[x] by simp [List.getD, h]]
        exact hn _ (List.getElem_mem h)
      have th : ∀ {m : Nat} {x : D} {ρ : Rho}, ρ[1]? = some (.dat (.tuple [.int (p : Nat), .int (u : Nat), .int (q : Nat), .int (v : Nat)])) → atI [.int (p : Nat), .int (u : Nat), .int (q : Nat), .int (v : Nat)] (m : Int) = some x → Ev ⟨K, fx0, G, H, E⟩ (tOp (rIxT K) (tVar 1) (tC (.int (m : Nat)))) ρ (Eq (.dat x)) := fun h ha => ev_ixU (ev_var h) ev_int ha
      refine xc_retB (ev_eqI (ev_callE (ps.getD p default, u) (ea_cons (ev_ixA (b := b) (ds := ps.map dPn) (ev_var rfl) (th (m := 0) rfl rfl) (gp hp)) (ea_cons (th (m := 1) rfl rfl) ea_nil)) ⟨gn hp, by show u < 3; omega⟩) (ev_callE (ps.getD q default, v) (ea_cons (ev_ixA (b := b) (ds := ps.map dPn) (ev_var rfl) (th (m := 2) rfl rfl) (gp hq)) (ea_cons (th (m := 3) rfl rfl) ea_nil)) ⟨gn hq, by show v < 3; omega⟩)) ?_
      simp
  · have e : isSm ps d = false := by
      rw [Bool.eq_false_iff]
      intro z
      obtain ⟨e, _⟩ := isSm_get z
      rw [e] at h4
      exact h4 rfl
    show Xc _ _ _ (RetP (Eq (.ok (.dat (.bool (isSm ps d))))))
    rw [e]
    exact xs_when (S := ⟨K, fx0, G, H, E⟩) (b := true) (et_orT ((et_not (et_B (ev_callE (d, (4 : Int)) (ea_cons (ev_var rfl) (ea_cons ev_int ea_nil)) True.intro))).imp fun b hb => by rw [← hb, Bool.eq_false_iff.mpr h4]; rfl)) (fun _ => xc_ret ev_bl rfl) fun z => by cases z

end
end K11

set_option Elab.async false
set_option linter.all false
set_option maxRecDepth 100000
set_option maxHeartbeats 4000000
namespace K11
open PySem PySem.Spec PyProof.Rows L2 Dl LamX StX RZ SM SD
section
variable {P : Program} {w : World} {K : PySem.W.Frag} {mg : Str → Option Value} {base : Heap} {C1 C2 fI CS : Addr} (T : Tx P w K mg base C1 C2 fI CS)
include T
omit T in
theorem rng_nat (n : Nat) : rngD 0 n = dNs (List.range n) := by
  unfold rngD dNs
  exact List.map_congr_left fun x _ => by rw [Int.zero_add]
omit T in
theorem filterMap_eq {α β : Type} (g : α → Option β) (b0 : β) : ∀ l : List α, l.filterMap g = (l.filter fun x => (g x).isSome).map fun x => (g x).getD b0
  | [] => rfl
  | x :: l => by
    rw [List.filterMap_cons, List.filter_cons]
    cases h : g x with
    | none => simp [filterMap_eq g b0 l]
    | some y => simp [filterMap_eq g b0 l, h]
def obS (CS : Addr) (ps : List Pn) (ss : List Sm) : Sl := .ob none CS (sailFs ps ss)
abbrev SI := List Pn × List Sm
omit T in
theorem sailFs_sewn {ps : List Pn} {ss : List Sm} : List.lookup (Str.ofString "sewn") (sailFs ps ss) = some (Fv.k false (dSw (sewn ss))) := rfl
omit T in
theorem sailFs_panels {ps : List Pn} {ss : List Sm} : List.lookup (Str.ofString "panels") (sailFs ps ss) = some (Fv.d (.tuple (ps.map dPn))) := rfl
omit T in
theorem sailFs_seams {ps : List Pn} {ss : List Sm} : List.lookup (Str.ofString "seams") (sailFs ps ss) = some (Fv.d (.tuple (ss.map dSm))) := rfl
theorem c_Sail_beside : CalM P w K mg base 1 CS "beside" ["self", "panel"] (spI K fx0 (fun i : SI × Nat => [obS CS i.1.1 i.1.2, .dat (.int (i.2 : Nat))]) (fun _ => True) (fun i => Eq (.ok (.dat (.list (dNs (beside i.1.2 i.2))))))) := by
  refine mk_calMI T.m_beside sc_Sail_beside (fun _ => rfl) (fun _ _ _ _ _ _ us hl => match us, hl with | [_, _], _ => rfl) (fun f cdv A outer s H E hr i _ => ⟨_, (pss_one (ps_ret (pe_lc (own := [("side", 2)]) (by rfl) sc_Sail_beside.nd (pi_range1 (by rfl) T.b_range (pa_cons pe_int pa_nil)) (blkOk_by (N := ["self", "panel", "side"]) (sc := defScope s_Sail_beside) (own := [("side", 2)]) (by decide +kernel)) (fun _ _ _ _ _ => (pg_name (i := 2) sc_Sail_beside.nd rfl (by first | exact Or.inl rfl | exact Or.inr rfl))) (fun _ _ _ _ _ => (pts_one (pt_cmp (pc_xin (K := K) rfl (u64 hr) (pe_tup (pa_cons (pv 1) (pa_cons (pv 2) pa_nil))) (pe_fld' (K := K) rfl (pv 0))) (by rfl)))) (fun _ _ _ _ _ => (pe_ix (r := rIxT K) ix_tup (pe_xget (K := K) rfl (u64 hr) (pe_fld' (K := K) rfl (pv 0)) (pe_tup (pa_cons (pv 1) (pa_cons (pv 2) pa_nil)))) pe_int (fun _ _ => rfl)))))), fun G => ?_⟩)
  obtain ⟨⟨ps, ss⟩, p⟩ := i
  have sw : ∀ {ρ : Rho}, ρ[0]? = some (obS CS ps ss) → EvDc ⟨K, fx0, G, H, E⟩ (tFld K (tVar 0) "sewn") ρ false (dSw (sewn ss)) := fun h => dc_of (ev_fldKX (x := .k false (dSw (sewn ss))) (ev_varOb h) T.m_beside.cls T.a_sewn sailFs_sewn)
  refine xc_ret ((ef_filterL (l := List.range 3) (dα := fun (x : Nat) => PyData.int (x : Int)) (c := fun k => ((sewn ss).lookup (p, k)).isSome) (f := fun k => .int (((((sewn ss).lookup (p, k)).map (fun x : Sd => x.1)).getD 0 : Nat) : Int)) (by
    have h := im_rng1E (S := ⟨K, fx0, G, H, E⟩) (te := tC (.int 3)) (ρ := [obS CS ps ss, .dat (.int (p : Nat)), .no]) (n := 3) ev_int (by omega)
    rw [rng_nat] at h
    exact h) (by simp) fun k _ => ⟨[2], _, by simp, tg_name, ?_, fun hk => ?_⟩).evE) ?_
  · exact et_is (et_B (ev_xin (dk := dSd (p, k)) (sw rfl) (ev_tup2 (ev_var rfl) (ev_var rfl)) (key_sd _))) (by rw [gD_sw, Option.isSome_map])
  · obtain ⟨v, hv⟩ := Option.isSome_iff_exists.mp hk
    refine (ev_ixU (ds := [.int (v.1 : Nat), .int (v.2 : Nat)]) (ev_xget (dk := dSd (p, k)) (d := dSd v) (sw rfl) (ev_tup2 (ev_var rfl) (ev_var rfl)) (key_sd _) (by rw [gD_sw, hv]; rfl)) ev_int (at_nat (i := 0) rfl)).cast ?_
    rw [hv]
    rfl
  · show Re.ok (.dat (.list (dNs (beside ss p)))) = Re.ok (.dat (.list _))
    unfold beside dNs
    rw [filterMap_eq _ 0, List.map_map]
    congr 4
    · exact List.filter_congr fun k _ => by rw [Option.isSome_map]
/-! what can be reached -/
def dSeen (ks : List Nat) : List (D × D) := ks.map fun (k : Nat) => (.int (k : Int), .bool true)
omit T in
theorem gD_seen (ks : List Nat) (x : Nat) : (gD (dSeen ks) (.int (x : Nat))).isSome = decide (x ∈ ks) := by
  induction ks with
  | nil => rfl
  | cons k ks ih =>
    show (gD ((.int (k : Nat), .bool true) :: dSeen ks) (.int (x : Nat))).isSome = _
    by_cases e : k = x
    · subst e
      rw [gD_pos rfl]
      simp
    · rw [gD_neg (by simp [nk]; omega), ih]
      have : ¬ x = k := fun z => e z.symm
      simp [this]
omit T in
theorem pD_seen {ks : List Nat} {x : Nat} (h : x ∉ ks) : pD (dSeen ks) (.int (x : Nat)) (.bool true) = dSeen (ks ++ [x]) := by
  unfold pD
  rw [gD_seen, decide_eq_false h, if_neg (by decide)]
  unfold dSeen
  rw [List.map_append]
  rfl
def zs (l : List Nat) : List Int := l.map fun (x : Nat) => (x : Int)
omit T in
theorem zs_dNs (l : List Nat) : (zs l).map PyData.int = dNs l := by
  unfold zs dNs
  rw [List.map_map]
  rfl
omit T in
theorem nodup_lt {l : List Nat} {n : Nat} (nd : l.Nodup) (h : ∀ x ∈ l, x < n) : l.length ≤ n := by
  simpa using nd.length_le_of_subset (l₂ := List.range n) fun x hx => List.mem_range.mpr (h x hx)
structure RInv (n : Nat) (ss : List Sm) (a : Nat) (ks ws : List Nat) (x : Nat → Prop) : Prop where
  nd : ks.Nodup
  lt : ∀ y ∈ ks, y < n
  st : a ∈ ks
  r : ∀ y ∈ ks, Rch ss a y
  w : ∀ y ∈ ws, y ∈ ks
  cl : ∀ y ∈ ks, y ∉ ws → ¬ x y → ∀ z ∈ beside ss y, z ∈ ks
theorem c_Sail_reached : CalM P w K mg base 2 CS "reached" ["self", "panel"] (spI K fx0 (fun i : SI × Nat => [obS CS i.1.1 i.1.2, .dat (.int (i.2 : Nat))]) (fun i => i.1.1.length ≤ 1000 ∧ (∀ s ∈ i.1.2, seamOk i.1.1 s = true) ∧ i.2 < i.1.1.length) (fun i r => ∃ ks : List Nat, ks.Nodup ∧ (∀ y ∈ ks, y < i.1.1.length) ∧ (∀ y, y ∈ ks ↔ Rch i.1.2 i.2 y) ∧ r = .ok (.dic true (dSeen ks)))) := by
  have c_Sail_beside := c_Sail_beside T
  refine mk_calMI T.m_reached sc_Sail_reached (fun _ => rfl) (fun _ _ _ _ _ _ us hl => match us, hl with | [_, _], _ => rfl) (fun f cdv A outer s H E hr i hp => ⟨_, (pss_cons (ps_set (i := 2) sc_Sail_reached.nd rfl (Or.inl rfl) (pe_disp (pps_cons (pv 1) pe_bl pps_nil) (by rfl) (by rfl) (fun z => by cases z) (by decide)))
      (pss_cons (ps_set (i := 3) sc_Sail_reached.nd rfl (Or.inl rfl) (pe_lst (pa_cons (pv 1) pa_nil)))
      (pss_cons (ps_while (passes_of rfl) (pt_truth (pv 3) (by intro _; rfl)) (pss_one (ps_for (passes_of rfl) rfl (pi_list (pe_calM c_Sail_beside (hr.mono (by first | decide | omega)) (pv 0) (pa_cons (pe_bm0 PySem.F.plainAttrs_list PySem.F.slot_list_pop PySem.F.type_list_pop mt_pop (pv 3)) pa_nil))) (pg_name (i := 4) sc_Sail_reached.nd rfl (Or.inl rfl)) (pss_one (ps_if (pt_cmp (pc_xnotin (K := K) rfl (u64 hr) (pv 4) (pv 2)) (by rfl)) (pss_cons (ps_xput (K := K) rfl (u64 hr) (pv 2) (pv 4) pe_bl)
      (pss_one (ps_expr (pe_bm PySem.F.plainAttrs_list PySem.F.slot_list_append PySem.F.type_list_append mt_append (pv 3) (pa_cons (pv 4) pa_nil))))) pss_nil)))))
      (pss_lk (pss_one (ps_ret (pv 2))))))), fun G => ?_⟩)
  obtain ⟨⟨ps, ss⟩, a⟩ := i
  obtain ⟨hn, hs, ha⟩ := hp
  have hn : ps.length ≤ 1000 := hn
  have hs : ∀ s ∈ ss, seamOk ps s = true := hs
  have ha : a < ps.length := ha
  refine xs_asgQ (eq_disp1 (k1 := .inl (a : Nat)) (ev_var rfl) ev_bl) fun ad => ?_
  refine xs_asgF (ef_lst (ds := [.int (a : Nat)]) (ea_cons (ev_var rfl) ea_nil) (by simp)) fun aw ds e => ?_
  subst e
  refine xs_while (I := fun m ρ => ∃ (s4 : Sl) (ks ws : List Nat), RInv ps.length ss a ks ws (fun _ => False) ∧ 2 * (ps.length - ks.length) + ws.length ≤ m ∧ m ≤ 2 * ps.length + 1 ∧ ρ = [obS CS ps ss, .dat (.int (a : Nat)), .own ad (moD ad true (dSeen ks)), .own aw (.lst ((zs ws).map PyData.int)), s4])
    (2 * ps.length + 1) ⟨.no, [a], [a], ⟨by simp, fun y hy => by rw [List.mem_singleton.mp hy]; exact ha, by simp, fun y hy => by rw [List.mem_singleton.mp hy]; exact .start, fun y hy => hy, fun y hy hw => absurd hy hw⟩, by simp; omega, Nat.le_refl _, rfl⟩ fun m ρ1 hI => ?_
  obtain ⟨s4, ks, ws, iv, hm, hm0, rfl⟩ := hI
  refine (et_truL (el_own (ds := (zs ws).map PyData.int) rfl)).imp fun b hb => ?_
  rcases List.eq_nil_or_concat ws with ew | ⟨ws', x, ew⟩
  · subst ew
    rw [← hb, if_neg (by simp [zs])]
    refine xs_lock (i := 2) (a := ad) (f := true) (ds := dSeen ks) rfl ?_
    refine xc_ret (ev_varDic rfl) ⟨ks, iv.nd, iv.lt, fun y => ⟨iv.r y, fun h => ?_⟩, rfl⟩
    induction h with
    | start => exact iv.st
    | step _ hq ih => exact iv.cl _ ih (by simp) (fun z => z) _ hq
  · have ew : ws = ws' ++ [x] := by rw [ew, List.concat_eq_append]
    subst ew
    rw [← hb, if_pos (by simp [zs])]
    have hx : x ∈ ks := iv.w x (by simp)
    have kl := nodup_lt iv.nd iv.lt
    have ez : (zs (ws' ++ [x])).map PyData.int = (zs ws' ++ [(x : Int)]).map PyData.int := by
      unfold zs
      rw [List.map_append]
      rfl
    rw [ez]
    refine xc_forPop (i := 0) (j := 3) (a := aw) (n := (x : Int)) (ns := zs ws') rfl rfl rfl ?_
    refine xc_forE (S := ⟨K, fx0, G, H, E⟩) (im_listE (ds := dNs (beside ss x)) (ev_methK (ev_varOb rfl) rfl (ea_cons ev_int ea_nil) fun ss' e => ⟨((ps, ss), x), by rw [← e]; rfl, True.intro, fun s h => (by cases h; rfl), fun C d h => by cases h⟩)) (fun i ρ => ∃ (s4 : Sl) (ks ws : List Nat), RInv ps.length ss a ks ws (fun y => y = x) ∧ (∀ z ∈ (beside ss x).take i, z ∈ ks) ∧ 2 * (ps.length - ks.length) + ws.length + 1 ≤ m ∧ ρ = [obS CS ps ss, .dat (.int (a : Nat)), .own ad (moD ad true (dSeen ks)), .own aw (.lst ((zs ws).map PyData.int)), s4])
      ⟨s4, ks, ws', ⟨iv.nd, iv.lt, iv.st, iv.r, fun y hy => iv.w y (by simp [hy]), fun y hy hw hne z hz => iv.cl y hy (fun q => by
        rcases List.mem_append.mp q with q | q
        · exact hw q
        · exact hne (List.mem_singleton.mp q)) (fun z => z) z hz⟩, by simp, by simp at hm; omega, rfl⟩ (fun i d ρ1 hd hI => ?_) fun ρ1 hI => ?_
    · obtain ⟨s5, ks1, ws1, iv1, hdone, hm1, rfl⟩ := hI
      unfold dNs at hd
      rw [List.getElem?_map] at hd
      obtain ⟨y, hy, rfl⟩ := Option.map_eq_some_iff.mp hd
      have ym : y ∈ beside ss x := List.mem_of_getElem? hy
      have yl : y < ps.length := beside_lt hs ym
      have xr : Rch ss a x := iv.r x hx
      have et : (beside ss x).take (i + 1) = (beside ss x).take i ++ [y] := by
        rw [List.take_add_one, hy]
        rfl
      have kl1 := nodup_lt iv1.nd iv1.lt
      refine ⟨_, _, tg_name, ?_⟩
      refine xc_if (b := !decide (y ∈ ks1)) (et_is (et_B (ev_xnotin (dk := .int (y : Nat)) (dc_own (f := true) rfl) (ev_var rfl) ⟨.inl (y : Nat), rfl⟩)) (by rw [gD_seen])) (fun z => ?_) fun z => ?_
      · have ny : y ∉ ks1 := by simpa using z
        have nd2 : (ks1 ++ [y]).Nodup := by
          rw [List.nodup_append]
          exact ⟨iv1.nd, by simp, fun u hu v hv e => ny (by rw [← List.mem_singleton.mp hv, ← e]; exact hu)⟩
        have lt2 : ∀ u ∈ ks1 ++ [y], u < ps.length := fun u hu => by
          rcases List.mem_append.mp hu with q | q
          · exact iv1.lt u q
          · rw [List.mem_singleton.mp q]
            exact yl
        have kl2 := nodup_lt nd2 lt2
        rw [List.length_append, List.length_singleton] at kl2
        refine xs_xput (i := 2) (a := ad) (f := true) (ds := dSeen ks1) (dk := .int (y : Nat)) (d := .bool true) rfl ev_bl (ev_var rfl) ⟨.inl (y : Nat), rfl⟩ (by unfold dSeen; rw [List.length_map]; omega) ?_
        rw [pD_seen ny]
        refine xc_append (i := 3) (p := Eq (.int (y : Nat))) rfl ((ev_var (d := .int (y : Nat)) rfl).imp fun s e => ⟨_, e.symm, rfl⟩) (by
          rw [List.length_map]
          unfold zs
          rw [List.length_map]
          omega) fun d e => ?_
        subst e
        refine ⟨.dat (.int (y : Nat)), ks1 ++ [y], ws1 ++ [y], ⟨nd2, lt2, List.mem_append_left _ iv1.st, fun u hu => ?_, fun u hu => ?_, fun u hu hw hne v hv => ?_⟩, fun u hu => ?_, ?_, ?_⟩
        · rcases List.mem_append.mp hu with q | q
          · exact iv1.r u q
          · rw [List.mem_singleton.mp q]
            exact .step xr ym
        · rcases List.mem_append.mp hu with q | q
          · exact List.mem_append_left _ (iv1.w u q)
          · exact List.mem_append_right _ q
        · have hw1 : u ∉ ws1 := fun q => hw (List.mem_append_left _ q)
          rcases List.mem_append.mp hu with q | q
          · exact List.mem_append_left _ (iv1.cl u q hw1 hne v hv)
          · exact absurd (List.mem_append_right ws1 q) hw
        · rw [et] at hu
          rcases List.mem_append.mp hu with q | q
          · exact List.mem_append_left _ (hdone u q)
          · exact List.mem_append_right _ q
        · simp only [List.length_append, List.length_singleton]
          omega
        · have : (zs (ws1 ++ [y])).map PyData.int = (zs ws1).map PyData.int ++ [.int (y : Nat)] := by
            unfold zs
            rw [List.map_append, List.map_append]
            rfl
          rw [this]
          rfl
      · have iy : y ∈ ks1 := by simpa using z
        refine xc_next ⟨.dat (.int (y : Nat)), ks1, ws1, iv1, fun u hu => ?_, hm1, rfl⟩
        rw [et] at hu
        rcases List.mem_append.mp hu with q | q
        · exact hdone u q
        · rw [List.mem_singleton.mp q]
          exact iy
    · obtain ⟨s5, ks1, ws1, iv1, hdone, hm1, rfl⟩ := hI
      rw [show (dNs (beside ss x)).length = (beside ss x).length by unfold dNs; rw [List.length_map], List.take_length] at hdone
      refine ⟨m - 1, by omega, s5, ks1, ws1, ⟨iv1.nd, iv1.lt, iv1.st, iv1.r, iv1.w, fun u hu hw _ v hv => ?_⟩, by omega, by omega, rfl⟩
      by_cases q : u = x
      · subst q
        exact hdone v hv
      · exact iv1.cl u hu hw q v hv

end
end K11

set_option Elab.async false
set_option linter.all false
set_option maxRecDepth 100000
set_option maxHeartbeats 4000000
namespace K11
open PySem PySem.Spec PyProof.Rows L2 Dl LamX StX RZ SM SD
section
variable {P : Program} {w : World} {K : PySem.W.Frag} {mg : Str → Option Value} {base : Heap} {C1 C2 fI CS : Addr} (T : Tx P w K mg base C1 C2 fI CS)
include T
/-! the class -/
omit T in
theorem ev_tupA {S : Cf} {ρ : Rho} {ta : TE} {b : Bool} {ds : List D} (ha : Ev S ta ρ (Eq (.dat (seqD b ds)))) : Ev S (tCB (fun xs H Q => ∃ p ys, xs = [.ref p] ∧ ((SqL S.K H p ys ∧ ∀ l, H l = none → Q (.ref l) (upd H l (.tup ys))) ∨ (SqT S.K H p ys ∧ Q (.ref p) H))) (tCons ta tNil)) ρ (Eq (.dat (.tuple ds))) := by
  cases b with
  | true => exact ev_tupL (el_of ha)
  | false => exact ev_tupT ha
omit T in
theorem ev_lenXP {S : Cf} {ρ : Rho} {te : TE} {p : List (D × D) → Prop} (h : Ev S te ρ (fun s => ∃ ds, s = .dic true ds ∧ p ds)) : EvI S (tCB (rLenX S.K) (tCons te tNil)) ρ (fun n => ∃ ds, n = (ds.length : Nat) ∧ p ds) := fun σ G H k e Q q =>
  h σ G H k e _ fun v s G1 H1 g1 k1 ⟨ds, es, pd⟩ r => by
    subst es
    obtain ⟨a, rfl, kn⟩ := r
    exact ⟨a, G1, true, ds, rfl, k1.gh, kn.rd k1.gh, q _ _ G1 H1 g1 k1 ⟨_, rfl, ds, rfl, pd⟩ (.int _)⟩
omit T in
theorem putD_neg {f g : Str} {v x : Fv} {r : Fs} (h : ¬ g = f) : putD f v ((g, x) :: r) = (g, x) :: putD f v r := if_neg h
omit T in
theorem putD_pos {f : Str} {v x : Fv} {r : Fs} : putD f v ((f, x) :: r) = (f, v) :: r := if_pos rfl
omit T in
theorem reach_all {n a : Nat} {ss : List Sm} {ks : List Nat} (nd : ks.Nodup) (lt : ∀ y ∈ ks, y < n) (hr : ∀ y, y ∈ ks ↔ Rch ss a y) : ks.length < n ↔ ¬ ∀ p, p < n → Rch ss a p := by
  constructor
  · intro h hall
    have : (List.range n).length ≤ ks.length := List.nodup_range.length_le_of_subset fun x hx => (hr x).mpr (hall x (List.mem_range.mp hx))
    rw [List.length_range] at this
    omega
  · intro h
    refine Classical.byContradiction fun hl => h fun p hp => Classical.byContradiction fun hn => ?_
    have h1 : p ∉ ks := fun z => hn ((hr p).mp z)
    have := nodup_lt (l := p :: ks) (n := n) (List.nodup_cons.mpr ⟨h1, nd⟩) fun y hy => by
      rcases List.mem_cons.mp hy with q | q
      · rw [q]
        exact hp
      · exact lt y q
    rw [List.length_cons] at this
    omega
def SpSail (K : PySem.W.Frag) (C1 C2 CS : Addr) : Sp := spN K CS (fun i : D × D => [.dat i.1, .dat i.2]) (fun _ => True) (fun i r => initP C1 C2 i.1 i.2 r)
omit T in
theorem init_g {C1 C2 : Addr} {d1 d2 : D} {fs : Fs} {g : List (Addr × Mo)} (h : initP C1 C2 d1 d2 (.ok fs g)) : g = [] := by
  unfold initP at h
  repeat' split at h
  all_goals first
    | (cases h; done)
    | (rcases h with ⟨_, h⟩ | ⟨_, h⟩ <;> (cases h; first | rfl | done))
theorem c_Sail : CalK P w K mg base 5 "Sail" CS ["self", "panels", "seams"] (SpSail K C1 C2 CS) := by
  have c_is_row := c_is_row T
  have c_is_panel := c_is_panel T
  have c_is_seam := c_is_seam T
  have c_Sail_reached := c_Sail_reached T
  obtain ⟨_, k1⟩ := T.k_MOST_PANELS
  obtain ⟨_, k2⟩ := T.k_MOST_SEAMS
  refine mk_calN T.k_Sail sc_Sail___init__ (fun _ _ => rfl) (fun i fs g h p hp => by
    rw [init_g h] at hp
    cases hp) (fun _ _ _ _ _ _ us hl => match us, hl with | [_, _, _], _ => rfl) (fun f cdv A outer s H E hr i _ => ⟨_, (pss_cons (ps_if (PW.pt (pw_or (pt_not (pt_val (pe_cal c_is_row (hr.mono (by first | decide | omega)) rfl (pa_cons (pv 1) pa_nil)))) (pw_or1 (pt_not (pt_chain op_le op_le pe_int (pe_callB (r := fun xs H Q => ∃ p ys, xs = [.ref p] ∧ (SqL K H p ys ∨ SqT K H p ys) ∧ Q (.int ys.length) H) call_len_seq (by rfl) T.b_len (by decide +kernel) (pa_cons (pv 1) pa_nil)) (pe_gint rfl T.k_MOST_PANELS)))))) (pss_one (ps_err (k := 0) T.e_BadPanels T.ini rfl (hr.mono (by first | decide | omega)) rfl (takes_of rfl rfl rfl rfl) (pe_un un_neg pe_int))) pss_nil)
      (pss_cons (ps_for (passes_of rfl) rfl (pi_enumA (by rfl) T.b_enumerate (pa_cons (pv 1) pa_nil)) (pg_tup (by rfl) (pgs_cons (pg_name (i := 3) sc_Sail___init__.nd rfl (Or.inl rfl)) (pgs_cons (pg_name (i := 4) sc_Sail___init__.nd rfl (Or.inl rfl)) pgs_nil))) (pss_one (ps_if (pt_not (pt_val (pe_cal c_is_panel (hr.mono (by first | decide | omega)) rfl (pa_cons (pv 4) pa_nil)))) (pss_one (ps_err (k := 0) T.e_BadPanels T.ini rfl (hr.mono (by first | decide | omega)) rfl (takes_of rfl rfl rfl rfl) (pv 3))) pss_nil)))
      (pss_cons (ps_if (PW.pt (pw_or (pt_not (pt_val (pe_cal c_is_row (hr.mono (by first | decide | omega)) rfl (pa_cons (pv 2) pa_nil)))) (pw_or1 (pt_cmpR op_gt (pe_callB (r := fun xs H Q => ∃ p ys, xs = [.ref p] ∧ (SqL K H p ys ∨ SqT K H p ys) ∧ Q (.int ys.length) H) call_len_seq (by rfl) T.b_len (by decide +kernel) (pa_cons (pv 2) pa_nil)) (pe_gint rfl T.k_MOST_SEAMS) (nomark _))))) (pss_one (ps_err (k := 0) T.e_BadSeams T.ini rfl (hr.mono (by first | decide | omega)) rfl (takes_of rfl rfl rfl rfl) (pe_un un_neg pe_int))) pss_nil)
      (pss_cons (ps_fld (pv 0) pe_xnew (by rfl))
      (pss_cons (ps_for (passes_of rfl) rfl (pi_enumA (by rfl) T.b_enumerate (pa_cons (pv 2) pa_nil)) (pg_tup (by rfl) (pgs_cons (pg_name (i := 3) sc_Sail___init__.nd rfl (Or.inl rfl)) (pgs_cons (pg_name (i := 5) sc_Sail___init__.nd rfl (Or.inl rfl)) pgs_nil))) (pss_cons (ps_if (PW.pt (pw_or (pt_not (pt_val (pe_cal c_is_seam (hr.mono (by first | decide | omega)) rfl (pa_cons (pv 1) (pa_cons (pv 5) pa_nil))))) (pw_or (pt_cmp (pc_xin (K := K) rfl (u64 hr) (pe_slice (r := rSlA K) sl_tupA (pv 5) po_none (po_some pe_int)) (pe_fld' (K := K) rfl (pv 0))) (by rfl)) (pw_or1 (pt_cmp (pc_xin (K := K) rfl (u64 hr) (pe_slice (r := rSlA K) sl_tupA (pv 5) (po_some pe_int) po_none) (pe_fld' (K := K) rfl (pv 0))) (by rfl)))))) (pss_one (ps_err (k := 0) T.e_BadSeams T.ini rfl (hr.mono (by first | decide | omega)) rfl (takes_of rfl rfl rfl rfl) (pv 3))) pss_nil)
      (pss_cons (ps_xput (K := K) rfl (u64 hr) (pe_fld' (K := K) rfl (pv 0)) (pe_slice (r := rSlA K) sl_tupA (pv 5) po_none (po_some pe_int)) (pe_slice (r := rSlA K) sl_tupA (pv 5) (po_some pe_int) po_none))
      (pss_one (ps_xput (K := K) rfl (u64 hr) (pe_fld' (K := K) rfl (pv 0)) (pe_slice (r := rSlA K) sl_tupA (pv 5) (po_some pe_int) po_none) (pe_slice (r := rSlA K) sl_tupA (pv 5) po_none (po_some pe_int)))))))
      (pss_cons (ps_fld (pv 0) (pe_callTy (T := "tuple") (r := fun xs H Q => ∃ p ys, xs = [.ref p] ∧ ((SqL K H p ys ∧ ∀ l, H l = none → Q (.ref l) (upd H l (.tup ys))) ∨ (SqT K H p ys ∧ Q (.ref p) H))) call_tuple_of (by rfl) T.b_tuple (by decide +kernel) (pa_cons (pv 1) pa_nil)) (by rfl))
      (pss_cons (ps_fld (pv 0) (pe_callTy (T := "tuple") (r := fun xs H Q => ∃ p ys, xs = [.ref p] ∧ ((SqL K H p ys ∧ ∀ l, H l = none → Q (.ref l) (upd H l (.tup ys))) ∨ (SqT K H p ys ∧ Q (.ref p) H))) call_tuple_of (by rfl) T.b_tuple (by decide +kernel) (pa_cons (pv 2) pa_nil)) (by rfl))
      (pss_lk (pss_one (ps_if (pt_cmpR op_lt (pe_callB (r := rLenX K) cr_lenX (by rfl) T.b_len (by decide +kernel) (pa_cons (pe_calM c_Sail_reached (hr.mono (by first | decide | omega)) (pv 0) (pa_cons pe_int pa_nil)) pa_nil)) (pe_callB (r := fun xs H Q => ∃ p ys, xs = [.ref p] ∧ (SqL K H p ys ∨ SqT K H p ys) ∧ Q (.int ys.length) H) call_len_seq (by rfl) T.b_len (by decide +kernel) (pa_cons (pv 1) pa_nil)) (nomark _)) (pss_one (ps_err (k := 0) T.e_BadSeams T.ini rfl (hr.mono (by first | decide | omega)) rfl (takes_of rfl rfl rfl rfl) (pe_un un_neg pe_int))) pss_nil)))))))))), fun G a dx => ?_⟩)
  obtain ⟨d1, d2⟩ := i
  show Xc _ _ _ (ObjN a CS (fun r => initP C1 C2 d1 d2 r))
  have en1 : (dList d1 || dTuple d1) = (rows d1).isSome := by cases d1 <;> rfl
  have en2 : (dList d2 || dTuple d2) = (rows d2).isSome := by cases d2 <;> rfl
  cases hd1 : rows d1 with
  | none =>
    have e0 : ∀ r, r = .ex C1 (.int (-1)) → initP C1 C2 d1 d2 r := fun r e => by
      unfold initP
      rw [hd1]
      exact e
    exact xs_when (S := ⟨K, fxM a, G, H, E⟩) (b := true) (et_orT ((et_not (et_B (ev_callE d1 (ea_cons (ev_var rfl) ea_nil) True.intro))).imp fun b hb => by rw [← hb, en1, hd1]; rfl)) (fun _ => xc_raise T.e_BadPanels.oex T.e_BadPanels.nv (ev_neg ev_int) (e0 _ rfl)) fun z => by cases z
  | some q1 =>
    obtain ⟨b1, e1⟩ := q1
    have ep1 := rows_seq hd1
    subst ep1
    refine xs_when (S := ⟨K, fxM a, G, H, E⟩) (b := !decide (1 ≤ e1.length ∧ e1.length ≤ 12)) (et_is (et_or (a := false) (et_is (et_not (et_B (ev_callE (seqD b1 e1) (ea_cons (ev_var rfl) ea_nil) True.intro))) (by rw [en1, hd1]; rfl)) fun _ => et_not (et_B (ev_chain ev_int (ev_lenA (b := b1) (ds := e1) (ev_var rfl)) fun _ => ev_int))) (by rw [Bool.false_or]; congr 1; rw [Bool.eq_iff_iff]; simp; omega)) (fun z => ?_) fun z => ?_
    · have hz : ¬ (1 ≤ e1.length ∧ e1.length ≤ 12) := of_decide_eq_false ((Bool.not_eq_true' _).mp z)
      refine xc_raise T.e_BadPanels.oex T.e_BadPanels.nv (ev_neg ev_int) ?_
      show initP _ _ _ _ _
      unfold initP
      rw [hd1]
      simp only
      rw [if_neg hz]
      trivial
    have hz : 1 ≤ e1.length ∧ e1.length ≤ 12 := of_decide_eq_true ((Bool.not_eq_false' _).mp z)
    refine xs_for (im_enumA (b := b1) (ds := e1) (ev_var rfl)) (fun k ρ => ∃ s3 s4 : Sl, ρ = [.own a (.ins CS dx [] []), .dat (seqD b1 e1), .dat d2, s3, s4, .no] ∧ ∀ x ∈ e1.take k, isPn x = true) ⟨_, _, rfl, by simp⟩ (fun k d ρ1 hd' hI => ?_) (fun ρ1 hI => ?_)
    · obtain ⟨s1, s2, rfl, ha⟩ := hI
      obtain ⟨x, hx, rfl⟩ := enumD_get hd'
      refine ⟨_, _, tg_two, ?_⟩
      refine xc_if (et_not (et_B (ev_callE x (ea_cons (ev_var rfl) ea_nil) True.intro))) (fun z => ?_) fun z => ?_
      · have hzz := (Bool.not_eq_true' _).mp z
        refine xc_raise T.e_BadPanels.oex T.e_BadPanels.nv (ev_var rfl) ?_
        show initP _ _ _ _ _
        unfold initP
        rw [hd1]
        simp only
        rw [if_pos hz, fbG_at e1 0 k x ha hx hzz]
      · have hzz := (Bool.not_eq_false' _).mp z
        refine xc_next ⟨_, _, rfl, fun y hy => ?_⟩
        rw [List.take_add_one, hx] at hy
        simp at hy
        exact hy.elim (ha y) fun q => q ▸ hzz
    obtain ⟨s3, s4, rfl, hall⟩ := hI
    rw [enumD_length, List.take_length] at hall
    have em := map_pn hall
    have hnear : ∀ t ∈ e1.map pnOf, nearP 100 t := fun t ht => by
      obtain ⟨x, hx, rfl⟩ := List.mem_map.mp ht
      exact (isPn_get (hall x hx)).2.1
    cases hd2 : rows d2 with
    | none =>
      exact xs_when (S := ⟨K, fxM a, G, H, E⟩) (b := true) (et_orT ((et_not (et_B (ev_callE d2 (ea_cons (ev_var rfl) ea_nil) True.intro))).imp fun b hb => by rw [← hb, en2, hd2]; rfl)) (fun _ => xc_raise T.e_BadSeams.oex T.e_BadSeams.nv (ev_neg ev_int) (by
        show initP _ _ _ _ _
        unfold initP
        rw [hd1]
        simp only
        rw [if_pos hz, fbG_none e1 0 hall, hd2]
        trivial)) fun z => by cases z
    | some q2 =>
      obtain ⟨b2, e2⟩ := q2
      have ep2 := rows_seq hd2
      subst ep2
      have ip : ∀ r, (if e2.length ≤ 18 then
          match fbS (e1.map pnOf) 0 [] e2 with
          | some k => r = .ex C2 (.int (k : Nat))
          | none => ((∀ p, p < e1.length → Rch (e2.map smOf) 0 p) ∧ r = .ok (sailFs (e1.map pnOf) (e2.map smOf)) []) ∨ ((¬ ∀ p, p < e1.length → Rch (e2.map smOf) 0 p) ∧ r = .ex C2 (.int (-1)))
        else r = .ex C2 (.int (-1))) → initP C1 C2 (seqD b1 e1) (seqD b2 e2) r := fun r h => by
        unfold initP
        rw [hd1]
        simp only
        rw [if_pos hz, fbG_none e1 0 hall, hd2]
        exact h
      refine xs_when (S := ⟨K, fxM a, G, H, E⟩) (b := !decide (e2.length ≤ 18)) (et_is (et_or (a := false) (et_is (et_not (et_B (ev_callE (seqD b2 e2) (ea_cons (ev_var rfl) ea_nil) True.intro))) (by rw [en2, hd2]; rfl)) fun _ => et_test (ev_C0 (ev_lenA (b := b2) (ds := e2) (ev_var rfl)) ev_int)) (by rw [Bool.false_or, Bool.eq_iff_iff]; simp; omega)) (fun z => ?_) fun z => ?_
      · have h18 : ¬ e2.length ≤ 18 := of_decide_eq_false ((Bool.not_eq_true' _).mp z)
        exact xc_raise T.e_BadSeams.oex T.e_BadSeams.nv (ev_neg ev_int) (ip _ (by rw [if_neg h18]))
      have h18 : e2.length ≤ 18 := of_decide_eq_true ((Bool.not_eq_false' _).mp z)
      refine xs_setfQ (i := 0) (j := 4) rfl (by decide) (by simp) eq_newN T.m_beside.cls T.a_sewn (by simp) fun b vf1 => ?_
      refine xs_for (im_enumA (b := b2) (ds := e2) (ev_var rfl)) (fun k ρ => ∃ (s3 s5 : Sl) (sw : List (Sd × Sd)), ρ = [.own a (.ins CS dx vf1 [("sewn", .r (.ref b))]), .dat (seqD b1 e1), .dat (seqD b2 e2), s3, .gho b (moD b false (dSw sw)), s5] ∧ sw = sewn ((e2.take k).map smOf) ∧ (∀ x ∈ e2.take k, isSm (e1.map pnOf) x = true) ∧ fbS (e1.map pnOf) 0 [] e2 = fbS (e1.map pnOf) k sw (e2.drop k)) ⟨s3, .no, [], rfl, rfl, by simp, rfl⟩ (fun k d ρ1 hd' hI => ?_) (fun ρ1 hI => ?_)
      · obtain ⟨s3', s5, sw, rfl, hsw, hok, hfb⟩ := hI
        obtain ⟨x, hx, rfl⟩ := enumD_get hd'
        have hkl : k < e2.length := (List.getElem?_eq_some_iff.mp hx).1
        have hxe : e2[k] = x := (List.getElem?_eq_some_iff.mp hx).2
        rw [List.drop_eq_getElem_cons hkl, hxe] at hfb
        refine ⟨_, _, tg_two, ?_⟩
        rw [Nat.zero_add]
        have eseq : ∀ {ρ : Rho}, ρ[1]? = some (.dat (seqD b1 e1)) → Ev ⟨K, fxM a, G, H, E⟩ (tVar 1) ρ (Eq (.dat (seqD b1 ((e1.map pnOf).map dPn)))) := fun h => by
          rw [← em]
          exact ev_var h
        have hpre : (e1.map pnOf).length ≤ 1000 ∧ ∀ t ∈ e1.map pnOf, nearP 100 t := ⟨by rw [List.length_map]; omega, hnear⟩
        have badk : ((isSm (e1.map pnOf) x && ((sw.lookup (smOf x).1).isNone && (sw.lookup (smOf x).2).isNone)) = false) → initP C1 C2 (seqD b1 e1) (seqD b2 e2) (.ex C2 (.int (k : Nat))) := fun h => ip _ (by
          have : fbS (e1.map pnOf) 0 [] e2 = some k := by
            rw [hfb]
            unfold fbS
            rw [h]
            rfl
          rw [if_pos h18, this])
        cases hsm : isSm (e1.map pnOf) x with
        | false =>
          exact xs_when (S := ⟨K, fxM a, G, H, E⟩) (b := true) (et_orT ((et_not (et_B (ev_callE ((b1, e1.map pnOf), x) (ea_cons (eseq rfl) (ea_cons (ev_var rfl) ea_nil)) hpre))).imp fun b hb => by rw [← hb]; show true = !isSm (e1.map pnOf) x; rw [hsm]; rfl)) (fun _ => xc_raise T.e_BadSeams.oex T.e_BadSeams.nv (ev_var rfl) (badk (by rw [hsm]; rfl))) fun z => by cases z
        | true =>
          obtain ⟨exs, hso⟩ := isSm_get hsm
          generalize hsdef : smOf x = sm at exs hso badk hfb
          have key : ∀ {ρ : Rho} {lo hi : Option Int} {tl th : TO} {sd : Sd}, ρ[5]? = some (.dat x) → EvO ⟨K, fxM a, G, H, E⟩ tl ρ lo → EvO ⟨K, fxM a, G, H, E⟩ th ρ hi → cutD [.int (sm.1.1 : Nat), .int (sm.1.2 : Nat), .int (sm.2.1 : Nat), .int (sm.2.2 : Nat)] lo hi = [.int (sd.1 : Nat), .int (sd.2 : Nat)] → Ev ⟨K, fxM a, G, H, E⟩ (tSl (rSlA K) (tVar 5) tl th) ρ (Eq (.dat (dSd sd))) := fun {ρ lo hi tl th sd} h hl hh hc => (ev_cutA (ds := [.int (sm.1.1 : Nat), .int (sm.1.2 : Nat), .int (sm.2.1 : Nat), .int (sm.2.2 : Nat)]) ((ev_var h).cast (by rw [exs]; rfl)) hl hh).cast (by rw [hc]; rfl)
          have self : ∀ {ρ : Rho}, ρ[0]? = some (.own a (.ins CS dx vf1 [("sewn", .r (.ref b))])) → Ev ⟨K, fxM a, G, H, E⟩ (tFld K (tVar 0) "sewn") ρ (Eq (.raw (.ref b))) := fun h => ev_fldX (x := .r (.ref b)) h T.m_beside.cls T.a_sewn rfl
          have hin : ∀ {ρ : Rho} {ty : TE} {sd : Sd}, ρ[0]? = some (.own a (.ins CS dx vf1 [("sewn", .r (.ref b))])) → ρ[4]? = some (.gho b (moD b false (dSw sw))) → Ev ⟨K, fxM a, G, H, E⟩ ty ρ (Eq (.dat (dSd sd))) → Ev ⟨K, fxM a, G, H, E⟩ (tXIn K ty (tFld K (tVar 0) "sewn")) ρ (Eq (.dat (.bool (sw.lookup sd).isSome))) := fun h0 h4 hy => (ev_xin (dc_gho (self h0) h4) hy (key_sd _)).cast (by rw [gD_sw, Option.isSome_map])
          have c1 : cutD [.int (sm.1.1 : Nat), .int (sm.1.2 : Nat), .int (sm.2.1 : Nat), .int (sm.2.2 : Nat)] none (some 2) = [.int (sm.1.1 : Nat), .int (sm.1.2 : Nat)] := rfl
          have c2 : cutD [.int (sm.1.1 : Nat), .int (sm.1.2 : Nat), .int (sm.2.1 : Nat), .int (sm.2.2 : Nat)] (some 2) none = [.int (sm.2.1 : Nat), .int (sm.2.2 : Nat)] := rfl
          refine xs_when (b := (sw.lookup sm.1).isSome || (sw.lookup sm.2).isSome) (et_is (et_or (a := false) (et_is (et_not (et_B (ev_callE ((b1, e1.map pnOf), x) (ea_cons (eseq rfl) (ea_cons (ev_var rfl) ea_nil)) hpre))) (by show (!isSm (e1.map pnOf) x) = false; rw [hsm]; rfl)) fun _ => et_or (et_B (hin rfl rfl (key rfl eo_none (eo_some ev_int) c1))) fun _ => et_B (hin rfl rfl (key rfl (eo_some ev_int) eo_none c2))) (by rw [Bool.false_or])) (fun z => ?_) fun z => ?_
          · refine xc_raise T.e_BadSeams.oex T.e_BadSeams.nv (ev_var rfl) (badk ?_)
            rw [hsm, Bool.true_and, ← Option.not_isSome, ← Option.not_isSome, ← Bool.not_or, z]
            rfl
          rw [Bool.or_eq_false_iff] at z
          have n1 : sw.lookup sm.1 = none := by
            have := z.1
            cases h : sw.lookup sm.1 with
            | none => rfl
            | some v =>
              rw [h] at this
              cases this
          have n2 : sw.lookup sm.2 = none := by
            have := z.2
            cases h : sw.lookup sm.2 with
            | none => rfl
            | some v =>
              rw [h] at this
              cases this
          have hlt := (seamOk_iff.mp hso).2.1
          have n3 : (sw ++ [(sm.1, sm.2)]).lookup sm.2 = none := by
            rw [lookup_none, List.map_append, List.mem_append, not_or]
            refine ⟨lookup_none.mp n2, ?_⟩
            simp only [List.map_cons, List.map_nil, List.mem_singleton]
            intro e
            rw [e] at hlt
            omega
          have swl : sw.length ≤ 36 := by
            rw [hsw]
            unfold sewn
            rw [List.length_flatMap]
            have : ∀ l : List Sm, (l.map fun s : Sm => [(s.1, s.2), (s.2, s.1)].length).sum ≤ 2 * l.length := fun l => by
              induction l with
              | nil => simp
              | cons s l ih =>
                simp only [List.map_cons, List.sum_cons, List.length_cons, List.length_nil] at ih ⊢
                omega
            have h1 := this ((e2.take k).map smOf)
            have h2 : ((e2.take k).map smOf).length ≤ 18 := by
              rw [List.length_map, List.length_take]
              omega
            omega
          refine xs_xputG (j := 4) (a := b) (f := false) (ds := dSw sw) (dk := dSd sm.1) (d := dSd sm.2) (self rfl) rfl (key rfl (eo_some ev_int) eo_none c2) (key rfl eo_none (eo_some ev_int) c1) (key_sd _) (by unfold dSw; rw [List.length_map]; omega) ?_
          rw [pD_sw n1]
          refine xc_xputG (j := 4) (a := b) (f := false) (ds := dSw (sw ++ [(sm.1, sm.2)])) (dk := dSd sm.2) (d := dSd sm.1) (self rfl) rfl (key rfl eo_none (eo_some ev_int) c1) (key rfl (eo_some ev_int) eo_none c2) (key_sd _) (by unfold dSw; rw [List.length_map, List.length_append, List.length_singleton]; omega) ?_
          rw [pD_sw n3]
          have et : e2.take (k + 1) = e2.take k ++ [x] := by
            rw [List.take_add_one, hx]
            rfl
          refine ⟨_, _, sw ++ [(sm.1, sm.2)] ++ [(sm.2, sm.1)], rfl, ?_, fun y hy => ?_, ?_⟩
          · rw [et, List.map_append, sewn_app, ← hsw, List.append_assoc]
            simp only [List.map_cons, List.map_nil, hsdef]
            rfl
          · rw [et] at hy
            rcases List.mem_append.mp hy with q | q
            · exact hok y q
            · rw [List.mem_singleton.mp q]
              exact hsm
          · rw [hfb]
            conv => lhs; unfold fbS
            rw [hsdef, hsm, n1, n2, List.append_assoc]
            rfl
      · obtain ⟨s3', s5, sw, rfl, hsw, hok, hfb⟩ := hI
        rw [enumD_length, List.take_length] at hsw hok
        rw [enumD_length, List.drop_length] at hfb
        have hfb : fbS (e1.map pnOf) 0 [] e2 = none := hfb
        have ems : e2 = (e2.map smOf).map dSm := by
          rw [List.map_map]
          refine ((List.map_congr_left fun d hd => ?_).trans (List.map_id e2)).symm
          exact (isSm_get (hok d hd)).1.symm
        refine xs_setfE (i := 0) (d := .tuple e1) rfl (ev_tupA (b := b1) (ev_var rfl)) T.m_beside.cls T.a_panels (by simp) fun vf2 => ?_
        rw [putD_neg (by decide +kernel), show ∀ x : Fv, putD (Str.ofString "panels") x [] = [(Str.ofString "panels", x)] from fun _ => rfl]
        refine xs_setfE (i := 0) (d := .tuple e2) rfl (ev_tupA (b := b2) (ev_var rfl)) T.m_beside.cls T.a_seams (by simp) fun vf3 => ?_
        rw [putD_neg (by decide +kernel), putD_neg (by decide +kernel), show ∀ x : Fv, putD (Str.ofString "seams") x [] = [(Str.ofString "seams", x)] from fun _ => rfl]
        refine xs_lockF (i := 0) (j := 4) (a := b) (b := a) (f := false) (ds := dSw sw) (n := "sewn") rfl rfl rfl ?_
        rw [putD_pos]
        have efs : [(Str.ofString "sewn", Fv.k false (dSw sw)), (Str.ofString "panels", Fv.d (.tuple e1)), (Str.ofString "seams", Fv.d (.tuple e2))] = sailFs (e1.map pnOf) (e2.map smOf) := by
          unfold sailFs
          rw [← em, ← ems, ← hsw]
        rw [efs]
        refine xc_freezeO (i := 0) rfl ?_
        have hseam : ∀ s ∈ e2.map smOf, seamOk (e1.map pnOf) s = true := fun s hs => by
          obtain ⟨d, hd, rfl⟩ := List.mem_map.mp hs
          exact (isSm_get (hok d hd)).2
        refine xc_ifP (p := fun t => t = true ↔ ¬ ∀ p, p < e1.length → Rch (e2.map smOf) 0 p) (et_testP (evT_C0 (P := fun t => t = true ↔ ¬ ∀ p, p < e1.length → Rch (e2.map smOf) 0 p) (p := fun n => ∃ ds, n = ((ds : List (D × D)).length : Nat) ∧ ∃ ks : List Nat, ks.Nodup ∧ (∀ y ∈ ks, y < e1.length) ∧ (∀ y, y ∈ ks ↔ Rch (e2.map smOf) 0 y) ∧ ds = dSeen ks) (q := fun n => n = (e1.length : Nat)) (ev_lenXP (ev_methK (ev_varOb rfl) rfl (ea_cons ev_int ea_nil) fun ss' e => ⟨((e1.map pnOf, e2.map smOf), 0), by rw [← e]; rfl, ⟨by rw [List.length_map]; omega, hseam, by rw [List.length_map]; exact hz.1⟩, fun s h => ?_, fun C d h => ?_⟩)) ((ev_lenA (b := b1) (ds := e1) (ev_var rfl)).toI rfl) fun i j hi hj => ?_)) (fun ht => ?_) fun ht => ?_
        · obtain ⟨ks, h1, h2, h3, h4⟩ := h
          cases h4
          exact ⟨_, rfl, ks, h1, fun y hy => by have := h2 y hy; rw [List.length_map] at this; exact this, h3, rfl⟩
        · obtain ⟨ks, h1, h2, h3, h4⟩ := h
          cases h4
        · obtain ⟨ds, rfl, ks, h1, h2, h3, rfl⟩ := hi
          subst hj
          rw [decide_eq_true_eq, ← reach_all h1 h2 h3]
          unfold dSeen
          rw [List.length_map]
          omega
        · have hno := ht.mp rfl
          refine xc_raise T.e_BadSeams.oex T.e_BadSeams.nv (ev_neg ev_int) (ip _ ?_)
          rw [if_pos h18, hfb]
          exact .inr ⟨hno, rfl⟩
        · have hyes : ∀ p, p < e1.length → Rch (e2.map smOf) 0 p := Classical.byContradiction fun z => by
            have := ht.mpr z
            cases this
          refine xc_next ⟨sailFs (e1.map pnOf) (e2.map smOf), [], .inr rfl, fun p hp => (by cases hp), ip _ ?_⟩
          rw [if_pos h18, hfb]
          exact .inl ⟨hyes, rfl⟩

end
end K11

set_option Elab.async false
set_option linter.all false
set_option maxRecDepth 100000
set_option maxHeartbeats 4000000
namespace K11
open PySem PySem.Spec PyProof.Rows L2 Dl LamX StX RZ SM SD
section
variable {P : Program} {w : World} {K : PySem.W.Frag} {mg : Str → Option Value} {base : Heap} {C1 C2 fI CS : Addr} (T : Tx P w K mg base C1 C2 fI CS)
include T
omit T in
theorem at_pn2 {t : Pn} {k : Nat} (h : k < 3) : atI [dPt t.1, dPt t.2.1, dPt t.2.2] ((k : Int) - 2) = some (dPt (atC t ((k + 1) % 3))) := by
  match k, h with
  | 0, _ => rfl
  | 1, _ => rfl
  | 2, _ => rfl
theorem c__law_long : Cal P w K mg base 1 "_law_long" ["panel", "side"] (spI K fx0 (fun i : Pn × Nat => [.dat (dPn i.1), .dat (.int (i.2 : Nat))]) (fun i => nearP 100 i.1 ∧ i.2 < 3) (fun i => Eq (.ok (.dat (.int (lng i.1 i.2)))))) := by
  refine mk_cal T.d__law_long sc__law_long (fun _ => rfl) (fun _ _ _ _ _ _ us hl => match us, hl with | [_, _], _ => rfl) (fun f cdv A outer s H E hr i hp => ⟨_, (pss_cons (ps_par (i := 2) (j := 3) (by rfl) sc__law_long.nd rfl rfl (by decide) rfl rfl (pa_cons (pe_ix (r := rIxT K) ix_tup (pv 0) (pv 1) (fun _ _ => rfl)) (pa_cons (pe_ix (r := rIxT K) ix_tup (pv 0) (pe_op op_sub (pv 1) pe_int) (fun _ _ => rfl)) pa_nil)) (by rfl))
      (pss_one (ps_ret (pe_op op_add (pe_op op_pow (pe_op op_sub (pe_ix (r := rIxT K) ix_tup (pv 2) pe_int (fun _ _ => rfl)) (pe_ix (r := rIxT K) ix_tup (pv 3) pe_int (fun _ _ => rfl))) pe_int) (pe_op op_pow (pe_op op_sub (pe_ix (r := rIxT K) ix_tup (pv 2) pe_int (fun _ _ => rfl)) (pe_ix (r := rIxT K) ix_tup (pv 3) pe_int (fun _ _ => rfl))) pe_int))))), fun G => ?_⟩)
  obtain ⟨t, k⟩ := i
  obtain ⟨hn, hk⟩ := hp
  have hk' : k < 3 := hk
  refine xs_par (x := .dat (dPt (atC t k))) (y := .dat (dPt (atC t ((k + 1) % 3)))) (ea_cons (ev_ixU (ds := [dPt t.1, dPt t.2.1, dPt t.2.2]) (ev_var rfl) (ev_var rfl) (at_pn hk')) (ea_cons (ev_ixU (ds := [dPt t.1, dPt t.2.1, dPt t.2.2]) (ev_var rfl) (ev_I0 (ev_var rfl) ev_int) (at_pn2 hk')) ea_nil)) ?_
  have n1 := near_at hn k
  have n2 := near_at hn ((k + 1) % 3)
  show Xc _ _ _ (RetP (Eq (.ok (.dat (.int (sq (atC t k) (atC t ((k + 1) % 3))))))))
  generalize atC t k = p at n1 ⊢
  generalize atC t ((k + 1) % 3) = q at n2 ⊢
  obtain ⟨p1, p2⟩ := p
  obtain ⟨q1, q2⟩ := q
  obtain ⟨x1, x2, x3, x4⟩ := n1
  obtain ⟨y1, y2, y3, y4⟩ := n2
  simp only at x1 x2 x3 x4 y1 y2 y3 y4
  exact xc_ret (ev_I0 (ev_IC (ev_I0 (ev_ixU (ds := [.int p1, .int p2]) (ev_var rfl) ev_int rfl) (ev_ixU (ds := [.int q1, .int q2]) (ev_var rfl) ev_int rfl)) ev_int ⟨by decide, by decide, by omega⟩) (ev_IC (ev_I0 (ev_ixU (ds := [.int p1, .int p2]) (ev_var rfl) ev_int rfl) (ev_ixU (ds := [.int q1, .int q2]) (ev_var rfl) ev_int rfl)) ev_int ⟨by decide, by decide, by omega⟩)) rfl
theorem c__law_area : Cal P w K mg base 1 "_law_area" ["one", "middle", "other"] (spI K fx0 (fun i : Pn => [.dat (dPt i.1), .dat (dPt i.2.1), .dat (dPt i.2.2)]) (fun i => nearP 100000 i) (fun i => Eq (.ok (.dat (.int (cross i.1 i.2.1 i.2.2)))))) := by
  refine mk_cal T.d__law_area sc__law_area (fun _ => rfl) (fun _ _ _ _ _ _ us hl => match us, hl with | [_, _, _], _ => rfl) (fun f cdv A outer s H E hr i hp => ⟨_, (pss_one (ps_ret (pe_op op_sub (pe_op op_mul (pe_op op_sub (pe_ix (r := rIxT K) ix_tup (pv 1) pe_int (fun _ _ => rfl)) (pe_ix (r := rIxT K) ix_tup (pv 0) pe_int (fun _ _ => rfl))) (pe_op op_sub (pe_ix (r := rIxT K) ix_tup (pv 2) pe_int (fun _ _ => rfl)) (pe_ix (r := rIxT K) ix_tup (pv 0) pe_int (fun _ _ => rfl)))) (pe_op op_mul (pe_op op_sub (pe_ix (r := rIxT K) ix_tup (pv 1) pe_int (fun _ _ => rfl)) (pe_ix (r := rIxT K) ix_tup (pv 0) pe_int (fun _ _ => rfl))) (pe_op op_sub (pe_ix (r := rIxT K) ix_tup (pv 2) pe_int (fun _ _ => rfl)) (pe_ix (r := rIxT K) ix_tup (pv 0) pe_int (fun _ _ => rfl))))))), fun G => ?_⟩)
  obtain ⟨⟨a1, a2⟩, ⟨b1, b2⟩, ⟨c1, c2⟩⟩ := i
  obtain ⟨⟨x1, x2, x3, x4⟩, ⟨y1, y2, y3, y4⟩, ⟨z1, z2, z3, z4⟩⟩ := hp
  simp only at x1 x2 x3 x4 y1 y2 y3 y4 z1 z2 z3 z4
  have g : ∀ {i : Nat} {p : Pt} {ρ : Rho}, ρ[i]? = some (.dat (dPt p)) → Ev ⟨K, fx0, G, H, E⟩ (tOp (rIxT K) (tVar i) (tC (.int 0))) ρ (Eq (.dat (.int p.1))) ∧ Ev ⟨K, fx0, G, H, E⟩ (tOp (rIxT K) (tVar i) (tC (.int 1))) ρ (Eq (.dat (.int p.2))) := fun h => ⟨ev_ixU (ev_var h) ev_int rfl, ev_ixU (ev_var h) ev_int rfl⟩
  exact xc_ret (ev_I0 (ev_IC (ev_I0 (g (i := 1) rfl).1 (g (i := 0) rfl).1) (ev_I0 (g (i := 2) rfl).2 (g (i := 0) rfl).2) (.inl ⟨by show _ < b1 - a1; omega, by show b1 - a1 < _; omega⟩)) (ev_IC (ev_I0 (g (i := 1) rfl).2 (g (i := 0) rfl).2) (ev_I0 (g (i := 2) rfl).1 (g (i := 0) rfl).1) (.inl ⟨by show _ < b2 - a2; omega, by show b2 - a2 < _; omega⟩))) rfl
omit T in
theorem inD_sd (x : Sd) (l : List Sd) : inD (dSd x) (l.map dSd) = l.contains x := by
  unfold inD
  rw [List.any_map, List.contains_eq_any_beq]
  congr 1
  funext y
  show PyData.eqv (dSd y) (dSd x) = _
  unfold dSd
  simp only [PyData.eqv, PyData.eqvAll, Bool.and_true]
  rw [Bool.eq_iff_iff, beq_iff_eq, Bool.and_eq_true]
  obtain ⟨a, b⟩ := x
  obtain ⟨c, d⟩ := y
  simp only [beq_iff_eq, Prod.mk.injEq]
  omega
omit T in
theorem canLay_sds (l : List Sd) : PyData.canLayAll0 (l.map dSd) = true := by
  induction l with
  | nil => rfl
  | cons x l ih => simp [PyData.canLayAll0, PyData.canLay0, dSd, ih]
omit T in
theorem shaped_sd (x : Sd) : SeqAt.shaped (dSd x) = true := rfl
theorem c__law_free : Cal P w K mg base 1 "_law_free" ["panels", "seams"] (spZ fun z : Zb2 => spI K (fxB (bs2 z)) (fun i : SI => [.rd z.1 z.2.1 (i.1.map dPn), .rd z.2.2.1 z.2.2.2 (i.2.map dSm)]) (fun i => i.1.length ≤ 1000 ∧ i.2.length ≤ 1000) (fun i => Eq (.ok (.dat (.list ((freeL i.1.length i.2).map dSd)))))) := by
  refine mk_calZ T.d__law_free sc__law_free (fun _ _ => rfl) (fun _ _ _ _ _ _ us hl => match us, hl with | [_, _], _ => rfl) (fun z f cdv A outer s H E hr i hp => ⟨_, (pss_cons (ps_set (i := 2) sc__law_free.nd rfl (Or.inr rfl) (pe_op (r := rCatL K) op_catL (pe_lc (own := [("seam", 5)]) (by rfl) sc__law_free.nd (pi_list (pv 1)) (blkOk_by (N := ["panels", "seams", "sewn", "found", "panel", "seam", "side"]) (sc := defScope s__law_free) (own := [("seam", 5)]) (by decide +kernel)) (fun _ _ _ _ _ => (pg_name (i := 5) sc__law_free.nd rfl (by first | exact Or.inl rfl | exact Or.inr rfl))) (fun _ _ _ _ _ => pts_nil) (fun _ _ _ _ _ => (pe_slice (r := rSlA K) sl_tupA (pv 5) po_none (po_some pe_int)))) (pe_lc (own := [("seam", 5)]) (by rfl) sc__law_free.nd (pi_list (pv 1)) (blkOk_by (N := ["panels", "seams", "sewn", "found", "panel", "seam", "side"]) (sc := defScope s__law_free) (own := [("seam", 5)]) (by decide +kernel)) (fun _ _ _ _ _ => (pg_name (i := 5) sc__law_free.nd rfl (by first | exact Or.inl rfl | exact Or.inr rfl))) (fun _ _ _ _ _ => pts_nil) (fun _ _ _ _ _ => (pe_slice (r := rSlA K) sl_tupA (pv 5) (po_some pe_int) po_none)))))
      (pss_cons (ps_set (i := 3) sc__law_free.nd rfl (Or.inl rfl) (pe_lst pa_nil))
      (pss_cons (ps_for (passes_of rfl) rfl (pi_range1 (by rfl) T.b_range (pa_cons (pe_callB (r := fun xs H Q => ∃ p ys, xs = [.ref p] ∧ (SqL K H p ys ∨ SqT K H p ys) ∧ Q (.int ys.length) H) call_len_seq (by rfl) T.b_len (by decide +kernel) (pa_cons (pv 0) pa_nil)) pa_nil)) (pg_name (i := 4) sc__law_free.nd rfl (Or.inr rfl)) (pss_one (ps_set (i := 3) sc__law_free.nd rfl (Or.inl rfl) (pe_op (r := rCatL K) op_catL (pv 3) (pe_lc (own := [("side", 6)]) (by rfl) sc__law_free.nd (pi_range1 (by rfl) T.b_range (pa_cons pe_int pa_nil)) (blkOk_by (N := ["panels", "seams", "sewn", "found", "panel", "seam", "side"]) (sc := defScope s__law_free) (own := [("side", 6)]) (by decide +kernel)) (fun _ _ _ _ _ => (pg_name (i := 6) sc__law_free.nd rfl (by first | exact Or.inl rfl | exact Or.inr rfl))) (fun _ _ _ _ _ => (pts_one (pt_cmpR (r := rNotInS K) (op_notInS (u65 hr)) (pe_tup (pa_cons (pv 4) (pa_cons (pv 6) pa_nil))) (pv 2) (by rfl)))) (fun _ _ _ _ _ => (pe_tup (pa_cons (pv 4) (pa_cons (pv 6) pa_nil)))))))))
      (pss_one (ps_ret (pv 3)))))), fun G => ?_⟩)
  obtain ⟨a1, vs1, a2, vs2⟩ := z
  obtain ⟨ps, ss⟩ := i
  obtain ⟨h1, h2⟩ := hp
  have h1 : ps.length ≤ 1000 := h1
  have h2 : ss.length ≤ 1000 := h2
  have m1 : (a1, vs1) ∈ bs2 (a1, vs1, a2, vs2) := by simp [bs2]
  have m2 : (a2, vs2) ∈ bs2 (a1, vs1, a2, vs2) := by simp [bs2]
  have c1 : ∀ s : Sm, cutD [.int (s.1.1 : Nat), .int (s.1.2 : Nat), .int (s.2.1 : Nat), .int (s.2.2 : Nat)] none (some 2) = [.int (s.1.1 : Nat), .int (s.1.2 : Nat)] := fun _ => rfl
  have c2 : ∀ s : Sm, cutD [.int (s.1.1 : Nat), .int (s.1.2 : Nat), .int (s.2.1 : Nat), .int (s.2.2 : Nat)] (some 2) none = [.int (s.2.1 : Nat), .int (s.2.2 : Nat)] := fun _ => rfl
  refine xs_asg (S := ⟨K, fxB (bs2 (a1, vs1, a2, vs2)), G, H, E⟩) (s := .dat (.list ((used ss).map dSd))) ((ef_catL (ds := (ss.map Prod.fst).map dSd) (es := (ss.map Prod.snd).map dSd) (el_of ((ef_mapL (l := ss) (dα := dSm) (f := fun s => dSd s.1) (im_rd rfl m2) (by omega) fun s _ => ⟨[5], _, by simp, tg_name, (ev_cutA (ds := [.int (s.1.1 : Nat), .int (s.1.2 : Nat), .int (s.2.1 : Nat), .int (s.2.2 : Nat)]) (ev_var rfl) eo_none (eo_some ev_int)).cast (by rw [c1]; rfl)⟩).evE.cast (by rw [List.map_map]; rfl)))
    (el_of ((ef_mapL (l := ss) (dα := dSm) (f := fun s => dSd s.2) (im_rd rfl m2) (by omega) fun s _ => ⟨[5], _, by simp, tg_name, (ev_cutA (ds := [.int (s.1.1 : Nat), .int (s.1.2 : Nat), .int (s.2.1 : Nat), .int (s.2.2 : Nat)]) (ev_var rfl) (eo_some ev_int) eo_none).cast (by rw [c2]; rfl)⟩).evE.cast (by rw [List.map_map]; rfl))) (by simp; omega)).evE.cast (by unfold used; rw [List.map_append])) ?_
  refine xs_asg (s := .dat (.list [])) ev_lst0 ?_
  refine xs_for (im_rng1E (n := ps.length) ((ev_lenRd rfl m1).cast (by rw [List.length_map])) (by omega)) (fun k ρ => ∃ s4 : Sl, ρ = [.rd a1 vs1 (ps.map dPn), .rd a2 vs2 (ss.map dSm), .dat (.list ((used ss).map dSd)), .dat (.list ((freeL k ss).map dSd)), s4, .no, .no]) ⟨_, rfl⟩ (fun k d ρ1 hd hI => ?_) fun ρ1 hI => ?_
  · obtain ⟨s4, rfl⟩ := hI
    obtain ⟨hk, rfl⟩ := rngD_get hd
    rw [Int.zero_add]
    refine ⟨_, _, tg_name, ?_⟩
    have hfl := freeL_len k ss
    have hrl := rowF_len ss k
    refine xc_asg (s := .dat (.list ((freeL (k + 1) ss).map dSd))) ((ef_catL (ds := (freeL k ss).map dSd) (es := (rowF ss k).map dSd) (el_of (ev_var rfl)) (el_of ((ef_filterL (l := List.range 3) (dα := fun (x : Nat) => PyData.int (x : Int)) (c := fun s => !(used ss).contains (k, s)) (f := fun s => dSd (k, s)) (by
      have h := im_rng1E (S := ⟨K, fxB (bs2 (a1, vs1, a2, vs2)), G, H, E⟩) (te := tC (.int 3)) (ρ := [.rd a1 vs1 (ps.map dPn), .rd a2 vs2 (ss.map dSm), .dat (.list ((used ss).map dSd)), .dat (.list ((freeL k ss).map dSd)), .dat (.int (k : Nat)), .no, .no]) (n := 3) ev_int (by omega)
      rw [rng_nat] at h
      exact h) (by simp) fun s _ => ⟨[6], _, by simp, tg_name, et_is (et_test (ev_notInL (d := dSd (k, s)) (ev_tup2 (ev_var rfl) (ev_var rfl)) (el_of (ev_var rfl)) (shaped_sd _) (canLay_sds _))) (by rw [inD_sd]), fun _ => ev_tup2 (ev_var rfl) (ev_var rfl)⟩).evE.cast (by unfold rowF; rw [List.map_map]; rfl))) (by rw [List.length_map, List.length_map]; omega)).evE.cast (by rw [freeL_succ, List.map_append])) ?_
    exact ⟨_, rfl⟩
  · obtain ⟨s4, rfl⟩ := hI
    rw [rngD_length]
    exact xc_ret (ev_var rfl) rfl

/-- a panel that the law has drawn -/
def GoodP (t : Pn) : Prop := 0 < cross t.1 t.2.1 t.2.2 ∧ nearP 2 t
omit T in
theorem cross_flip (a b c : Pt) : cross a c b = -cross a b c := by
  unfold cross
  rw [Int.mul_comm (c.1 - a.1), Int.mul_comm (c.2 - a.2)]
  omega
theorem c__law_drawn_panel : Cal P w K mg base 3 "_law_drawn_panel" ["row"] (spZ fun z : RowZ => spI K (rowFx K z) (fun _ : Unit => [.raw (.ref z.r)]) (fun _ => True) (fun _ r => ∃ t : Pn, GoodP t ∧ r = .ok (.dat (dPn t)))) := by
  have c__law_taken := c__law_taken T
  have c__law_area := c__law_area T
  refine mk_calZ T.d__law_drawn_panel sc__law_drawn_panel (fun _ _ => rfl) (fun _ _ _ _ _ _ us hl => match us, hl with | [_], _ => rfl) (fun z f cdv A outer s H E hr i _ => ⟨_, (pss_cons (ps_set (i := 1) sc__law_drawn_panel.nd rfl (Or.inl rfl) (pe_lst pa_nil))
      (pss_cons (ps_for (passes_of rfl) rfl (pi_range1 (by rfl) T.b_range (pa_cons pe_int pa_nil)) (pg_name (i := 2) sc__law_drawn_panel.nd rfl (Or.inl rfl)) (pss_cons (ps_setLc (i := 1) (own := [("j", 4)]) (by rfl) sc__law_drawn_panel.nd rfl rfl (sw_true rfl rfl rfl (by decide +kernel)) (pi_range1 (by rfl) T.b_range (pa_cons pe_int pa_nil)) (blkOk_by (N := ["row", "spots", "k", "area", "j"]) (sc := defScope s__law_drawn_panel) (own := [("j", 4)]) (by decide +kernel)) (fun _ _ _ _ _ => (pg_name (i := 4) sc__law_drawn_panel.nd rfl (by first | exact Or.inl rfl | exact Or.inr rfl))) (fun _ _ _ _ _ => pts_nil) (fun _ _ _ _ _ => (pe_tup (pa_cons (pe_cal c__law_taken (hr.mono (by first | decide | omega)) rfl (pa_cons (pv 0) (pa_cons pe_int pa_nil))) (pa_cons (pe_cal c__law_taken (hr.mono (by first | decide | omega)) rfl (pa_cons (pv 0) (pa_cons pe_int pa_nil))) pa_nil)))))
      (pss_cons (ps_set (i := 3) sc__law_drawn_panel.nd rfl (Or.inl rfl) (pe_cal c__law_area (hr.mono (by first | decide | omega)) rfl (pa_cons (pe_ix (r := rIxL K) ix_list (pv 1) pe_int (fun _ _ => rfl)) (pa_cons (pe_ix (r := rIxL K) ix_list (pv 1) pe_int (fun _ _ => rfl)) (pa_cons (pe_ix (r := rIxL K) ix_list (pv 1) pe_int (fun _ _ => rfl)) pa_nil)))))
      (pss_one (ps_if (pt_cmpR (r := rNeD K) (op_neD (u64 hr)) (pv 3) pe_int (nomark _)) (pss_one ps_break) pss_nil)))))
      (pss_cons (ps_if (pt_cmpR (r := rEqD K) (op_eqD (u64 hr)) (pv 3) pe_int (nomark _)) (pss_one (ps_ret (pe_tup (pa_cons (pe_tup (pa_cons pe_int (pa_cons pe_int pa_nil))) (pa_cons (pe_tup (pa_cons pe_int (pa_cons pe_int pa_nil))) (pa_cons (pe_tup (pa_cons pe_int (pa_cons pe_int pa_nil))) pa_nil)))))) pss_nil)
      (pss_one (ps_ret (pe_ifExp (pt_cmpR op_gt (pv 3) pe_int (nomark _)) (pe_callTy (T := "tuple") (r := fun xs H Q => ∃ p ys, xs = [.ref p] ∧ ((SqL K H p ys ∧ ∀ l, H l = none → Q (.ref l) (upd H l (.tup ys))) ∨ (SqT K H p ys ∧ Q (.ref p) H))) call_tuple_of (by rfl) T.b_tuple (by decide +kernel) (pa_cons (pv 1) pa_nil)) (pe_tup (pa_cons (pe_ix (r := rIxL K) ix_list (pv 1) pe_int (fun _ _ => rfl)) (pa_cons (pe_ix (r := rIxL K) ix_list (pv 1) pe_int (fun _ _ => rfl)) (pa_cons (pe_ix (r := rIxL K) ix_list (pv 1) pe_int (fun _ _ => rfl)) pa_nil)))))))))), fun G => ?_⟩)
  have tk : ∀ {ρ : Rho}, ρ[0]? = some (.raw (.ref z.r)) → EvI ⟨K, rowFx K z, G, H, E⟩ (tCall (spTaken K) [] E0 (tCons (tVar 0) (tCons (tC (.int 3)) tNil))) ρ (fun i => 0 ≤ i ∧ i ≤ 2) := fun h => (ev_takenI (z := z) (ev_varR h) (ev_int.toI (p := fun m => m = 3) rfl) fun m e => by omega).imp fun s ⟨i, e, h0, m, hm, hi⟩ => ⟨i, e, h0, by omega⟩
  refine xs_asg (S := ⟨K, rowFx K z, G, H, E⟩) (s := .dat (.list [])) ev_lst0 ?_
  refine xs_cut (Q := fun ρ => ∃ (t : Pn) (s2 : Sl), nearP 2 t ∧ (∀ p ∈ [t.1, t.2.1, t.2.2], 0 ≤ p.1 ∧ 0 ≤ p.2) ∧ ρ = [.raw (.ref z.r), .dat (.list [dPt t.1, dPt t.2.1, dPt t.2.2]), s2, .dat (.int (cross t.1 t.2.1 t.2.2)), .no]) (xc_forE (im_rng1E (n := 9) ev_int (by omega)) (fun k ρ => ∃ s1 s2 s3 : Sl, ρ = [.raw (.ref z.r), s1, s2, s3, .no] ∧ (0 < k → ∃ t : Pn, nearP 2 t ∧ (∀ p ∈ [t.1, t.2.1, t.2.2], 0 ≤ p.1 ∧ 0 ≤ p.2) ∧ s1 = .dat (.list [dPt t.1, dPt t.2.1, dPt t.2.2]) ∧ s3 = .dat (.int (cross t.1 t.2.1 t.2.2)))) ⟨_, _, _, rfl, fun h => absurd h (Nat.lt_irrefl 0)⟩ (fun k d ρ1 hd hI => ?_) fun ρ1 hI => ?_) fun ρ' hQ => ?_
  · obtain ⟨s1, s2, s3, rfl, _⟩ := hI
    refine ⟨_, _, tg_name, ?_⟩
    refine xs_asgP (ef_many (dα := dPt) (good := fun p : Pt => 0 ≤ p.1 ∧ p.1 ≤ 2 ∧ 0 ≤ p.2 ∧ p.2 ≤ 2) (N := fun n => n = 3) (fun n h => by omega) (im_rng1 (ev_int.toI ⟨by omega, by omega, rngD_length _ _⟩)) fun d => ⟨[4], _, by simp, tg_name, ?_⟩).ev ?_
    · refine (ev_tup2P (p := fun d => ∃ i, d = .int i ∧ 0 ≤ i ∧ i ≤ 2) (q := fun d => ∃ i, d = .int i ∧ 0 ≤ i ∧ i ≤ 2) ((tk rfl).imp fun s ⟨i, e, h⟩ => ⟨_, e, i, rfl, h⟩) ((tk rfl).imp fun s ⟨i, e, h⟩ => ⟨_, e, i, rfl, h⟩)).imp fun s ⟨ds, e, x, y, e2, ⟨i, ei, hi⟩, ⟨j, ej, hj⟩⟩ => ⟨(i, j), by rw [e, e2, ei, ej]; rfl, hi.1, hi.2, hj.1, hj.2⟩
    rintro _ ⟨_, rfl, pts, rfl, hl, hg⟩
    obtain ⟨a, b, c, rfl⟩ : ∃ a b c, pts = [a, b, c] := by
      match pts, hl with
      | [a, b, c], _ => exact ⟨a, b, c, rfl⟩
    have ga := hg a (by simp)
    have gb := hg b (by simp)
    have gc := hg c (by simp)
    have nr : ∀ {p : Pt}, 0 ≤ p.1 ∧ p.1 ≤ 2 ∧ 0 ≤ p.2 ∧ p.2 ≤ 2 → near 2 p := fun h => ⟨by omega, h.2.1, by omega, h.2.2.2⟩
    have hn : nearP 2 (a, b, c) := ⟨nr ga, nr gb, nr gc⟩
    have hnn : ∀ p ∈ [a, b, c], 0 ≤ p.1 ∧ 0 ≤ p.2 := fun p hp => by
      have := hg p hp
      exact ⟨this.1, this.2.2.1⟩
    have hy : ∀ {k : Nat} {d : D} {ρ : Rho}, ρ[1]? = some (.dat (.list [dPt a, dPt b, dPt c])) → atI [dPt a, dPt b, dPt c] (k : Int) = some d → Ev ⟨K, rowFx K z, G, H, E⟩ (tOp (rIxL K) (tVar 1) (tC (.int (k : Nat)))) ρ (Eq (.dat d)) := fun h e => ev_ixL (el_of (ev_var h)) ev_int e
    refine xs_asg (s := .dat (.int (cross a b c))) (ev_callE (a, b, c) (ea_cons (hy (k := 0) rfl rfl) (ea_cons (hy (k := 1) rfl rfl) (ea_cons (hy (k := 2) rfl rfl) ea_nil))) (nearP_mono hn (by decide))) ?_
    refine xc_if (et_B (ev_neI (ev_var rfl) ev_int)) (fun _ => ?_) fun _ => ?_
    · exact xc_break ⟨(a, b, c), _, hn, hnn, rfl⟩
    · exact xc_next ⟨_, _, _, rfl, fun _ => ⟨(a, b, c), hn, hnn, rfl, rfl⟩⟩
  · obtain ⟨s1, s2, s3, rfl, h⟩ := hI
    rw [rngD_length] at h
    obtain ⟨t, h1, h2, rfl, rfl⟩ := h (by decide)
    exact ⟨t, s2, h1, h2, rfl⟩
  obtain ⟨t, s2, hn, hnn, rfl⟩ := hQ
  obtain ⟨a, b, c⟩ := t
  have hy : ∀ {k : Nat} {d : D} {ρ : Rho}, ρ[1]? = some (.dat (.list [dPt a, dPt b, dPt c])) → atI [dPt a, dPt b, dPt c] (k : Int) = some d → Ev ⟨K, rowFx K z, G, H, E⟩ (tOp (rIxL K) (tVar 1) (tC (.int (k : Nat)))) ρ (Eq (.dat d)) := fun h e => ev_ixL (el_of (ev_var h)) ev_int e
  refine xs_when (b := decide (cross a b c = 0)) (et_test (ev_eqI (ev_var rfl) ev_int)) (fun _ => ?_) fun hz => ?_
  · exact xc_ret (ev_tup (ds := [dPt (0, 0), dPt (1, 0), dPt (0, 1)]) (ea_cons (ev_tup2 ev_int ev_int) (ea_cons (ev_tup2 ev_int ev_int) (ea_cons (ev_tup2 ev_int ev_int) ea_nil))) (by simp)) ⟨((0, 0), (1, 0), (0, 1)), ⟨by decide, ⟨⟨by decide, by decide, by decide, by decide⟩, ⟨by decide, by decide, by decide, by decide⟩, ⟨by decide, by decide, by decide, by decide⟩⟩⟩, rfl⟩
  have hz : ¬ cross a b c = 0 := of_decide_eq_false hz
  by_cases hp : 0 < cross a b c
  · exact xc_ret (ev_if (b := true) (et_is (et_test (ev_C0 (ev_var rfl) ev_int)) (decide_eq_true hp)) (fun _ => ev_tupL (ds := [dPt a, dPt b, dPt c]) (el_of (ev_var rfl))) fun z => by cases z) ⟨(a, b, c), ⟨hp, hn⟩, rfl⟩
  · refine xc_ret (ev_if (b := false) (et_is (et_test (ev_C0 (ev_var rfl) ev_int)) (decide_eq_false hp)) (fun z => by cases z) fun _ => ev_tup (ds := [dPt a, dPt c, dPt b]) (ea_cons (hy (k := 0) rfl rfl) (ea_cons (hy (k := 2) rfl rfl) (ea_cons (hy (k := 1) rfl rfl) ea_nil))) (by simp)) ⟨(a, c, b), ⟨?_, ⟨hn.1, hn.2.2, hn.2.1⟩⟩, rfl⟩
    show 0 < cross a c b
    rw [cross_flip]
    omega

end
end K11

set_option Elab.async false
set_option linter.all false
set_option maxRecDepth 100000
set_option maxHeartbeats 4000000
namespace K11
open PySem PySem.Spec PyProof.Rows L2 Dl LamX StX RZ SM SD
section
variable {P : Program} {w : World} {K : PySem.W.Frag} {mg : Str → Option Value} {base : Heap} {C1 C2 fI CS : Addr} (T : Tx P w K mg base C1 C2 fI CS)
include T
omit T in
theorem ms2 {α : Type} (le : α → α → Bool) (a b : α) : [a, b].mergeSort le = if le a b then [a, b] else [b, a] := by
  simp [List.mergeSort, List.MergeSort.Internal.splitInTwo, List.merge]
omit T in
theorem srt2 {l : List Sd} {u v : Sd} (hu : u ∈ l) (hv : v ∈ l) : ∃ a b : Sd, srtD [dSd u, dSd v] = [dSd a, dSd b] ∧ a ∈ l ∧ b ∈ l ∧ (a.1 < b.1 ∨ (a.1 = b.1 ∧ a.2 ≤ b.2)) := by
  unfold srtD
  rw [ms2]
  have e : PySem.W.dataLe false id (dSd u) (dSd v) = decide (u.1 < v.1 ∨ (u.1 = v.1 ∧ u.2 ≤ v.2)) := by
    show (!PySem.W.dataLt (dSd v) (dSd u)) = _
    unfold dSd
    rw [PySem.W.dataLt_ii, Bool.eq_iff_iff]
    simp
    omega
  rw [e]
  by_cases h : u.1 < v.1 ∨ (u.1 = v.1 ∧ u.2 ≤ v.2)
  · rw [decide_eq_true h, if_pos rfl]
    exact ⟨u, v, rfl, hu, hv, h⟩
  · rw [decide_eq_false h, if_neg (by decide)]
    exact ⟨v, u, rfl, hv, hu, by omega⟩
omit T in
theorem sortOk_sds (l : List Sd) (h : l.length ≤ 1000000) : SortOk (l.map dSd) := by
  refine ⟨PySem.W.AllAlike.of fun a b => (by simp [dSd, PySem.W.alike, PySem.W.alikeAll]), .inl (PySem.W.Sortable.tuples fun a => ⟨_, _, rfl⟩), by rw [List.length_map]; exact h, ?_, ?_⟩
  · clear h
    induction l with
    | nil => decide
    | cons x l ih =>
      rw [List.map_cons, PyData.depthAll]
      exact Nat.max_le.mpr ⟨by show (dSd x).depth ≤ 20; unfold dSd; simp [PyData.depth, PyData.depthAll], ih⟩
  · clear h
    induction l with
    | nil => rfl
    | cons x l ih =>
      rw [List.map_cons]
      simp only [PyData.hasDictAll, ih, Bool.or_false]
      rfl
theorem c__law_sail : Cal P w K mg base 4 "_law_sail" ["row", "many"] (spZ fun z : RowZ => spI K (rowFx K z) (fun m : Nat => [.raw (.ref z.r), .dat (.int (m : Nat))]) (fun m => 1 ≤ m ∧ m ≤ 12) (fun m r => ∃ (ps : List Pn) (ss : List Sm), Ok ps ss ∧ (∀ t ∈ ps, GoodP t) ∧ ps.length ≤ m ∧ r = .ok (.dat (.tuple [.list (ps.map dPn), .list (ss.map dSm)])))) := by
  have c__law_taken := c__law_taken T
  have c__law_pick := c__law_pick T
  have c__law_free := c__law_free T
  have c__law_long := c__law_long T
  have c__law_drawn_panel := c__law_drawn_panel T
  refine mk_calZ T.d__law_sail sc__law_sail (fun _ _ => rfl) (fun _ _ _ _ _ _ us hl => match us, hl with | [_, _], _ => rfl) (fun z f cdv A outer s H E hr m hp => ⟨_, (pss_cons (ps_asg (pe_tup (pa_cons (pe_lst (pa_cons (pe_cal c__law_drawn_panel (hr.mono (by first | decide | omega)) rfl (pa_cons (pv 0) pa_nil)) pa_nil)) (pa_cons (pe_lst pa_nil) pa_nil))) (pg_tup (by rfl) (pgs_cons (pg_name (i := 2) sc__law_sail.nd rfl (Or.inr rfl)) (pgs_cons (pg_name (i := 3) sc__law_sail.nd rfl (Or.inl rfl)) pgs_nil))))
      (pss_cons (ps_for (passes_of rfl) rfl (pi_range1 (by rfl) T.b_range (pa_cons (pe_cal c__law_taken (hr.mono (by first | decide | omega)) rfl (pa_cons (pv 0) (pa_cons (pv 1) pa_nil))) pa_nil)) (pg_name (i := 4) sc__law_sail.nd rfl (Or.inl rfl)) (pss_cons (ps_set (i := 5) sc__law_sail.nd rfl (Or.inr rfl) (pe_cal c__law_pick (hr.mono (by first | decide | omega)) rfl (pa_cons (pv 0) (pa_cons (pe_op (r := rCatL K) op_catL (pe_cal c__law_free (hr.mono (by first | decide | omega)) rfl (pa_cons (pv 2) (pa_cons (pv 3) pa_nil))) (pe_lst (pa_cons (pe_tup (pa_cons pe_int (pa_cons pe_int pa_nil))) pa_nil))) pa_nil))))
      (pss_cons (ps_set (i := 6) sc__law_sail.nd rfl (Or.inr rfl) (pe_cal c__law_drawn_panel (hr.mono (by first | decide | omega)) rfl (pa_cons (pv 0) pa_nil)))
      (pss_cons (ps_setLc (i := 7) (own := [("at", 11)]) (by rfl) sc__law_sail.nd rfl rfl (sw_true rfl rfl rfl (by decide +kernel)) (pi_range1 (by rfl) T.b_range (pa_cons pe_int pa_nil)) (blkOk_by (N := ["row", "many", "panels", "seams", "k", "side", "new", "same", "free", "one", "other", "at"]) (sc := defScope s__law_sail) (own := [("at", 11)]) (by decide +kernel)) (fun _ _ _ _ _ => (pg_name (i := 11) sc__law_sail.nd rfl (by first | exact Or.inl rfl | exact Or.inr rfl))) (fun _ _ _ _ _ => (pts_one (pt_cmpR (r := rEqD K) (op_eqD (u64 hr)) (pe_cal c__law_long (hr.mono (by first | decide | omega)) rfl (pa_cons (pv 6) (pa_cons (pv 11) pa_nil))) (pe_cal c__law_long (hr.mono (by first | decide | omega)) rfl (pa_cons (pe_ix (r := rIxL K) ix_list (pv 2) (pe_ix (r := rIxT K) ix_tup (pv 5) pe_int (fun _ _ => rfl)) (fun _ _ => rfl)) (pa_cons (pe_ix (r := rIxT K) ix_tup (pv 5) pe_int (fun _ _ => rfl)) pa_nil))) (nomark _)))) (fun _ _ _ _ _ => (pv 11)))
      (pss_one (ps_if (PW.pt (pw_and (pt_cmpR (r := rNeD K) (op_neD (u64 hr)) (pv 7) (pe_lst pa_nil) (nomark _)) (pw_and1 (pt_cmpR (r := rInS K) (op_inS (u65 hr)) (pv 5) (pe_cal c__law_free (hr.mono (by first | decide | omega)) rfl (pa_cons (pv 2) (pa_cons (pv 3) pa_nil))) (by rfl))))) (pss_cons (ps_expr (pe_bm PySem.F.plainAttrs_list PySem.F.slot_list_append PySem.F.type_list_append mt_append (pv 2) (pa_cons (pv 6) pa_nil)))
      (pss_one (ps_expr (pe_bm PySem.F.plainAttrs_list PySem.F.slot_list_append PySem.F.type_list_append mt_append (pv 3) (pa_cons (pe_op (r := rCatA K) op_catA (pv 5) (pe_tup (pa_cons (pe_op op_sub (pe_callB (r := fun xs H Q => ∃ p ys, xs = [.ref p] ∧ (SqL K H p ys ∨ SqT K H p ys) ∧ Q (.int ys.length) H) call_len_seq (by rfl) T.b_len (by decide +kernel) (pa_cons (pv 2) pa_nil)) pe_int) (pa_cons (pe_cal c__law_pick (hr.mono (by first | decide | omega)) rfl (pa_cons (pv 0) (pa_cons (pv 7) pa_nil))) pa_nil)))) pa_nil))))) pss_nil))))))
      (pss_cons (ps_for (passes_of rfl) rfl (pi_range1 (by rfl) T.b_range (pa_cons (pe_cal c__law_taken (hr.mono (by first | decide | omega)) rfl (pa_cons (pv 0) (pa_cons (pe_op op_mul pe_int (pv 1)) pa_nil))) pa_nil)) (pg_name (i := 4) sc__law_sail.nd rfl (Or.inl rfl)) (pss_cons (ps_set (i := 8) sc__law_sail.nd rfl (Or.inl rfl) (pe_cal c__law_free (hr.mono (by first | decide | omega)) rfl (pa_cons (pv 2) (pa_cons (pv 3) pa_nil))))
      (pss_one (ps_if (PW.pt (pw_and (pt_cmpR (r := rNeD K) (op_neD (u64 hr)) (pv 8) (pe_lst pa_nil) (nomark _)) (pw_and1 (pt_cmpR op_lt (pe_callB (r := fun xs H Q => ∃ p ys, xs = [.ref p] ∧ (SqL K H p ys ∨ SqT K H p ys) ∧ Q (.int ys.length) H) call_len_seq (by rfl) T.b_len (by decide +kernel) (pa_cons (pv 3) pa_nil)) pe_int (nomark _))))) (pss_cons (ps_asg (pe_callB (r := rSortD K) (cr_sortD (u64 hr)) (by rfl) T.b_sorted (by decide +kernel) (pa_cons (pe_lst (pa_cons (pe_cal c__law_pick (hr.mono (by first | decide | omega)) rfl (pa_cons (pv 0) (pa_cons (pv 8) pa_nil))) (pa_cons (pe_cal c__law_pick (hr.mono (by first | decide | omega)) rfl (pa_cons (pv 0) (pa_cons (pv 8) pa_nil))) pa_nil))) pa_nil)) (pg_lst (K := K) (n := 2) rfl rfl (pgs_cons (pg_name (i := 9) sc__law_sail.nd rfl (Or.inl rfl)) (pgs_cons (pg_name (i := 10) sc__law_sail.nd rfl (Or.inl rfl)) pgs_nil))))
      (pss_one (ps_if (PW.pt (pw_and (pt_cmpR (r := rNeD K) (op_neD (u64 hr)) (pv 9) (pv 10) (nomark _)) (pw_and1 (pt_cmpR (r := rEqD K) (op_eqD (u64 hr)) (pe_cal c__law_long (hr.mono (by first | decide | omega)) rfl (pa_cons (pe_ix (r := rIxL K) ix_list (pv 2) (pe_ix (r := rIxT K) ix_tup (pv 9) pe_int (fun _ _ => rfl)) (fun _ _ => rfl)) (pa_cons (pe_ix (r := rIxT K) ix_tup (pv 9) pe_int (fun _ _ => rfl)) pa_nil))) (pe_cal c__law_long (hr.mono (by first | decide | omega)) rfl (pa_cons (pe_ix (r := rIxL K) ix_list (pv 2) (pe_ix (r := rIxT K) ix_tup (pv 10) pe_int (fun _ _ => rfl)) (fun _ _ => rfl)) (pa_cons (pe_ix (r := rIxT K) ix_tup (pv 10) pe_int (fun _ _ => rfl)) pa_nil))) (nomark _))))) (pss_one (ps_expr (pe_bm PySem.F.plainAttrs_list PySem.F.slot_list_append PySem.F.type_list_append mt_append (pv 3) (pa_cons (pe_op (r := rCatA K) op_catA (pv 9) (pv 10)) pa_nil)))) pss_nil))) pss_nil))))
      (pss_one (ps_ret (pe_tup (pa_cons (pv 2) (pa_cons (pv 3) pa_nil)))))))), fun G => ?_⟩)
  obtain ⟨m1, m2⟩ := hp
  have drawn : ∀ {ρ : Rho}, ρ[0]? = some (.raw (.ref z.r)) → Ev ⟨K, rowFx K z, G, H, E⟩ (tCall (spZ fun z : RowZ => spI K (rowFx K z) (fun _ : Unit => [.raw (.ref z.r)]) (fun _ => True) (fun _ r => ∃ t : Pn, GoodP t ∧ r = .ok (.dat (dPn t)))) [] E0 (tCons (tVar 0) tNil)) ρ (fun s => ∃ d, s = .dat d ∧ ∃ t, d = dPn t ∧ GoodP t) := fun h => ev_callZ (fx := rowFx K) z (ea_cons (ev_varR h) ea_nil) fun ss e => ⟨(), e.symm, True.intro, fun s ⟨t, ht, e⟩ => ⟨_, Re.ok.inj e, t, rfl, ht⟩, fun C d ⟨_, _, e⟩ => by cases e⟩
  have tkI : ∀ {ρ : Rho} {te : TE} {q' : Int → Prop}, ρ[0]? = some (.raw (.ref z.r)) → EvI ⟨K, rowFx K z, G, H, E⟩ te ρ q' → (∀ m, q' m → 0 < m ∧ m < 1073741824) → EvI ⟨K, rowFx K z, G, H, E⟩ (tCall (spTaken K) [] E0 (tCons (tVar 0) (tCons te tNil))) ρ (fun x => 0 ≤ x ∧ ∃ m, q' m ∧ x < m) := fun h he hq => ev_takenI (z := z) (ev_varR h) he hq
  have free : ∀ {ρ : Rho} {ap as : Addr} {ps : List Pn} {ss : List Sm}, ρ[2]? = some (.own ap (.lst (ps.map dPn))) → ρ[3]? = some (.own as (.lst (ss.map dSm))) → Ok ps ss → Ev ⟨K, rowFx K z, G, H, E⟩ (tCall (spZ fun z : Zb2 => spI K (fxB (bs2 z)) (fun i : SI => [.rd z.1 z.2.1 (i.1.map dPn), .rd z.2.2.1 z.2.2.2 (i.2.map dSm)]) (fun i => i.1.length ≤ 1000 ∧ i.2.length ≤ 1000) (fun i => Eq (.ok (.dat (.list ((freeL i.1.length i.2).map dSd)))))) [] E0 (tCons (tVar 2) (tCons (tVar 3) tNil))) ρ (Eq (.dat (.list ((freeL ps.length ss).map dSd)))) := fun {ρ ap as ps ss} h2 h3 ok => ev_call2B (S := ⟨K, rowFx K z, G, H, E⟩) (args := fun (z : Zb2) (i : SI) => [.rd z.1 z.2.1 (i.1.map dPn), .rd z.2.2.1 z.2.2.2 (i.2.map dSm)]) (ps, ss) h2 h3 ⟨by have := ok.n2; show ps.length ≤ 1000; omega, by have := ok.m; show ss.length ≤ 1000; omega⟩ (fun _ _ => rfl) (fun s e => Re.ok.inj e) (fun C d e => by cases e)
  have gp : ∀ {ps : List Pn} {x : Nat}, x < ps.length → atI (ps.map dPn) (x : Int) = some (dPn (ps.getD x default)) := fun {ps x} h => at_nat (by rw [List.getElem?_map, List.getElem?_eq_getElem h]; simp [List.getD, h])
  have gn : ∀ {ps : List Pn} {ss : List Sm} {x : Nat}, Ok ps ss → x < ps.length → nearP 100 (ps.getD x default) := fun {ps ss x} ok h => by
    rw [show ps.getD x default = ps[x] by simp [List.getD, h]]
    exact (ok.pn _ (List.getElem_mem h)).2
  have long : ∀ {ρ : Rho} {j : Nat} {ap : Addr} {ps : List Pn} {ss : List Sm} {x : Sd}, ρ[2]? = some (.own ap (.lst (ps.map dPn))) → ρ[j]? = some (.dat (dSd x)) → Ok ps ss → x.1 < ps.length → x.2 < 3 → Ev ⟨K, rowFx K z, G, H, E⟩ (tCall (spI K fx0 (fun i : Pn × Nat => [.dat (dPn i.1), .dat (.int (i.2 : Nat))]) (fun i => nearP 100 i.1 ∧ i.2 < 3) (fun i => Eq (.ok (.dat (.int (lng i.1 i.2)))))) [] E0 (tCons (tOp (rIxL K) (tVar 2) (tOp (rIxT K) (tVar j) (tC (.int 0)))) (tCons (tOp (rIxT K) (tVar j) (tC (.int 1))) tNil))) ρ (Eq (.dat (.int (lng (ps.getD x.1 default) x.2)))) := fun {ρ j ap ps ss x} h2 hj ok x1 x2 => ev_callE (ps.getD x.1 default, x.2) (ea_cons (ev_ixL (el_own h2) (ev_ixU (ds := [.int (x.1 : Nat), .int (x.2 : Nat)]) (ev_var hj) ev_int rfl) (gp x1)) (ea_cons (ev_ixU (ds := [.int (x.1 : Nat), .int (x.2 : Nat)]) (ev_var hj) ev_int rfl) ea_nil)) ⟨gn ok x1, x2⟩
  refine xs_asg2F (S := ⟨K, rowFx K z, G, H, E⟩) (i := 2) (j := 3) (ef_lst1P (drawn rfl)) ef_nil (by decide) fun ap as ds es hds hes => ?_
  obtain ⟨_, rfl, t0, rfl, ht0⟩ := hds
  subst hes
  refine xs_cut (Q := fun ρ => ∃ (ps : List Pn) (ss : List Sm) (s4 s5 s6 s7 : Sl), Ok ps ss ∧ (∀ t ∈ ps, GoodP t) ∧ ps.length ≤ m ∧ ρ = [.raw (.ref z.r), .dat (.int (m : Nat)), .own ap (.lst (ps.map dPn)), .own as (.lst (ss.map dSm)), s4, s5, s6, s7, .no, .no, .no, .no]) (xc_for (p := fun ds => ds.length < m) (im_rng1 ((tkI rfl ((ev_var rfl).toI (p := fun i => i = (m : Int)) rfl) fun m e => by omega).imp fun s ⟨i, e, h0, m', hm, hi⟩ => ⟨i, e, h0, by omega, by rw [rngD_length]; omega⟩)) (fun ds k ρ => ∃ (ps : List Pn) (ss : List Sm) (s4 s5 s6 s7 : Sl), Ok ps ss ∧ (∀ t ∈ ps, GoodP t) ∧ ps.length ≤ 1 + k ∧ ss.length ≤ k ∧ ρ = [.raw (.ref z.r), .dat (.int (m : Nat)), .own ap (.lst (ps.map dPn)), .own as (.lst (ss.map dSm)), s4, s5, s6, s7, .no, .no, .no, .no])
    (fun ds hd => ⟨[t0], [], .no, .no, .no, .no, ok_one ht0.1 (nearP_mono ht0.2 (by decide)), fun t ht => by rw [List.mem_singleton.mp ht]; exact ht0, by simp, by simp, rfl⟩) (fun ds k d ρ1 hds hd hI => ?_) fun ds ρ1 hds hI => ?_) fun ρ' hQ => ?_
  · obtain ⟨ps, ss, s4, s5, s6, s7, ok, hg, hpl, hsl, rfl⟩ := hI
    have hk : k < ds.length := (List.getElem?_eq_some_iff.mp hd).1
    have n1 := ok.n1
    refine ⟨_, _, tg_name, ?_⟩
    have hfl := freeL_len ps.length ss
    have n2 := ok.n2
    refine xs_asgP (ev_pick (z := z) (l := (freeL ps.length ss ++ [(0, 0)]).map dSd) (ev_varR rfl) ((ef_catL (ds := (freeL ps.length ss).map dSd) (es := [dSd (0, 0)]) (el_of (free rfl rfl ok)) (el_of (ev_lst (ds := [dSd (0, 0)]) (ea_cons (ev_tup2 ev_int ev_int) ea_nil) (by simp))) (by simp; omega)).evE.cast (by rw [List.map_append]; rfl)) (by simp) (by simp; omega)) ?_
    rintro _ ⟨d', rfl, hd'⟩
    obtain ⟨x, hx, rfl⟩ := List.mem_map.mp hd'
    have hx2 : x.1 < ps.length ∧ x.2 < 3 := by
      rcases List.mem_append.mp hx with q | q
      · exact ⟨(mem_free.mp q).1, (mem_free.mp q).2.1⟩
      · rw [List.mem_singleton.mp q]
        exact ⟨n1, by decide⟩
    refine xs_asgP (drawn rfl) ?_
    rintro _ ⟨_, rfl, t, rfl, ht⟩
    have htn : nearP 100 t := nearP_mono ht.2 (by decide)
    refine xs_asg (s := .dat (.list (dNs ((List.range 3).filter fun k => decide (lng t k = lng (ps.getD x.1 default) x.2))))) ((ef_filterL (l := List.range 3) (dα := fun (x : Nat) => PyData.int (x : Int)) (c := fun k => decide (lng t k = lng (ps.getD x.1 default) x.2)) (f := fun (x : Nat) => PyData.int (x : Int)) (by
      rw [show (List.range 3).map (fun (x : Nat) => PyData.int (x : Int)) = rngD 0 3 from (rng_nat 3).symm]
      exact im_rng1E (n := 3) ev_int (by omega)) (by simp) fun k hk3 => ⟨[11], _, by simp, tg_name, et_test (ev_eqI (ev_callE (t, k) (ea_cons (ev_var rfl) (ea_cons (ev_var rfl) ea_nil)) ⟨htn, List.mem_range.mp hk3⟩) (long (j := 5) rfl rfl ok hx2.1 hx2.2)), fun _ => ev_var rfl⟩).evE) ?_
    generalize hsame : (List.range 3).filter (fun k => decide (lng t k = lng (ps.getD x.1 default) x.2)) = same
    have hsm : ∀ k ∈ same, k < 3 ∧ lng t k = lng (ps.getD x.1 default) x.2 := fun k hk => by
      rw [← hsame, List.mem_filter] at hk
      exact ⟨List.mem_range.mp hk.1, of_decide_eq_true hk.2⟩
    have hsl3 : same.length ≤ 3 := by
      rw [← hsame]
      exact Nat.le_trans (List.length_filter_le _ _) (by simp)
    refine xc_if (b := !decide (dNs same = []) && (freeL ps.length ss).contains x) (et_and (et_is (et_test (ev_neD (d := .list (dNs same)) (d' := .list []) (ev_var rfl) ev_lst0 (by
      have := shaped_ints (zs same)
      rw [zs_dNs] at this
      exact this) rfl)) (by rw [eqv_nilL])) fun _ => et_test (ev_inL (d := dSd x) (ev_var rfl) (el_of (free rfl rfl ok)) (shaped_sd _) (canLay_sds _) |>.cast (by rw [inD_sd]))) (fun hb => ?_) fun _ => ?_
    · rw [Bool.and_eq_true] at hb
      have hne : same ≠ [] := fun e => by
        rw [e] at hb
        exact absurd hb.1 (by simp [dNs])
      have hxf : x ∈ freeL ps.length ss := by simpa using hb.2
      refine xs_append (p := Eq (dPn t)) rfl ((ev_var (d := dPn t) rfl).imp fun s e => ⟨_, e.symm, rfl⟩) (by rw [List.length_map]; omega) fun d e => ?_
      subst e
      have hls : ss.length ≤ 18 := ok.m
      refine xc_append (p := fun d => ∃ k ∈ same, d = dSm (x, (ps.length, k))) rfl ((ev_catAP (ds := [.int (x.1 : Nat), .int (x.2 : Nat)]) (p := fun es => ∃ k ∈ same, es = [.int (ps.length : Nat), .int (k : Nat)]) (ev_var rfl) ((ev_tup2P (p := fun d => d = .int (ps.length : Nat)) (q := fun d => d ∈ dNs same) (((ev_I0 (ev_lenL (ds := ps.map dPn ++ [dPn t]) (el_own rfl)) ev_int).cast (by rw [List.length_append, List.length_map, List.length_singleton]; show Sl.dat (.int _) = .dat (.int _); congr 2; omega)).toP rfl) (ev_pick (z := z) (l := dNs same) (ev_varR rfl) (ev_var rfl) (by simp [dNs, hne]) (by unfold dNs; rw [List.length_map]; omega))).imp fun s ⟨ds, e, y1, y2, e2, hy1, hy2⟩ => ⟨ds, e, by
        unfold dNs at hy2
        obtain ⟨k, hk, rfl⟩ := List.mem_map.mp hy2
        exact ⟨k, hk, by rw [e2, hy1]⟩⟩) fun es ⟨k, _, e⟩ => by rw [e]; simp).imp fun s ⟨es, e, k, hk, e2⟩ => ⟨_, e, k, hk, by rw [e2]; rfl⟩) (by rw [List.length_map]; omega) fun d ⟨k, hk, e⟩ => ?_
      subst e
      obtain ⟨k3, hll⟩ := hsm k hk
      refine ⟨ps ++ [t], ss ++ [(x, (ps.length, k))], .dat d, .dat (dSd x), .dat (dPn t), .dat (.list (dNs same)), ok_grow ok ht.1 htn hxf k3 hll (by omega) (by omega), fun u hu => ?_, by simp; omega, by simp; omega, ?_⟩
      · rcases List.mem_append.mp hu with q | q
        · exact hg u q
        · rw [List.mem_singleton.mp q]
          exact ht
      · rw [List.map_append, List.map_append]
        rfl
    · exact xc_next ⟨ps, ss, _, _, _, _, ok, hg, by omega, by omega, rfl⟩
  · obtain ⟨ps, ss, s4, s5, s6, s7, ok, hg, hpl, hsl, rfl⟩ := hI
    exact ⟨ps, ss, s4, s5, s6, s7, ok, hg, by omega, rfl⟩
  obtain ⟨ps, ss, s4, s5, s6, s7, ok, hg, hpl, rfl⟩ := hQ
  have n1 := ok.n1
  have n2 := ok.n2
  refine xs_cut (Q := fun ρ => ∃ (ss : List Sm) (s4 s8 s9 s10 : Sl), Ok ps ss ∧ ρ = [.raw (.ref z.r), .dat (.int (m : Nat)), .own ap (.lst (ps.map dPn)), .own as (.lst (ss.map dSm)), s4, s5, s6, s7, s8, s9, s10, .no]) (xc_for (p := fun ds => ds.length < 1000) (im_rng1 ((tkI rfl ((ev_IC (ev_int) (ev_var rfl) (.inl ⟨by omega, by omega⟩)).toI (p := fun i => i = 2 * (m : Int)) rfl) fun m e => by omega).imp fun s ⟨i, e, h0, m', hm, hi⟩ => ⟨i, e, h0, by omega, by rw [rngD_length]; omega⟩)) (fun ds k ρ => ∃ (ss : List Sm) (s4 s8 s9 s10 : Sl), Ok ps ss ∧ ρ = [.raw (.ref z.r), .dat (.int (m : Nat)), .own ap (.lst (ps.map dPn)), .own as (.lst (ss.map dSm)), s4, s5, s6, s7, s8, s9, s10, .no])
    (fun ds hd => ⟨ss, s4, .no, .no, .no, ok, rfl⟩) (fun ds k d ρ1 hds hd hI => ?_) fun ds ρ1 hds hI => hI) fun ρ' hQ => ?_
  · obtain ⟨ss, s4, s8, s9, s10, ok, rfl⟩ := hI
    have hfl := freeL_len ps.length ss
    refine ⟨_, _, tg_name, ?_⟩
    refine xs_asg (free rfl rfl ok) ?_
    refine xc_if (b := !decide ((freeL ps.length ss).map dSd = []) && decide (ss.length < 18)) (et_and (et_is (et_test (ev_neD (d := .list ((freeL ps.length ss).map dSd)) (d' := .list []) (ev_var rfl) ev_lst0 (shaped_sc (t := .l 1000 kSd) (okS_lm (by omega) fun x _ => sc_sd x)) rfl)) (by rw [eqv_nilL])) fun _ => et_is (et_test (ev_C0 (ev_lenL (ds := ss.map dSm) (el_own rfl)) ev_int)) (by rw [List.length_map]; apply decide_eq_decide.mpr; omega)) (fun hb => ?_) fun _ => xc_next ⟨ss, _, _, _, _, ok, rfl⟩
    rw [Bool.and_eq_true] at hb
    have hne : freeL ps.length ss ≠ [] := fun e => by
      rw [e] at hb
      exact absurd hb.1 (by simp)
    have h18 : ss.length < 18 := of_decide_eq_true hb.2
    have pick : ∀ {ρ : Rho}, ρ[0]? = some (.raw (.ref z.r)) → ρ[8]? = some (.dat (.list ((freeL ps.length ss).map dSd))) → Ev ⟨K, rowFx K z, G, H, E⟩ _ ρ (fun s => ∃ d, s = .dat d ∧ d ∈ (freeL ps.length ss).map dSd) := fun h0 h8 => ev_pick (z := z) (E' := E0) (ti := tVar 0) (te := tVar 8) (l := (freeL ps.length ss).map dSd) (ev_varR h0) (ev_var h8) (by simp [hne]) (by rw [List.length_map]; omega)
    refine xs_asgTP (ev_sortP (p := fun ds => ∃ u v, u ∈ freeL ps.length ss ∧ v ∈ freeL ps.length ss ∧ ds = [u, v].map dSd) ((ev_lst2P (pick rfl rfl) (pick rfl rfl)).imp fun s ⟨ds, e, x, y, e2, hx, hy⟩ => by
      obtain ⟨u, hu, rfl⟩ := List.mem_map.mp hx
      obtain ⟨v, hv, rfl⟩ := List.mem_map.mp hy
      exact ⟨ds, e, u, v, hu, hv, e2⟩) fun ds ⟨u, v, _, _, e⟩ => by rw [e]; exact sortOk_sds [u, v] (by simp)) ?_
    rintro _ ⟨_, rfl, u, v, hu, hv, rfl⟩
    obtain ⟨a, b, es, ha, hb', hlt⟩ := srt2 hu hv
    rw [show srtD ([u, v].map dSd) = [dSd a, dSd b] from es]
    obtain ⟨a1, a2, a3⟩ := mem_free.mp ha
    obtain ⟨b1, b2, b3⟩ := mem_free.mp hb'
    refine ⟨_, _, tg_two', ?_⟩
    refine xc_if (b := !decide (a = b) && decide (lng (ps.getD a.1 default) a.2 = lng (ps.getD b.1 default) b.2)) (et_and (et_is (et_test (ev_neSc (d := dSd a) (e := dSd b) kSd (ev_var rfl) (ev_var rfl) (sc_sd _) (sc_sd _))) (by congr 1; exact decide_eq_decide.mpr dSd_inj)) fun _ => et_test (ev_eqI (long (j := 9) rfl rfl ok a1 a2) (long (j := 10) rfl rfl ok b1 b2))) (fun hc => ?_) fun _ => xc_next ⟨ss, _, _, _, _, ok, rfl⟩
    rw [Bool.and_eq_true] at hc
    have hab : a ≠ b := of_decide_eq_false ((Bool.not_eq_true' _).mp hc.1)
    have hll := of_decide_eq_true hc.2
    refine xc_append (p := fun d => d = dSm (a, b)) rfl (((ev_catA (ds := [.int (a.1 : Nat), .int (a.2 : Nat)]) (es := [.int (b.1 : Nat), .int (b.2 : Nat)]) (ev_var rfl) (ev_var rfl) (by simp)).toP (p := fun d => d = dSm (a, b)) rfl)) (by rw [List.length_map]; omega) fun d e => ?_
    subst e
    refine ⟨ss ++ [(a, b)], .dat d, .dat (.list ((freeL ps.length ss).map dSd)), .dat (dSd a), .dat (dSd b), ok_close ok ha hb' ?_ hll h18, by rw [List.map_append]; rfl⟩
    rcases hlt with q | ⟨q1, q2⟩
    · exact .inl q
    · refine .inr ⟨q1, ?_⟩
      rcases Nat.lt_or_eq_of_le q2 with q | q
      · exact q
      · exact absurd (Prod.ext q1 q) hab
  obtain ⟨ss, s4, s8, s9, s10, ok, rfl⟩ := hQ
  refine xs_freeze (i := 2) (a := ap) (ds := ps.map dPn) rfl ?_
  refine xs_freeze (i := 3) (a := as) (ds := ss.map dSm) rfl ?_
  exact xc_ret (ev_tup2 (ev_var rfl) (ev_var rfl)) ⟨ps, ss, ok, hg, hpl, rfl⟩

end
end K11

set_option linter.all false
/-! SailP: corners, points and rims in plain words. -/
namespace SM
def allC (n : Nat) : List Sd := (List.range n).flatMap fun p => (List.range 3).map fun s => (p, s)
theorem mem_all {n : Nat} {x : Sd} : x ∈ allC n ↔ x.1 < n ∧ x.2 < 3 := by
  unfold allC
  rw [List.mem_flatMap]
  constructor
  · rintro ⟨p, hp, h⟩
    obtain ⟨s, hs, rfl⟩ := List.mem_map.mp h
    exact ⟨List.mem_range.mp hp, List.mem_range.mp hs⟩
  · rintro ⟨h1, h2⟩
    exact ⟨x.1, List.mem_range.mpr h1, List.mem_map.mpr ⟨x.2, List.mem_range.mpr h2, rfl⟩⟩
def ltS (a b : Sd) : Prop := a.1 < b.1 ∨ (a.1 = b.1 ∧ a.2 < b.2)
theorem ltS_irrefl (a : Sd) : ¬ ltS a a := fun h => by unfold ltS at h; omega
theorem ltS_trans {a b c : Sd} (h1 : ltS a b) (h2 : ltS b c) : ltS a c := by unfold ltS at *; omega
theorem ltS_tri (a b : Sd) : ltS a b ∨ a = b ∨ ltS b a := by
  obtain ⟨a1, a2⟩ := a
  obtain ⟨b1, b2⟩ := b
  simp only [ltS, Prod.mk.injEq]
  omega
theorem all_succ (n : Nat) : allC (n + 1) = allC n ++ (List.range 3).map fun s => (n, s) := by
  unfold allC
  rw [show List.range (n + 1) = List.range n ++ [n] from List.range_succ, List.flatMap_append, List.flatMap_singleton]
theorem all_pw : ∀ n, (allC n).Pairwise ltS
  | 0 => List.Pairwise.nil
  | n + 1 => by
    rw [all_succ, List.pairwise_append]
    refine ⟨all_pw n, ?_, fun a ha b hb => ?_⟩
    · rw [List.pairwise_map]
      exact List.pairwise_lt_range.imp fun h => .inr ⟨rfl, h⟩
    · obtain ⟨h1, _⟩ := mem_all.mp ha
      obtain ⟨s, _, rfl⟩ := List.mem_map.mp hb
      exact .inl h1
theorem pw_nd {l : List Sd} (h : l.Pairwise ltS) : l.Nodup := by
  refine List.Pairwise.imp (fun {a b} h => ?_) h
  rintro rfl
  exact ltS_irrefl _ h
theorem all_nd (n : Nat) : (allC n).Nodup := pw_nd (all_pw n)
theorem all_len (n : Nat) : (allC n).length = 3 * n := by
  induction n with
  | zero => rfl
  | succ n ih =>
    rw [all_succ, List.length_append, ih, List.length_map, List.length_range]
    omega
theorem free_eq (n : Nat) (ss : List Sm) : freeL n ss = (allC n).filter fun x => !(used ss).contains x := by
  unfold freeL allC rowF
  rw [List.filter_flatMap]
  refine congrArg (fun f => (List.range n).flatMap f) (funext fun p => ?_)
  rw [List.filter_map]
  rfl
def ix1 (x : Sd) : Sd := (x.1, (x.2 + 1) % 3)
def ix2 (x : Sd) : Sd := (x.1, (x.2 + 2) % 3)
theorem ix12 {x : Sd} (h : x.2 < 3) : ix1 (ix2 x) = x := by
  obtain ⟨a, b⟩ := x
  simp only [ix1, ix2, Prod.mk.injEq, true_and]
  simp only at h
  omega
theorem ix21 {x : Sd} (h : x.2 < 3) : ix2 (ix1 x) = x := by
  obtain ⟨a, b⟩ := x
  simp only [ix1, ix2, Prod.mk.injEq, true_and]
  simp only at h
  omega
theorem ix1_lt (x : Sd) : (ix1 x).2 < 3 := Nat.mod_lt _ (by decide)
theorem ix1_inj {x y : Sd} (h1 : x.2 < 3) (h2 : y.2 < 3) (h : ix1 x = ix1 y) : x = y := by rw [← ix21 h1, ← ix21 h2, h]
/-- what a seam's list must be -/
structure Sn (n : Nat) (ss : List Sm) : Prop where
  nd : ((sewn ss).map Prod.fst).Nodup
  lt : ∀ s ∈ ss, (s.1.1 < n ∧ s.1.2 < 3) ∧ s.2.1 < n ∧ s.2.2 < 3
theorem Ok.sn {ps : List Pn} {ss : List Sm} (h : Ok ps ss) : Sn ps.length ss := ⟨h.nd, fun s hs => by
  obtain ⟨⟨h1, h2, h3, h4⟩, _⟩ := seamOk_iff.mp (h.ok s hs)
  exact ⟨⟨h1, h3⟩, h2, h4⟩⟩
theorem sn_of {ps : List Pn} {ss : List Sm} (h : ∀ s ∈ ss, seamOk ps s = true) (nd : ((sewn ss).map Prod.fst).Nodup) : Sn ps.length ss := ⟨nd, fun s hs => by
  obtain ⟨⟨h1, h2, h3, h4⟩, _⟩ := seamOk_iff.mp (h s hs)
  exact ⟨⟨h1, h3⟩, h2, h4⟩⟩
section
variable {n : Nat} {ss : List Sm}
theorem look_cases {c s : Sd} (h : (sewn ss).lookup c = some s) : ∃ m ∈ ss, (c = m.1 ∧ s = m.2) ∨ (c = m.2 ∧ s = m.1) := by
  obtain ⟨m, hm, e⟩ := sewn_mem.mp (lookup_mem h)
  simp only [Prod.mk.injEq] at e
  exact ⟨m, hm, e⟩
theorem look_lt (o : Sn n ss) {c s : Sd} (h : (sewn ss).lookup c = some s) : (c.1 < n ∧ c.2 < 3) ∧ s.1 < n ∧ s.2 < 3 := by
  obtain ⟨m, hm, ⟨rfl, rfl⟩ | ⟨rfl, rfl⟩⟩ := look_cases h
  · exact o.lt m hm
  · exact ⟨(o.lt m hm).2, (o.lt m hm).1⟩
theorem look_1 (o : Sn n ss) {m : Sm} (h : m ∈ ss) : (sewn ss).lookup m.1 = some m.2 := mem_lookup o.nd (sewn_mem.mpr ⟨m, h, .inl rfl⟩)
theorem look_2 (o : Sn n ss) {m : Sm} (h : m ∈ ss) : (sewn ss).lookup m.2 = some m.1 := mem_lookup o.nd (sewn_mem.mpr ⟨m, h, .inr rfl⟩)
theorem look_back (o : Sn n ss) {c s : Sd} (h : (sewn ss).lookup c = some s) : (sewn ss).lookup s = some c := by
  obtain ⟨m, hm, ⟨rfl, rfl⟩ | ⟨rfl, rfl⟩⟩ := look_cases h
  · exact look_2 o hm
  · exact look_1 o hm
theorem look_used {c : Sd} : ((sewn ss).lookup c).isSome = (used ss).contains c := by
  have h1 : ∀ {α β : Type} [BEq α] [LawfulBEq α] (k : α) (l : List (α × β)), (l.lookup k).isSome = (l.map Prod.fst).contains k := by
    intro α β _ _ k l
    induction l with
    | nil => rfl
    | cons p l ih =>
      obtain ⟨a, b⟩ := p
      rw [List.lookup_cons, List.map_cons, List.contains_cons]
      cases e : k == a
      · simpa using ih
      · rfl
  rw [h1, Bool.eq_iff_iff, List.contains_iff_mem, List.contains_iff_mem, mem_used]
/-! ### corners laid on one another -/
def nearC (ss : List Sm) (c : Sd) : List Sd := ((sewn ss).lookup c).toList.map ix1 ++ ((sewn ss).lookup (ix2 c)).toList
theorem mem_near {c x : Sd} : x ∈ nearC ss c ↔ (∃ s, (sewn ss).lookup c = some s ∧ x = ix1 s) ∨ (sewn ss).lookup (ix2 c) = some x := by
  unfold nearC
  rw [List.mem_append, List.mem_map]
  constructor
  · rintro (⟨s, h1, h2⟩ | h)
    · exact .inl ⟨s, by simpa using h1, h2.symm⟩
    · exact .inr (by simpa using h)
  · rintro (⟨s, h1, h2⟩ | h)
    · exact .inl ⟨s, by simpa using h1, h2.symm⟩
    · exact .inr (by simpa using h)
def edgC (ss : List Sm) : List (Sd × Sd) := ss.flatMap fun s => [(s.1, ix1 s.2), (ix1 s.1, s.2)]
theorem mem_edg {e : Sd × Sd} : e ∈ edgC ss ↔ ∃ m ∈ ss, e = (m.1, ix1 m.2) ∨ e = (ix1 m.1, m.2) := by
  unfold edgC
  rw [List.mem_flatMap]
  simp
theorem near_edg (o : Sn n ss) {c x : Sd} (hc : c.2 < 3) : x ∈ nearC ss c ↔ ((c, x) ∈ edgC ss ∨ (x, c) ∈ edgC ss) := by
  rw [mem_near, mem_edg, mem_edg]
  constructor
  · rintro (⟨s, h1, rfl⟩ | h)
    · obtain ⟨m, hm, ⟨rfl, rfl⟩ | ⟨rfl, rfl⟩⟩ := look_cases h1
      · exact .inl ⟨m, hm, .inl rfl⟩
      · exact .inr ⟨m, hm, .inr rfl⟩
    · obtain ⟨m, hm, ⟨e, rfl⟩ | ⟨e, rfl⟩⟩ := look_cases h
      · exact .inl ⟨m, hm, .inr (by rw [← e, ix12 hc])⟩
      · exact .inr ⟨m, hm, .inl (by rw [← e, ix12 hc])⟩
  · rintro (⟨m, hm, e | e⟩ | ⟨m, hm, e | e⟩)
    · rw [Prod.mk.injEq] at e
      rw [e.1, e.2]
      exact .inl ⟨m.2, look_1 o hm, rfl⟩
    · rw [Prod.mk.injEq] at e
      rw [e.1, e.2, ix21 (o.lt m hm).1.2]
      exact .inr (look_1 o hm)
    · rw [Prod.mk.injEq] at e
      rw [e.1, e.2, ix21 (o.lt m hm).2.2]
      exact .inr (look_2 o hm)
    · rw [Prod.mk.injEq] at e
      rw [e.1, e.2]
      exact .inl ⟨m.1, look_2 o hm, rfl⟩
end
/-- hanging together by pairs -/
inductive Cg {α : Type} (E : List (α × α)) (a : α) : α → Prop
  | refl : Cg E a a
  | step {b c : α} : Cg E a b → ((b, c) ∈ E ∨ (c, b) ∈ E) → Cg E a c
section
variable {α : Type} {E : List (α × α)} {a b c : α}
theorem Cg.trans (h : Cg E a b) (q : Cg E b c) : Cg E a c := by
  induction q with
  | refl => exact h
  | step _ e ih => exact .step ih e
theorem Cg.one (h : (a, b) ∈ E) : Cg E a b := .step .refl (.inl h)
theorem Cg.symm (h : Cg E a b) : Cg E b a := by
  induction h with
  | refl => exact .refl
  | step _ e ih => exact (Cg.step .refl e.symm).trans ih
theorem Cg.mono {F : List (α × α)} (s : ∀ e ∈ E, e ∈ F) (h : Cg E a b) : Cg F a b := by
  induction h with
  | refl => exact .refl
  | step _ e ih => exact .step ih (e.imp (s _) (s _))
/-- one pair more -/
theorem cg_snoc {u v i j : α} : Cg (E ++ [(u, v)]) i j ↔ Cg E i j ∨ (Cg E i u ∧ Cg E v j) ∨ (Cg E i v ∧ Cg E u j) := by
  constructor
  · intro h
    induction h with
    | refl => exact .inl .refl
    | step _ e ih =>
      rename_i b c _
      have key : ((b, c) ∈ E ∨ (c, b) ∈ E) ∨ (b = u ∧ c = v) ∨ (b = v ∧ c = u) := by
        simp only [List.mem_append, List.mem_singleton, Prod.mk.injEq] at e
        rcases e with (e | ⟨e1, e2⟩) | (e | ⟨e1, e2⟩)
        · exact .inl (.inl e)
        · exact .inr (.inl ⟨e1, e2⟩)
        · exact .inl (.inr e)
        · exact .inr (.inr ⟨e2, e1⟩)
      rcases key with e | ⟨rfl, rfl⟩ | ⟨rfl, rfl⟩
      · rcases ih with h | ⟨h1, h2⟩ | ⟨h1, h2⟩
        · exact .inl (.step h e)
        · exact .inr (.inl ⟨h1, .step h2 e⟩)
        · exact .inr (.inr ⟨h1, .step h2 e⟩)
      · rcases ih with h | ⟨h1, h2⟩ | ⟨h1, h2⟩
        · exact .inr (.inl ⟨h, .refl⟩)
        · exact .inr (.inl ⟨h1, .refl⟩)
        · exact .inl h1
      · rcases ih with h | ⟨h1, h2⟩ | ⟨h1, h2⟩
        · exact .inr (.inr ⟨h, .refl⟩)
        · exact .inl h1
        · exact .inr (.inr ⟨h1, .refl⟩)
  · have s : ∀ e ∈ E, e ∈ E ++ [(u, v)] := fun e h => List.mem_append_left _ h
    have uv : Cg (E ++ [(u, v)]) u v := .one (by simp)
    rintro (h | ⟨h1, h2⟩ | ⟨h1, h2⟩)
    · exact h.mono s
    · exact ((h1.mono s).trans uv).trans (h2.mono s)
    · exact ((h1.mono s).trans uv.symm).trans (h2.mono s)
theorem cg_nil {i j : α} : Cg ([] : List (α × α)) i j ↔ i = j := by
  constructor
  · intro h
    cases h with
    | refl => rfl
    | step _ e => simp at e
  · rintro rfl
    exact .refl
end
/-! ### what is reached by a list of neighbours -/
inductive Rc {α : Type} (nb : α → List α) (a : α) : α → Prop
  | start : Rc nb a a
  | step {p q : α} : Rc nb a p → q ∈ nb p → Rc nb a q
/-- a search under way: ks seen, ws waiting, x those whose neighbours are being looked at -/
structure RIg {α : Type} (U : List α) (nb : α → List α) (a : α) (ks ws : List α) (x : α → Prop) : Prop where
  nd : ks.Nodup
  lt : ∀ y ∈ ks, y ∈ U
  st : a ∈ ks
  r : ∀ y ∈ ks, Rc nb a y
  w : ∀ y ∈ ws, y ∈ ks
  cl : ∀ y ∈ ks, y ∉ ws → ¬ x y → ∀ z ∈ nb y, z ∈ ks
section
variable {n : Nat} {ss : List Sm}
theorem near_all (o : Sn n ss) {c x : Sd} (h : x ∈ nearC ss c) : x ∈ allC n := by
  rcases mem_near.mp h with ⟨s, h1, rfl⟩ | h
  · exact mem_all.mpr ⟨(look_lt o h1).2.1, ix1_lt s⟩
  · exact mem_all.mpr (look_lt o h).2
theorem rc_cg (o : Sn n ss) {c x : Sd} (hc : c ∈ allC n) : Rc (nearC ss) c x ↔ Cg (edgC ss) c x := by
  constructor
  · intro h
    have : Cg (edgC ss) c x ∧ x ∈ allC n := by
      induction h with
      | start => exact ⟨.refl, hc⟩
      | step _ hq ih => exact ⟨.step ih.1 ((near_edg o (mem_all.mp ih.2).2).mp hq), near_all o hq⟩
    exact this.1
  · intro h
    have : Rc (nearC ss) c x ∧ x ∈ allC n := by
      induction h with
      | refl => exact ⟨.start, hc⟩
      | step _ e ih =>
        have := (near_edg o (mem_all.mp ih.2).2).mpr e
        exact ⟨.step ih.1 this, near_all o this⟩
    exact this.1
theorem cg_all (o : Sn n ss) {c x : Sd} (hc : c ∈ allC n) (h : Cg (edgC ss) c x) : x ∈ allC n := by
  have h := (rc_cg o hc).mpr h
  cases h with
  | start => exact hc
  | step _ hq => exact near_all o hq
/-! ### points -/
open Classical in
noncomputable def ptC (ss : List Sm) (n : Nat) (c : Sd) : List Sd := (allC n).filter fun x => decide (Cg (edgC ss) c x)
open Classical in
theorem mem_pt {c x : Sd} : x ∈ ptC ss n c ↔ x ∈ allC n ∧ Cg (edgC ss) c x := by
  unfold ptC
  rw [List.mem_filter, decide_eq_true_eq]
theorem pt_pw (c : Sd) : (ptC ss n c).Pairwise ltS := List.Pairwise.filter _ (all_pw n)
theorem pt_self {c : Sd} (hc : c ∈ allC n) : c ∈ ptC ss n c := mem_pt.mpr ⟨hc, .refl⟩
open Classical in
theorem pt_eq {c d : Sd} (h : Cg (edgC ss) c d) : ptC ss n c = ptC ss n d := by
  unfold ptC
  exact List.filter_congr fun x _ => decide_eq_decide.mpr ⟨fun z => h.symm.trans z, fun z => h.trans z⟩
theorem pt_len (c : Sd) : (ptC ss n c).length ≤ 3 * n := by
  rw [← all_len]
  exact List.length_filter_le _ _
open Classical in
/-- the points of a sail, by their least corners -/
noncomputable def pts (ss : List Sm) (n : Nat) : List (List Sd) := ((allC n).filter fun c => decide (∀ x ∈ ptC ss n c, ¬ ltS x c)).map (ptC ss n)
theorem pt_least {c : Sd} (hc : c ∈ allC n) (h : ∀ x ∈ ptC ss n c, ¬ ltS x c) : ∃ r, ptC ss n c = c :: r := by
  cases e : ptC ss n c with
  | nil =>
    have := pt_self (ss := ss) hc
    rw [e] at this
    cases this
  | cons x r =>
    have hx : x ∈ ptC ss n c := by rw [e]; exact List.mem_cons_self
    have hcm := pt_self (ss := ss) hc
    rw [e] at hcm
    rcases List.mem_cons.mp hcm with q | q
    · exact ⟨r, by rw [q]⟩
    · have pw := pt_pw (ss := ss) (n := n) c
      rw [e] at pw
      exact absurd ((List.pairwise_cons.mp pw).1 c q) (h x hx)
theorem pt_head {c : Sd} (hc : c ∈ allC n) : ∃ m, m ∈ allC n ∧ ptC ss n m = ptC ss n c ∧ ∀ x ∈ ptC ss n m, ¬ ltS x m := by
  cases e : ptC ss n c with
  | nil =>
    have := pt_self (ss := ss) hc
    rw [e] at this
    cases this
  | cons m r =>
    have hm : m ∈ ptC ss n c := by rw [e]; exact List.mem_cons_self
    obtain ⟨h1, h2⟩ := mem_pt.mp hm
    refine ⟨m, h1, (pt_eq h2).symm.trans e, fun x hx hl => ?_⟩
    rw [← pt_eq h2, e] at hx
    have pw := pt_pw (ss := ss) (n := n) c
    rw [e] at pw
    rcases List.mem_cons.mp hx with q | q
    · exact ltS_irrefl m (by rw [q] at hl; exact hl)
    · exact ltS_irrefl m (ltS_trans ((List.pairwise_cons.mp pw).1 x q) hl)
open Classical in
theorem mem_pts {x : List Sd} : x ∈ pts ss n ↔ ∃ c ∈ allC n, x = ptC ss n c := by
  unfold pts
  rw [List.mem_map]
  constructor
  · rintro ⟨c, hc, rfl⟩
    exact ⟨c, (List.mem_filter.mp hc).1, rfl⟩
  · rintro ⟨c, hc, rfl⟩
    obtain ⟨m, h1, h2, h3⟩ := pt_head (ss := ss) hc
    exact ⟨m, List.mem_filter.mpr ⟨h1, decide_eq_true h3⟩, h2⟩
/-- points by their first corners -/
def ltP (a b : List Sd) : Prop := ∃ x r y t, a = x :: r ∧ b = y :: t ∧ ltS x y
open Classical in
theorem pts_pw : (pts ss n).Pairwise ltP := by
  unfold pts
  rw [List.pairwise_map]
  have pw : ((allC n).filter fun c => (open Classical in decide (∀ x ∈ ptC ss n c, ¬ ltS x c))).Pairwise ltS := List.Pairwise.filter _ (all_pw n)
  refine List.Pairwise.imp_of_mem (fun {a b} ha hb h => ?_) pw
  obtain ⟨a1, a2⟩ := List.mem_filter.mp ha
  obtain ⟨b1, b2⟩ := List.mem_filter.mp hb
  obtain ⟨r, e1⟩ := pt_least a1 (of_decide_eq_true a2)
  obtain ⟨t, e2⟩ := pt_least b1 (of_decide_eq_true b2)
  exact ⟨a, r, b, t, e1, e2, h⟩
theorem pts_nd : (pts ss n).Nodup := pts_pw.imp fun {a b} ⟨x, r, y, t, e1, e2, h⟩ e => by
  rw [e1, e2] at e
  obtain ⟨rfl, _⟩ := List.cons.inj e
  exact ltS_irrefl _ h
theorem pts_len : (pts ss n).length ≤ 3 * n := by
  unfold pts
  rw [List.length_map, ← all_len]
  exact List.length_filter_le _ _
/-! ### rims -/
/-- around a corner, over a seam if there is one -/
def phi (ss : List Sm) (h : Sd) : Sd := match (sewn ss).lookup h with
  | some s => ix1 s
  | none => h
def itr {α : Type} (f : α → α) : Nat → α → α
  | 0, x => x
  | k + 1, x => f (itr f k x)
theorem itr_in {α : Type} {f : α → α} : ∀ (k : Nat) (x : α), itr f (k + 1) x = itr f k (f x)
  | 0, _ => rfl
  | k + 1, x => by rw [itr, itr_in k x]; rfl
def Usd (ss : List Sm) (x : Sd) : Prop := x ∈ used ss
theorem usd_look {x : Sd} : Usd ss x ↔ ∃ s, (sewn ss).lookup x = some s := by
  rw [← Option.isSome_iff_exists, look_used, List.contains_iff_mem]
  exact Iff.rfl
theorem phi_free {x : Sd} (h : ¬ Usd ss x) : phi ss x = x := by
  unfold phi
  cases e : (sewn ss).lookup x with
  | none => rfl
  | some s => exact absurd (usd_look.mpr ⟨s, e⟩) h
theorem phi_look {x s : Sd} (h : (sewn ss).lookup x = some s) : phi ss x = ix1 s := by
  unfold phi
  rw [h]
theorem phi_inj (o : Sn n ss) {x y : Sd} (hx : Usd ss x) (hy : Usd ss y) (h : phi ss x = phi ss y) : x = y := by
  obtain ⟨s, hs⟩ := usd_look.mp hx
  obtain ⟨t, ht⟩ := usd_look.mp hy
  rw [phi_look hs, phi_look ht] at h
  have := ix1_inj (look_lt o hs).2.2 (look_lt o ht).2.2 h
  subst this
  have h1 := look_back o hs
  rw [look_back o ht] at h1
  exact (Option.some.inj h1).symm
theorem phi_all (o : Sn n ss) {x : Sd} (hx : x ∈ allC n) : phi ss x ∈ allC n := by
  unfold phi
  cases e : (sewn ss).lookup x with
  | none => exact hx
  | some s => exact mem_all.mpr ⟨(look_lt o e).2.1, ix1_lt s⟩
theorem ix1_all {x : Sd} (h : x ∈ allC n) : ix1 x ∈ allC n := mem_all.mpr ⟨(mem_all.mp h).1, ix1_lt x⟩
theorem itr_all (o : Sn n ss) {x : Sd} (hx : x ∈ allC n) : ∀ k, itr (phi ss) k x ∈ allC n
  | 0 => hx
  | k + 1 => phi_all o (itr_all o hx k)
theorem itr_ne (o : Sn n ss) {x : Sd} (hx : x.2 < 3) (hf : ¬ Usd ss x) : ∀ (i j : Nat), i < j → (∀ k < j, Usd ss (itr (phi ss) k (ix1 x))) → itr (phi ss) i (ix1 x) ≠ itr (phi ss) j (ix1 x)
  | 0, j + 1, _, hu => fun e => by
    have hj := hu j (Nat.lt_succ_self j)
    obtain ⟨s, hs⟩ := usd_look.mp hj
    have e2 : ix1 x = phi ss (itr (phi ss) j (ix1 x)) := e
    rw [phi_look hs] at e2
    have := ix1_inj hx (look_lt o hs).2.2 e2
    rw [this] at hf
    exact hf (usd_look.mpr ⟨_, look_back o hs⟩)
  | i + 1, j + 1, h, hu => fun e => itr_ne o hx hf i j (by omega) (fun k hk => hu k (by omega)) (phi_inj o (hu i (by omega)) (hu j (Nat.lt_succ_self j)) e)
theorem itr_ends (o : Sn n ss) {x : Sd} (hx : x ∈ allC n) (hf : ¬ Usd ss x) : ∃ m, m ≤ 3 * n ∧ ¬ Usd ss (itr (phi ss) m (ix1 x)) ∧ ∀ k < m, Usd ss (itr (phi ss) k (ix1 x)) := by
  have key : ∃ m, m ≤ 3 * n ∧ ¬ Usd ss (itr (phi ss) m (ix1 x)) := Classical.byContradiction fun h => by
    have hu : ∀ k ≤ 3 * n, Usd ss (itr (phi ss) k (ix1 x)) := fun k hk => Classical.byContradiction fun z => h ⟨k, hk, z⟩
    have nd : ((List.range (3 * n + 1)).map fun k => itr (phi ss) k (ix1 x)).Nodup := by
      refine List.pairwise_map.mpr (List.Pairwise.imp_of_mem (fun {a b} ha hb hab => ?_) List.pairwise_lt_range)
      have := List.mem_range.mp hb
      exact itr_ne o (mem_all.mp hx).2 hf a b hab fun k hk => hu k (by omega)
    have := nd.length_le_of_subset (l₂ := allC n) fun y hy => by
      obtain ⟨k, _, rfl⟩ := List.mem_map.mp hy
      exact itr_all o (ix1_all hx) k
    rw [List.length_map, List.length_range, all_len] at this
    omega
  obtain ⟨m, h1, h2⟩ := key
  induction m using Nat.strongRecOn with
  | _ m ih =>
    by_cases h : ∀ k < m, Usd ss (itr (phi ss) k (ix1 x))
    · exact ⟨m, h1, h2, h⟩
    · have : ∃ k, k < m ∧ ¬ Usd ss (itr (phi ss) k (ix1 x)) := Classical.byContradiction fun z => h fun k hk => Classical.byContradiction fun w => z ⟨k, hk, w⟩
      obtain ⟨k, hk, hn⟩ := this
      exact ih k hk (by omega) hn
theorem itr_stay {x : Sd} {m : Nat} (h : ¬ Usd ss (itr (phi ss) m x)) : ∀ k, m ≤ k → itr (phi ss) k x = itr (phi ss) m x
  | 0, hk => by
    have : m = 0 := by omega
    rw [this]
  | k + 1, hk => by
    by_cases e : m = k + 1
    · rw [e]
    · rw [itr, itr_stay h k (by omega), phi_free h]
/-- the side of the rim behind a side -/
def ahead (ss : List Sm) (x : Sd) : Sd := itr (phi ss) 40 (ix1 x)
theorem ahead_at (o : Sn n ss) (h12 : n ≤ 12) {x : Sd} (hx : x ∈ allC n) (hf : ¬ Usd ss x) {m : Nat} (hm : ¬ Usd ss (itr (phi ss) m (ix1 x))) (hm2 : m ≤ 36) : ahead ss x = itr (phi ss) m (ix1 x) := itr_stay hm 40 (by omega)
theorem ahead_free (o : Sn n ss) (h12 : n ≤ 12) {x : Sd} (hx : x ∈ freeL n ss) : ahead ss x ∈ freeL n ss := by
  obtain ⟨h1, h2, h3⟩ := mem_free.mp hx
  have ha : x ∈ allC n := mem_all.mpr ⟨h1, h2⟩
  obtain ⟨m, q1, q2, q3⟩ := itr_ends o ha h3
  rw [ahead_at o h12 ha h3 q2 (by omega)]
  obtain ⟨a1, a2⟩ := mem_all.mp (itr_all o (ix1_all ha) m)
  exact mem_free.mpr ⟨a1, a2, q2⟩
theorem itr_back (o : Sn n ss) {x y : Sd} : ∀ {m k : Nat}, (∀ i < m, Usd ss (itr (phi ss) i x)) → (∀ i < m + k, Usd ss (itr (phi ss) i y)) → itr (phi ss) m x = itr (phi ss) (m + k) y → x = itr (phi ss) k y
  | 0, k, _, _, e => by rw [Nat.zero_add] at e; exact e
  | m + 1, k, h1, h2, e => by
    have e2 : m + 1 + k = (m + k) + 1 := by omega
    rw [e2] at e
    exact itr_back o (fun i hi => h1 i (by omega)) (fun i hi => h2 i (by omega)) (phi_inj o (h1 m (by omega)) (h2 (m + k) (by omega)) e)
theorem ahead_inj (o : Sn n ss) (h12 : n ≤ 12) {x y : Sd} (hx : x ∈ freeL n ss) (hy : y ∈ freeL n ss) (h : ahead ss x = ahead ss y) : x = y := by
  obtain ⟨x1, x2, x3⟩ := mem_free.mp hx
  obtain ⟨y1, y2, y3⟩ := mem_free.mp hy
  have ax : x ∈ allC n := mem_all.mpr ⟨x1, x2⟩
  have ay : y ∈ allC n := mem_all.mpr ⟨y1, y2⟩
  obtain ⟨m, p1, p2, p3⟩ := itr_ends o ax x3
  obtain ⟨k, q1, q2, q3⟩ := itr_ends o ay y3
  rw [ahead_at o h12 ax x3 p2 (by omega), ahead_at o h12 ay y3 q2 (by omega)] at h
  have go : ∀ {x y : Sd} {m j : Nat}, x.2 < 3 → y.2 < 3 → ¬ Usd ss x → (∀ i < m, Usd ss (itr (phi ss) i (ix1 x))) → (∀ i < m + j, Usd ss (itr (phi ss) i (ix1 y))) → itr (phi ss) m (ix1 x) = itr (phi ss) (m + j) (ix1 y) → x = y := fun {x y m j} hx2 hy2 hf h1 h2 e => by
    have e2 := itr_back o h1 h2 e
    cases j with
    | zero => exact ix1_inj hx2 hy2 e2
    | succ j =>
      have hu := h2 j (by omega)
      obtain ⟨s, hs⟩ := usd_look.mp hu
      have e3 : ix1 x = phi ss (itr (phi ss) j (ix1 y)) := e2
      rw [phi_look hs] at e3
      have := ix1_inj hx2 (look_lt o hs).2.2 e3
      rw [this] at hf
      exact absurd (usd_look.mpr ⟨_, look_back o hs⟩) hf
  rcases Nat.le_total m k with q | q
  · obtain ⟨j, rfl⟩ : ∃ j, k = m + j := ⟨k - m, by omega⟩
    exact go x2 y2 x3 p3 q3 h
  · obtain ⟨j, rfl⟩ : ∃ j, m = k + j := ⟨m - k, by omega⟩
    exact (go y2 x2 y3 q3 p3 h.symm).symm
/-- along a rim -/
theorem rim_free (o : Sn n ss) (h12 : n ≤ 12) {x : Sd} (hx : x ∈ freeL n ss) : ∀ k, itr (ahead ss) k x ∈ freeL n ss
  | 0 => hx
  | k + 1 => ahead_free o h12 (rim_free o h12 hx k)
theorem rim_ne (o : Sn n ss) (h12 : n ≤ 12) {x : Sd} (hx : x ∈ freeL n ss) : ∀ (i j : Nat), i < j → (∀ k, k < j → itr (ahead ss) (k + 1) x ≠ x) → itr (ahead ss) i x ≠ itr (ahead ss) j x
  | 0, j + 1, _, hu => fun e => hu j (Nat.lt_succ_self j) e.symm
  | i + 1, j + 1, h, hu => fun e => rim_ne o h12 hx i j (by omega) (fun k hk => hu k (by omega)) (ahead_inj o h12 (rim_free o h12 hx i) (rim_free o h12 hx j) e)
theorem free_nd : (freeL n ss).Nodup := by
  rw [free_eq]
  exact (all_nd n).filter _
theorem rim_ends (o : Sn n ss) (h12 : n ≤ 12) {x : Sd} (hx : x ∈ freeL n ss) : ∃ m, m < (freeL n ss).length ∧ itr (ahead ss) (m + 1) x = x ∧ ∀ k < m, itr (ahead ss) (k + 1) x ≠ x := by
  have key : ∃ m, m < (freeL n ss).length ∧ itr (ahead ss) (m + 1) x = x := Classical.byContradiction fun h => by
    have hu : ∀ k, k < (freeL n ss).length → itr (ahead ss) (k + 1) x ≠ x := fun k hk z => h ⟨k, hk, z⟩
    have nd : ((List.range ((freeL n ss).length + 1)).map fun k => itr (ahead ss) k x).Nodup := by
      refine List.pairwise_map.mpr (List.Pairwise.imp_of_mem (fun {a b} ha hb hab => ?_) List.pairwise_lt_range)
      have := List.mem_range.mp hb
      exact rim_ne o h12 hx a b hab fun k hk => hu k (by omega)
    have := nd.length_le_of_subset (l₂ := freeL n ss) fun y hy => by
      obtain ⟨k, _, rfl⟩ := List.mem_map.mp hy
      exact rim_free o h12 hx k
    rw [List.length_map, List.length_range] at this
    omega
  obtain ⟨m, h1, h2⟩ := key
  induction m using Nat.strongRecOn with
  | _ m ih =>
    by_cases h : ∀ k < m, itr (ahead ss) (k + 1) x ≠ x
    · exact ⟨m, h1, h2, h⟩
    · have : ∃ k, k < m ∧ itr (ahead ss) (k + 1) x = x := Classical.byContradiction fun z => h fun k hk w => z ⟨k, hk, w⟩
      obtain ⟨k, hk, hn⟩ := this
      exact ih k hk (by omega) hn
open Classical in
/-- how far around -/
noncomputable def per (ss : List Sm) (x : Sd) : Nat := if h : ∃ m, itr (ahead ss) (m + 1) x = x ∧ ∀ k < m, itr (ahead ss) (k + 1) x ≠ x then h.choose else 0
theorem per_at (o : Sn n ss) (h12 : n ≤ 12) {x : Sd} (hx : x ∈ freeL n ss) : per ss x < (freeL n ss).length ∧ itr (ahead ss) (per ss x + 1) x = x ∧ ∀ k < per ss x, itr (ahead ss) (k + 1) x ≠ x := by
  obtain ⟨m, h1, h2, h3⟩ := rim_ends o h12 hx
  have hex : ∃ m, itr (ahead ss) (m + 1) x = x ∧ ∀ k < m, itr (ahead ss) (k + 1) x ≠ x := ⟨m, h2, h3⟩
  have e : per ss x = hex.choose := by
    unfold per
    rw [dif_pos hex]
  obtain ⟨q1, q2⟩ := hex.choose_spec
  have em : hex.choose = m := by
    rcases Nat.lt_trichotomy hex.choose m with h | h | h
    · exact absurd q1 (h3 _ h)
    · exact h
    · exact absurd h2 (q2 _ h)
  rw [e, em]
  exact ⟨h1, h2, h3⟩
def wayK (ss : List Sm) (x : Sd) (k : Nat) : List Sd := (List.range (k + 1)).map fun i => itr (ahead ss) i x
noncomputable def cyc (ss : List Sm) (x : Sd) : List Sd := wayK ss x (per ss x)
theorem wayK_succ (ss : List Sm) (x : Sd) (k : Nat) : wayK ss x (k + 1) = wayK ss x k ++ [itr (ahead ss) (k + 1) x] := by
  unfold wayK
  rw [List.range_succ, List.map_append]
  rfl
theorem wayK_len (ss : List Sm) (x : Sd) (k : Nat) : (wayK ss x k).length = k + 1 := by
  unfold wayK
  rw [List.length_map, List.length_range]
theorem wayK_head (ss : List Sm) (x : Sd) (k : Nat) : ∃ r, wayK ss x k = x :: r := by
  unfold wayK
  rw [List.range_succ_eq_map, List.map_cons]
  exact ⟨_, rfl⟩
theorem wayK_last (ss : List Sm) (x : Sd) (k : Nat) : (wayK ss x k)[k]? = some (itr (ahead ss) k x) := by
  unfold wayK
  rw [List.getElem?_map, List.getElem?_range (Nat.lt_succ_self k)]
  rfl
theorem cyc_self (ss : List Sm) (x : Sd) : x ∈ cyc ss x := by
  unfold cyc
  obtain ⟨r, e⟩ := wayK_head ss x (per ss x)
  rw [e]
  exact List.mem_cons_self
noncomputable def rimsF (ss : List Sm) : Nat → List Sd → List (List Sd)
  | 0, _ => []
  | _ + 1, [] => []
  | k + 1, x :: l => cyc ss x :: rimsF ss k ((x :: l).filter fun y => !(cyc ss x).contains y)
theorem left_less (ss : List Sm) (x : Sd) (l : List Sd) : ((x :: l).filter fun y => !(cyc ss x).contains y).length ≤ l.length := by
  rw [List.filter_cons_of_neg (by simp [cyc_self])]
  exact List.length_filter_le _ _
theorem rimsF_fuel (ss : List Sm) : ∀ (k j : Nat) (l : List Sd), l.length ≤ k → l.length ≤ j → rimsF ss k l = rimsF ss j l
  | 0, 0, _, _, _ => rfl
  | 0, j + 1, l, h, _ => by
    have : l = [] := List.length_eq_zero_iff.mp (by omega)
    rw [this]
    rfl
  | k + 1, 0, l, _, h => by
    have : l = [] := List.length_eq_zero_iff.mp (by omega)
    rw [this]
    rfl
  | k + 1, j + 1, [], _, _ => rfl
  | k + 1, j + 1, x :: l, h1, h2 => by
    have h3 := left_less ss x l
    rw [List.length_cons] at h1 h2
    rw [rimsF, rimsF, rimsF_fuel ss k j _ (by omega) (by omega)]
noncomputable def rimsL (n : Nat) (ss : List Sm) : List (List Sd) := rimsF ss (freeL n ss).length (freeL n ss)
end
end SM

set_option Elab.async false
set_option linter.all false
set_option maxRecDepth 100000
set_option maxHeartbeats 4000000
/-! SailQ: points and rims as data. -/
namespace SD
open PySem PySem.Spec PyProof.Rows L2 Dl LamX RZ SM
theorem et_yes {S : Cf} {ρ : Rho} : EvT S tYes ρ (Eq true) := fun σ G H k e Q q => q true G H (Grow.refl k) k rfl
def dPo (l : List Sd) : D := .tuple (l.map dSd)
abbrev kPo : Sc := .u 36 kSd
theorem sc_po {l : List Sd} (h : l.length ≤ 36) : okS (dPo l) kPo = true := okS_um h fun x _ => sc_sd x
theorem dSds_inj {a b : List Sd} : a.map dSd = b.map dSd ↔ a = b := by
  constructor
  · intro h
    exact (List.map_inj_right (f := dSd) fun x y e => dSd_inj.mp e).mp h
  · exact fun h => by rw [h]
theorem dPo_inj {a b : List Sd} : dPo a = dPo b ↔ a = b := by
  unfold dPo
  rw [PyData.tuple.injEq, dSds_inj]
theorem nkAll_map {α : Type} (f : α → D) : ∀ l : List α, nkAll (l.map f) = l.map fun x => nk (f x)
  | [] => rfl
  | x :: l => by rw [List.map_cons, nkAll, nkAll_map f l]; rfl
theorem okNs_sds : ∀ l : List Sd, okNs (l.map dSd) = true
  | [] => rfl
  | x :: l => by
    rw [List.map_cons, okNs, okNs_sds l]
    rfl
theorem depth_sds : ∀ l : List Sd, NestedKey.depthAll (nkAll (l.map dSd)) ≤ 6
  | [] => Nat.zero_le _
  | x :: l => by
    rw [List.map_cons, nkAll, NestedKey.depthAll]
    exact Nat.max_le.mpr ⟨by obtain ⟨a, b⟩ := x; show NestedKey.depth (nk (dSd (a, b))) ≤ 6; simp [dSd, nk, nkAll, NestedKey.depth, NestedKey.depthAll], depth_sds l⟩
theorem okT_po {l : List Sd} (h : l.length ≤ 1000) : okT (dPo l) = true := by
  show (okNs (l.map dSd) && decide ((nkAll (l.map dSd)).length ≤ _) && decide (NestedKey.depthAll (nkAll (l.map dSd)) ≤ _)) = true
  rw [okNs_sds, decide_eq_true (by rw [nkAll_map, List.length_map]; omega), decide_eq_true (Nat.le_trans (depth_sds l) (by decide))]
  rfl
theorem nk_po {a b : List Sd} (h : nk (dPo a) = nk (dPo b)) : a = b := by
  unfold dPo at h
  rw [nk, nk, NestedKey.tup.injEq, nkAll_map, nkAll_map] at h
  exact (List.map_inj_right (f := fun x => nk (dSd x)) fun x y e => nk_sd e).mp h
def IsPo (d : D) : Prop := ∃ l : List Sd, l.length ≤ 1000 ∧ d = dPo l
theorem po_inj : NkInj IsPo := fun a b ⟨l, _, e1⟩ ⟨m, _, e2⟩ h => by
  subst e1 e2
  rw [nk_po h]
theorem sd_inj : NkInj (fun d => ∃ x : Sd, d = dSd x) := fun a b ⟨x, e1⟩ ⟨y, e2⟩ h => by
  subst e1 e2
  rw [nk_sd h]
open Classical in
theorem lt_sd (a b : Sd) : PySem.W.dataLt (dSd a) (dSd b) = decide (ltS a b) := by
  unfold dSd
  rw [PySem.W.dataLt_ii, Bool.eq_iff_iff, decide_eq_true_eq, decide_eq_true_eq]
  unfold ltS
  omega
open Classical in
theorem lt_po {a b : List Sd} (h : ltP a b) : PySem.W.dataLt (dPo a) (dPo b) = true := by
  obtain ⟨x, r, y, t, rfl, rfl, h⟩ := h
  unfold dPo
  rw [List.map_cons, List.map_cons, dlt_first (sc_sd x) (sc_sd y) fun e => by
    rw [dSd_inj.mp e] at h
    exact ltS_irrefl _ h, lt_sd]
  exact decide_eq_true h
open Classical in
theorem sds_pw {l : List Sd} (h : l.Pairwise ltS) : (l.map dSd).Pairwise (fun a b => PySem.W.dataLt a b = true) := by
  rw [List.pairwise_map]
  exact h.imp fun h => by rw [lt_sd]; exact decide_eq_true h
theorem sds_sc (l : List Sd) : ∀ d ∈ l.map dSd, okS d kSd = true := fun d hd => by
  obtain ⟨x, _, rfl⟩ := List.mem_map.mp hd
  exact sc_sd x
/-- sorted sides -/
theorem srt_sds {l m : List Sd} (hp : l.Perm m) (hm : m.Pairwise ltS) : srtD (l.map dSd) = m.map dSd := srtD_lt kSd (hp.map dSd) (sds_pw hm) (sds_sc m)
theorem srt_pos {l : List D} {m : List (List Sd)} (hp : l.Perm (m.map dPo)) (hm : m.Pairwise ltP) (hl : ∀ x ∈ m, x.length ≤ 36) : srtD l = m.map dPo := srtD_lt kPo hp (by rw [List.pairwise_map]; exact hm.imp fun h => lt_po h) fun d hd => by
  obtain ⟨x, hx, rfl⟩ := List.mem_map.mp hd
  exact sc_po (hl x hx)
/-! dicts of sides seen -/
def dSeenS (ks : List Sd) : List (D × D) := ks.map fun k => (dSd k, .bool true)
theorem gD_seenS (ks : List Sd) (x : Sd) : (gD (dSeenS ks) (dSd x)).isSome = decide (x ∈ ks) := by
  induction ks with
  | nil => rfl
  | cons k ks ih =>
    show (gD ((dSd k, .bool true) :: dSeenS ks) (dSd x)).isSome = _
    by_cases e : k = x
    · subst e
      rw [gD_pos rfl]
      simp
    · rw [gD_neg (fun z => e (nk_sd z)), ih]
      have : ¬ x = k := fun z => e z.symm
      simp [this]
theorem pD_seenS {ks : List Sd} {x : Sd} (h : x ∉ ks) : pD (dSeenS ks) (dSd x) (.bool true) = dSeenS (ks ++ [x]) := by
  unfold pD
  rw [gD_seenS, decide_eq_false h, if_neg (by decide)]
  unfold dSeenS
  rw [List.map_append]
  rfl
theorem seenS_keys (ks : List Sd) : (dSeenS ks).map Prod.fst = ks.map dSd := by
  unfold dSeenS
  rw [List.map_map]
  rfl
theorem len_sub {l m : List Sd} (nd : l.Nodup) (h : ∀ x ∈ l, x ∈ m) : l.length ≤ m.length := nd.length_le_of_subset fun x hx => h x hx
theorem pos_sc {n : Nat} {ss : List Sm} (hn : n ≤ 12) : ∀ d ∈ (pts ss n).map dPo, okS d kPo = true := fun d hd => by
  obtain ⟨x, hx, rfl⟩ := List.mem_map.mp hd
  obtain ⟨c, _, rfl⟩ := mem_pts.mp hx
  exact sc_po (Nat.le_trans (pt_len c) (by omega))
theorem pts_sc {n : Nat} {ss : List Sm} (hn : n ≤ 12) : okS (.list ((pts ss n).map dPo)) (.l 36 kPo) = true := okS_l (by rw [List.length_map]; exact Nat.le_trans pts_len (by omega)) (pos_sc hn)
/-- the keys of the dict of all points -/
theorem keys_pts {n : Nat} {ss : List Sm} (hn : n ≤ 12) : SortOk ((pDs [] ((allC n).map fun c => (dPo (ptC ss n c), PyData.bool true))).map Prod.fst) ∧ srtD ((pDs [] ((allC n).map fun c => (dPo (ptC ss n c), PyData.bool true))).map Prod.fst) = (pts ss n).map dPo := by
  have hP : ∀ p ∈ (allC n).map fun c => (dPo (ptC ss n c), PyData.bool true), IsPo p.1 := fun p hp => by
    obtain ⟨c, _, rfl⟩ := List.mem_map.mp hp
    exact ⟨_, Nat.le_trans (pt_len c) (by omega), rfl⟩
  obtain ⟨k1, k2⟩ := pDs_keys po_inj _ [] (fun p hp => by cases hp) hP List.nodup_nil
  have mem : ∀ x, x ∈ ((pDs [] ((allC n).map fun c => (dPo (ptC ss n c), PyData.bool true))).map Prod.fst) ↔ x ∈ (pts ss n).map dPo := fun x => by
    rw [k2, List.mem_map (f := dPo)]
    constructor
    · rintro (h | h)
      · cases h
      · obtain ⟨p, hp, rfl⟩ := List.mem_map.mp h
        obtain ⟨c, hc, rfl⟩ := List.mem_map.mp hp
        exact ⟨_, mem_pts.mpr ⟨c, hc, rfl⟩, rfl⟩
    · rintro ⟨l, hl, rfl⟩
      obtain ⟨c, hc, rfl⟩ := mem_pts.mp hl
      exact .inr (List.mem_map.mpr ⟨_, List.mem_map.mpr ⟨c, hc, rfl⟩, rfl⟩)
  have nd2 : ((pts ss n).map dPo).Nodup := List.pairwise_map.mpr (pts_nd.imp fun {a b} h e => h (dPo_inj.mp e))
  have hp := nodup_perm k1 nd2 mem
  refine ⟨sort_sc kPo (fun d hd => pos_sc hn d ((mem d).mp hd)) (.inl fun d hd => ?_) (by rw [hp.length_eq, List.length_map]; exact Nat.le_trans pts_len (by omega)), srt_pos hp pts_pw fun x hx => ?_⟩
  · obtain ⟨l, hl, rfl⟩ := List.mem_map.mp ((mem d).mp hd)
    obtain ⟨c, hc, rfl⟩ := mem_pts.mp hl
    have := pt_self (ss := ss) hc
    unfold dPo
    cases e : ptC ss n c with
    | nil =>
      rw [e] at this
      cases this
    | cons x r => exact ⟨_, _, rfl⟩
  · obtain ⟨c, hc, rfl⟩ := mem_pts.mp hx
    exact Nat.le_trans (pt_len c) (by omega)
end SD

set_option Elab.async false
set_option linter.all false
set_option maxRecDepth 100000
set_option maxHeartbeats 4000000
namespace K11
open PySem PySem.Spec PyProof.Rows L2 Dl LamX StX RZ SM SD
section
variable {P : Program} {w : World} {K : PySem.W.Frag} {mg : Str → Option Value} {base : Heap} {C1 C2 fI CS : Addr} (T : Tx P w K mg base C1 C2 fI CS)
include T
/-! points and rims -/
theorem dc_sw {fx : Fx} {G H : Hp} {E : XK} {ρ : Rho} {i : Nat} {ps : List Pn} {ss : List Sm} (h : ρ[i]? = some (obS CS ps ss)) : EvDc ⟨K, fx, G, H, E⟩ (tFld K (tVar i) "sewn") ρ false (dSw (sewn ss)) := dc_of (ev_fldKX (x := .k false (dSw (sewn ss))) (ev_varOb h) T.m_beside.cls T.a_sewn sailFs_sewn)
omit T in
theorem im_r3 {S : Cf} {ρ : Rho} : Itm S (iRng1 (tCons (tC (.int 3)) tNil)) ρ (Eq ((List.range 3).map fun (x : Nat) => PyData.int (x : Int))) := by
  have h := im_rng1E (S := S) (te := tC (.int 3)) (ρ := ρ) (n := 3) ev_int (by omega)
  rw [rng_nat] at h
  exact h
omit T in
theorem at_last {l : List D} {d : D} (h : l[l.length - 1]? = some d) : atI l (-1) = some d := by
  rcases List.eq_nil_or_concat l with e | ⟨m, x, e⟩
  · subst e
    cases h
  · rw [List.concat_eq_append] at e
    subst e
    rw [List.length_append, List.length_singleton, Nat.add_sub_cancel, List.getElem?_append_right (Nat.le_refl _), Nat.sub_self] at h
    cases h
    exact atI_last m _
theorem c_Sail_sides : CalM P w K mg base 1 CS "sides" ["self"] (spI K fx0 (fun i : SI => [obS CS i.1 i.2]) (fun i => i.1.length ≤ 1000) (fun i => Eq (.ok (.dat (.list ((allC i.1.length).map dSd)))))) := by
  refine mk_calMI T.m_sides sc_Sail_sides (fun _ => rfl) (fun _ _ _ _ _ _ us hl => match us, hl with | [_], _ => rfl) (fun f cdv A outer s H E hr i hn => ⟨_, (pss_cons (ps_set (i := 1) sc_Sail_sides.nd rfl (Or.inl rfl) (pe_lst pa_nil))
      (pss_cons (ps_for (passes_of rfl) rfl (pi_range1 (by rfl) T.b_range (pa_cons (pe_callB (r := fun xs H Q => ∃ p ys, xs = [.ref p] ∧ (SqL K H p ys ∨ SqT K H p ys) ∧ Q (.int ys.length) H) call_len_seq (by rfl) T.b_len (by decide +kernel) (pa_cons (pe_fld' (K := K) rfl (pv 0)) pa_nil)) pa_nil)) (pg_name (i := 2) sc_Sail_sides.nd rfl (Or.inr rfl)) (pss_one (ps_expr (pe_bm PySem.F.plainAttrs_list PySem.F.slot_list_extend PySem.F.type_list_extend mt_extend (pv 1) (pa_cons (pe_lc (own := [("side", 3)]) (by rfl) sc_Sail_sides.nd (pi_range1 (by rfl) T.b_range (pa_cons pe_int pa_nil)) (blkOk_by (N := ["self", "found", "panel", "side"]) (sc := defScope s_Sail_sides) (own := [("side", 3)]) (by decide +kernel)) (fun _ _ _ _ _ => (pg_name (i := 3) sc_Sail_sides.nd rfl (by first | exact Or.inl rfl | exact Or.inr rfl))) (fun _ _ _ _ _ => pts_nil) (fun _ _ _ _ _ => (pe_tup (pa_cons (pv 2) (pa_cons (pv 3) pa_nil))))) pa_nil)))))
      (pss_one (ps_ret (pv 1))))), fun G => ?_⟩)
  obtain ⟨ps, ss⟩ := i
  have hn : ps.length ≤ 1000 := hn
  refine xs_asgF (S := ⟨K, fx0, G, H, E⟩) (ef_lst (ds := []) ea_nil (by simp)) fun a ds e => ?_
  subst e
  refine xs_for (im_rng1E (n := ps.length) ((ev_lenU (ds := ps.map dPn) (eu_of (ev_fldKX (x := .d (.tuple (ps.map dPn))) (ev_varOb (i := 0) (C := CS) (fs := sailFs ps ss) rfl) T.m_beside.cls T.a_panels sailFs_panels))).cast (by rw [List.length_map])) (by omega)) (fun k ρ => ∃ s2 : Sl, ρ = [obS CS ps ss, .own a (.lst ((allC k).map dSd)), s2, .no]) ⟨_, rfl⟩ (fun k d ρ1 hd hI => ?_) fun ρ1 hI => ?_
  · obtain ⟨s2, rfl⟩ := hI
    obtain ⟨hk, rfl⟩ := rngD_get hd
    rw [Int.zero_add]
    refine ⟨_, _, tg_name, ?_⟩
    refine xc_extend (i := 1) (ds := (allC k).map dSd) rfl (ef_mapL (l := List.range 3) (dα := fun (x : Nat) => PyData.int (x : Int)) (f := fun s => dSd (k, s)) im_r3 (by simp) fun s _ => ⟨[3], _, by simp, tg_name, ev_tup2 (ev_var rfl) (ev_var rfl)⟩) (fun es e => by
      subst e
      rw [List.length_map, List.length_map, all_len, List.length_range]
      omega) fun es e => ?_
    subst e
    refine ⟨.dat (.int (k : Nat)), ?_⟩
    rw [all_succ, List.map_append, List.map_map]
    rfl
  · obtain ⟨s2, rfl⟩ := hI
    rw [rngD_length]
    refine xs_freeze (i := 1) (ds := (allC ps.length).map dSd) rfl ?_
    exact xc_ret (ev_var rfl) rfl
theorem c_Sail_near_corners : CalM P w K mg base 1 CS "near_corners" ["self", "corner"] (spI K fx0 (fun i : SI × Sd => [obS CS i.1.1 i.1.2, .dat (dSd i.2)]) (fun _ => True) (fun i => Eq (.ok (.dat (.list ((nearC i.1.2 i.2).map dSd)))))) := by
  have dc_sw := @dc_sw _ _ _ _ _ _ _ _ _ T
  refine mk_calMI T.m_near_corners sc_Sail_near_corners (fun _ => rfl) (fun _ _ _ _ _ _ us hl => match us, hl with | [_, _], _ => rfl) (fun f cdv A outer s H E hr i _ => ⟨_, (pss_cons (ps_asg (pv 1) (pg_tup (by rfl) (pgs_cons (pg_name (i := 2) sc_Sail_near_corners.nd rfl (Or.inl rfl)) (pgs_cons (pg_name (i := 3) sc_Sail_near_corners.nd rfl (Or.inl rfl)) pgs_nil))))
      (pss_cons (ps_set (i := 4) sc_Sail_near_corners.nd rfl (Or.inl rfl) (pe_lst pa_nil))
      (pss_cons (ps_if (pt_cmp (pc_xin (K := K) rfl (u64 hr) (pv 1) (pe_fld' (K := K) rfl (pv 0))) (by rfl)) (pss_cons (ps_asg (pe_xget (K := K) rfl (u64 hr) (pe_fld' (K := K) rfl (pv 0)) (pv 1)) (pg_tup (by rfl) (pgs_cons (pg_name (i := 5) sc_Sail_near_corners.nd rfl (Or.inl rfl)) (pgs_cons (pg_name (i := 6) sc_Sail_near_corners.nd rfl (Or.inl rfl)) pgs_nil))))
      (pss_one (ps_expr (pe_bm PySem.F.plainAttrs_list PySem.F.slot_list_append PySem.F.type_list_append mt_append (pv 4) (pa_cons (pe_tup (pa_cons (pv 5) (pa_cons (pe_op op_mod (pe_op op_add (pv 6) pe_int) pe_int) pa_nil))) pa_nil))))) pss_nil)
      (pss_cons (ps_set (i := 7) sc_Sail_near_corners.nd rfl (Or.inl rfl) (pe_tup (pa_cons (pv 2) (pa_cons (pe_op op_mod (pe_op op_add (pv 3) pe_int) pe_int) pa_nil))))
      (pss_cons (ps_if (pt_cmp (pc_xin (K := K) rfl (u64 hr) (pv 7) (pe_fld' (K := K) rfl (pv 0))) (by rfl)) (pss_one (ps_expr (pe_bm PySem.F.plainAttrs_list PySem.F.slot_list_append PySem.F.type_list_append mt_append (pv 4) (pa_cons (pe_xget (K := K) rfl (u64 hr) (pe_fld' (K := K) rfl (pv 0)) (pv 7)) pa_nil)))) pss_nil)
      (pss_one (ps_ret (pv 4)))))))), fun G => ?_⟩)
  obtain ⟨⟨ps, ss⟩, p, k⟩ := i
  refine xs_asgT (S := ⟨K, fx0, G, H, E⟩) (d := dSd (p, k)) (ev_var rfl) tg_two ?_
  refine xs_asgF (ef_lst (ds := []) ea_nil (by simp)) fun a ds e => ?_
  subst e
  refine xs_cut (Q := fun ρ' => ∃ s5 s6 : Sl, ρ' = [obS CS ps ss, .dat (dSd (p, k)), .dat (.int (p : Nat)), .dat (.int (k : Nat)), .own a (.lst ((((sewn ss).lookup (p, k)).toList.map ix1).map dSd)), s5, s6, .no]) ?_ ?_
  · cases hv : (sewn ss).lookup (p, k) with
    | none => exact xc_if (b := false) (et_is (et_B (ev_xin (dk := dSd (p, k)) (dc_sw rfl) (ev_var rfl) (key_sd _))) (by rw [gD_sw, hv]; rfl)) (fun z => by cases z) fun _ => xc_next ⟨_, _, rfl⟩
    | some v =>
      refine xc_if (b := true) (et_is (et_B (ev_xin (dk := dSd (p, k)) (dc_sw rfl) (ev_var rfl) (key_sd _))) (by rw [gD_sw, hv]; rfl)) (fun _ => ?_) fun z => by cases z
      refine xs_asgT (d := dSd v) (ev_xget (dk := dSd (p, k)) (dc_sw rfl) (ev_var rfl) (key_sd _) (by rw [gD_sw, hv]; rfl)) tg_two ?_
      refine xc_append (i := 4) (p := Eq (dSd (ix1 v))) rfl ((ev_tup2 (x := .int (v.1 : Nat)) (y := .int (((v.2 + 1) % 3 : Nat) : Int)) (ev_var rfl) ((ev_IC (i := (v.2 : Int) + 1) (j := 3) (ev_I0 (ev_var rfl) ev_int) ev_int (by decide)).cast (by show Sl.dat (.int _) = .dat (.int _); congr 2 <;> omega))).imp fun s e => ⟨_, e.symm, rfl⟩) (by simp) fun d e => ?_
      subst e
      exact ⟨_, _, rfl⟩
  rintro ρ' ⟨s5, s6, rfl⟩
  refine xs_asg (s := .dat (dSd (ix2 (p, k)))) (ev_tup2 (x := .int (p : Nat)) (y := .int (((k + 2) % 3 : Nat) : Int)) (ev_var rfl) ((ev_IC (i := (k : Int) + 2) (j := 3) (ev_I0 (ev_var rfl) ev_int) ev_int (by decide)).cast (by show Sl.dat (.int _) = .dat (.int _); congr 2 <;> omega))) ?_
  have hl : (((((sewn ss).lookup (p, k)).toList.map ix1).map dSd)).length < 1000000 := by
    cases (sewn ss).lookup (p, k) <;> simp
  refine xs_cut (Q := fun ρ' => ∃ s7 : Sl, ρ' = [obS CS ps ss, .dat (dSd (p, k)), .dat (.int (p : Nat)), .dat (.int (k : Nat)), .own a (.lst ((nearC ss (p, k)).map dSd)), s5, s6, s7]) ?_ ?_
  · unfold nearC
    rw [List.map_append]
    cases hv : (sewn ss).lookup (ix2 (p, k)) with
    | none => exact xc_if (b := false) (et_is (et_B (ev_xin (dk := dSd (ix2 (p, k))) (dc_sw rfl) (ev_var rfl) (key_sd _))) (by rw [gD_sw, hv]; rfl)) (fun z => by cases z) fun _ => xc_next ⟨_, by simp; rfl⟩
    | some v =>
      refine xc_if (b := true) (et_is (et_B (ev_xin (dk := dSd (ix2 (p, k))) (dc_sw rfl) (ev_var rfl) (key_sd _))) (by rw [gD_sw, hv]; rfl)) (fun _ => ?_) fun z => by cases z
      refine xc_append (i := 4) (p := Eq (dSd v)) rfl ((ev_xget (dk := dSd (ix2 (p, k))) (d := dSd v) (dc_sw rfl) (ev_var rfl) (key_sd _) (by rw [gD_sw, hv]; rfl)).imp fun s e => ⟨_, e.symm, rfl⟩) hl fun d e => ?_
      subst e
      exact ⟨_, rfl⟩
  rintro ρ' ⟨s7, rfl⟩
  refine xs_freeze (i := 4) (ds := (nearC ss (p, k)).map dSd) rfl ?_
  exact xc_ret (ev_var rfl) rfl
theorem c_Sail_point_of : CalM P w K mg base 2 CS "point_of" ["self", "corner"] (spI K fx0 (fun i : SI × Sd => [obS CS i.1.1 i.1.2, .dat (dSd i.2)]) (fun i => Sn i.1.1.length i.1.2 ∧ i.1.1.length ≤ 12 ∧ i.2 ∈ allC i.1.1.length) (fun i => Eq (.ok (.dat (dPo (ptC i.1.2 i.1.1.length i.2)))))) := by
  have c_Sail_near_corners := c_Sail_near_corners T
  refine mk_calMI T.m_point_of sc_Sail_point_of (fun _ => rfl) (fun _ _ _ _ _ _ us hl => match us, hl with | [_, _], _ => rfl) (fun f cdv A outer s H E hr i hp => ⟨_, (pss_cons (ps_set (i := 2) sc_Sail_point_of.nd rfl (Or.inl rfl) (pe_dispN (K := K) rfl (u64 hr) (pps_cons (pv 1) pe_bl pps_nil) (by rfl) (by rfl) (fun z => by cases z) (by decide)))
      (pss_cons (ps_set (i := 3) sc_Sail_point_of.nd rfl (Or.inl rfl) (pe_lst (pa_cons (pv 1) pa_nil)))
      (pss_cons (ps_while (passes_of rfl) (pt_truth (pv 3) (by intro _; rfl)) (pss_one (ps_for (passes_of rfl) rfl (pi_list (pe_calM c_Sail_near_corners (hr.mono (by first | decide | omega)) (pv 0) (pa_cons (pe_bm0 PySem.F.plainAttrs_list PySem.F.slot_list_pop PySem.F.type_list_pop mt_pop (pv 3)) pa_nil))) (pg_name (i := 4) sc_Sail_point_of.nd rfl (Or.inl rfl)) (pss_one (ps_if (pt_cmp (pc_xnotin (K := K) rfl (u64 hr) (pv 4) (pv 2)) (by rfl)) (pss_cons (ps_xput (K := K) rfl (u64 hr) (pv 2) (pv 4) pe_bl)
      (pss_one (ps_expr (pe_bm PySem.F.plainAttrs_list PySem.F.slot_list_append PySem.F.type_list_append mt_append (pv 3) (pa_cons (pv 4) pa_nil))))) pss_nil)))))
      (pss_one (ps_ret (pe_callTy (T := "tuple") (r := fun xs H Q => ∃ p ys, xs = [.ref p] ∧ ((SqL K H p ys ∧ ∀ l, H l = none → Q (.ref l) (upd H l (.tup ys))) ∨ (SqT K H p ys ∧ Q (.ref p) H))) call_tuple_of (by rfl) T.b_tuple (by decide +kernel) (pa_cons (pe_callB (r := rSortX K) (cr_sortX rfl (u64 hr)) (by rfl) T.b_sorted (by decide +kernel) (pa_cons (pv 2) pa_nil)) pa_nil))))))), fun G => ?_⟩)
  obtain ⟨⟨ps, ss⟩, a⟩ := i
  obtain ⟨ho, hn, ha⟩ := hp
  have ho : Sn ps.length ss := ho
  have hn : ps.length ≤ 12 := hn
  have ha : a ∈ allC ps.length := ha
  have okA : ∀ q ∈ [(dSd a, PyData.bool true)], okT q.1 = true := fun q hq => by
    rw [List.mem_singleton.mp hq]
    rfl
  refine xs_asgQ (S := ⟨K, fx0, G, H, E⟩) (eq_dispN (kds := [(dSd a, .bool true)]) (eps_cons (ev_var rfl) ev_bl eps_nil) okA (by simp)) fun ad => ?_
  refine xs_asgF (ef_lst (ds := [dSd a]) (ea_cons (ev_var rfl) ea_nil) (by simp)) fun aw ds e => ?_
  subst e
  have sub : ∀ {ks : List Sd}, ks.Nodup → (∀ y ∈ ks, y ∈ allC ps.length) → ks.length ≤ 3 * ps.length := fun nd h => by
    have := len_sub nd h
    rw [all_len] at this
    exact this
  refine xs_while (I := fun m ρ => ∃ (s4 : Sl) (ks ws : List Sd), RIg (allC ps.length) (nearC ss) a ks ws (fun _ => False) ∧ 2 * (3 * ps.length - ks.length) + ws.length ≤ m ∧ m ≤ 6 * ps.length + 1 ∧ ρ = [obS CS ps ss, .dat (dSd a), .own ad (moD ad false (dSeenS ks)), .own aw (.lst (ws.map dSd)), s4])
    (6 * ps.length + 1) ⟨.no, [a], [a], ⟨by simp, fun y hy => by rw [List.mem_singleton.mp hy]; exact ha, by simp, fun y hy => by rw [List.mem_singleton.mp hy]; exact .start, fun y hy => hy, fun y hy hw => absurd hy hw⟩, by simp; omega, Nat.le_refl _, rfl⟩ fun m ρ1 hI => ?_
  obtain ⟨s4, ks, ws, iv, hm, hm0, rfl⟩ := hI
  refine (et_truL (el_own (ds := ws.map dSd) rfl)).imp fun b hb => ?_
  rcases List.eq_nil_or_concat ws with ew | ⟨ws', x, ew⟩
  · subst ew
    rw [← hb, if_neg (by simp)]
    have hp : ks.Perm (ptC ss ps.length a) := nodup_perm iv.nd (pw_nd (pt_pw a)) fun x => by
      rw [mem_pt, ← rc_cg ho ha]
      refine ⟨fun h => ⟨iv.lt x h, iv.r x h⟩, fun h => ?_⟩
      have h2 := h.2
      clear h
      induction h2 with
      | start => exact iv.st
      | step _ hq ih => exact iv.cl _ ih (by simp) (fun z => z) _ hq
    have kl := sub iv.nd iv.lt
    have so : SortOk ((dSeenS ks).map Prod.fst) := by
      rw [seenS_keys]
      exact sort_sc kSd (sds_sc ks) (.inl fun d hd => by
        obtain ⟨x, _, rfl⟩ := List.mem_map.mp hd
        exact ⟨_, _, rfl⟩) (by rw [List.length_map]; omega)
    refine xc_ret (ev_tupL (el_of ((ef_sortX (dc_own (f := false) (ds := dSeenS ks) rfl) so).evE))) ?_
    rw [seenS_keys, srt_sds hp (pt_pw a)]
    rfl
  · have ew : ws = ws' ++ [x] := by rw [ew, List.concat_eq_append]
    subst ew
    rw [← hb, if_pos (by simp)]
    have hx : x ∈ ks := iv.w x (by simp)
    have kl := sub iv.nd iv.lt
    rw [show (ws' ++ [x]).map dSd = ws'.map dSd ++ [dSd x] by rw [List.map_append]; rfl]
    refine xc_forPopM (S := ⟨K, fx0, G, H, E⟩) (i := 0) (j := 3) (a := aw) (d := dSd x) (ds := ws'.map dSd) (es := (nearC ss x).map dSd) ((ps, ss), x) rfl rfl rfl rfl True.intro (fun s h => by cases h; rfl) (fun C d h => by cases h) (fun i ρ => ∃ (s4 : Sl) (ks ws : List Sd), RIg (allC ps.length) (nearC ss) a ks ws (fun y => y = x) ∧ (∀ z ∈ (nearC ss x).take i, z ∈ ks) ∧ 2 * (3 * ps.length - ks.length) + ws.length + 1 ≤ m ∧ ρ = [obS CS ps ss, .dat (dSd a), .own ad (moD ad false (dSeenS ks)), .own aw (.lst (ws.map dSd)), s4])
      ⟨s4, ks, ws', ⟨iv.nd, iv.lt, iv.st, iv.r, fun y hy => iv.w y (by simp [hy]), fun y hy hw hne z hz => iv.cl y hy (fun q => by
        rcases List.mem_append.mp q with q | q
        · exact hw q
        · exact hne (List.mem_singleton.mp q)) (fun z => z) z hz⟩, by simp, by simp at hm; omega, rfl⟩ (fun i d ρ1 hd hI => ?_) fun ρ1 hI => ?_
    · obtain ⟨s5, ks1, ws1, iv1, hdone, hm1, rfl⟩ := hI
      obtain ⟨y, hy, rfl⟩ := map_get hd
      have ym : y ∈ nearC ss x := List.mem_of_getElem? hy
      have yl : y ∈ allC ps.length := near_all ho ym
      have xr : Rc (nearC ss) a x := iv.r x hx
      have et : (nearC ss x).take (i + 1) = (nearC ss x).take i ++ [y] := take_get hy
      have kl1 := sub iv1.nd iv1.lt
      refine ⟨_, _, tg_name, ?_⟩
      refine xc_if (b := !decide (y ∈ ks1)) (et_is (et_B (ev_xnotin (dk := dSd y) (dc_own (f := false) rfl) (ev_var rfl) (key_sd y))) (by rw [gD_seenS])) (fun z => ?_) fun z => ?_
      · have ny : y ∉ ks1 := by simpa using z
        have nd2 : (ks1 ++ [y]).Nodup := by
          rw [List.nodup_append]
          exact ⟨iv1.nd, by simp, fun u hu v hv e => ny (by rw [← List.mem_singleton.mp hv, ← e]; exact hu)⟩
        have lt2 : ∀ u ∈ ks1 ++ [y], u ∈ allC ps.length := fun u hu => by
          rcases List.mem_append.mp hu with q | q
          · exact iv1.lt u q
          · rw [List.mem_singleton.mp q]
            exact yl
        have kl2 := sub nd2 lt2
        rw [List.length_append, List.length_singleton] at kl2
        refine xs_xput (i := 2) (a := ad) (f := false) (ds := dSeenS ks1) (dk := dSd y) (d := .bool true) rfl ev_bl (ev_var rfl) (key_sd y) (by unfold dSeenS; rw [List.length_map]; omega) ?_
        rw [pD_seenS ny]
        refine xc_append (i := 3) (ds := ws1.map dSd) (p := Eq (dSd y)) rfl ((ev_var (d := dSd y) rfl).imp fun s e => ⟨_, e.symm, rfl⟩) (by
          rw [List.length_map]
          omega) fun d e => ?_
        subst e
        refine ⟨.dat (dSd y), ks1 ++ [y], ws1 ++ [y], ⟨nd2, lt2, List.mem_append_left _ iv1.st, fun u hu => ?_, fun u hu => ?_, fun u hu hw hne v hv => ?_⟩, fun u hu => ?_, ?_, ?_⟩
        · rcases List.mem_append.mp hu with q | q
          · exact iv1.r u q
          · rw [List.mem_singleton.mp q]
            exact .step xr ym
        · rcases List.mem_append.mp hu with q | q
          · exact List.mem_append_left _ (iv1.w u q)
          · exact List.mem_append_right _ q
        · have hw1 : u ∉ ws1 := fun q => hw (List.mem_append_left _ q)
          rcases List.mem_append.mp hu with q | q
          · exact List.mem_append_left _ (iv1.cl u q hw1 hne v hv)
          · exact absurd (List.mem_append_right ws1 q) hw
        · rw [et] at hu
          rcases List.mem_append.mp hu with q | q
          · exact List.mem_append_left _ (hdone u q)
          · exact List.mem_append_right _ q
        · simp only [List.length_append, List.length_singleton]
          omega
        · rw [show (ws1 ++ [y]).map dSd = ws1.map dSd ++ [dSd y] by rw [List.map_append]; rfl]
          rfl
      · have iy : y ∈ ks1 := by simpa using z
        refine xc_next ⟨.dat (dSd y), ks1, ws1, iv1, fun u hu => ?_, hm1, rfl⟩
        rw [et] at hu
        rcases List.mem_append.mp hu with q | q
        · exact hdone u q
        · rw [List.mem_singleton.mp q]
          exact iy
    · obtain ⟨s5, ks1, ws1, iv1, hdone, hm1, rfl⟩ := hI
      rw [List.length_map, List.take_length] at hdone
      refine ⟨m - 1, by omega, s5, ks1, ws1, ⟨iv1.nd, iv1.lt, iv1.st, iv1.r, iv1.w, fun u hu hw _ v hv => ?_⟩, by omega, by omega, rfl⟩
      by_cases q : u = x
      · subst q
        exact hdone v hv
      · exact iv1.cl u hu hw q v hv
theorem c_points : Cal P w K mg base 3 "points" ["sail"] (spI K fx0 (fun i : SI => [obS CS i.1 i.2]) (fun i => Sn i.1.length i.2 ∧ i.1.length ≤ 12) (fun i => Eq (.ok (.dat (.list ((pts i.2 i.1.length).map dPo)))))) := by
  have c_Sail_point_of := c_Sail_point_of T
  have c_Sail_sides := c_Sail_sides T
  refine mk_cal T.d_points sc_points (fun _ => rfl) (fun _ _ _ _ _ _ us hl => match us, hl with | [_], _ => rfl) (fun f cdv A outer s H E hr i hp => ⟨_, (pss_one (ps_ret (pe_callB (r := rSortX K) (cr_sortX rfl (u64 hr)) (by rfl) T.b_sorted (by decide +kernel) (pa_cons (pe_dcX (K := K) (own := [("corner", 1)]) rfl (u64 hr) (by rfl) sc_points.nd (pi_list (pe_calM0 c_Sail_sides (hr.mono (by first | decide | omega)) (pv 0))) (blkOk_by (N := ["sail", "corner"]) (sc := defScope s_points) (own := [("corner", 1)]) (by decide +kernel)) (fun _ _ _ _ _ => (pg_name (i := 1) sc_points.nd rfl (by first | exact Or.inl rfl | exact Or.inr rfl))) (fun _ _ _ _ _ => pts_nil) (fun _ _ _ _ _ => (pe_calM c_Sail_point_of (hr.mono (by first | decide | omega)) (pv 0) (pa_cons (pv 1) pa_nil))) (fun _ _ _ _ _ => pe_bl)) pa_nil)))), fun G => ?_⟩)
  obtain ⟨ps, ss⟩ := i
  obtain ⟨ho, hn⟩ := hp
  have ho : Sn ps.length ss := ho
  have hn : ps.length ≤ 12 := hn
  obtain ⟨k1, k2⟩ := keys_pts (ss := ss) hn
  refine xc_ret ((ef_sortX (f := false) (dc_made (eq_dc (S := ⟨K, fx0, G, H, E⟩) false (l := allC ps.length) (dα := dSd) (c := fun _ => true) (fk := fun c => dPo (ptC ss ps.length c)) (fv := fun _ => .bool true) (im_listE (ev_methK (ev_varOb (i := 0) (C := CS) (fs := sailFs ps ss) rfl) rfl ea_nil fun ss' e => ⟨(ps, ss), by rw [← e]; rfl, by show ps.length ≤ 1000; omega, fun s h => (by cases h; rfl), fun C d h => by cases h⟩)) (by rw [all_len]; omega) fun c hc => ⟨[1], _, by simp, tg_name, et_yes, fun _ => ⟨?_, ev_bl, ?_⟩⟩)) (by rw [List.filter_eq_self.mpr fun _ _ => rfl]; exact k1)).evE) (by rw [List.filter_eq_self.mpr fun _ _ => rfl, k2]; rfl)
  · exact ev_methK (ev_varOb (i := 0) (C := CS) (fs := sailFs ps ss) rfl) rfl (ea_cons (ev_var rfl) ea_nil) fun ss' e => ⟨((ps, ss), c), by rw [← e]; rfl, ⟨ho, hn, hc⟩, fun s h => (by cases h; rfl), fun C d h => by cases h⟩
  · exact okT_po (Nat.le_trans (pt_len c) (by omega))
theorem c_rim : Cal P w K mg base 2 "rim" ["sail"] (spI K fx0 (fun i : SI => [obS CS i.1 i.2]) (fun i => i.1.length ≤ 1000) (fun i => Eq (.ok (.dat (.list ((freeL i.1.length i.2).map dSd)))))) := by
  have dc_sw := @dc_sw _ _ _ _ _ _ _ _ _ T
  have c_Sail_sides := c_Sail_sides T
  refine mk_cal T.d_rim sc_rim (fun _ => rfl) (fun _ _ _ _ _ _ us hl => match us, hl with | [_], _ => rfl) (fun f cdv A outer s H E hr i hp => ⟨_, (pss_one (ps_ret (pe_lc (own := [("side", 1)]) (by rfl) sc_rim.nd (pi_list (pe_calM0 c_Sail_sides (hr.mono (by first | decide | omega)) (pv 0))) (blkOk_by (N := ["sail", "side"]) (sc := defScope s_rim) (own := [("side", 1)]) (by decide +kernel)) (fun _ _ _ _ _ => (pg_name (i := 1) sc_rim.nd rfl (by first | exact Or.inl rfl | exact Or.inr rfl))) (fun _ _ _ _ _ => (pts_one (pt_cmp (pc_xnotin (K := K) rfl (u64 hr) (pv 1) (pe_fld' (K := K) rfl (pv 0))) (by rfl)))) (fun _ _ _ _ _ => (pv 1))))), fun G => ?_⟩)
  obtain ⟨ps, ss⟩ := i
  have hn : ps.length ≤ 1000 := hp
  refine xc_ret ((ef_filterL (S := ⟨K, fx0, G, H, E⟩) (l := allC ps.length) (dα := dSd) (c := fun x => !(used ss).contains x) (f := dSd) (im_listE (ev_methK (ev_varOb (i := 0) (C := CS) (fs := sailFs ps ss) rfl) rfl ea_nil fun ss' e => ⟨(ps, ss), by rw [← e]; rfl, hn, fun s h => (by cases h; rfl), fun C d h => by cases h⟩)) (by rw [all_len]; omega) fun x hx => ⟨[1], _, by simp, tg_name, et_is (et_B (ev_xnotin (dk := dSd x) (dc_sw rfl) (ev_var rfl) (key_sd _))) (by rw [gD_sw, Option.isSome_map, look_used]), fun _ => ev_var rfl⟩).evE) (by rw [free_eq]; rfl)
theorem c_rim_ahead : Cal P w K mg base 1 "rim_ahead" ["sail", "side"] (spI K fx0 (fun i : SI × Sd => [obS CS i.1.1 i.1.2, .dat (dSd i.2)]) (fun i => Sn i.1.1.length i.1.2 ∧ i.1.1.length ≤ 12 ∧ i.2 ∈ freeL i.1.1.length i.1.2) (fun i => Eq (.ok (.dat (dSd (ahead i.1.2 i.2)))))) := by
  have dc_sw := @dc_sw _ _ _ _ _ _ _ _ _ T
  refine mk_cal T.d_rim_ahead sc_rim_ahead (fun _ => rfl) (fun _ _ _ _ _ _ us hl => match us, hl with | [_, _], _ => rfl) (fun f cdv A outer s H E hr i hp => ⟨_, (pss_cons (ps_set (i := 2) sc_rim_ahead.nd rfl (Or.inl rfl) (pe_tup (pa_cons (pe_ix (r := rIxT K) ix_tup (pv 1) pe_int (fun _ _ => rfl)) (pa_cons (pe_op op_mod (pe_op op_add (pe_ix (r := rIxT K) ix_tup (pv 1) pe_int (fun _ _ => rfl)) pe_int) pe_int) pa_nil))))
      (pss_cons (ps_while (passes_of rfl) (pt_cmp (pc_xin (K := K) rfl (u64 hr) (pv 2) (pe_fld' (K := K) rfl (pv 0))) (by rfl)) (pss_cons (ps_asg (pe_xget (K := K) rfl (u64 hr) (pe_fld' (K := K) rfl (pv 0)) (pv 2)) (pg_tup (by rfl) (pgs_cons (pg_name (i := 3) sc_rim_ahead.nd rfl (Or.inl rfl)) (pgs_cons (pg_name (i := 4) sc_rim_ahead.nd rfl (Or.inl rfl)) pgs_nil))))
      (pss_one (ps_set (i := 2) sc_rim_ahead.nd rfl (Or.inl rfl) (pe_tup (pa_cons (pv 3) (pa_cons (pe_op op_mod (pe_op op_add (pv 4) pe_int) pe_int) pa_nil)))))))
      (pss_one (ps_ret (pv 2))))), fun G => ?_⟩)
  obtain ⟨⟨ps, ss⟩, x⟩ := i
  obtain ⟨ho, hn, hx⟩ := hp
  have ho : Sn ps.length ss := ho
  have hn : ps.length ≤ 12 := hn
  have hx : x ∈ freeL ps.length ss := hx
  obtain ⟨f1, f2, f3⟩ := mem_free.mp hx
  have hxa : x ∈ allC ps.length := mem_all.mpr ⟨f1, f2⟩
  have hxf : ¬ Usd ss x := fun z => f3 z
  obtain ⟨M, hM, hMf, hMu⟩ := itr_ends ho hxa hxf
  refine xs_asg (S := ⟨K, fx0, G, H, E⟩) (s := .dat (dSd (ix1 x))) (ev_tup2 (x := .int (x.1 : Nat)) (y := .int (((x.2 + 1) % 3 : Nat) : Int)) (ev_ixU (ds := [.int (x.1 : Nat), .int (x.2 : Nat)]) (ev_var rfl) ev_int (at_nat (i := 0) rfl)) ((ev_IC (i := (x.2 : Int) + 1) (j := 3) (ev_I0 (ev_ixU (ds := [.int (x.1 : Nat), .int (x.2 : Nat)]) (ev_var rfl) ev_int (at_nat (i := 1) rfl)) ev_int) ev_int (by decide)).cast (by show Sl.dat (.int _) = .dat (.int _); congr 2 <;> omega))) ?_
  refine xs_while (I := fun m ρ => ∃ (k : Nat) (s3 s4 : Sl), k ≤ M ∧ m = M - k ∧ ρ = [obS CS ps ss, .dat (dSd x), .dat (dSd (itr (phi ss) k (ix1 x))), s3, s4]) M ⟨0, _, _, Nat.zero_le _, rfl, rfl⟩ fun m ρ1 hI => ?_
  obtain ⟨k, s3, s4, hk, rfl, rfl⟩ := hI
  have tst := et_B (ev_xin (S := ⟨K, fx0, G, H, E⟩) (ρ := [obS CS ps ss, .dat (dSd x), .dat (dSd (itr (phi ss) k (ix1 x))), s3, s4]) (ta := tVar 2) (dk := dSd (itr (phi ss) k (ix1 x))) (dc_sw (i := 0) rfl) (ev_var rfl) (key_sd _))
  rw [gD_sw, Option.isSome_map] at tst
  refine tst.imp fun b hb => ?_
  cases hv : (sewn ss).lookup (itr (phi ss) k (ix1 x)) with
  | none =>
    rw [← hb, hv, if_neg (by simp)]
    have hf : ¬ Usd ss (itr (phi ss) k (ix1 x)) := fun z => by
      obtain ⟨s, hs⟩ := usd_look.mp z
      rw [hv] at hs
      cases hs
    refine xc_ret (ev_var rfl) ?_
    show Re.ok (.dat (dSd (ahead ss x))) = _
    rw [ahead_at ho hn hxa hxf hf (by omega)]
  | some v =>
    rw [← hb, hv, if_pos (by simp)]
    have hu : Usd ss (itr (phi ss) k (ix1 x)) := usd_look.mpr ⟨v, hv⟩
    have hkM : k < M := by
      rcases Nat.lt_or_ge k M with h | h
      · exact h
      · exact absurd (show Usd ss (itr (phi ss) M (ix1 x)) by rw [show M = k by omega]; exact hu) hMf
    refine xs_asgT (d := dSd v) (ev_xget (dk := dSd (itr (phi ss) k (ix1 x))) (dc_sw rfl) (ev_var rfl) (key_sd _) (by rw [gD_sw, hv]; rfl)) tg_two ?_
    refine xc_asg (s := .dat (dSd (ix1 v))) (ev_tup2 (x := .int (v.1 : Nat)) (y := .int (((v.2 + 1) % 3 : Nat) : Int)) (ev_var rfl) ((ev_IC (i := (v.2 : Int) + 1) (j := 3) (ev_I0 (ev_var rfl) ev_int) ev_int (by decide)).cast (by show Sl.dat (.int _) = .dat (.int _); congr 2 <;> omega))) ?_
    refine ⟨M - (k + 1), by omega, k + 1, .dat (.int (v.1 : Nat)), .dat (.int (v.2 : Nat)), hkM, rfl, ?_⟩
    rw [itr, phi_look hv]
    rfl
open Classical in
theorem c_rims : Cal P w K mg base 3 "rims" ["sail"] (spI K fx0 (fun i : SI => [obS CS i.1 i.2]) (fun i => Sn i.1.length i.2 ∧ i.1.length ≤ 12) (fun i => Eq (.ok (.dat (.list ((rimsL i.1.length i.2).map dPo)))))) := by
  have c_rim := c_rim T
  have c_rim_ahead := c_rim_ahead T
  refine mk_cal T.d_rims sc_rims (fun _ => rfl) (fun _ _ _ _ _ _ us hl => match us, hl with | [_], _ => rfl) (fun f cdv A outer s H E hr i hp => ⟨_, (pss_cons (ps_set (i := 1) sc_rims.nd rfl (Or.inl rfl) (pe_cal c_rim (hr.mono (by first | decide | omega)) rfl (pa_cons (pv 0) pa_nil)))
      (pss_cons (ps_set (i := 2) sc_rims.nd rfl (Or.inl rfl) (pe_lst pa_nil))
      (pss_cons (ps_while (passes_of rfl) (pt_truth (pv 1) (by intro _; rfl)) (pss_cons (ps_set (i := 3) sc_rims.nd rfl (Or.inr rfl) (pe_lst (pa_cons (pe_ix (r := rIxL K) ix_list (pv 1) pe_int (fun _ _ => rfl)) pa_nil)))
      (pss_cons (ps_while (passes_of rfl) (pt_cmpR (r := rNeD K) (op_neD (u64 hr)) (pe_cal c_rim_ahead (hr.mono (by first | decide | omega)) rfl (pa_cons (pv 0) (pa_cons (pe_ix (r := rIxL K) ix_list (pv 3) (pe_un un_neg pe_int) (fun _ _ => rfl)) pa_nil))) (pe_ix (r := rIxL K) ix_list (pv 3) pe_int (fun _ _ => rfl)) (nomark _)) (pss_one (ps_expr (pe_bm PySem.F.plainAttrs_list PySem.F.slot_list_append PySem.F.type_list_append mt_append (pv 3) (pa_cons (pe_cal c_rim_ahead (hr.mono (by first | decide | omega)) rfl (pa_cons (pv 0) (pa_cons (pe_ix (r := rIxL K) ix_list (pv 3) (pe_un un_neg pe_int) (fun _ _ => rfl)) pa_nil))) pa_nil)))))
      (pss_cons (ps_expr (pe_bm PySem.F.plainAttrs_list PySem.F.slot_list_append PySem.F.type_list_append mt_append (pv 2) (pa_cons (pe_callTy (T := "tuple") (r := fun xs H Q => ∃ p ys, xs = [.ref p] ∧ ((SqL K H p ys ∧ ∀ l, H l = none → Q (.ref l) (upd H l (.tup ys))) ∨ (SqT K H p ys ∧ Q (.ref p) H))) call_tuple_of (by rfl) T.b_tuple (by decide +kernel) (pa_cons (pv 3) pa_nil)) pa_nil)))
      (pss_one (ps_setLc (i := 1) (own := [("side", 4)]) (by rfl) sc_rims.nd rfl rfl (sw_true rfl rfl rfl (by decide +kernel)) (pi_list (pv 1)) (blkOk_by (N := ["sail", "left", "found", "way", "side"]) (sc := defScope s_rims) (own := [("side", 4)]) (by decide +kernel)) (fun _ _ _ _ _ => (pg_name (i := 4) sc_rims.nd rfl (by first | exact Or.inl rfl | exact Or.inr rfl))) (fun _ _ _ _ _ => (pts_one (pt_cmpR (r := rNotInS K) (op_notInS (u65 hr)) (pv 4) (pv 3) (by rfl)))) (fun _ _ _ _ _ => (pv 4))))))))
      (pss_one (ps_ret (pv 2)))))), fun G => ?_⟩)
  obtain ⟨ps, ss⟩ := i
  obtain ⟨ho, hn⟩ := hp
  have ho : Sn ps.length ss := ho
  have hn : ps.length ≤ 12 := hn
  have hf36 : (freeL ps.length ss).length ≤ 36 := by
    rw [free_eq]
    refine Nat.le_trans (List.length_filter_le _ _) ?_
    rw [all_len]
    omega
  refine xs_asg (S := ⟨K, fx0, G, H, E⟩) (s := .dat (.list ((freeL ps.length ss).map dSd))) (ev_callE (ps, ss) (ea_cons (ev_varOb rfl) ea_nil) (by show ps.length ≤ 1000; omega)) ?_
  refine xs_asgF (ef_lst (ds := []) ea_nil (by simp)) fun af ds e => ?_
  subst e
  refine xs_while (I := fun m ρ => ∃ (left : List Sd) (found : List (List Sd)) (s3 s4 : Sl), left.length = m ∧ found.length + m ≤ 36 ∧ (∀ x ∈ left, x ∈ freeL ps.length ss) ∧ found ++ rimsF ss left.length left = rimsL ps.length ss ∧ ρ = [obS CS ps ss, .dat (.list (left.map dSd)), .own af (.lst (found.map dPo)), s3, s4]) (freeL ps.length ss).length ⟨freeL ps.length ss, [], _, _, rfl, by simp; omega, fun _ h => h, rfl, rfl⟩ fun m ρ1 hI => ?_
  obtain ⟨left, found, s3, s4, rfl, hfl, hle, hrm, rfl⟩ := hI
  refine (et_truL (el_of (ds := left.map dSd) (ev_var rfl))).imp fun b hb => ?_
  cases left with
  | nil =>
    rw [← hb, if_neg (by simp)]
    have e : found = rimsL ps.length ss := by
      rw [← hrm]
      simp [rimsF]
    rw [← e]
    refine xs_freeze (i := 2) (ds := found.map dPo) rfl ?_
    exact xc_ret (ev_var rfl) rfl
  | cons x l =>
    rw [← hb, if_pos (by simp)]
    have hx : x ∈ freeL ps.length ss := hle x List.mem_cons_self
    obtain ⟨hpl, hpe, hpn⟩ := per_at ho hn hx
    refine xs_asgF (ef_lst (ds := [dSd x]) (ea_cons (ev_ixL (el_of (ds := (x :: l).map dSd) (ev_var rfl)) ev_int (at_nat (i := 0) rfl)) ea_nil) (by simp)) fun aw ds e => ?_
    subst e
    refine xs_while (I := fun m ρ => ∃ k : Nat, k ≤ per ss x ∧ m = per ss x - k ∧ ρ = [obS CS ps ss, .dat (.list ((x :: l).map dSd)), .own af (.lst (found.map dPo)), .own aw (.lst ((wayK ss x k).map dSd)), s4]) (per ss x) ⟨0, Nat.zero_le _, rfl, rfl⟩ fun m ρ1 hI => ?_
    obtain ⟨k, hk, rfl, rfl⟩ := hI
    have hlast : atI ((wayK ss x k).map dSd) (-1) = some (dSd (itr (ahead ss) k x)) := at_last (by rw [List.getElem?_map, List.length_map, wayK_len, Nat.add_sub_cancel, wayK_last]; rfl)
    have hhead : ((wayK ss x k).map dSd)[0]? = some (dSd x) := by
      obtain ⟨r, hr⟩ := wayK_head ss x k
      rw [hr]
      rfl
    refine EvT.imp (et_test (ev_neSc kSd (d := dSd (ahead ss (itr (ahead ss) k x))) (e := dSd x) (ev_callE ((ps, ss), itr (ahead ss) k x) (ea_cons (ev_varOb (i := 0) rfl) (ea_cons (ev_ixL (el_own (i := 3) rfl) (ev_neg ev_int) hlast) ea_nil)) ⟨ho, hn, rim_free ho hn hx k⟩) (ev_ixL (el_own (i := 3) rfl) ev_int (at_nat (i := 0) hhead)) (sc_sd _) (sc_sd _))) fun b hb => ?_
    by_cases he : ahead ss (itr (ahead ss) k x) = x
    · rw [← hb, decide_eq_true (by rw [he]), if_neg (by simp)]
      have hkp : k = per ss x := by
        rcases Nat.lt_or_ge k (per ss x) with h | h
        · exact absurd he (hpn k h)
        · omega
      subst hkp
      refine xs_append (i := 2) (ds := found.map dPo) (p := Eq (dPo (cyc ss x))) rfl ((ev_tupL (el_own (i := 3) (ds := (wayK ss x (per ss x)).map dSd) rfl)).imp fun s e => ⟨_, e.symm, rfl⟩) (by rw [List.length_map]; simp at hfl; omega) fun d e => ?_
      subst e
      refine xc_asg (s := .dat (.list (((x :: l).filter fun y => !(cyc ss x).contains y).map dSd))) ((ef_filterL (l := x :: l) (dα := dSd) (c := fun y => !(cyc ss x).contains y) (f := dSd) (im_listE (ev_var rfl)) (by simp at hfl; simp; omega) fun y _ => ⟨[4], _, by simp, tg_name, et_is (et_test (ev_notInL (d := dSd y) (ds := (cyc ss x).map dSd) (ev_var rfl) (el_own (i := 3) rfl) (shaped_sd _) (canLay_sds _))) (by rw [inD_sd]), fun _ => ev_var rfl⟩).evE) ?_
      have hl1 := left_less ss x l
      refine ⟨_, by show _ < l.length + 1; exact Nat.lt_succ_of_le hl1, (x :: l).filter fun y => !(cyc ss x).contains y, found ++ [cyc ss x], .own aw (.lst ((wayK ss x (per ss x)).map dSd)), s4, rfl, by rw [List.length_append]; simp at hfl; simp only [List.length_singleton]; omega, fun y hy => hle y (List.mem_filter.mp hy).1, ?_, ?_⟩
      · rw [← hrm, List.append_assoc]
        show found ++ ([cyc ss x] ++ _) = found ++ rimsF ss (l.length + 1) (x :: l)
        rw [rimsF, rimsF_fuel ss l.length _ _ hl1 (Nat.le_refl _)]
        rfl
      · rw [List.map_append]
        rfl
    · rw [← hb, decide_eq_false (fun z => he (dSd_inj.mp z)), if_pos (by simp)]
      have hkp : k < per ss x := by
        rcases Nat.lt_or_ge k (per ss x) with h | h
        · exact h
        · have : k = per ss x := by omega
          subst this
          exact absurd hpe he
      refine xc_append (i := 3) (ds := (wayK ss x k).map dSd) (p := Eq (dSd (ahead ss (itr (ahead ss) k x)))) rfl (Ev.imp (ev_callE ((ps, ss), itr (ahead ss) k x) (ea_cons (ev_varOb (i := 0) rfl) (ea_cons (ev_ixL (el_own (i := 3) rfl) (ev_neg ev_int) hlast) ea_nil)) ⟨ho, hn, rim_free ho hn hx k⟩) fun s e => ⟨_, e.symm, rfl⟩) (by rw [List.length_map, wayK_len]; omega) fun d e => ?_
      subst e
      refine ⟨per ss x - (k + 1), by omega, k + 1, hkp, rfl, ?_⟩
      rw [wayK_succ, List.map_append]
      rfl
theorem c_holes : Cal P w K mg base 4 "holes" ["sail"] (spI K fx0 (fun i : SI => [obS CS i.1 i.2]) (fun i => Sn i.1.length i.2 ∧ i.1.length ≤ 12) (fun i => Eq (.ok (.dat (.int (2 - ((pts i.2 i.1.length).length : Int) - (i.1.length : Int) + (i.2.length : Int) + ((freeL i.1.length i.2).length : Int))))))) := by
  have c_rim := c_rim T
  have c_points := c_points T
  refine mk_cal T.d_holes sc_holes (fun _ => rfl) (fun _ _ _ _ _ _ us hl => match us, hl with | [_], _ => rfl) (fun f cdv A outer s H E hr i hp => ⟨_, (pss_one (ps_ret (pe_op op_add (pe_op op_add (pe_op op_sub (pe_op op_sub pe_int (pe_callB (r := fun xs H Q => ∃ p ys, xs = [.ref p] ∧ (SqL K H p ys ∨ SqT K H p ys) ∧ Q (.int ys.length) H) call_len_seq (by rfl) T.b_len (by decide +kernel) (pa_cons (pe_cal c_points (hr.mono (by first | decide | omega)) rfl (pa_cons (pv 0) pa_nil)) pa_nil))) (pe_callB (r := fun xs H Q => ∃ p ys, xs = [.ref p] ∧ (SqL K H p ys ∨ SqT K H p ys) ∧ Q (.int ys.length) H) call_len_seq (by rfl) T.b_len (by decide +kernel) (pa_cons (pe_fld' (K := K) rfl (pv 0)) pa_nil))) (pe_callB (r := fun xs H Q => ∃ p ys, xs = [.ref p] ∧ (SqL K H p ys ∨ SqT K H p ys) ∧ Q (.int ys.length) H) call_len_seq (by rfl) T.b_len (by decide +kernel) (pa_cons (pe_fld' (K := K) rfl (pv 0)) pa_nil))) (pe_callB (r := fun xs H Q => ∃ p ys, xs = [.ref p] ∧ (SqL K H p ys ∨ SqT K H p ys) ∧ Q (.int ys.length) H) call_len_seq (by rfl) T.b_len (by decide +kernel) (pa_cons (pe_cal c_rim (hr.mono (by first | decide | omega)) rfl (pa_cons (pv 0) pa_nil)) pa_nil))))), fun G => ?_⟩)
  obtain ⟨ps, ss⟩ := i
  obtain ⟨ho, hn⟩ := hp
  have ho : Sn ps.length ss := ho
  have hn : ps.length ≤ 12 := hn
  refine xc_ret (ev_I0 (S := ⟨K, fx0, G, H, E⟩) (ev_I0 (ev_I0 (ev_I0 ev_int (ev_lenL (ds := (pts ss ps.length).map dPo) (el_of (ev_callE (ps, ss) (ea_cons (ev_varOb (i := 0) rfl) ea_nil) ⟨ho, hn⟩)))) (ev_lenU (ds := ps.map dPn) (eu_of (ev_fldKX (x := .d (.tuple (ps.map dPn))) (ev_varOb (i := 0) (C := CS) (fs := sailFs ps ss) rfl) T.m_beside.cls T.a_panels sailFs_panels)))) (ev_lenU (ds := ss.map dSm) (eu_of (ev_fldKX (x := .d (.tuple (ss.map dSm))) (ev_varOb (i := 0) (C := CS) (fs := sailFs ps ss) rfl) T.m_beside.cls T.a_seams sailFs_seams)))) (ev_lenL (ds := (freeL ps.length ss).map dSd) (el_of (ev_callE (ps, ss) (ea_cons (ev_varOb (i := 0) rfl) ea_nil) (by show ps.length ≤ 1000; omega))))) ?_
  rw [List.length_map, List.length_map, List.length_map, List.length_map]
  rfl

end
end K11

set_option Elab.async false
set_option linter.all false
set_option maxRecDepth 100000
set_option maxHeartbeats 4000000
/-! SailR: dicts from sides to things; points as the law finds them. -/
namespace SD
open PySem PySem.Spec PyProof.Rows L2 Dl LamX RZ SM
section
variable {β : Type}
def dKV (f : β → D) (l : List (Sd × β)) : List (D × D) := l.map fun p => (dSd p.1, f p.2)
def put (l : List (Sd × β)) (k : Sd) (v : β) : List (Sd × β) := if (l.lookup k).isSome then l.map (fun p => if p.1 = k then (p.1, v) else p) else l ++ [(k, v)]
theorem gD_kv (f : β → D) (l : List (Sd × β)) (k : Sd) : gD (dKV f l) (dSd k) = (l.lookup k).map f := by
  induction l with
  | nil => rfl
  | cons p l ih =>
    obtain ⟨j, v⟩ := p
    show gD ((dSd j, f v) :: dKV f l) (dSd k) = _
    by_cases e : j = k
    · subst e
      rw [gD_pos rfl, List.lookup_cons, beq_self_eq_true]
      rfl
    · rw [gD_neg (fun z => e (nk_sd z)), ih, List.lookup_cons, show (k == j) = false from beq_false_of_ne (fun z => e z.symm)]
theorem pD_kv (f : β → D) (l : List (Sd × β)) (k : Sd) (v : β) : pD (dKV f l) (dSd k) (f v) = dKV f (put l k v) := by
  unfold pD put
  rw [gD_kv, Option.isSome_map]
  by_cases h : (l.lookup k).isSome = true
  · rw [if_pos h, if_pos h]
    unfold dKV
    rw [List.map_map, List.map_map]
    refine List.map_congr_left fun p _ => ?_
    show (if nk (dSd p.1) = nk (dSd k) then (dSd p.1, f v) else (dSd p.1, f p.2)) = (fun p : Sd × β => (dSd p.1, f p.2)) (if p.1 = k then (p.1, v) else p)
    by_cases e : p.1 = k
    · rw [if_pos e, if_pos (by rw [e])]
    · rw [if_neg e, if_neg (fun z => e (nk_sd z))]
  · rw [if_neg h, if_neg h]
    unfold dKV
    rw [List.map_append]
    rfl
theorem lookup_some {l : List (Sd × β)} {k : Sd} : (l.lookup k).isSome = true ↔ k ∈ l.map Prod.fst := by
  induction l with
  | nil => simp
  | cons p l ih =>
    obtain ⟨j, v⟩ := p
    rw [List.lookup_cons]
    by_cases e : k = j
    · subst e
      simp
    · rw [show (k == j) = false from beq_false_of_ne e]
      simp only
      rw [ih]
      simp [e]
theorem lookup_mapv (l : List (Sd × β)) (k j : Sd) (v : β) : (l.map fun p => if p.1 = k then (p.1, v) else p).lookup j = if j = k ∧ (l.lookup j).isSome then some v else l.lookup j := by
  induction l with
  | nil => simp
  | cons p l ih =>
    obtain ⟨i, u⟩ := p
    rw [List.map_cons]
    by_cases e : i = k
    · subst e
      rw [if_pos rfl, List.lookup_cons, List.lookup_cons]
      by_cases e2 : j = i
      · subst e2
        simp
      · rw [show (j == i) = false from beq_false_of_ne e2]
        simp only
        rw [ih]
    · rw [if_neg e, List.lookup_cons, List.lookup_cons]
      by_cases e2 : j = i
      · subst e2
        simp [e]
      · rw [show (j == i) = false from beq_false_of_ne e2]
        simp only
        rw [ih]
theorem lookup_app (l m : List (Sd × β)) (k : Sd) : (l ++ m).lookup k = (l.lookup k).or (m.lookup k) := by
  induction l with
  | nil => rfl
  | cons p l ih =>
    rw [List.cons_append, List.lookup_cons, List.lookup_cons]
    cases k == p.1
    · exact ih
    · rfl
theorem lookup_put (l : List (Sd × β)) (k j : Sd) (v : β) : (put l k v).lookup j = if j = k then some v else l.lookup j := by
  unfold put
  by_cases h : (l.lookup k).isSome = true
  · rw [if_pos h, lookup_mapv]
    by_cases e : j = k
    · subst e
      rw [if_pos ⟨rfl, h⟩, if_pos rfl]
    · rw [if_neg (fun z => e z.1), if_neg e]
  · rw [if_neg h, lookup_app]
    by_cases e : j = k
    · subst e
      rw [if_pos rfl, Option.not_isSome_iff_eq_none.mp h]
      simp
    · rw [if_neg e]
      have : List.lookup j [(k, v)] = none := by rw [List.lookup_cons, beq_false_of_ne e]; rfl
      rw [this]
      simp
theorem put_keys (l : List (Sd × β)) (k : Sd) (v : β) : (put l k v).map Prod.fst = if k ∈ l.map Prod.fst then l.map Prod.fst else l.map Prod.fst ++ [k] := by
  unfold put
  by_cases h : (l.lookup k).isSome = true
  · rw [if_pos h, if_pos (lookup_some.mp h), List.map_map]
    refine List.map_congr_left fun p _ => ?_
    show (if p.1 = k then (p.1, v) else p).1 = p.1
    split <;> rfl
  · rw [if_neg h, if_neg (fun z => h (lookup_some.mpr z)), List.map_append]
    rfl
theorem put_nd {l : List (Sd × β)} {k : Sd} {v : β} (h : (l.map Prod.fst).Nodup) : ((put l k v).map Prod.fst).Nodup := by
  rw [put_keys]
  split
  · exact h
  · rename_i hk
    rw [List.nodup_append]
    exact ⟨h, by simp, fun u hu w hw e => hk (by rw [← List.mem_singleton.mp hw, ← e]; exact hu)⟩
theorem mem_lookup {l : List (Sd × β)} (h : (l.map Prod.fst).Nodup) {k : Sd} {v : β} : (k, v) ∈ l ↔ l.lookup k = some v := by
  induction l with
  | nil => simp
  | cons p l ih =>
    obtain ⟨j, u⟩ := p
    rw [List.map_cons, List.nodup_cons] at h
    rw [List.mem_cons, List.lookup_cons]
    by_cases e : k = j
    · subst e
      rw [beq_self_eq_true]
      simp only [Prod.mk.injEq, true_and, Option.some.injEq]
      constructor
      · rintro (q | q)
        · exact q.symm
        · exact absurd (List.mem_map_of_mem (f := Prod.fst) q) h.1
      · exact fun q => .inl q.symm
    · rw [beq_false_of_ne e]
      simp only [Prod.mk.injEq, e, false_and, false_or]
      exact ih h.2
/-- labels of corners -/
def lbL (lab : Sd → Sd) (l : List Sd) : List (Sd × Sd) := l.map fun c => (c, lab c)
theorem lb_get {lab : Sd → Sd} {l : List Sd} {c : Sd} (h : c ∈ l) : (lbL lab l).lookup c = some (lab c) := by
  induction l with
  | nil => cases h
  | cons x l ih =>
    show List.lookup c ((x, lab x) :: lbL lab l) = _
    rw [List.lookup_cons]
    by_cases e : c = x
    · subst e
      rw [beq_self_eq_true]
    · rw [beq_false_of_ne e]
      exact ih ((List.mem_cons.mp h).resolve_left e)
theorem lb_put {lab : Sd → Sd} {l : List Sd} {c v : Sd} (h : c ∈ l) : put (lbL lab l) c v = lbL (fun x => if x = c then v else lab x) l := by
  unfold put
  rw [lb_get h, if_pos (by rfl)]
  unfold lbL
  rw [List.map_map]
  refine List.map_congr_left fun x _ => ?_
  show (if x = c then (x, v) else (x, lab x)) = (x, if x = c then v else lab x)
  split <;> rfl
theorem lb_congr {a b : Sd → Sd} {l : List Sd} (h : ∀ x ∈ l, a x = b x) : lbL a l = lbL b l := List.map_congr_left fun x hx => by rw [h x hx]
theorem lb_keys (lab : Sd → Sd) (l : List Sd) : (dKV dSd (lbL lab l)).map Prod.fst = l.map dSd := by
  unfold dKV lbL
  rw [List.map_map, List.map_map]
  rfl
theorem lb_snoc (lab : Sd → Sd) {l : List Sd} {c : Sd} (h : c ∉ l) : put (lbL lab l) c (lab c) = lbL lab (l ++ [c]) := by
  unfold put
  rw [if_neg (fun z => h ?_)]
  · unfold lbL
    rw [List.map_append]
    rfl
  · have := lookup_some.mp z
    unfold lbL at this
    rw [List.map_map] at this
    simpa using this
/-- those of l that bear u's label bear v's -/
def relb (lab : Sd → Sd) (u v : Sd) (l : List Sd) : Sd → Sd := fun c => if c ∈ l ∧ lab c = lab u then lab v else lab c
theorem relb_nil (lab : Sd → Sd) (u v : Sd) : relb lab u v [] = lab := by
  funext c
  unfold relb
  rw [if_neg (fun z => by cases z.1)]
theorem relb_out {lab : Sd → Sd} {u v c : Sd} {l : List Sd} (h : c ∉ l) : relb lab u v l c = lab c := if_neg fun z => h z.1
theorem relb_put {lab : Sd → Sd} {u v c : Sd} {l A : List Sd} (hc : c ∈ A) (e : lab c = lab u) : put (lbL (relb lab u v l) A) c (lab v) = lbL (relb lab u v (l ++ [c])) A := by
  rw [lb_put hc]
  refine lb_congr fun x _ => ?_
  unfold relb
  by_cases q : x = c
  · subst q
    rw [if_pos rfl, if_pos ⟨by simp, e⟩]
  · rw [if_neg q]
    simp [q]
theorem relb_skip {lab : Sd → Sd} {u v c : Sd} {l A : List Sd} (e : ¬ lab c = lab u) : lbL (relb lab u v l) A = lbL (relb lab u v (l ++ [c])) A := by
  refine lb_congr fun x _ => ?_
  unfold relb
  by_cases q : x = c
  · subst q
    rw [if_neg (fun z => e z.2), if_neg (fun z => e z.2)]
  · simp [q]
theorem relb_all (lab : Sd → Sd) (u v : Sd) (A : List Sd) : lbL (relb lab u v A) A = lbL (fun x => if lab x = lab u then lab v else lab x) A := by
  refine lb_congr fun x hx => ?_
  unfold relb
  simp [hx]
/-- labels tell the parts by E -/
def LabOk (E : List (Sd × Sd)) (lab : Sd → Sd) : Prop := ∀ c d, lab c = lab d ↔ Cg E c d
theorem lab_nil : LabOk [] id := fun c d => cg_nil.symm
theorem lab_snoc {E : List (Sd × Sd)} {lab : Sd → Sd} (h : LabOk E lab) (u v : Sd) : LabOk (E ++ [(u, v)]) (fun x => if lab x = lab u then lab v else lab x) := fun c d => by
  rw [cg_snoc, ← h c d, ← h c u, ← h v d, ← h c v, ← h u d]
  show (if lab c = lab u then lab v else lab c) = (if lab d = lab u then lab v else lab d) ↔ _
  generalize lab c = a
  generalize lab d = b
  generalize lab u = x
  generalize lab v = y
  by_cases h1 : a = x
  · subst h1
    rw [if_pos rfl]
    by_cases h2 : b = a
    · subst h2
      rw [if_pos rfl]
      exact ⟨fun _ => .inl rfl, fun _ => rfl⟩
    · rw [if_neg h2]
      refine ⟨fun q => .inr (.inl ⟨rfl, q⟩), fun q => ?_⟩
      rcases q with q | ⟨_, q⟩ | ⟨q, q2⟩
      · exact absurd q.symm h2
      · exact q
      · exact absurd q2.symm h2
  · rw [if_neg h1]
    by_cases h2 : b = x
    · subst h2
      rw [if_pos rfl]
      refine ⟨fun q => .inr (.inr ⟨q, rfl⟩), fun q => ?_⟩
      rcases q with q | ⟨q, _⟩ | ⟨q, _⟩
      · exact absurd q h1
      · exact absurd q h1
      · exact q
    · rw [if_neg h2]
      refine ⟨.inl, fun q => ?_⟩
      rcases q with q | ⟨q, _⟩ | ⟨_, q⟩
      · exact q
      · exact absurd q h1
      · exact absurd q.symm h2
/-- the corners by their labels -/
def fnd (lab : Sd → Sd) (l : List Sd) : List (Sd × List Sd) := l.foldl (fun acc c => put acc (lab c) (((acc.lookup (lab c)).getD []) ++ [c])) []
theorem fnd_snoc (lab : Sd → Sd) (l : List Sd) (c : Sd) : fnd lab (l ++ [c]) = put (fnd lab l) (lab c) ((((fnd lab l).lookup (lab c)).getD []) ++ [c]) := by
  unfold fnd
  rw [List.foldl_append]
  rfl
def FOk (lab : Sd → Sd) (l : List Sd) (acc : List (Sd × List Sd)) : Prop := (acc.map Prod.fst).Nodup ∧ ∀ k, acc.lookup k = if k ∈ l.map lab then some (l.filter fun x => decide (lab x = k)) else none
theorem fok_snoc {lab : Sd → Sd} {l : List Sd} {acc : List (Sd × List Sd)} (h : FOk lab l acc) (c : Sd) : FOk lab (l ++ [c]) (put acc (lab c) (((acc.lookup (lab c)).getD []) ++ [c])) := by
  obtain ⟨nd, hl⟩ := h
  refine ⟨put_nd nd, fun k => ?_⟩
  rw [lookup_put, List.map_append, List.filter_append]
  by_cases e : k = lab c
  · subst e
    rw [if_pos rfl, if_pos (by simp), hl]
    by_cases q : lab c ∈ l.map lab
    · rw [if_pos q]
      simp
    · rw [if_neg q]
      have : l.filter (fun x => decide (lab x = lab c)) = [] := List.filter_eq_nil_iff.mpr fun x hx z => q (by rw [← of_decide_eq_true z]; exact List.mem_map_of_mem hx)
      rw [this]
      simp
  · rw [if_neg e, hl]
    have e2 : ¬ lab c = k := fun z => e z.symm
    by_cases q : k ∈ l.map lab
    · rw [if_pos q, if_pos (List.mem_append_left _ q)]
      simp [e2]
    · rw [if_neg q, if_neg (fun z => (List.mem_append.mp z).elim q fun z => e (by simpa using z))]
theorem fnd_ok (lab : Sd → Sd) : ∀ (m l : List Sd) (acc : List (Sd × List Sd)), FOk lab l acc → FOk lab (l ++ m) (m.foldl (fun acc c => put acc (lab c) (((acc.lookup (lab c)).getD []) ++ [c])) acc)
  | [], l, acc, h => by rw [List.append_nil]; exact h
  | c :: m, l, acc, h => by
    have := fnd_ok lab m (l ++ [c]) _ (fok_snoc h c)
    rw [List.append_assoc] at this
    exact this
theorem fnd_get (lab : Sd → Sd) (l : List Sd) : FOk lab l (fnd lab l) := fnd_ok lab l [] [] ⟨List.nodup_nil, fun k => by simp⟩
theorem fnd_len (lab : Sd → Sd) (l : List Sd) : (fnd lab l).length ≤ l.length := by
  have h := fnd_get lab l
  have := h.1.length_le_of_subset (l₂ := l.map lab) fun k hk => by
    have := lookup_some.mpr hk
    rw [h.2] at this
    by_cases q : k ∈ l.map lab
    · exact q
    · rw [if_neg q] at this
      cases this
  simpa using this
section
variable {n : Nat} {ss : List Sm}
theorem fnd_mem {lab : Sd → Sd} (h : LabOk (edgC ss) lab) {x : List Sd} : x ∈ (fnd lab (allC n)).map Prod.snd ↔ ∃ c ∈ allC n, x = ptC ss n c := by
  have f := fnd_get lab (allC n)
  have eq : ∀ c, (allC n).filter (fun x => decide (lab x = lab c)) = ptC ss n c := fun c => by
    unfold ptC
    refine List.filter_congr fun x _ => ?_
    congr 1
    exact propext ⟨fun e => (h c x).mp e.symm, fun e => ((h c x).mpr e).symm⟩
  rw [List.mem_map]
  constructor
  · rintro ⟨⟨k, v⟩, hp, rfl⟩
    have := (mem_lookup f.1).mp hp
    rw [f.2] at this
    by_cases q : k ∈ (allC n).map lab
    · rw [if_pos q] at this
      obtain ⟨c, hc, rfl⟩ := List.mem_map.mp q
      rw [eq c] at this
      exact ⟨c, hc, (Option.some.inj this).symm⟩
    · rw [if_neg q] at this
      cases this
  · rintro ⟨c, hc, rfl⟩
    refine ⟨(lab c, ptC ss n c), (mem_lookup f.1).mpr ?_, rfl⟩
    rw [f.2, if_pos (List.mem_map_of_mem hc), eq c]
theorem fnd_perm {lab : Sd → Sd} (h : LabOk (edgC ss) lab) : ((fnd lab (allC n)).map Prod.snd).Perm (pts ss n) := by
  have f := fnd_get lab (allC n)
  refine nodup_perm ?_ pts_nd fun x => by rw [fnd_mem h, mem_pts]
  have nd := f.1
  rw [List.nodup_iff_pairwise_ne, List.pairwise_map] at nd ⊢
  refine List.Pairwise.imp_of_mem (fun {a b} ha hb hne e => hne ?_) nd
  have g : ∀ p ∈ fnd lab (allC n), ∃ x, x ∈ p.2 ∧ ∀ y ∈ p.2, lab y = p.1 := fun p hp => by
    obtain ⟨k, v⟩ := p
    have := (mem_lookup f.1).mp hp
    rw [f.2] at this
    by_cases q : k ∈ (allC n).map lab
    · rw [if_pos q] at this
      obtain ⟨c, hc, rfl⟩ := List.mem_map.mp q
      have e := Option.some.inj this
      show ∃ x, x ∈ v ∧ ∀ y ∈ v, lab y = lab c
      rw [← e]
      exact ⟨c, List.mem_filter.mpr ⟨hc, decide_eq_true rfl⟩, fun y hy => of_decide_eq_true (List.mem_filter.mp hy).2⟩
    · rw [if_neg q] at this
      cases this
  obtain ⟨x, h1, h2⟩ := g a ha
  obtain ⟨_, _, h3⟩ := g b hb
  rw [← h2 x h1, h3 x (by rw [← e]; exact h1)]
end
end
end SD

set_option Elab.async false
set_option linter.all false
set_option maxRecDepth 100000
set_option maxHeartbeats 4000000
namespace K11
open PySem PySem.Spec PyProof.Rows L2 Dl LamX StX RZ SM SD
section
variable {P : Program} {w : World} {K : PySem.W.Frag} {mg : Str → Option Value} {base : Heap} {C1 C2 fI CS : Addr} (T : Tx P w K mg base C1 C2 fI CS)
include T
theorem c__law_freeD : Cal P w K mg base 1 "_law_free" ["panels", "seams"] (spI K fx0 (fun i : SI => [.dat (.list (i.1.map dPn)), .dat (.list (i.2.map dSm))]) (fun i => i.1.length ≤ 1000 ∧ i.2.length ≤ 1000) (fun i => Eq (.ok (.dat (.list ((freeL i.1.length i.2).map dSd)))))) := by
  refine mk_cal T.d__law_free sc__law_free (fun _ => rfl) (fun _ _ _ _ _ _ us hl => match us, hl with | [_, _], _ => rfl) (fun f cdv A outer s H E hr i hp => ⟨_, (pss_cons (ps_set (i := 2) sc__law_free.nd rfl (Or.inr rfl) (pe_op (r := rCatL K) op_catL (pe_lc (own := [("seam", 5)]) (by rfl) sc__law_free.nd (pi_list (pv 1)) (blkOk_by (N := ["panels", "seams", "sewn", "found", "panel", "seam", "side"]) (sc := defScope s__law_free) (own := [("seam", 5)]) (by decide +kernel)) (fun _ _ _ _ _ => (pg_name (i := 5) sc__law_free.nd rfl (by first | exact Or.inl rfl | exact Or.inr rfl))) (fun _ _ _ _ _ => pts_nil) (fun _ _ _ _ _ => (pe_slice (r := rSlA K) sl_tupA (pv 5) po_none (po_some pe_int)))) (pe_lc (own := [("seam", 5)]) (by rfl) sc__law_free.nd (pi_list (pv 1)) (blkOk_by (N := ["panels", "seams", "sewn", "found", "panel", "seam", "side"]) (sc := defScope s__law_free) (own := [("seam", 5)]) (by decide +kernel)) (fun _ _ _ _ _ => (pg_name (i := 5) sc__law_free.nd rfl (by first | exact Or.inl rfl | exact Or.inr rfl))) (fun _ _ _ _ _ => pts_nil) (fun _ _ _ _ _ => (pe_slice (r := rSlA K) sl_tupA (pv 5) (po_some pe_int) po_none)))))
      (pss_cons (ps_set (i := 3) sc__law_free.nd rfl (Or.inl rfl) (pe_lst pa_nil))
      (pss_cons (ps_for (passes_of rfl) rfl (pi_range1 (by rfl) T.b_range (pa_cons (pe_callB (r := fun xs H Q => ∃ p ys, xs = [.ref p] ∧ (SqL K H p ys ∨ SqT K H p ys) ∧ Q (.int ys.length) H) call_len_seq (by rfl) T.b_len (by decide +kernel) (pa_cons (pv 0) pa_nil)) pa_nil)) (pg_name (i := 4) sc__law_free.nd rfl (Or.inr rfl)) (pss_one (ps_set (i := 3) sc__law_free.nd rfl (Or.inl rfl) (pe_op (r := rCatL K) op_catL (pv 3) (pe_lc (own := [("side", 6)]) (by rfl) sc__law_free.nd (pi_range1 (by rfl) T.b_range (pa_cons pe_int pa_nil)) (blkOk_by (N := ["panels", "seams", "sewn", "found", "panel", "seam", "side"]) (sc := defScope s__law_free) (own := [("side", 6)]) (by decide +kernel)) (fun _ _ _ _ _ => (pg_name (i := 6) sc__law_free.nd rfl (by first | exact Or.inl rfl | exact Or.inr rfl))) (fun _ _ _ _ _ => (pts_one (pt_cmpR (r := rNotInS K) (op_notInS (u65 hr)) (pe_tup (pa_cons (pv 4) (pa_cons (pv 6) pa_nil))) (pv 2) (by rfl)))) (fun _ _ _ _ _ => (pe_tup (pa_cons (pv 4) (pa_cons (pv 6) pa_nil)))))))))
      (pss_one (ps_ret (pv 3)))))), fun G => ?_⟩)
  obtain ⟨ps, ss⟩ := i
  obtain ⟨h1, h2⟩ := hp
  have h1 : ps.length ≤ 1000 := h1
  have h2 : ss.length ≤ 1000 := h2
  have c1 : ∀ s : Sm, cutD [.int (s.1.1 : Nat), .int (s.1.2 : Nat), .int (s.2.1 : Nat), .int (s.2.2 : Nat)] none (some 2) = [.int (s.1.1 : Nat), .int (s.1.2 : Nat)] := fun _ => rfl
  have c2 : ∀ s : Sm, cutD [.int (s.1.1 : Nat), .int (s.1.2 : Nat), .int (s.2.1 : Nat), .int (s.2.2 : Nat)] (some 2) none = [.int (s.2.1 : Nat), .int (s.2.2 : Nat)] := fun _ => rfl
  refine xs_asg (S := ⟨K, fx0, G, H, E⟩) (s := .dat (.list ((used ss).map dSd))) ((ef_catL (ds := (ss.map Prod.fst).map dSd) (es := (ss.map Prod.snd).map dSd) (el_of ((ef_mapL (l := ss) (dα := dSm) (f := fun s => dSd s.1) (im_listE (ev_var rfl)) (by omega) fun s _ => ⟨[5], _, by simp, tg_name, (ev_cutA (ds := [.int (s.1.1 : Nat), .int (s.1.2 : Nat), .int (s.2.1 : Nat), .int (s.2.2 : Nat)]) (ev_var rfl) eo_none (eo_some ev_int)).cast (by rw [c1]; rfl)⟩).evE.cast (by rw [List.map_map]; rfl)))
    (el_of ((ef_mapL (l := ss) (dα := dSm) (f := fun s => dSd s.2) (im_listE (ev_var rfl)) (by omega) fun s _ => ⟨[5], _, by simp, tg_name, (ev_cutA (ds := [.int (s.1.1 : Nat), .int (s.1.2 : Nat), .int (s.2.1 : Nat), .int (s.2.2 : Nat)]) (ev_var rfl) (eo_some ev_int) eo_none).cast (by rw [c2]; rfl)⟩).evE.cast (by rw [List.map_map]; rfl))) (by simp; omega)).evE.cast (by unfold used; rw [List.map_append])) ?_
  refine xs_asg (s := .dat (.list [])) ev_lst0 ?_
  refine xs_for (im_rng1E (n := ps.length) ((ev_lenL (el_of (ds := ps.map dPn) (ev_var rfl))).cast (by rw [List.length_map])) (by omega)) (fun k ρ => ∃ s4 : Sl, ρ = [.dat (.list (ps.map dPn)), .dat (.list (ss.map dSm)), .dat (.list ((used ss).map dSd)), .dat (.list ((freeL k ss).map dSd)), s4, .no, .no]) ⟨_, rfl⟩ (fun k d ρ1 hd hI => ?_) fun ρ1 hI => ?_
  · obtain ⟨s4, rfl⟩ := hI
    obtain ⟨hk, rfl⟩ := rngD_get hd
    rw [Int.zero_add]
    refine ⟨_, _, tg_name, ?_⟩
    have hfl := freeL_len k ss
    have hrl := rowF_len ss k
    refine xc_asg (s := .dat (.list ((freeL (k + 1) ss).map dSd))) ((ef_catL (ds := (freeL k ss).map dSd) (es := (rowF ss k).map dSd) (el_of (ev_var rfl)) (el_of ((ef_filterL (l := List.range 3) (dα := fun (x : Nat) => PyData.int (x : Int)) (c := fun s => !(used ss).contains (k, s)) (f := fun s => dSd (k, s)) im_r3 (by simp) fun s _ => ⟨[6], _, by simp, tg_name, et_is (et_test (ev_notInL (d := dSd (k, s)) (ev_tup2 (ev_var rfl) (ev_var rfl)) (el_of (ev_var rfl)) (shaped_sd _) (canLay_sds _))) (by rw [inD_sd]), fun _ => ev_tup2 (ev_var rfl) (ev_var rfl)⟩).evE.cast (by unfold rowF; rw [List.map_map]; rfl))) (by rw [List.length_map, List.length_map]; omega)).evE.cast (by rw [freeL_succ, List.map_append])) ?_
    exact ⟨_, rfl⟩
  · obtain ⟨s4, rfl⟩ := hI
    rw [rngD_length]
    exact xc_ret (ev_var rfl) rfl
/-- the law's corner: a number below 0 stands for the one from behind -/
def fixZ (x : Int) : Int := if x ≥ 0 then x else x + 3
omit T in
theorem ev_fix {S : Cf} {ρ : Rho} {i : Nat} {p x : Int} (h : ρ[i]? = some (.dat (.tuple [.int p, .int x]))) : Ev S (tTup (tCons (tOp (rIxT S.K) (tVar i) (tC (.int 0))) (tCons (tIf (tTest (tOp (rI0 fun i j => .bl (decide (i ≥ j))) (tOp (rIxT S.K) (tVar i) (tC (.int 1))) (tC (.int 0)))) (tOp (rIxT S.K) (tVar i) (tC (.int 1))) (tOp (rI0 fun i j => .int (i + j)) (tOp (rIxT S.K) (tVar i) (tC (.int 1))) (tC (.int 3)))) tNil))) ρ (Eq (.dat (.tuple [.int p, .int (fixZ x)]))) := by
  have h1 : Ev S (tOp (rIxT S.K) (tVar i) (tC (.int 1))) ρ (Eq (.dat (.int x))) := ev_ixU (ds := [.int p, .int x]) (ev_var h) ev_int (at_nat (i := 1) rfl)
  refine ev_tup2 (ev_ixU (ds := [.int p, .int x]) (ev_var h) ev_int (at_nat (i := 0) rfl)) ?_
  unfold fixZ
  refine ev_if (b := decide (x ≥ 0)) (et_test (ev_C0 h1 ev_int)) (fun z => ?_) fun z => ?_
  · rw [if_pos (of_decide_eq_true z)]
    exact h1
  · rw [if_neg (of_decide_eq_false z)]
    exact ev_I0 h1 ev_int
/-- a seam's two pairs of corners, as the law writes them -/
def rawE (s : Sm) : List D := [.tuple [.tuple [.int (s.1.1 : Nat), .int (s.1.2 : Nat)], .tuple [.int (s.2.1 : Nat), .int ((s.2.2 : Int) - 2)]], .tuple [.tuple [.int (s.1.1 : Nat), .int ((s.1.2 : Int) - 2)], .tuple [.int (s.2.1 : Nat), .int (s.2.2 : Nat)]]]
def edE (s : Sm) : List (Sd × Sd) := [(s.1, ix1 s.2), (ix1 s.1, s.2)]
omit T in
theorem fix_nat (x : Nat) : fixZ (x : Int) = (x : Int) := if_pos (by omega)
omit T in
theorem fix_sub {x : Nat} (h : x < 3) : fixZ ((x : Int) - 2) = (((x + 1) % 3 : Nat) : Int) := by
  match x, h with
  | 0, _ => rfl
  | 1, _ => rfl
  | 2, _ => rfl
omit T in
theorem rawE_at {s : Sm} (h1 : s.1.2 < 3) (h2 : s.2.2 < 3) {i : Nat} {d : D} (h : (rawE s)[i]? = some d) : ∃ (p q : Nat) (x y : Int) (e : Sd × Sd), d = .tuple [.tuple [.int (p : Nat), .int x], .tuple [.int (q : Nat), .int y]] ∧ (edE s)[i]? = some e ∧ dSd e.1 = .tuple [.int (p : Nat), .int (fixZ x)] ∧ dSd e.2 = .tuple [.int (q : Nat), .int (fixZ y)] := by
  match i, h with
  | 0, h =>
    cases h
    exact ⟨_, _, _, _, (s.1, ix1 s.2), rfl, rfl, by rw [fix_nat]; rfl, by rw [fix_sub h2]; rfl⟩
  | 1, h =>
    cases h
    exact ⟨_, _, _, _, (ix1 s.1, s.2), rfl, rfl, by rw [fix_sub h1]; rfl, by rw [fix_nat]; rfl⟩
omit T in
theorem edg_take {ss : List Sm} {k : Nat} {s : Sm} (h : ss[k]? = some s) : edgC (ss.take (k + 1)) = edgC (ss.take k) ++ edE s := by
  rw [take_get h]
  unfold edgC
  rw [List.flatMap_append]
  simp [edE]
open Classical in
theorem c__law_points : Cal P w K mg base 1 "_law_points" ["panels", "seams"] (spI K fx0 (fun i : SI => [.dat (.list (i.1.map dPn)), .dat (.list (i.2.map dSm))]) (fun i => Sn i.1.length i.2 ∧ i.1.length ≤ 12) (fun i => Eq (.ok (.dat (.list ((pts i.2 i.1.length).map dPo)))))) := by
  refine mk_cal T.d__law_points sc__law_points (fun _ => rfl) (fun _ _ _ _ _ _ us hl => match us, hl with | [_, _], _ => rfl) (fun f cdv A outer s H E hr i hp => ⟨_, (pss_cons (ps_set (i := 2) sc__law_points.nd rfl (Or.inl rfl) pe_xnew)
      (pss_cons (ps_for (passes_of rfl) rfl (pi_range1 (by rfl) T.b_range (pa_cons (pe_callB (r := fun xs H Q => ∃ p ys, xs = [.ref p] ∧ (SqL K H p ys ∨ SqT K H p ys) ∧ Q (.int ys.length) H) call_len_seq (by rfl) T.b_len (by decide +kernel) (pa_cons (pv 0) pa_nil)) pa_nil)) (pg_name (i := 3) sc__law_points.nd rfl (Or.inl rfl)) (pss_one (ps_for (passes_of rfl) rfl (pi_range1 (by rfl) T.b_range (pa_cons pe_int pa_nil)) (pg_name (i := 4) sc__law_points.nd rfl (Or.inl rfl)) (pss_one (ps_xput (K := K) rfl (u64 hr) (pv 2) (pe_tup (pa_cons (pv 3) (pa_cons (pv 4) pa_nil))) (pe_tup (pa_cons (pv 3) (pa_cons (pv 4) pa_nil))))))))
      (pss_cons (ps_for (passes_of rfl) rfl (pi_list (pv 1)) (pg_tup (by rfl) (pgs_cons (pg_name (i := 3) sc__law_points.nd rfl (Or.inl rfl)) (pgs_cons (pg_name (i := 5) sc__law_points.nd rfl (Or.inl rfl)) (pgs_cons (pg_name (i := 6) sc__law_points.nd rfl (Or.inl rfl)) (pgs_cons (pg_name (i := 7) sc__law_points.nd rfl (Or.inl rfl)) pgs_nil))))) (pss_one (ps_for (passes_of rfl) rfl (pi_list (pe_lst (pa_cons (pe_tup (pa_cons (pe_tup (pa_cons (pv 3) (pa_cons (pv 5) pa_nil))) (pa_cons (pe_tup (pa_cons (pv 6) (pa_cons (pe_op op_sub (pv 7) pe_int) pa_nil))) pa_nil))) (pa_cons (pe_tup (pa_cons (pe_tup (pa_cons (pv 3) (pa_cons (pe_op op_sub (pv 5) pe_int) pa_nil))) (pa_cons (pe_tup (pa_cons (pv 6) (pa_cons (pv 7) pa_nil))) pa_nil))) pa_nil)))) (pg_tup (by rfl) (pgs_cons (pg_name (i := 8) sc__law_points.nd rfl (Or.inl rfl)) (pgs_cons (pg_name (i := 9) sc__law_points.nd rfl (Or.inl rfl)) pgs_nil))) (pss_cons (ps_set (i := 10) sc__law_points.nd rfl (Or.inl rfl) (pe_xget (K := K) rfl (u64 hr) (pv 2) (pe_tup (pa_cons (pe_ix (r := rIxT K) ix_tup (pv 8) pe_int (fun _ _ => rfl)) (pa_cons (pe_ifExp (pt_cmpR op_ge (pe_ix (r := rIxT K) ix_tup (pv 8) pe_int (fun _ _ => rfl)) pe_int (nomark _)) (pe_ix (r := rIxT K) ix_tup (pv 8) pe_int (fun _ _ => rfl)) (pe_op op_add (pe_ix (r := rIxT K) ix_tup (pv 8) pe_int (fun _ _ => rfl)) pe_int)) pa_nil)))))
      (pss_cons (ps_set (i := 11) sc__law_points.nd rfl (Or.inl rfl) (pe_xget (K := K) rfl (u64 hr) (pv 2) (pe_tup (pa_cons (pe_ix (r := rIxT K) ix_tup (pv 9) pe_int (fun _ _ => rfl)) (pa_cons (pe_ifExp (pt_cmpR op_ge (pe_ix (r := rIxT K) ix_tup (pv 9) pe_int (fun _ _ => rfl)) pe_int (nomark _)) (pe_ix (r := rIxT K) ix_tup (pv 9) pe_int (fun _ _ => rfl)) (pe_op op_add (pe_ix (r := rIxT K) ix_tup (pv 9) pe_int (fun _ _ => rfl)) pe_int)) pa_nil)))))
      (pss_one (ps_for (passes_of rfl) rfl (pi_list (pe_callTy (T := "list") (r := rListX K) (call_listX rfl) (by rfl) T.b_list (by decide +kernel) (pa_cons (pv 2) pa_nil))) (pg_name (i := 4) sc__law_points.nd rfl (Or.inl rfl)) (pss_one (ps_if (pt_cmpR (r := rEqD K) (op_eqD (u64 hr)) (pe_xget (K := K) rfl (u64 hr) (pv 2) (pv 4)) (pv 10) (nomark _)) (pss_one (ps_xput (K := K) rfl (u64 hr) (pv 2) (pv 4) (pv 11))) pss_nil)))))))))
      (pss_cons (ps_set (i := 12) sc__law_points.nd rfl (Or.inr rfl) pe_xnew)
      (pss_cons (ps_for (passes_of rfl) rfl (pi_list (pe_callB (r := rSortD K) (cr_sortD (u64 hr)) (by rfl) T.b_sorted (by decide +kernel) (pa_cons (pe_callTy (T := "list") (r := rListX K) (call_listX rfl) (by rfl) T.b_list (by decide +kernel) (pa_cons (pv 2) pa_nil)) pa_nil))) (pg_name (i := 4) sc__law_points.nd rfl (Or.inl rfl)) (pss_one (ps_xput (K := K) rfl (u64 hr) (pv 12) (pe_xget (K := K) rfl (u64 hr) (pv 2) (pv 4)) (pe_op (r := rCatA K) op_catA (pe_xget2 (K := K) rfl (u64 hr) (pv 12) (pe_xget (K := K) rfl (u64 hr) (pv 2) (pv 4)) (pe_tup pa_nil) ⟨rfl, rfl, rfl, rfl⟩) (pe_tup (pa_cons (pv 4) pa_nil))))))
      (pss_lk (pss_one (ps_ret (pe_callB (r := rSortD K) (cr_sortD (u64 hr)) (by rfl) T.b_sorted (by decide +kernel) (pa_cons (pe_lc (own := [("name", 13)]) (by rfl) sc__law_points.nd (pi_keysX (pv 12)) (blkOk_by (N := ["panels", "seams", "group", "panel", "corner", "side", "other", "number", "one", "two", "old", "new", "found", "name"]) (sc := defScope s__law_points) (own := [("name", 13)]) (by decide +kernel)) (fun _ _ _ _ _ => (pg_name (i := 13) sc__law_points.nd rfl (by first | exact Or.inl rfl | exact Or.inr rfl))) (fun _ _ _ _ _ => pts_nil) (fun _ _ _ _ _ => (pe_xget (K := K) rfl (u64 hr) (pv 12) (pv 13)))) pa_nil)))))))))), fun G => ?_⟩)
  obtain ⟨ps, ss⟩ := i
  obtain ⟨ho, hn⟩ := hp
  have ho : Sn ps.length ss := ho
  have hn : ps.length ≤ 12 := hn
  have hall : (allC ps.length).length ≤ 36 := by rw [all_len]; omega
  refine xs_asgQ (S := ⟨K, fx0, G, H, E⟩) eq_newN fun ag => ?_
  have klen : ∀ (lab : Sd → Sd) (l : List Sd), (dKV dSd (lbL lab l)).length = l.length := fun lab l => by unfold dKV lbL; rw [List.length_map, List.length_map]
  -- the labels at first
  refine xs_cut (Q := fun ρ => ∃ s3 s4 : Sl, ρ = [.dat (.list (ps.map dPn)), .dat (.list (ss.map dSm)), .own ag (moD ag false (dKV dSd (lbL id (allC ps.length)))), s3, s4, .no, .no, .no, .no, .no, .no, .no, .no, .no]) ?_ ?_
  · refine xc_forE (im_rng1E (n := ps.length) ((ev_lenL (el_of (ds := ps.map dPn) (ev_var rfl))).cast (by rw [List.length_map])) (by omega)) (fun k ρ => ∃ s3 s4 : Sl, ρ = [.dat (.list (ps.map dPn)), .dat (.list (ss.map dSm)), .own ag (moD ag false (dKV dSd (lbL id (allC k)))), s3, s4, .no, .no, .no, .no, .no, .no, .no, .no, .no]) ⟨_, _, rfl⟩ (fun k d ρ1 hd hI => ?_) fun ρ1 hI => ?_
    · obtain ⟨s3, s4, rfl⟩ := hI
      obtain ⟨hk, rfl⟩ := rngD_get hd
      rw [Int.zero_add]
      refine ⟨_, _, tg_name, ?_⟩
      refine xc_forE im_r3 (fun j ρ => ∃ s4 : Sl, ρ = [.dat (.list (ps.map dPn)), .dat (.list (ss.map dSm)), .own ag (moD ag false (dKV dSd (lbL id (allC k ++ (List.range j).map fun s => (k, s))))), .dat (.int (k : Nat)), s4, .no, .no, .no, .no, .no, .no, .no, .no, .no]) ⟨s4, by simp⟩ (fun j d ρ1 hd hI => ?_) fun ρ1 hI => ?_
      · obtain ⟨s4, rfl⟩ := hI
        obtain ⟨j', hj', rfl⟩ := map_get hd
        obtain ⟨hj3, rfl⟩ : j < 3 ∧ j = j' := by
          rw [List.getElem?_range (by
            have := (List.getElem?_eq_some_iff.mp hj').1
            simpa using this)] at hj'
          cases hj'
          exact ⟨by
            have := (List.getElem?_eq_some_iff.mp hd).1
            simpa using this, rfl⟩
        refine ⟨_, _, tg_name, ?_⟩
        have hnew : (k, j) ∉ allC k ++ (List.range j).map fun s => (k, s) := fun z => by
          rcases List.mem_append.mp z with z | z
          · have := (mem_all.mp z).1
            exact absurd this (Nat.lt_irrefl _)
          · simp at z
        refine xc_xput (i := 2) (a := ag) (f := false) (ds := dKV dSd (lbL id (allC k ++ (List.range j).map fun s => (k, s)))) (dk := dSd (k, j)) (d := dSd (k, j)) rfl (ev_tup2 (ev_var rfl) (ev_var rfl)) (ev_tup2 (ev_var rfl) (ev_var rfl)) (key_sd _) (by rw [klen, List.length_append, all_len, List.length_map, List.length_range]; omega) ?_
        refine ⟨.dat (.int (j : Nat)), ?_⟩
        rw [pD_kv dSd, show put (lbL id (allC k ++ (List.range j).map fun s => (k, s))) (k, j) (k, j) = lbL id (allC k ++ (List.range (j + 1)).map fun s => (k, s)) by
          rw [List.range_succ, List.map_append, ← List.append_assoc]
          exact lb_snoc id hnew]
        rfl
      · obtain ⟨s4, rfl⟩ := hI
        refine ⟨.dat (.int (k : Nat)), s4, ?_⟩
        rw [List.length_map, List.length_range, all_succ]
    · obtain ⟨s3, s4, rfl⟩ := hI
      rw [rngD_length]
      exact ⟨_, _, rfl⟩
  rintro ρ0 ⟨s3, s4, rfl⟩
  -- the seams
  refine xs_cut (Q := fun ρ => ∃ (lab : Sd → Sd) (s3 s4 s5 s6 s7 s8 s9 s10 s11 : Sl), LabOk (edgC ss) lab ∧ ρ = [.dat (.list (ps.map dPn)), .dat (.list (ss.map dSm)), .own ag (moD ag false (dKV dSd (lbL lab (allC ps.length)))), s3, s4, s5, s6, s7, s8, s9, s10, s11, .no, .no]) ?_ ?_
  · refine xc_forE (im_listE (ev_var rfl)) (fun k ρ => ∃ (lab : Sd → Sd) (s3 s4 s5 s6 s7 s8 s9 s10 s11 : Sl), LabOk (edgC (ss.take k)) lab ∧ ρ = [.dat (.list (ps.map dPn)), .dat (.list (ss.map dSm)), .own ag (moD ag false (dKV dSd (lbL lab (allC ps.length)))), s3, s4, s5, s6, s7, s8, s9, s10, s11, .no, .no]) ⟨id, _, _, _, _, _, _, _, _, _, lab_nil, rfl⟩ (fun k d ρ1 hd hI => ?_) fun ρ1 hI => ?_
    · obtain ⟨lab0, s3, s4, s5, s6, s7, s8, s9, s10, s11, hlab0, rfl⟩ := hI
      obtain ⟨m, hm, rfl⟩ := map_get hd
      have hmm : m ∈ ss := List.mem_of_getElem? hm
      obtain ⟨⟨l1, l2⟩, l3, l4⟩ := ho.lt m hmm
      refine ⟨_, _, tg_tup (tgs_cons tg_name (tgs_cons tg_name (tgs_cons tg_name (tgs_cons tg_name tgs_nil)))), ?_⟩
      refine xc_forE (im_listE ((ef_lst (ds := rawE m) (ea_cons (ev_tup2 (ev_tup2 (ev_var rfl) (ev_var rfl)) (ev_tup2 (ev_var rfl) (ev_I0 (ev_var rfl) ev_int))) (ea_cons (ev_tup2 (ev_tup2 (ev_var rfl) (ev_I0 (ev_var rfl) ev_int)) (ev_tup2 (ev_var rfl) (ev_var rfl))) ea_nil)) (by simp [rawE])).evE)) (fun j ρ => ∃ (lab : Sd → Sd) (s4 s8 s9 s10 s11 : Sl), LabOk (edgC (ss.take k) ++ (edE m).take j) lab ∧ ρ = [.dat (.list (ps.map dPn)), .dat (.list (ss.map dSm)), .own ag (moD ag false (dKV dSd (lbL lab (allC ps.length)))), .dat (.int (m.1.1 : Nat)), s4, .dat (.int (m.1.2 : Nat)), .dat (.int (m.2.1 : Nat)), .dat (.int (m.2.2 : Nat)), s8, s9, s10, s11, .no, .no]) ⟨lab0, s4, s8, s9, s10, s11, by simpa using hlab0, rfl⟩ (fun j d ρ1 hd hI => ?_) fun ρ1 hI => ?_
      · obtain ⟨lab, s4, s8, s9, s10, s11, hlab, rfl⟩ := hI
        obtain ⟨p, q, x, y, ⟨u, v⟩, rfl, he, ku, kv⟩ := rawE_at l2 l4 hd
        have hue : u ∈ allC ps.length ∧ v ∈ allC ps.length := by
          have : (u, v) ∈ edE m := List.mem_of_getElem? he
          simp only [edE, List.mem_cons, Prod.mk.injEq, List.not_mem_nil, or_false] at this
          rcases this with ⟨rfl, rfl⟩ | ⟨rfl, rfl⟩
          · exact ⟨mem_all.mpr ⟨l1, l2⟩, ix1_all (mem_all.mpr ⟨l3, l4⟩)⟩
          · exact ⟨ix1_all (mem_all.mpr ⟨l1, l2⟩), mem_all.mpr ⟨l3, l4⟩⟩
        refine ⟨_, _, tg_two, ?_⟩
        refine xs_asg (s := .dat (dSd (lab u))) (ev_xget (dk := dSd u) (dc_own (f := false) rfl) (by rw [ku]; exact ev_fix rfl) (key_sd _) (by rw [gD_kv, lb_get hue.1]; rfl)) ?_
        refine xs_asg (s := .dat (dSd (lab v))) (ev_xget (dk := dSd v) (dc_own (f := false) rfl) (by rw [kv]; exact ev_fix rfl) (key_sd _) (by rw [gD_kv, lb_get hue.2]; rfl)) ?_
        have et : (edE m).take (j + 1) = (edE m).take j ++ [(u, v)] := take_get he
        refine xc_forE (im_listE (Ev.cast (EvF.evE (ef_listX (dc_own (f := false) (ds := dKV dSd (lbL lab (allC ps.length))) rfl))) (by rw [lb_keys]))) (fun i ρ => ∃ s4 : Sl, ρ = [.dat (.list (ps.map dPn)), .dat (.list (ss.map dSm)), .own ag (moD ag false (dKV dSd (lbL (relb lab u v ((allC ps.length).take i)) (allC ps.length)))), .dat (.int (m.1.1 : Nat)), s4, .dat (.int (m.1.2 : Nat)), .dat (.int (m.2.1 : Nat)), .dat (.int (m.2.2 : Nat)), .dat (.tuple [.int (p : Nat), .int x]), .dat (.tuple [.int (q : Nat), .int y]), .dat (dSd (lab u)), .dat (dSd (lab v)), .no, .no]) ⟨s4, by rw [List.take_zero, relb_nil]; rfl⟩ (fun i d ρ1 hd hI => ?_) fun ρ1 hI => ?_
        · obtain ⟨s4, rfl⟩ := hI
          obtain ⟨c, hc, rfl⟩ := map_get hd
          have hca : c ∈ allC ps.length := List.mem_of_getElem? hc
          have hcn : c ∉ (allC ps.length).take i := fun z => by
            obtain ⟨hi, ei⟩ := List.getElem?_eq_some_iff.mp hc
            obtain ⟨j', hj', e'⟩ := List.mem_iff_getElem.mp z
            rw [List.getElem_take] at e'
            have hj2 : j' < i := by
              rw [List.length_take] at hj'
              omega
            have := (List.getElem_inj (h₀ := by omega) (h₁ := hi) (all_nd ps.length)).mp (e'.trans ei.symm)
            omega
          have tk : (allC ps.length).take (i + 1) = (allC ps.length).take i ++ [c] := take_get hc
          refine ⟨_, _, tg_name, ?_⟩
          refine xc_if (b := decide (dSd (lab c) = dSd (lab u))) (et_test (ev_eqSc kSd (ev_xget (dk := dSd c) (dc_own (f := false) rfl) (ev_var rfl) (key_sd _) (by rw [gD_kv, lb_get hca, relb_out hcn]; rfl)) (ev_var rfl) (sc_sd _) (sc_sd _))) (fun z => ?_) fun z => ?_
          · have hcu : lab c = lab u := dSd_inj.mp (of_decide_eq_true z)
            refine xc_xput (i := 2) (a := ag) (f := false) (ds := dKV dSd (lbL (relb lab u v ((allC ps.length).take i)) (allC ps.length))) (dk := dSd c) (d := dSd (lab v)) rfl (ev_var rfl) (ev_var rfl) (key_sd _) (by rw [klen]; omega) ?_
            refine ⟨.dat (dSd c), ?_⟩
            rw [pD_kv dSd, relb_put hca hcu, tk]
            rfl
          · have hcu : ¬ lab c = lab u := fun e => of_decide_eq_false z (by rw [e])
            refine xc_next ⟨.dat (dSd c), ?_⟩
            rw [tk, ← relb_skip hcu]
            rfl
        · obtain ⟨s4, rfl⟩ := hI
          refine ⟨fun x => if lab x = lab u then lab v else lab x, s4, .dat (.tuple [.int (p : Nat), .int x]), .dat (.tuple [.int (q : Nat), .int y]), .dat (dSd (lab u)), .dat (dSd (lab v)), ?_, ?_⟩
          · rw [et, ← List.append_assoc]
            exact lab_snoc hlab u v
          · rw [List.length_map, List.take_length, relb_all]
      · obtain ⟨lab, s4, s8, s9, s10, s11, hlab, rfl⟩ := hI
        refine ⟨lab, _, _, _, _, _, _, _, _, _, ?_, rfl⟩
        rw [edg_take hm]
        simpa [rawE, edE] using hlab
    · obtain ⟨lab, s3, s4, s5, s6, s7, s8, s9, s10, s11, hlab, rfl⟩ := hI
      rw [List.length_map, List.take_length] at hlab
      exact ⟨lab, _, _, _, _, _, _, _, _, _, hlab, rfl⟩
  rintro ρ0 ⟨lab, s3, s4, s5, s6, s7, s8, s9, s10, s11, hlab, rfl⟩
  refine xs_asgQ eq_newN fun af => ?_
  -- the points by their labels
  have so : SortOk ((allC ps.length).map dSd) := sort_sc kSd (sds_sc _) (.inl fun d hd => by
    obtain ⟨x, _, rfl⟩ := List.mem_map.mp hd
    exact ⟨_, _, rfl⟩) (by rw [List.length_map]; omega)
  refine xs_for (im_listE (Ev.cast (ef_sortL (ds := (allC ps.length).map dSd) (el_of (Ev.cast (EvF.evE (ef_listX (dc_own (f := false) (ds := dKV dSd (lbL lab (allC ps.length))) rfl))) (by rw [lb_keys]))) so) (by rw [srt_sds (List.Perm.refl _) (all_pw _)]))) (fun i ρ => ∃ s4 : Sl, ρ = [.dat (.list (ps.map dPn)), .dat (.list (ss.map dSm)), .own ag (moD ag false (dKV dSd (lbL lab (allC ps.length)))), s3, s4, s5, s6, s7, s8, s9, s10, s11, .own af (moD af false (dKV dPo (fnd lab ((allC ps.length).take i)))), .no]) ⟨s4, rfl⟩ (fun i d ρ1 hd hI => ?_) fun ρ1 hI => ?_
  · obtain ⟨s4, rfl⟩ := hI
    obtain ⟨c, hc, rfl⟩ := map_get hd
    have hca : c ∈ allC ps.length := List.mem_of_getElem? hc
    refine ⟨_, _, tg_name, ?_⟩
    have fl := fnd_len lab ((allC ps.length).take i)
    rw [List.length_take] at fl
    have fg := (fnd_get lab ((allC ps.length).take i)).2 (lab c)
    have vl : (((fnd lab ((allC ps.length).take i)).lookup (lab c)).getD []).length ≤ 36 := by
      rw [fg]
      split
      · show (List.filter _ _).length ≤ 36
        refine Nat.le_trans (List.length_filter_le _ _) ?_
        rw [List.length_take]
        omega
      · exact Nat.zero_le _
    refine xc_xput (i := 12) (a := af) (f := false) (ds := dKV dPo (fnd lab ((allC ps.length).take i))) (dk := dSd (lab c)) (d := dPo (((fnd lab ((allC ps.length).take i)).lookup (lab c)).getD [] ++ [c])) rfl (Ev.cast (ev_catA (ds := (((fnd lab ((allC ps.length).take i)).lookup (lab c)).getD []).map dSd) (es := [dSd c]) (Ev.cast (ev_xgetO (dk := dSd (lab c)) (z := .tuple []) (dc_own (f := false) (ds := dKV dPo (fnd lab ((allC ps.length).take i))) rfl) (ev_xget (dk := dSd c) (dc_own (f := false) (ds := dKV dSd (lbL lab (allC ps.length))) rfl) (ev_var rfl) (key_sd _) (by rw [gD_kv, lb_get hca]; rfl)) (ev_tup (ds := []) ea_nil (by simp)) (key_sd _)) (by
      rw [gD_kv]
      cases (fnd lab ((allC ps.length).take i)).lookup (lab c) <;> rfl)) (ev_tup1 (ev_var rfl)) (by rw [List.length_map]; simp; omega)) (by unfold dPo; rw [List.map_append]; rfl)) (ev_xget (dk := dSd c) (d := dSd (lab c)) (dc_own (f := false) (ds := dKV dSd (lbL lab (allC ps.length))) rfl) (ev_var rfl) (key_sd _) (by rw [gD_kv, lb_get hca]; rfl)) (key_sd _) (by unfold dKV; rw [List.length_map]; omega) ?_
    refine ⟨.dat (dSd c), ?_⟩
    rw [pD_kv dPo, take_get hc, fnd_snoc]
    rfl
  · obtain ⟨s4, rfl⟩ := hI
    rw [List.length_map, List.take_length]
    refine xs_lock (i := 12) (a := af) (f := false) (ds := dKV dPo (fnd lab (allC ps.length))) rfl ?_
    have fl := fnd_len lab (allC ps.length)
    have fp := fnd_perm (n := ps.length) hlab
    have hlen : ∀ x ∈ pts ss ps.length, x.length ≤ 36 := fun x hx => by
      obtain ⟨c, hc, rfl⟩ := mem_pts.mp hx
      exact Nat.le_trans (pt_len c) (by omega)
    have okp : ∀ d ∈ ((fnd lab (allC ps.length)).map Prod.snd).map dPo, okS d kPo = true := fun d hd => by
      obtain ⟨x, hx, rfl⟩ := List.mem_map.mp hd
      exact pos_sc (ss := ss) hn _ (List.mem_map_of_mem (fp.mem_iff.mp hx))
    refine xc_ret (Ev.cast (ef_sortL (ds := ((fnd lab (allC ps.length)).map Prod.snd).map dPo) (el_of (Ev.cast (EvF.evE (ef_mapL (l := fnd lab (allC ps.length)) (dα := fun p => dSd p.1) (f := fun p => dPo p.2) (by
      have h := im_keysX (S := ⟨K, fx0, G, H, E⟩) (te := tVar 12) (ρ := [.dat (.list (ps.map dPn)), .dat (.list (ss.map dSm)), .own ag (moD ag false (dKV dSd (lbL lab (allC ps.length)))), s3, s4, s5, s6, s7, s8, s9, s10, s11, .dic false (dKV dPo (fnd lab (allC ps.length))), .no]) (ev_varDic rfl)
      rw [show (dKV dPo (fnd lab (allC ps.length))).map Prod.fst = (fnd lab (allC ps.length)).map fun p => dSd p.1 by unfold dKV; rw [List.map_map]; rfl] at h
      exact h) (by omega) fun p hp => ⟨[13], _, by simp, tg_name, ev_xget (dk := dSd p.1) (dc_of (f := false) (ds := dKV dPo (fnd lab (allC ps.length))) (ev_varDic rfl)) (ev_var rfl) (key_sd _) (by
      have hq : (fnd lab (allC ps.length)).lookup p.1 = some p.2 := (SD.mem_lookup (fnd_get lab (allC ps.length)).1).mp hp
      rw [gD_kv, hq]
      rfl)⟩)) (by rw [List.map_map]; rfl))) (sort_sc kPo okp (.inl fun d hd => ?_) (by rw [List.length_map, List.length_map]; omega))) (by rw [srt_pos (fp.map dPo) pts_pw hlen])) rfl
    · obtain ⟨x, hx, rfl⟩ := List.mem_map.mp hd
      obtain ⟨c, hc, rfl⟩ := (fnd_mem (n := ps.length) hlab).mp hx
      have := pt_self (ss := ss) hc
      unfold dPo
      cases e : ptC ss ps.length c with
      | nil =>
        rw [e] at this
        cases this
      | cons x r => exact ⟨_, _, rfl⟩

end
end K11

set_option Elab.async false
set_option linter.all false
set_option maxRecDepth 100000
set_option maxHeartbeats 4000000
namespace K11
open PySem PySem.Spec PyProof.Rows L2 Dl LamX StX RZ SM SD
section
variable {P : Program} {w : World} {K : PySem.W.Frag} {mg : Str → Option Value} {base : Heap} {C1 C2 fI CS : Addr} (T : Tx P w K mg base C1 C2 fI CS)
include T
/-! sails compared -/
omit T in
theorem sc_pns {ps : List Pn} (h : ps.length ≤ 12) : okS (.tuple (ps.map dPn)) (.u 12 kPn) = true := okS_um h fun x _ => sc_pn x
omit T in
theorem sc_sms {ss : List Sm} (h : ss.length ≤ 18) : okS (.tuple (ss.map dSm)) (.u 18 kSm) = true := okS_um h fun x _ => sc_sm x
omit T in
theorem dPns_inj {a b : List Pn} : a.map dPn = b.map dPn ↔ a = b := ⟨fun h => (List.map_inj_right (f := dPn) fun x y e => dPn_inj.mp e).mp h, fun h => by rw [h]⟩
omit T in
theorem dSms_inj {a b : List Sm} : a.map dSm = b.map dSm ↔ a = b := ⟨fun h => (List.map_inj_right (f := dSm) fun x y e => dSm_inj.mp e).mp h, fun h => by rw [h]⟩
/-- the other thing: a sail, or a tuple -/
abbrev OtS := SI ⊕ List D
def otS (CS : Addr) : OtS → Sl
  | .inl j => obS CS j.1 j.2
  | .inr ds => .dat (.tuple ds)
open Classical in
noncomputable def eqS (i : SI) : OtS → Bool
  | .inl j => decide (i = j)
  | .inr _ => false
def szS (i : SI) : Prop := i.1.length ≤ 12 ∧ i.2.length ≤ 18
open Classical in
theorem c_Sail___eq__ : CalM P w K mg base 1 CS "__eq__" ["self", "other"] (spI K fx0 (fun i : SI × OtS => [obS CS i.1.1 i.1.2, otS CS i.2]) (fun i => szS i.1 ∧ ∀ j, i.2 = .inl j → szS j) (fun i => Eq (.ok (.dat (.bool (eqS i.1 i.2)))))) := by
  refine mk_calMI T.m___eq__ sc_Sail___eq__ (fun _ => rfl) (fun _ _ _ _ _ _ us hl => match us, hl with | [_, _], _ => rfl) (fun f cdv A outer s H E hr i hp => ⟨_, (pss_one (ps_ret (pe_and (pe_callB (r := rIsY K) call_isY (by rfl) T.b_isinstance (by decide +kernel) (pa_cons (pv 1) (pa_cons (pe_gref rfl T.k_Sail.gC) pa_nil))) (pe_one (pe_cmpR (r := rEqD K) (op_eqD (u64 hr)) (pe_tup (pa_cons (pe_fld' (K := K) rfl (pv 0)) (pa_cons (pe_fld' (K := K) rfl (pv 0)) pa_nil))) (pe_tup (pa_cons (pe_fld' (K := K) rfl (pv 1)) (pa_cons (pe_fld' (K := K) rfl (pv 1)) pa_nil))) (nomark _)))))), fun G => ?_⟩)
  obtain ⟨⟨ps, ss⟩, o⟩ := i
  obtain ⟨h1, h2⟩ := hp
  have fld : ∀ {ρ : Rho} {i : Nat} {ps : List Pn} {ss : List Sm}, ρ[i]? = some (obS CS ps ss) → Ev ⟨K, fx0, G, H, E⟩ (tTup (tCons (tFld K (tVar i) "panels") (tCons (tFld K (tVar i) "seams") tNil))) ρ (Eq (.dat (.tuple [.tuple (ps.map dPn), .tuple (ss.map dSm)]))) := fun {ρ i ps ss} h => ev_tup2 (ev_fldKX (x := .d (.tuple (ps.map dPn))) (ev_varOb h) T.m_beside.cls T.a_panels sailFs_panels) (ev_fldKX (x := .d (.tuple (ss.map dSm))) (ev_varOb h) T.m_beside.cls T.a_seams sailFs_seams)
  cases o with
  | inr ds =>
    exact xc_retB (b := false) (ev_andF (ev_isOb (C := CS) (y := .dat (.tuple ds)) T.q_Sail (ev_var rfl) True.intro)) rfl
  | inl j =>
    obtain ⟨qs, ts⟩ := j
    have h2 := h2 _ rfl
    have k1 : okS (.tuple [.tuple (ps.map dPn), .tuple (ss.map dSm)]) (.t [.u 12 kPn, .u 18 kSm]) = true := by
      show (okS _ _ && (okS _ _ && true)) = true
      rw [sc_pns h1.1, sc_sms h1.2]
      rfl
    have k2 : okS (.tuple [.tuple (qs.map dPn), .tuple (ts.map dSm)]) (.t [.u 12 kPn, .u 18 kSm]) = true := by
      show (okS _ _ && (okS _ _ && true)) = true
      rw [sc_pns h2.1, sc_sms h2.2]
      rfl
    refine xc_retB (ev_andV (a := true) (ev_isOb (C := CS) (y := obS CS qs ts) T.q_Sail (ev_varOb rfl) rfl) fun _ => ev_eqSc (.t [.u 12 kPn, .u 18 kSm]) (fld rfl) (fld rfl) k1 k2) ?_
    rw [Bool.true_and]
    show decide _ = decide _
    congr 1
    simp only [PyData.tuple.injEq, List.cons.injEq, and_true, Prod.mk.injEq]
    rw [dPns_inj, dSms_inj]

end
end K11

/-! SailH: what hangs together, found by walking over the seams again and again. -/
namespace SM
def cst (r : List Nat) (e : Nat × Nat) : List Nat := if r.contains e.1 != r.contains e.2 then r ++ [if r.contains e.2 then e.1 else e.2] else r
def rnd (E : List (Nat × Nat)) (r : List Nat) : List Nat := E.foldl cst r
def rndN (E : List (Nat × Nat)) (a : Nat) : Nat → List Nat
  | 0 => [a]
  | k + 1 => rnd E (rndN E a k)
structure HG (E : List (Nat × Nat)) (n a : Nat) (r : List Nat) : Prop where
  nd : r.Nodup
  ok : ∀ y ∈ r, y < n ∧ Cg E a y
  st : a ∈ r
def NoX (r : List Nat) (e : Nat × Nat) : Prop := e.1 ∈ r ↔ e.2 ∈ r
theorem cst_no {r : List Nat} {e : Nat × Nat} (h : NoX r e) : cst r e = r := by
  unfold cst
  rw [if_neg]
  have : r.contains e.1 = r.contains e.2 := by
    rw [Bool.eq_iff_iff, List.contains_iff_mem, List.contains_iff_mem]
    exact h
  rw [this]
  simp
theorem cst_yes {r : List Nat} {e : Nat × Nat} (h : ¬ NoX r e) : ∃ x y, cst r e = r ++ [x] ∧ x ∉ r ∧ y ∈ r ∧ ((x = e.1 ∧ y = e.2) ∨ (x = e.2 ∧ y = e.1)) := by
  unfold cst
  by_cases h1 : e.1 ∈ r
  · have h2 : e.2 ∉ r := fun z => h ⟨fun _ => z, fun _ => h1⟩
    have b1 : r.contains e.1 = true := List.contains_iff_mem.mpr h1
    have b2 : r.contains e.2 = false := by
      rw [← Bool.not_eq_true, List.contains_iff_mem]
      exact h2
    rw [b1, b2]
    exact ⟨e.2, e.1, rfl, h2, h1, .inr ⟨rfl, rfl⟩⟩
  · have h2 : e.2 ∈ r := Classical.byContradiction fun z => h ⟨fun q => absurd q h1, fun q => absurd q z⟩
    have b2 : r.contains e.2 = true := List.contains_iff_mem.mpr h2
    have b1 : r.contains e.1 = false := by
      rw [← Bool.not_eq_true, List.contains_iff_mem]
      exact h1
    rw [b1, b2]
    exact ⟨e.1, e.2, rfl, h1, h2, .inl ⟨rfl, rfl⟩⟩
section
variable {E : List (Nat × Nat)} {n a : Nat}
theorem cst_hg {r : List Nat} {e : Nat × Nat} (hE : ∀ e ∈ E, e.1 < n ∧ e.2 < n) (he : e ∈ E) (h : HG E n a r) : HG E n a (cst r e) := by
  by_cases q : NoX r e
  · rw [cst_no q]
    exact h
  · obtain ⟨x, y, hr, hx, hy, hxy⟩ := cst_yes q
    rw [hr]
    refine ⟨?_, fun z hz => ?_, List.mem_append_left _ h.st⟩
    · rw [List.nodup_append]
      exact ⟨h.nd, by simp, fun u hu w hw e => hx (by rw [← List.mem_singleton.mp hw, ← e]; exact hu)⟩
    · rcases List.mem_append.mp hz with z1 | z1
      · exact h.ok z z1
      · rw [List.mem_singleton.mp z1]
        have hc := (h.ok y hy).2
        rcases hxy with ⟨rfl, rfl⟩ | ⟨rfl, rfl⟩
        · exact ⟨(hE e he).1, hc.step (.inr he)⟩
        · exact ⟨(hE e he).2, hc.step (.inl he)⟩
theorem fold_hg (hE : ∀ e ∈ E, e.1 < n ∧ e.2 < n) : ∀ (F : List (Nat × Nat)) (r : List Nat), (∀ e ∈ F, e ∈ E) → HG E n a r → HG E n a (F.foldl cst r)
  | [], _, _, h => h
  | e :: F, r, hF, h => fold_hg hE F _ (fun x hx => hF x (List.mem_cons_of_mem _ hx)) (cst_hg hE (hF e List.mem_cons_self) h)
theorem cst_len (r : List Nat) (e : Nat × Nat) : r.length ≤ (cst r e).length := by
  by_cases q : NoX r e
  · rw [cst_no q]
    exact Nat.le_refl _
  · obtain ⟨x, y, hr, _⟩ := cst_yes q
    rw [hr, List.length_append]
    omega
theorem fold_len : ∀ (F : List (Nat × Nat)) (r : List Nat), r.length ≤ (F.foldl cst r).length
  | [], _ => Nat.le_refl _
  | e :: F, r => Nat.le_trans (cst_len r e) (fold_len F _)
theorem fold_grow : ∀ (F : List (Nat × Nat)) (r : List Nat), (∀ e ∈ F, NoX r e) ∧ F.foldl cst r = r ∨ r.length < (F.foldl cst r).length
  | [], r => .inl ⟨fun _ h => (by cases h), rfl⟩
  | e :: F, r => by
    by_cases q : NoX r e
    · rcases fold_grow F r with ⟨h1, h2⟩ | h
      · left
        refine ⟨fun x hx => ?_, ?_⟩
        · rcases List.mem_cons.mp hx with rfl | hx
          · exact q
          · exact h1 x hx
        · rw [List.foldl_cons, cst_no q, h2]
      · right
        rw [List.foldl_cons, cst_no q]
        exact h
    · right
      obtain ⟨x, y, hr, _⟩ := cst_yes q
      rw [List.foldl_cons, hr]
      refine Nat.lt_of_lt_of_le ?_ (fold_len F _)
      rw [List.length_append, List.length_singleton]
      omega
theorem rndN_hg (hE : ∀ e ∈ E, e.1 < n ∧ e.2 < n) (ha : a < n) : ∀ k, HG E n a (rndN E a k)
  | 0 => ⟨by simp [rndN], fun y hy => by rw [List.mem_singleton.mp hy]; exact ⟨ha, .refl⟩, by simp [rndN]⟩
  | k + 1 => fold_hg hE E _ (fun _ h => h) (rndN_hg hE ha k)
theorem rndN_grow (hE : ∀ e ∈ E, e.1 < n ∧ e.2 < n) (ha : a < n) : ∀ k, (∀ e ∈ E, NoX (rndN E a k) e) ∨ k < (rndN E a k).length
  | 0 => .inr (by simp [rndN])
  | k + 1 => by
    show (∀ e ∈ E, NoX (E.foldl cst (rndN E a k)) e) ∨ k + 1 < (E.foldl cst (rndN E a k)).length
    rcases fold_grow E (rndN E a k) with ⟨h1, h2⟩ | h
    · left
      rw [h2]
      exact h1
    · rcases rndN_grow hE ha k with h3 | h3
      · left
        have : ∀ F : List (Nat × Nat), (∀ e ∈ F, NoX (rndN E a k) e) → F.foldl cst (rndN E a k) = rndN E a k := fun F => by
          induction F with
          | nil => exact fun _ => rfl
          | cons e F ih =>
            intro hF
            rw [List.foldl_cons, cst_no (hF e List.mem_cons_self)]
            exact ih fun x hx => hF x (List.mem_cons_of_mem _ hx)
        rw [this E h3]
        exact h3
      · right
        omega
/-- at last all that hang together are there -/
theorem rndN_ok (hE : ∀ e ∈ E, e.1 < n ∧ e.2 < n) (ha : a < n) : (rndN E a n).Nodup ∧ (∀ y ∈ rndN E a n, y < n) ∧ ∀ y, y ∈ rndN E a n ↔ Cg E a y := by
  have g := rndN_hg hE ha n
  have hl : (rndN E a n).length ≤ n := by
    simpa using g.nd.length_le_of_subset (l₂ := List.range n) fun y hy => List.mem_range.mpr (g.ok y hy).1
  have cl : ∀ e ∈ E, NoX (rndN E a n) e := (rndN_grow hE ha n).resolve_right (by omega)
  refine ⟨g.nd, fun y hy => (g.ok y hy).1, fun y => ⟨fun hy => (g.ok y hy).2, fun h => ?_⟩⟩
  induction h with
  | refl => exact g.st
  | step _ he ih =>
    rcases he with he | he
    · exact (cl _ he).mp ih
    · exact (cl _ he).mpr ih
theorem rndN_len (hE : ∀ e ∈ E, e.1 < n ∧ e.2 < n) (ha : a < n) (k : Nat) : (rndN E a k).length ≤ n := by
  have g := rndN_hg hE ha k
  simpa using g.nd.length_le_of_subset (l₂ := List.range n) fun y hy => List.mem_range.mpr (g.ok y hy).1
theorem rndN_all (hE : ∀ e ∈ E, e.1 < n ∧ e.2 < n) (ha : a < n) : (rndN E a n).length = n ↔ ∀ p, p < n → Cg E a p := by
  obtain ⟨h1, h2, h3⟩ := rndN_ok hE ha
  constructor
  · intro h p hp
    refine (h3 p).mp (Classical.byContradiction fun z => ?_)
    have := (List.nodup_cons.mpr ⟨z, h1⟩).length_le_of_subset (l₂ := List.range n) fun y hy => by
      rcases List.mem_cons.mp hy with rfl | hy
      · exact List.mem_range.mpr hp
      · exact List.mem_range.mpr (h2 y hy)
    rw [List.length_range, List.length_cons] at this
    omega
  · intro h
    have := List.nodup_range (n := n) |>.length_le_of_subset (l₂ := rndN E a n) fun y hy => (h3 y).mpr (h y (List.mem_range.mp hy))
    rw [List.length_range] at this
    have := rndN_len hE ha n
    omega
end
def pnE (ss : List Sm) : List (Nat × Nat) := ss.map fun s => (s.1.1, s.2.1)
theorem rch_cg {n : Nat} {ss : List Sm} (o : Sn n ss) {a p : Nat} : Rch ss a p ↔ Cg (pnE ss) a p := by
  constructor
  · intro h
    induction h with
    | start => exact .refl
    | step _ hq ih =>
      obtain ⟨s, t, _, hm⟩ := beside_mem hq
      obtain ⟨e, he, h2⟩ := sewn_mem.mp hm
      rcases h2 with z | z
      · refine ih.step (.inl (List.mem_map.mpr ⟨e, he, ?_⟩))
        have h3 := congrArg (fun x : Sd × Sd => (x.1.1, x.2.1)) z
        exact h3.symm
      · refine ih.step (.inr (List.mem_map.mpr ⟨e, he, ?_⟩))
        have h3 := congrArg (fun x : Sd × Sd => (x.2.1, x.1.1)) z
        exact h3.symm
  · intro h
    induction h with
    | refl => exact .start
    | step _ he ih =>
      rcases he with he | he
      · obtain ⟨e, hm, h3⟩ := List.mem_map.mp he
        cases h3
        refine .step ih (mem_beside (s := e.1.2) (t := e.2.2) o.nd (o.lt e hm).1.2 (sewn_mem.mpr ⟨e, hm, .inl rfl⟩))
      · obtain ⟨e, hm, h3⟩ := List.mem_map.mp he
        cases h3
        refine .step ih (mem_beside (s := e.2.2) (t := e.1.2) o.nd (o.lt e hm).2.2 (sewn_mem.mpr ⟨e, hm, .inr rfl⟩))
end SM

set_option Elab.async false
set_option linter.all false
set_option maxRecDepth 100000
set_option maxHeartbeats 4000000
namespace K11
open PySem PySem.Spec PyProof.Rows L2 Dl LamX StX RZ SM SD
section
variable {P : Program} {w : World} {K : PySem.W.Frag} {mg : Str → Option Value} {base : Heap} {C1 C2 fI CS : Addr} (T : Tx P w K mg base C1 C2 fI CS)
include T
/-! the walk over the seams again and again; the reader of `reached` -/
omit T in
theorem inD_nats (x : Nat) (l : List Nat) : inD (.int (x : Int)) (dNs l) = l.contains x := inD_nat x l
open Classical in
omit T in
theorem ev_neB {S : Cf} {ρ : Rho} {ta tb : TE} {a b : Bool} (ha : Ev S ta ρ (Eq (.dat (.bool a)))) (hb : Ev S tb ρ (Eq (.dat (.bool b)))) : Ev S (tOp (rNeD S.K) ta tb) ρ (Eq (.dat (.bool (a != b)))) := (ev_neSc .b ha hb rfl rfl).cast (by
  cases a <;> cases b <;> simp)

omit T in
theorem sewn_len (l : List Sm) : (sewn l).length = 2 * l.length := by
  unfold sewn
  rw [List.length_flatMap]
  induction l with
  | nil => rfl
  | cons s l ih =>
    rw [List.map_cons, List.sum_cons, ih, List.length_cons]
    simp
    omega
omit T in
theorem sewn_take {ss : List Sm} {k : Nat} {m : Sm} (h : ss[k]? = some m) : sewn (ss.take (k + 1)) = sewn (ss.take k) ++ [(m.1, m.2), (m.2, m.1)] := by
  rw [take_get h, sewn_app]
  rfl
omit T in
theorem sewn_fresh {n : Nat} {ss : List Sm} (o : Sn n ss) {k : Nat} {m : Sm} (h : ss[k]? = some m) : (sewn (ss.take k)).lookup m.1 = none ∧ (sewn (ss.take k) ++ [(m.1, m.2)]).lookup m.2 = none := by
  have nd := o.nd
  have e : ss = ss.take (k + 1) ++ ss.drop (k + 1) := (List.take_append_drop _ _).symm
  rw [e, sewn_app, sewn_take h, List.map_append, List.map_append] at nd
  have nd := (List.nodup_append.mp nd).1
  rw [List.nodup_append] at nd
  obtain ⟨_, n2, n3⟩ := nd
  refine ⟨lookup_none.mpr fun z => n3 _ z m.1 (by simp) rfl, lookup_none.mpr fun z => ?_⟩
  rw [List.map_append, List.mem_append] at z
  rcases z with z | z
  · exact n3 _ z m.2 (by simp) rfl
  · simp only [List.map_cons, List.map_nil, List.mem_singleton] at z
    have : [m.1, m.2].Nodup := n2
    rw [z] at this
    simp at this
theorem c__law_ahead : Cal P w K mg base 1 "_law_ahead" ["panels", "seams", "side"] (spI K fx0 (fun i : SI × Sd => [.dat (.list (i.1.1.map dPn)), .dat (.list (i.1.2.map dSm)), .dat (dSd i.2)]) (fun i => Sn i.1.1.length i.1.2 ∧ i.1.2.length ≤ 1000 ∧ i.2.2 < 3) (fun i => Eq (.ok (.dat (dSd (SM.ahead i.1.2 i.2)))))) := by
  refine mk_cal T.d__law_ahead sc__law_ahead (fun _ => rfl) (fun _ _ _ _ _ _ us hl => match us, hl with | [_, _, _], _ => rfl) (fun f cdv A outer s H E hr i hp => ⟨_, (pss_cons (ps_set (i := 3) sc__law_ahead.nd rfl (Or.inl rfl) pe_xnew)
      (pss_cons (ps_for (passes_of rfl) rfl (pi_list (pv 1)) (pg_name (i := 4) sc__law_ahead.nd rfl (Or.inl rfl)) (pss_cons (ps_xput (K := K) rfl (u64 hr) (pv 3) (pe_slice (r := rSlA K) sl_tupA (pv 4) po_none (po_some pe_int)) (pe_slice (r := rSlA K) sl_tupA (pv 4) (po_some pe_int) po_none))
      (pss_one (ps_xput (K := K) rfl (u64 hr) (pv 3) (pe_slice (r := rSlA K) sl_tupA (pv 4) (po_some pe_int) po_none) (pe_slice (r := rSlA K) sl_tupA (pv 4) po_none (po_some pe_int))))))
      (pss_cons (ps_set (i := 5) sc__law_ahead.nd rfl (Or.inl rfl) (pe_tup (pa_cons (pe_ix (r := rIxT K) ix_tup (pv 2) pe_int (fun _ _ => rfl)) (pa_cons (pe_ix (r := rIxL K) ix_list (pe_lst (pa_cons pe_int (pa_cons pe_int (pa_cons pe_int pa_nil)))) (pe_ix (r := rIxT K) ix_tup (pv 2) pe_int (fun _ _ => rfl)) (fun _ _ => rfl)) pa_nil))))
      (pss_cons (ps_for (passes_of rfl) rfl (pi_range1 (by rfl) T.b_range (pa_cons pe_int pa_nil)) (pg_name (i := 6) sc__law_ahead.nd rfl (Or.inl rfl)) (pss_one (ps_if (pt_cmp (pc_xin (K := K) rfl (u64 hr) (pv 5) (pv 3)) (by rfl)) (pss_one (ps_set (i := 5) sc__law_ahead.nd rfl (Or.inl rfl) (pe_tup (pa_cons (pe_ix (r := rIxT K) ix_tup (pe_xget (K := K) rfl (u64 hr) (pv 3) (pv 5)) pe_int (fun _ _ => rfl)) (pa_cons (pe_ix (r := rIxL K) ix_list (pe_lst (pa_cons pe_int (pa_cons pe_int (pa_cons pe_int pa_nil)))) (pe_ix (r := rIxT K) ix_tup (pe_xget (K := K) rfl (u64 hr) (pv 3) (pv 5)) pe_int (fun _ _ => rfl)) (fun _ _ => rfl)) pa_nil))))) pss_nil)))
      (pss_one (ps_ret (pv 5))))))), fun G => ?_⟩)
  obtain ⟨⟨ps, ss⟩, x⟩ := i
  obtain ⟨ho, hl, hx⟩ := hp
  have ho : Sn ps.length ss := ho
  have hl : ss.length ≤ 1000 := hl
  have hx : x.2 < 3 := hx
  refine xs_asgQ (S := ⟨K, fx0, G, H, E⟩) eq_newN fun ad => ?_
  have key : ∀ {ρ : Rho} {m : Sm} {lo hi : Option Int} {tl th : TO} {sd : Sd}, ρ[4]? = some (.dat (dSm m)) → EvO ⟨K, fx0, G, H, E⟩ tl ρ lo → EvO ⟨K, fx0, G, H, E⟩ th ρ hi → cutD [.int (m.1.1 : Nat), .int (m.1.2 : Nat), .int (m.2.1 : Nat), .int (m.2.2 : Nat)] lo hi = [.int (sd.1 : Nat), .int (sd.2 : Nat)] → Ev ⟨K, fx0, G, H, E⟩ (tSl (rSlA K) (tVar 4) tl th) ρ (Eq (.dat (dSd sd))) := fun {ρ m lo hi tl th sd} h h1 h2 hc => (ev_cutA (ds := [.int (m.1.1 : Nat), .int (m.1.2 : Nat), .int (m.2.1 : Nat), .int (m.2.2 : Nat)]) (ev_var h) h1 h2).cast (by rw [hc]; rfl)
  have c1 : ∀ m : Sm, cutD [.int (m.1.1 : Nat), .int (m.1.2 : Nat), .int (m.2.1 : Nat), .int (m.2.2 : Nat)] none (some 2) = [.int (m.1.1 : Nat), .int (m.1.2 : Nat)] := fun _ => rfl
  have c2 : ∀ m : Sm, cutD [.int (m.1.1 : Nat), .int (m.1.2 : Nat), .int (m.2.1 : Nat), .int (m.2.2 : Nat)] (some 2) none = [.int (m.2.1 : Nat), .int (m.2.2 : Nat)] := fun _ => rfl
  refine xs_for (im_listE (ev_var rfl)) (fun k ρ => ∃ s4 : Sl, ρ = [.dat (.list (ps.map dPn)), .dat (.list (ss.map dSm)), .dat (dSd x), .own ad (moD ad false (dSw (sewn (ss.take k)))), s4, .no, .no]) ⟨_, rfl⟩ (fun k d ρ1 hd hI => ?_) fun ρ1 hI => ?_
  · obtain ⟨s4, rfl⟩ := hI
    obtain ⟨m, hm, rfl⟩ := map_get hd
    obtain ⟨n1, n2⟩ := sewn_fresh ho hm
    have sl := sewn_len (ss.take k)
    rw [List.length_take] at sl
    refine ⟨_, _, tg_name, ?_⟩
    refine xs_xput (i := 3) (a := ad) (f := false) (ds := dSw (sewn (ss.take k))) (dk := dSd m.1) (d := dSd m.2) rfl (by exact key (m := m) rfl (eo_some ev_int) eo_none (c2 m)) (by exact key (m := m) rfl eo_none (eo_some ev_int) (c1 m)) (key_sd _) (by unfold dSw; rw [List.length_map]; omega) ?_
    rw [pD_sw n1]
    refine xc_xput (i := 3) (a := ad) (f := false) (ds := dSw (sewn (ss.take k) ++ [(m.1, m.2)])) (dk := dSd m.2) (d := dSd m.1) rfl (by exact key (m := m) rfl eo_none (eo_some ev_int) (c1 m)) (by exact key (m := m) rfl (eo_some ev_int) eo_none (c2 m)) (key_sd _) (by unfold dSw; rw [List.length_map, List.length_append]; simp; omega) ?_
    rw [pD_sw n2]
    refine ⟨.dat (dSm m), ?_⟩
    rw [sewn_take hm, List.append_assoc]
    rfl
  obtain ⟨s4, rfl⟩ := hI
  rw [List.length_map, List.take_length]
  have nxt : ∀ {ρ : Rho} {te : TE} {k : Nat}, k < 3 → Ev ⟨K, fx0, G, H, E⟩ te ρ (Eq (.dat (.int (k : Nat)))) → Ev ⟨K, fx0, G, H, E⟩ (tOp (rIxL K) (tLst (tCons (tC (.int 1)) (tCons (tC (.int 2)) (tCons (tC (.int 0)) tNil)))) te) ρ (Eq (.dat (.int (((k + 1) % 3 : Nat) : Int)))) := fun {ρ te k} hk h => ev_ixL (ds := [.int 1, .int 2, .int 0]) (el_of (ev_lst (ds := [.int 1, .int 2, .int 0]) (ea_cons ev_int (ea_cons ev_int (ea_cons ev_int ea_nil))) (by simp))) h (by
    match k, hk with
    | 0, _ => rfl
    | 1, _ => rfl
    | 2, _ => rfl)
  refine xs_asg (s := .dat (dSd (ix1 x))) (ev_tup2 (x := .int (x.1 : Nat)) (y := .int (((x.2 + 1) % 3 : Nat) : Int)) (ev_ixU (ds := [.int (x.1 : Nat), .int (x.2 : Nat)]) (ev_var rfl) ev_int (at_nat (i := 0) rfl)) (by exact nxt hx (ev_ixU (ds := [.int (x.1 : Nat), .int (x.2 : Nat)]) (i := 1) (ev_var rfl) ev_int rfl))) ?_
  refine xs_for (im_rng1E (n := 40) ev_int (by omega)) (fun k ρ => ∃ s6 : Sl, ρ = [.dat (.list (ps.map dPn)), .dat (.list (ss.map dSm)), .dat (dSd x), .own ad (moD ad false (dSw (sewn ss))), s4, .dat (dSd (itr (phi ss) k (ix1 x))), s6]) ⟨_, rfl⟩ (fun k d ρ1 hd hI => ?_) fun ρ1 hI => ?_
  · obtain ⟨s6, rfl⟩ := hI
    refine ⟨_, _, tg_name, ?_⟩
    cases hv : (sewn ss).lookup (itr (phi ss) k (ix1 x)) with
    | none =>
      refine xc_if (b := false) (et_is (et_B (ev_xin (dk := dSd (itr (phi ss) k (ix1 x))) (dc_own (f := false) rfl) (ev_var rfl) (key_sd _))) (by rw [gD_sw, hv]; rfl)) (fun z => by cases z) fun _ => xc_next ⟨.dat d, ?_⟩
      rw [itr, phi_free (fun z => by
        obtain ⟨s, hs⟩ := usd_look.mp z
        rw [hv] at hs
        cases hs)]
      rfl
    | some v =>
      have v3 := (look_lt ho hv).2.2
      have gv : ∀ {ρ : Rho}, ρ[3]? = some (.own ad (moD ad false (dSw (sewn ss)))) → ρ[5]? = some (.dat (dSd (itr (phi ss) k (ix1 x)))) → Ev ⟨K, fx0, G, H, E⟩ (tXGet K (tVar 3) (tVar 5)) ρ (Eq (.dat (.tuple [.int (v.1 : Nat), .int (v.2 : Nat)]))) := fun h3 h5 => ev_xget (dk := dSd (itr (phi ss) k (ix1 x))) (d := dSd v) (dc_own (f := false) h3) (ev_var h5) (key_sd _) (by rw [gD_sw, hv]; rfl)
      refine xc_if (b := true) (et_is (et_B (ev_xin (dk := dSd (itr (phi ss) k (ix1 x))) (dc_own (f := false) rfl) (ev_var rfl) (key_sd _))) (by rw [gD_sw, hv]; rfl)) (fun _ => ?_) fun z => by cases z
      refine xc_asg (s := .dat (dSd (ix1 v))) (ev_tup2 (x := .int (v.1 : Nat)) (y := .int (((v.2 + 1) % 3 : Nat) : Int)) (ev_ixU (gv rfl rfl) ev_int (at_nat (i := 0) rfl)) (by exact nxt v3 (ev_ixU (i := 1) (gv rfl rfl) ev_int rfl))) ⟨.dat d, ?_⟩
      rw [itr, phi_look hv]
      rfl
  · obtain ⟨s6, rfl⟩ := hI
    rw [rngD_length]
    exact xc_ret (ev_var rfl) rfl
/-! the first seam that cannot stand, by the law -/
open Classical in
noncomputable def wrongZ (ps : List Pn) (es : List D) : Int := match fbS ps 0 [] es with
  | some k => (k : Int)
  | none => if ∀ p, p < ps.length → Rch (es.map smOf) 0 p then -2 else -1
omit T in
theorem lay_filter {ds : List D} (p : D → Bool) (h : PyData.canLayAll0 ds = true) : PyData.canLayAll0 (ds.filter p) = true := by
  induction ds with
  | nil => rfl
  | cons d ds ih =>
    have h' : (PyData.canLay0 d && PyData.canLayAll0 ds) = true := h
    rw [Bool.and_eq_true] at h'
    rw [List.filter_cons]
    split
    · show (PyData.canLay0 d && PyData.canLayAll0 (ds.filter p)) = true
      rw [h'.1, ih h'.2]
      rfl
    · exact ih h'.2
omit T in
theorem dep_filter {ds : List D} (p : D → Bool) : PyData.depthAll (ds.filter p) ≤ PyData.depthAll ds := by
  induction ds with
  | nil => exact Nat.le_refl _
  | cons d ds ih =>
    rw [List.filter_cons]
    show _ ≤ max (PyData.depth d) (PyData.depthAll ds)
    split
    · show max (PyData.depth d) (PyData.depthAll (ds.filter p)) ≤ _
      omega
    · omega
omit T in
theorem shaped_filter {ds : List D} (p : D → Bool) (h : SeqAt.shaped (.tuple ds) = true) : SeqAt.shaped (.list (ds.filter p)) = true := by
  have h1 : PyData.canLayAll0 ds = true := SeqAt.canLay_of_shaped h
  have h2 := SeqAt.depth_of_shaped h
  have h3 := dep_filter (ds := ds) p
  show (PyData.canLayAll0 (ds.filter p) && decide (PyData.depth (.list (ds.filter p)) ≤ 64)) = true
  rw [lay_filter p h1, Bool.true_and]
  refine decide_eq_true ?_
  have e1 : PyData.depth (.tuple ds) = PyData.depthAll ds + 1 := by simp [PyData.depth]
  have e2 : PyData.depth (.list (ds.filter p)) = PyData.depthAll (ds.filter p) + 1 := by simp [PyData.depth]
  omega
def odI (d : D) : Bool := !dInt d || dBool d
omit T in
theorem odI_int {d : D} (h : odI d = false) : ∃ i, d = .int i := by
  cases d <;> first | exact ⟨_, rfl⟩ | (simp [odI, dInt, dBool] at h)
end
end K11

set_option Elab.async false
set_option linter.all false
set_option maxRecDepth 100000
set_option maxHeartbeats 4000000
namespace K11
open PySem PySem.Spec PyProof.Rows L2 Dl LamX StX RZ SM SD
section
variable {P : Program} {w : World} {K : PySem.W.Frag} {mg : Str → Option Value} {base : Heap} {C1 C2 fI CS : Addr} (T : Tx P w K mg base C1 C2 fI CS)
include T
open Classical in
theorem c__law_wrong : Cal P w K mg base 2 "_law_wrong" ["panels", "seams"] (spI K fx0 (fun i : List Pn × List D => [.dat (.list (i.1.map dPn)), .dat (.list i.2)]) (fun i => 1 ≤ i.1.length ∧ i.1.length ≤ 12 ∧ (∀ t ∈ i.1, nearP 100 t) ∧ i.2.length ≤ 1000 ∧ ∀ x ∈ i.2, SeqAt.shaped x = true) (fun i => Eq (.ok (.dat (.int (wrongZ i.1 i.2)))))) := by
  have c__law_long := c__law_long T
  refine mk_cal T.d__law_wrong sc__law_wrong (fun _ => rfl) (fun _ _ _ _ _ _ us hl => match us, hl with | [_, _], _ => rfl) (fun f cdv A outer s H E hr i hp => ⟨_, (pss_cons (ps_set (i := 2) sc__law_wrong.nd rfl (Or.inl rfl) (pe_lst pa_nil))
      (pss_cons (ps_for (passes_of rfl) rfl (pi_enumA (by rfl) T.b_enumerate (pa_cons (pv 1) pa_nil)) (pg_tup (by rfl) (pgs_cons (pg_name (i := 3) sc__law_wrong.nd rfl (Or.inl rfl)) (pgs_cons (pg_name (i := 4) sc__law_wrong.nd rfl (Or.inl rfl)) pgs_nil))) (pss_cons (ps_if (PW.pt (pw_or (pt_not (pt_val (pe_callB (r := rIsY K) call_isY (by rfl) T.b_isinstance (by decide +kernel) (pa_cons (pv 4) (pa_cons (pe_bltn (v := .ty "tuple") (u := .type "tuple") (by rfl) T.b_tuple (by decide +kernel) rfl) pa_nil))))) (pw_or (pt_cmpR (r := rNeD K) (op_neD (u64 hr)) (pe_callB (r := fun xs H Q => ∃ p ys, xs = [.ref p] ∧ (SqL K H p ys ∨ SqT K H p ys) ∧ Q (.int ys.length) H) call_len_seq (by rfl) T.b_len (by decide +kernel) (pa_cons (pv 4) pa_nil)) pe_int (nomark _)) (pw_or1 (pt_cmpR (r := rNeD K) (op_neD (u64 hr)) (pe_lc (own := [("one", 7)]) (by rfl) sc__law_wrong.nd (pi_tup (pv 4)) (blkOk_by (N := ["panels", "seams", "taken", "at", "seam", "reached", "k", "one"]) (sc := defScope s__law_wrong) (own := [("one", 7)]) (by decide +kernel)) (fun _ _ _ _ _ => (pg_name (i := 7) sc__law_wrong.nd rfl (by first | exact Or.inl rfl | exact Or.inr rfl))) (fun _ _ _ _ _ => (pts_one (PW.pt (pw_or (pt_not (pt_val (pe_callB (r := rIsY K) call_isY (by rfl) T.b_isinstance (by decide +kernel) (pa_cons (pv 7) (pa_cons (pe_bltn (v := .ty "int") (u := .type "int") (by rfl) T.b_int (by decide +kernel) rfl) pa_nil))))) (pw_or1 (pt_val (pe_callB (r := rIsY K) call_isY (by rfl) T.b_isinstance (by decide +kernel) (pa_cons (pv 7) (pa_cons (pe_bltn (v := .ty "bool") (u := .type "bool") (by rfl) T.b_bool (by decide +kernel) rfl) pa_nil))))))))) (fun _ _ _ _ _ => (pv 7))) (pe_lst pa_nil) (nomark _)))))) (pss_one (ps_ret (pv 3))) pss_nil)
      (pss_cons (ps_if (PW.pt (pw_or (pt_not (pt_chain op_le op_lt pe_int (pe_ix (r := rIxT K) ix_tup (pv 4) pe_int (fun _ _ => rfl)) (pe_callB (r := fun xs H Q => ∃ p ys, xs = [.ref p] ∧ (SqL K H p ys ∨ SqT K H p ys) ∧ Q (.int ys.length) H) call_len_seq (by rfl) T.b_len (by decide +kernel) (pa_cons (pv 0) pa_nil)))) (pw_or (pt_not (pt_chain op_le op_lt pe_int (pe_ix (r := rIxT K) ix_tup (pv 4) pe_int (fun _ _ => rfl)) (pe_callB (r := fun xs H Q => ∃ p ys, xs = [.ref p] ∧ (SqL K H p ys ∨ SqT K H p ys) ∧ Q (.int ys.length) H) call_len_seq (by rfl) T.b_len (by decide +kernel) (pa_cons (pv 0) pa_nil)))) (pw_or (pt_not (pt_chain op_le op_lt pe_int (pe_ix (r := rIxT K) ix_tup (pv 4) pe_int (fun _ _ => rfl)) pe_int)) (pw_or1 (pt_not (pt_chain op_le op_lt pe_int (pe_ix (r := rIxT K) ix_tup (pv 4) pe_int (fun _ _ => rfl)) pe_int))))))) (pss_one (ps_ret (pv 3))) pss_nil)
      (pss_cons (ps_if (PW.pt (pw_or (pt_cmpR (r := rGeT K) (op_geT rfl (u64 hr)) (pe_slice (r := rSlA K) sl_tupA (pv 4) po_none (po_some pe_int)) (pe_slice (r := rSlA K) sl_tupA (pv 4) (po_some pe_int) po_none) (nomark _)) (pw_or (pt_cmpR (r := rInS K) (op_inS (u65 hr)) (pe_slice (r := rSlA K) sl_tupA (pv 4) po_none (po_some pe_int)) (pv 2) (by rfl)) (pw_or (pt_cmpR (r := rInS K) (op_inS (u65 hr)) (pe_slice (r := rSlA K) sl_tupA (pv 4) (po_some pe_int) po_none) (pv 2) (by rfl)) (pw_or1 (pt_cmpR (r := rNeD K) (op_neD (u64 hr)) (pe_cal c__law_long (hr.mono (by first | decide | omega)) rfl (pa_cons (pe_ix (r := rIxL K) ix_list (pv 0) (pe_ix (r := rIxT K) ix_tup (pv 4) pe_int (fun _ _ => rfl)) (fun _ _ => rfl)) (pa_cons (pe_ix (r := rIxT K) ix_tup (pv 4) pe_int (fun _ _ => rfl)) pa_nil))) (pe_cal c__law_long (hr.mono (by first | decide | omega)) rfl (pa_cons (pe_ix (r := rIxL K) ix_list (pv 0) (pe_ix (r := rIxT K) ix_tup (pv 4) pe_int (fun _ _ => rfl)) (fun _ _ => rfl)) (pa_cons (pe_ix (r := rIxT K) ix_tup (pv 4) pe_int (fun _ _ => rfl)) pa_nil))) (nomark _))))))) (pss_one (ps_ret (pv 3))) pss_nil)
      (pss_one (ps_set (i := 2) sc__law_wrong.nd rfl (Or.inl rfl) (pe_op (r := rCatL K) op_catL (pv 2) (pe_lst (pa_cons (pe_slice (r := rSlA K) sl_tupA (pv 4) po_none (po_some pe_int)) (pa_cons (pe_slice (r := rSlA K) sl_tupA (pv 4) (po_some pe_int) po_none) pa_nil))))))))))
      (pss_cons (ps_set (i := 5) sc__law_wrong.nd rfl (Or.inl rfl) (pe_lst (pa_cons pe_int pa_nil)))
      (pss_cons (ps_for (passes_of rfl) rfl (pi_range1 (by rfl) T.b_range (pa_cons (pe_callB (r := fun xs H Q => ∃ p ys, xs = [.ref p] ∧ (SqL K H p ys ∨ SqT K H p ys) ∧ Q (.int ys.length) H) call_len_seq (by rfl) T.b_len (by decide +kernel) (pa_cons (pv 0) pa_nil)) pa_nil)) (pg_name (i := 6) sc__law_wrong.nd rfl (Or.inl rfl)) (pss_one (ps_for (passes_of rfl) rfl (pi_list (pv 1)) (pg_name (i := 4) sc__law_wrong.nd rfl (Or.inl rfl)) (pss_one (ps_if (pt_cmpR (r := rNeD K) (op_neD (u64 hr)) (pe_cmpR (r := rInS K) (op_inS (u65 hr)) (pe_ix (r := rIxT K) ix_tup (pv 4) pe_int (fun _ _ => rfl)) (pv 5) (by rfl)) (pe_cmpR (r := rInS K) (op_inS (u65 hr)) (pe_ix (r := rIxT K) ix_tup (pv 4) pe_int (fun _ _ => rfl)) (pv 5) (by rfl)) (nomark _)) (pss_one (ps_set (i := 5) sc__law_wrong.nd rfl (Or.inl rfl) (pe_op (r := rCatL K) op_catL (pv 5) (pe_lst (pa_cons (pe_ifExp (pt_cmpR (r := rInS K) (op_inS (u65 hr)) (pe_ix (r := rIxT K) ix_tup (pv 4) pe_int (fun _ _ => rfl)) (pv 5) (by rfl)) (pe_ix (r := rIxT K) ix_tup (pv 4) pe_int (fun _ _ => rfl)) (pe_ix (r := rIxT K) ix_tup (pv 4) pe_int (fun _ _ => rfl))) pa_nil))))) pss_nil)))))
      (pss_one (ps_ret (pe_ifExp (pt_cmpR (r := rEqD K) (op_eqD (u64 hr)) (pe_callB (r := fun xs H Q => ∃ p ys, xs = [.ref p] ∧ (SqL K H p ys ∨ SqT K H p ys) ∧ Q (.int ys.length) H) call_len_seq (by rfl) T.b_len (by decide +kernel) (pa_cons (pv 5) pa_nil)) (pe_callB (r := fun xs H Q => ∃ p ys, xs = [.ref p] ∧ (SqL K H p ys ∨ SqT K H p ys) ∧ Q (.int ys.length) H) call_len_seq (by rfl) T.b_len (by decide +kernel) (pa_cons (pv 0) pa_nil)) (nomark _)) (pe_un un_neg pe_int) (pe_un un_neg pe_int)))))))), fun G => ?_⟩)
  obtain ⟨ps, es⟩ := i
  obtain ⟨h1, h12, hn, hl, hsh⟩ := hp
  have h1 : 1 ≤ ps.length := h1
  have h12 : ps.length ≤ 12 := h12
  have hn : ∀ t ∈ ps, nearP 100 t := hn
  have hl : es.length ≤ 1000 := hl
  have hsh : ∀ x ∈ es, SeqAt.shaped x = true := hsh
  have len0 : ∀ {ρ : Rho}, ρ[0]? = some (.dat (.list (ps.map dPn))) → Ev ⟨K, fx0, G, H, E⟩ (tCB (fun xs H Q => ∃ p ys, xs = [.ref p] ∧ (SqL K H p ys ∨ SqT K H p ys) ∧ Q (.int ys.length) H) (tCons (tVar 0) tNil)) ρ (Eq (.dat (.int (ps.length : Nat)))) := fun h => (ev_lenL (el_of (ds := ps.map dPn) (ev_var h))).cast (by rw [List.length_map])
  refine xs_asg (S := ⟨K, fx0, G, H, E⟩) (s := .dat (.list [])) ev_lst0 ?_
  refine xs_for (im_enumA (b := true) (ds := es) (ev_var rfl)) (fun k ρ => ∃ (s3 s4 : Sl) (sw : List (Sd × Sd)), ρ = [.dat (.list (ps.map dPn)), .dat (.list es), .dat (.list ((sw.map Prod.fst).map dSd)), s3, s4, .no, .no, .no] ∧ sw = sewn ((es.take k).map smOf) ∧ (∀ x ∈ es.take k, isSm ps x = true) ∧ fbS ps 0 [] es = fbS ps k sw (es.drop k)) ⟨_, _, [], rfl, rfl, by simp, rfl⟩ (fun k d ρ1 hd hI => ?_) fun ρ1 hI => ?_
  · obtain ⟨s3, s4, sw, rfl, hsw, hok, hfb⟩ := hI
    obtain ⟨x, hx, rfl⟩ := enumD_get hd
    have hkl : k < es.length := (List.getElem?_eq_some_iff.mp hx).1
    have hxe : es[k] = x := (List.getElem?_eq_some_iff.mp hx).2
    have hxs := hsh x (List.mem_of_getElem? hx)
    rw [List.drop_eq_getElem_cons hkl, hxe] at hfb
    refine ⟨_, _, tg_two, ?_⟩
    rw [Nat.zero_add]
    have badk : ((isSm ps x && ((sw.lookup (smOf x).1).isNone && (sw.lookup (smOf x).2).isNone)) = false) → (k : Int) = wrongZ ps es := fun h => by
      have : fbS ps 0 [] es = some k := by
        rw [hfb]
        unfold fbS
        rw [h]
        rfl
      unfold wrongZ
      rw [this]
    by_cases hT : ∃ a b c e, x = .tuple [.int a, .int b, .int c, .int e]
    case neg =>
      have hbad : isSm ps x = false := by
        rw [← Bool.not_eq_true]
        intro z
        have := (isSm_get z).1
        exact hT ⟨_, _, _, _, this⟩
      refine xs_when (b := true) (et_is (et_or (a := !dTuple x) (b := true) (et_not (et_B (ev_isTuple (ev_var rfl)))) fun hz => ?_) (by cases x <;> rfl)) (fun _ => xs_ret (ev_var rfl) (by
        rw [badk (by rw [hbad]; rfl)]
        rfl)) fun z => by cases z
      cases x with
      | tuple ds =>
        refine et_is (b := true) (et_or (a := !decide ((ds.length : Int) = 4)) (b := true) (et_test (ev_neI (ev_lenU (ds := ds) (eu_of (ev_var rfl))) ev_int)) fun hz2 => ?_) (Bool.or_true _)
        have h4 : (ds.length : Int) = 4 := of_decide_eq_true ((Bool.not_eq_false' _).mp hz2)
        refine et_is (et_test (ev_neD (EvF.evE (ef_filterL (l := ds) (dα := id) (c := odI) (f := id) (by rw [List.map_id]; exact im_tupE (ev_var rfl)) (by omega) fun d _ => ⟨[7], _, by simp, tg_name, et_or (et_not (et_B (ev_isInt (ev_var rfl)))) fun _ => et_B (ev_isBool (ev_var rfl)), fun _ => ev_var rfl⟩)) ev_lst0 (by rw [List.map_id]; exact shaped_filter odI hxs) rfl)) ?_
        rw [List.map_id, eqv_nilL, Bool.not_eq_true', decide_eq_false_iff_not]
        intro z
        have hall : ∀ d ∈ ds, odI d = false := fun d hd => by
          rw [← Bool.not_eq_true]
          exact List.filter_eq_nil_iff.mp z d hd
        match ds, h4 with
        | [a, b, c, e], _ =>
          obtain ⟨_, rfl⟩ := odI_int (hall a (by simp))
          obtain ⟨_, rfl⟩ := odI_int (hall b (by simp))
          obtain ⟨_, rfl⟩ := odI_int (hall c (by simp))
          obtain ⟨_, rfl⟩ := odI_int (hall e (by simp))
          exact hT ⟨_, _, _, _, rfl⟩
        | [], h4 => simp at h4
        | [_], h4 => simp at h4
        | [_, _], h4 => simp at h4
        | [_, _, _], h4 => simp at h4
        | _ :: _ :: _ :: _ :: _ :: _, h4 => simp at h4; omega
      | _ => cases hz
    obtain ⟨a, b, c, e, rfl⟩ := hT
    have th : ∀ {m : Nat} {z : D} {ρ : Rho}, ρ[4]? = some (.dat (.tuple [.int a, .int b, .int c, .int e])) → atI [.int a, .int b, .int c, .int e] (m : Int) = some z → Ev ⟨K, fx0, G, H, E⟩ (tOp (rIxT K) (tVar 4) (tC (.int (m : Nat)))) ρ (Eq (.dat z)) := fun h ha => ev_ixU (ev_var h) ev_int ha
    refine xs_when (b := false) (et_or (a := false) (b := false) (et_is (et_not (et_B (ev_isTuple (ev_var rfl)))) rfl) fun _ => et_or (a := false) (b := false) (et_is (et_test (ev_neI (ev_lenU (ds := [.int a, .int b, .int c, .int e]) (eu_of (ev_var rfl))) ev_int)) rfl) fun _ => et_is (et_test (ev_neD (EvF.evE (ef_filterL (l := [.int a, .int b, .int c, .int e]) (dα := id) (c := odI) (f := id) (by rw [List.map_id]; exact im_tupE (ev_var rfl)) (by simp) fun d _ => ⟨[7], _, by simp, tg_name, et_or (et_not (et_B (ev_isInt (ev_var rfl)))) fun _ => et_B (ev_isBool (ev_var rfl)), fun _ => ev_var rfl⟩)) ev_lst0 (by rw [List.map_id]; exact shaped_filter odI hxs) rfl)) (by rw [List.map_id, eqv_nilL]; rfl)) (fun z => by cases z) fun _ => ?_
    have chk : ∀ {m : Nat} {i : Int} {te : TE} {n : Int} {ρ : Rho}, ρ[4]? = some (.dat (.tuple [.int a, .int b, .int c, .int e])) → atI [PyData.int a, .int b, .int c, .int e] (m : Int) = some (PyData.int i) → Ev ⟨K, fx0, G, H, E⟩ te ρ (Eq (.dat (.int n))) → Ev ⟨K, fx0, G, H, E⟩ (tChain (rI0 fun i j => .bl (decide (i ≤ j))) (rI0 fun i j => .bl (decide (i < j))) (tC (.int 0)) (tOp (rIxT K) (tVar 4) (tC (.int (m : Nat)))) te) ρ (Eq (.dat (.bool (decide (0 ≤ i) && decide (i < n))))) := fun h ha hb => ev_chain ev_int (th h ha) fun _ => hb
    refine xs_when (b := !(decide (0 ≤ a) && decide (a < ps.length)) || (!(decide (0 ≤ c) && decide (c < ps.length)) || (!(decide (0 ≤ b) && decide (b < 3)) || !(decide (0 ≤ e) && decide (e < 3))))) (et_or (et_not (et_B (by exact chk (m := 0) rfl rfl (len0 rfl)))) fun _ => et_or (et_not (et_B (by exact chk (m := 2) rfl rfl (len0 rfl)))) fun _ => et_or (et_not (et_B (by exact chk (m := 1) rfl rfl ev_int))) fun _ => et_not (et_B (by exact chk (m := 3) rfl rfl ev_int))) (fun z => ?_) fun z => ?_
    · refine xs_ret (ev_var rfl) ?_
      rw [badk ?_]
      · rfl
      rw [show isSm ps (.tuple [.int a, .int b, .int c, .int e]) = false from ?_]
      · rfl
      rw [← Bool.not_eq_true]
      intro q
      have q2 : ((isWi 0 ((ps.length : Int) - 1) (.int a) && isWi 0 ((ps.length : Int) - 1) (.int c)) && ((isWi 0 2 (.int b) && isWi 0 2 (.int e)) && _)) = true := q
      simp only [isWi, Bool.and_eq_true, decide_eq_true_eq] at q2
      simp only [Bool.or_eq_true, Bool.not_eq_true', Bool.and_eq_false_iff, decide_eq_false_iff_not] at z
      omega
    have z' : (0 ≤ a ∧ a < ps.length) ∧ (0 ≤ c ∧ c < ps.length) ∧ (0 ≤ b ∧ b < 3) ∧ 0 ≤ e ∧ e < 3 := by
      simp only [Bool.or_eq_false_iff, Bool.not_eq_false', Bool.and_eq_true, decide_eq_true_eq] at z
      exact z
    clear z
    obtain ⟨⟨a1, a2⟩, ⟨c1, c2⟩, ⟨b1, b2⟩, e1, e2⟩ := z'
    obtain ⟨p, rfl⟩ : ∃ p : Nat, a = p := ⟨a.toNat, by omega⟩
    obtain ⟨q, rfl⟩ : ∃ q : Nat, c = q := ⟨c.toNat, by omega⟩
    obtain ⟨u, rfl⟩ : ∃ u : Nat, b = u := ⟨b.toNat, by omega⟩
    obtain ⟨v, rfl⟩ : ∃ v : Nat, e = v := ⟨e.toNat, by omega⟩
    have hp : p < ps.length := by omega
    have hq : q < ps.length := by omega
    have esm : isSm ps (.tuple [.int (p : Nat), .int (u : Nat), .int (q : Nat), .int (v : Nat)]) = (decide (p < q ∨ (p = q ∧ u < v)) && decide (lng (ps.getD p default) u = lng (ps.getD q default) v)) := by
      show ((isWi 0 ((ps.length : Int) - 1) (.int (p : Nat)) && isWi 0 ((ps.length : Int) - 1) (.int (q : Nat))) && ((isWi 0 2 (.int (u : Nat)) && isWi 0 2 (.int (v : Nat))) && seamOk ps ((p, u), (q, v)))) = _
      rw [isWi_of (by omega) (by omega), isWi_of (by omega) (by omega), isWi_of (by omega) (by omega), isWi_of (by omega) (by omega)]
      unfold seamOk
      simp only
      rw [decide_eq_true (by omega), Bool.true_and]
      rfl
    have gp : ∀ {x : Nat}, x < ps.length → atI (ps.map dPn) (x : Int) = some (dPn (ps.getD x default)) := fun {x} h => at_nat (by rw [List.getElem?_map, List.getElem?_eq_getElem h]; simp [List.getD, h])
    have gn : ∀ {x : Nat}, x < ps.length → nearP 100 (ps.getD x default) := fun {x} h => by
      rw [show ps.getD x default = ps[x] by simp [List.getD, h]]
      exact hn _ (List.getElem_mem h)
    have cu1 : ∀ {ρ : Rho} {tl th : TO}, ρ[4]? = some (.dat (.tuple [.int (p : Nat), .int (u : Nat), .int (q : Nat), .int (v : Nat)])) → EvO ⟨K, fx0, G, H, E⟩ tl ρ none → EvO ⟨K, fx0, G, H, E⟩ th ρ (some 2) → Ev ⟨K, fx0, G, H, E⟩ (tSl (rSlA K) (tVar 4) tl th) ρ (Eq (.dat (.tuple [.int (p : Nat), .int (u : Nat)]))) := fun h h1 h2 => (ev_cutA (ds := [.int (p : Nat), .int (u : Nat), .int (q : Nat), .int (v : Nat)]) (ev_var h) h1 h2).cast rfl
    have cu2 : ∀ {ρ : Rho} {tl th : TO}, ρ[4]? = some (.dat (.tuple [.int (p : Nat), .int (u : Nat), .int (q : Nat), .int (v : Nat)])) → EvO ⟨K, fx0, G, H, E⟩ tl ρ (some 2) → EvO ⟨K, fx0, G, H, E⟩ th ρ none → Ev ⟨K, fx0, G, H, E⟩ (tSl (rSlA K) (tVar 4) tl th) ρ (Eq (.dat (.tuple [.int (q : Nat), .int (v : Nat)]))) := fun h h1 h2 => (ev_cutA (ds := [.int (p : Nat), .int (u : Nat), .int (q : Nat), .int (v : Nat)]) (ev_var h) h1 h2).cast rfl
    have hlk : ∀ k : Sd, (sw.map Prod.fst).contains k = (sw.lookup k).isSome := fun k => by
      rw [Bool.eq_iff_iff, List.contains_iff_mem, ← Option.ne_none_iff_isSome, ne_eq, lookup_none, Classical.not_not]
    refine xs_when (b := !decide (p < q ∨ (p = q ∧ u < v)) || ((sw.lookup (p, u)).isSome || ((sw.lookup (q, v)).isSome || !decide (lng (ps.getD p default) u = lng (ps.getD q default) v)))) (et_or (et_is (et_B (ev_geT (ns := [(p : Int), (u : Int)]) (ms := [(q : Int), (v : Int)]) (by exact cu1 rfl eo_none (eo_some ev_int)) (by exact cu2 rfl (eo_some ev_int) eo_none))) (by rw [geI2]; congr 1; apply decide_eq_decide.mpr; omega)) fun _ => et_or (et_is (et_B (ev_inL (d := dSd (p, u)) (ds := (sw.map Prod.fst).map dSd) (by exact cu1 rfl eo_none (eo_some ev_int)) (el_of (ev_var rfl)) (shaped_sd _) (canLay_sds _))) (by rw [inD_sd, hlk])) fun _ => et_or (et_is (et_B (ev_inL (d := dSd (q, v)) (ds := (sw.map Prod.fst).map dSd) (by exact cu2 rfl (eo_some ev_int) eo_none) (el_of (ev_var rfl)) (shaped_sd _) (canLay_sds _))) (by rw [inD_sd, hlk])) fun _ => et_is (et_test (ev_neI (ev_callE (ps.getD p default, u) (ea_cons (ev_ixL (el_of (ds := ps.map dPn) (ev_var rfl)) (by exact th (m := 0) rfl rfl) (gp hp)) (ea_cons (by exact th (m := 1) rfl rfl) ea_nil)) ⟨gn hp, by show u < 3; omega⟩) (ev_callE (ps.getD q default, v) (ea_cons (ev_ixL (el_of (ds := ps.map dPn) (ev_var rfl)) (by exact th (m := 2) rfl rfl) (gp hq)) (ea_cons (by exact th (m := 3) rfl rfl) ea_nil)) ⟨gn hq, by show v < 3; omega⟩))) rfl) (fun z => ?_) fun z => ?_
    · refine xs_ret (ev_var rfl) ?_
      rw [badk ?_]
      · rfl
      rw [esm]
      show ((decide _ && decide _) && ((sw.lookup (p, u)).isNone && (sw.lookup (q, v)).isNone)) = false
      revert z
      cases decide (p < q ∨ (p = q ∧ u < v)) <;> cases decide (lng (ps.getD p default) u = lng (ps.getD q default) v) <;> cases sw.lookup (p, u) <;> cases sw.lookup (q, v) <;> simp
    have hsm : isSm ps (.tuple [.int (p : Nat), .int (u : Nat), .int (q : Nat), .int (v : Nat)]) = true ∧ sw.lookup (p, u) = none ∧ sw.lookup (q, v) = none := by
      rw [esm]
      revert z
      cases decide (p < q ∨ (p = q ∧ u < v)) <;> cases decide (lng (ps.getD p default) u = lng (ps.getD q default) v) <;> cases sw.lookup (p, u) <;> cases sw.lookup (q, v) <;> simp
    obtain ⟨hsm, n1, n2⟩ := hsm
    have et : es.take (k + 1) = es.take k ++ [.tuple [.int (p : Nat), .int (u : Nat), .int (q : Nat), .int (v : Nat)]] := take_get hx
    have swl : sw.length ≤ 2000 := by
      rw [hsw, sewn_len, List.length_map, List.length_take]
      omega
    refine xc_asg (s := .dat (.list (((sw ++ [((p, u), (q, v)), ((q, v), (p, u))]).map Prod.fst).map dSd))) ((ef_catL (ds := (sw.map Prod.fst).map dSd) (es := [dSd (p, u), dSd (q, v)]) (el_of (ev_var rfl)) (el_of (ev_lst (ds := [dSd (p, u), dSd (q, v)]) (ea_cons (by exact cu1 rfl eo_none (eo_some ev_int)) (ea_cons (by exact cu2 rfl (eo_some ev_int) eo_none) ea_nil)) (by simp))) (by simp; omega)).evE.cast (by simp)) ?_
    refine ⟨_, _, sw ++ [((p, u), (q, v)), ((q, v), (p, u))], rfl, ?_, fun y hy => ?_, ?_⟩
    · rw [et, List.map_append, sewn_app, ← hsw]
      rfl
    · rw [et] at hy
      rcases List.mem_append.mp hy with q | q
      · exact hok y q
      · rw [List.mem_singleton.mp q]
        exact hsm
    · rw [hfb]
      conv => lhs; unfold fbS
      show (if (isSm ps _ && ((sw.lookup (p, u)).isNone && (sw.lookup (q, v)).isNone)) = true then _ else _) = _
      rw [hsm, n1, n2]
      rfl
  obtain ⟨s3, s4, sw, rfl, hsw, hok, hfb⟩ := hI
  rw [enumD_length, List.take_length] at hsw hok
  rw [enumD_length, List.drop_length] at hfb
  have hfb : fbS ps 0 [] es = none := hfb
  have nd := (fbS_none hfb List.nodup_nil).2
  have ems : es = (es.map smOf).map dSm := by
    rw [List.map_map]
    refine ((List.map_congr_left fun d hd => ?_).trans (List.map_id es)).symm
    exact (isSm_get (hok d hd)).1.symm
  have hseam : ∀ s ∈ es.map smOf, seamOk ps s = true := fun s hs => by
    obtain ⟨d, hd, rfl⟩ := List.mem_map.mp hs
    exact (isSm_get (hok d hd)).2
  have ho : Sn ps.length (es.map smOf) := sn_of hseam nd
  have hE : ∀ e ∈ pnE (es.map smOf), e.1 < ps.length ∧ e.2 < ps.length := fun e he => by
    obtain ⟨m, hm, rfl⟩ := List.mem_map.mp he
    exact ⟨(ho.lt m hm).1.1, (ho.lt m hm).2.1⟩
  have hw : wrongZ ps es = if (rndN (pnE (es.map smOf)) 0 ps.length).length = ps.length then -2 else -1 := by
    unfold wrongZ
    rw [hfb]
    simp only
    have : (rndN (pnE (es.map smOf)) 0 ps.length).length = ps.length ↔ ∀ p, p < ps.length → Rch (es.map smOf) 0 p := by
      rw [rndN_all hE (by omega)]
      exact ⟨fun h p hp => (rch_cg ho).mpr (h p hp), fun h p hp => (rch_cg ho).mp (h p hp)⟩
    by_cases q : (rndN (pnE (es.map smOf)) 0 ps.length).length = ps.length
    · rw [if_pos q, if_pos (this.mp q)]
    · rw [if_neg q, if_neg fun z => q (this.mpr z)]
  have ss1000 : (es.map smOf).length ≤ 1000 := by rw [List.length_map]; exact hl
  have hshow : ∀ {v : Int}, v = wrongZ ps es → RetP (Eq (.ok (.dat (.int (wrongZ (ps, es).1 (ps, es).2))))) = RetP (Eq (.ok (.dat (.int v)))) := fun h => by rw [h]
  rw [hshow hw.symm]
  rw [ems]
  rw [ems] at hok
  rw [show ((es.map smOf).map dSm).map smOf = es.map smOf by rw [← ems]]
  generalize es.map smOf = ss at *
  refine xs_asg (s := .dat (.list (dNs (rndN (pnE ss) 0 0)))) (ev_lst (ds := [.int 0]) (ea_cons ev_int ea_nil) (by simp)) ?_
  refine xs_for (im_rng1E (n := ps.length) (len0 rfl) (by omega)) (fun k ρ => ∃ s4 s6 : Sl, ρ = [.dat (.list (ps.map dPn)), .dat (.list (ss.map dSm)), .dat (.list ((sw.map Prod.fst).map dSd)), s3, s4, .dat (.list (dNs (rndN (pnE ss) 0 k))), s6, .no]) ⟨_, _, rfl⟩ (fun k d ρ1 hd hI => ?_) fun ρ1 hI => ?_
  · obtain ⟨s4, s6, rfl⟩ := hI
    refine ⟨_, _, tg_name, ?_⟩
    refine xc_forE (im_listE (ev_var rfl)) (fun j ρ => ∃ s4 : Sl, ρ = [.dat (.list (ps.map dPn)), .dat (.list (ss.map dSm)), .dat (.list ((sw.map Prod.fst).map dSd)), s3, s4, .dat (.list (dNs (((pnE ss).take j).foldl cst (rndN (pnE ss) 0 k)))), .dat d, .no]) ⟨_, rfl⟩ (fun j d' ρ1 hd' hI => ?_) fun ρ1 hI => ?_
    · obtain ⟨s4, rfl⟩ := hI
      obtain ⟨m, hm, rfl⟩ := map_get hd'
      have het : (pnE ss).take (j + 1) = (pnE ss).take j ++ [(m.1.1, m.2.1)] := take_get (by unfold pnE; rw [List.getElem?_map, hm]; rfl)
      have hfl : (((pnE ss).take j).foldl cst (rndN (pnE ss) 0 k)).length ≤ ps.length := by
        have g := fold_hg hE ((pnE ss).take j) (rndN (pnE ss) 0 k) (fun e he => List.mem_of_mem_take he) (rndN_hg hE (by omega) k)
        simpa using g.nd.length_le_of_subset (l₂ := List.range ps.length) fun y hy => List.mem_range.mpr (g.ok y hy).1
      rw [het, List.foldl_append]
      show ∃ js ρ2, _ ∧ Xc _ _ ρ2 (LoopP (fun ρ => ∃ s4 : Sl, ρ = [_, _, _, _, s4, .dat (.list (dNs (cst (((pnE ss).take j).foldl cst (rndN (pnE ss) 0 k)) (m.1.1, m.2.1)))), _, _]) _)
      generalize ((pnE ss).take j).foldl cst (rndN (pnE ss) 0 k) = r at hfl ⊢
      refine ⟨_, _, tg_name, ?_⟩
      have at0 : ∀ {ρ : Rho}, ρ[4]? = some (.dat (dSm m)) → Ev ⟨K, fx0, G, H, E⟩ (tOp (rIxT K) (tVar 4) (tC (.int 0))) ρ (Eq (.dat (.int (m.1.1 : Nat)))) := fun h => ev_ixU (ds := [.int (m.1.1 : Nat), .int (m.1.2 : Nat), .int (m.2.1 : Nat), .int (m.2.2 : Nat)]) (ev_var h) ev_int (at_nat (i := 0) rfl)
      have at2 : ∀ {ρ : Rho}, ρ[4]? = some (.dat (dSm m)) → Ev ⟨K, fx0, G, H, E⟩ (tOp (rIxT K) (tVar 4) (tC (.int 2))) ρ (Eq (.dat (.int (m.2.1 : Nat)))) := fun h => ev_ixU (ds := [.int (m.1.1 : Nat), .int (m.1.2 : Nat), .int (m.2.1 : Nat), .int (m.2.2 : Nat)]) (i := 2) (ev_var h) ev_int rfl
      refine xc_if (b := r.contains m.1.1 != r.contains m.2.1) (et_test (ev_neB ((ev_inL (ds := dNs r) (at0 rfl) (el_of (ev_var rfl)) rfl (lay_nats _)).cast (by rw [inD_nat])) ((ev_inL (ds := dNs r) (at2 rfl) (el_of (ev_var rfl)) rfl (lay_nats _)).cast (by rw [inD_nat])))) (fun z => ?_) fun z => ?_
      · refine xc_asg (s := .dat (.list (dNs (cst r (m.1.1, m.2.1))))) ((ef_catL (ds := dNs r) (es := [.int ((if r.contains m.2.1 then m.1.1 else m.2.1 : Nat) : Int)]) (el_of (ev_var rfl)) (el_of (ev_lst (ds := [.int ((if r.contains m.2.1 then m.1.1 else m.2.1 : Nat) : Int)]) (ea_cons (ev_if (b := r.contains m.2.1) (et_is (et_B (ev_inL (ds := dNs r) (at2 rfl) (el_of (ev_var rfl)) rfl (lay_nats _))) (by rw [inD_nat])) (fun z => by rw [if_pos z]; exact at0 rfl) fun z => by rw [if_neg (by rw [z]; decide)]; exact at2 rfl) ea_nil) (by simp))) (by rw [dNs_len]; simp; omega)).evE.cast (by
          unfold cst
          rw [if_pos z, dNs_app]
          rfl)) ?_
        exact ⟨_, rfl⟩
      · refine xc_next ⟨.dat (dSm m), ?_⟩
        unfold cst
        rw [z, if_neg (by decide)]
        rfl
    · obtain ⟨s4, rfl⟩ := hI
      refine ⟨s4, .dat d, ?_⟩
      rw [List.length_map, show ss.length = (pnE ss).length by unfold pnE; rw [List.length_map], List.take_length]
      rfl
  · obtain ⟨s4, s6, rfl⟩ := hI
    rw [rngD_length]
    refine xc_ret (ev_if (b := decide (((rndN (pnE ss) 0 ps.length).length : Int) = (ps.length : Int))) (et_test (ev_eqI ((ev_lenL (el_of (ds := dNs (rndN (pnE ss) 0 ps.length)) (ev_var rfl))).cast (by rw [dNs_len])) (len0 rfl))) (fun z => ?_) fun z => ?_) rfl
    · rw [if_pos (by have := of_decide_eq_true z; omega)]
      exact ev_neg ev_int
    · rw [if_neg (by have := of_decide_eq_false z; omega)]
      exact ev_neg ev_int
end
end K11

set_option Elab.async false
set_option linter.all false
set_option maxRecDepth 100000
set_option maxHeartbeats 4000000
/-! Dmr: parts and sums of lists not told; what is asked may or may not raise. -/
namespace Dl
open PySem PySem.Spec PyProof.Rows L2 LamX RZ
section
variable {S : Cf} {ρ : Rho} {te ta tb tc : TE}
def EvOP (S : Cf) (to : TO) (ρ : Rho) (p : Option Int → Prop) : Prop := ∀ (σ : L2.St) (G H : Hp), Kn S.fx G H → Env S G H σ ρ → ∀ Q : Option Int → Hp → Prop,
  (∀ o G' H', p o → Grow S.fx G H G' H' → Kn S.fx G' H' → Q o H') → to σ H Q
theorem EvO.toP {to : TO} {o : Option Int} (h : EvO S to ρ o) : EvOP S to ρ (Eq o) := fun σ G H k e Q q => h σ G H k e Q fun G' H' g k' => q o G' H' rfl g k'
theorem eoP_some {p : Int → Prop} (h : EvI S te ρ p) : EvOP S (tPart te) ρ (fun o => ∃ i, o = some i ∧ p i) := fun σ G H k e Q q => h σ G H k e _ fun v s G1 H1 g1 k1 ⟨i, es, pi⟩ r => by
  subst es
  cases r
  exact ⟨i, rfl, q (some i) G1 H1 ⟨i, rfl, pi⟩ g1 k1⟩
theorem ev_cutLP {pl ph : Option Int → Prop} {tl th : TO} {ds : List D} (h : EvL S te ρ ds) (hl : EvOP S tl ρ pl) (hh : EvOP S th ρ ph) : Ev S (tSl (rSlL S.K) te tl th) ρ (fun s => ∃ es, s = .dat (.list es) ∧ ∃ lo hi, pl lo ∧ ph hi ∧ es = cutD ds lo hi) := fun σ G H k e Q q =>
  h σ G H k e _ fun a vs G1 H1 g1 k1 st ra => hl σ G1 H1 k1 (e.grow g1) _ fun lo G2 H2 p2 g2 k2 => hh σ G2 H2 k2 ((e.grow g1).grow g2) _ fun hi G3 H3 p3 g3 k3 =>
    ⟨a, vs, rfl, st G3 H3 (g2.trans k2 k3 g3), fun p hp => by
      have g := (g1.trans k1 k2 g2).trans k2 k3 g3
      have g4 := Grow.new k3 (.lst (cutV vs lo hi)) hp
      have k4 := Kn.new k3 (.lst (cutV vs lo hi)) hp
      exact q _ _ _ _ (g.trans k3 k4 g4) k4 ⟨_, rfl, lo, hi, p2, p3, rfl⟩ (.lst (SqL.of upd_same) ((ra.mono (g2.gg.trans (g3.gg.trans g4.gg))).cut lo hi))⟩
theorem opd_catL {ds es : List D} (hl : ds.length + es.length ≤ 1000000) : OpD S (rCatL S.K) (.dat (.list ds)) (.dat (.list es)) (Eq (.dat (.list (ds ++ es)))) := fun G H v w k rx ry Q q => by
  cases rx with
  | @lst a xs _ hs1 r1 =>
    cases ry with
    | @lst b ys _ hs2 r2 =>
      refine ⟨a, b, xs, ys, rfl, rfl, k.gh.seq hs1, k.gh.seq hs2, sz_ok (by rw [r1.length, r2.length]; exact hl), fun p hp => ?_⟩
      have g2 := Grow.new k (.lst (xs ++ ys)) hp
      have k2 := Kn.new k (.lst (xs ++ ys)) hp
      exact q _ _ _ _ g2 k2 rfl (.lst (SqL.of upd_same) ((r1.mono g2.gg).append (r2.mono g2.gg)))
theorem ev_catLP {p q : List D → Prop} (ha : Ev S ta ρ (fun s => ∃ ds, s = .dat (.list ds) ∧ p ds)) (hb : Ev S tb ρ (fun s => ∃ ds, s = .dat (.list ds) ∧ q ds)) (hl : ∀ ds es, p ds → q es → ds.length + es.length ≤ 1000000) :
    Ev S (tOp (rCatL S.K) ta tb) ρ (fun s => ∃ ds, s = .dat (.list ds) ∧ ∃ xs ys, ds = xs ++ ys ∧ p xs ∧ q ys) := ev_op ha hb fun x y ⟨ds, ex, px⟩ ⟨es, ey, py⟩ => by
  subst ex
  subst ey
  intro G H v w k rx ry Q h
  exact opd_catL (hl ds es px py) G H v w k rx ry Q fun z s G' H' g k' e r => h z s G' H' g k' (by subst e; exact ⟨_, rfl, ds, es, rfl, px, py⟩) r
theorem EvF.toL {P : List D → Prop} (h : EvF S te ρ P) : Ev S te ρ (fun s => ∃ ds, s = .dat (.list ds) ∧ P ds) := h.ev
theorem Ev.toL {ds : List D} {P : List D → Prop} (h : Ev S te ρ (Eq (.dat (.list ds)))) (hp : P ds) : Ev S te ρ (fun s => ∃ ds, s = .dat (.list ds) ∧ P ds) := h.imp fun s e => ⟨ds, e.symm, hp⟩
end
section
variable {K : PySem.W.Frag} {G0 B : Hp} {E : XK} {z : RowZ} {ρ : Rho} {cs : List (Addr × Str)} {t : XK → TE} {Pok : Sl → Prop} {Pex : Addr → D → Prop} {P : Sl → Prop}
/-- .. whatever comes of it -/
theorem ev_refP (h : EvX ⟨K, rowFx K z, G0, B, E⟩ t ρ Pok Pex) (h1 : ∀ s, Pok s → P (.dat (.tuple [.str "", .none]))) (h2 : ∀ C d, Pex C d → ∃ w, Told K C w cs ∧ P (.dat (.tuple [.str w, d]))) : Ev ⟨K, rowFx K z, G0, B, E⟩ (tLamP z.T z.q (TRef K cs) t) ρ P :=
  ev_lam (fun H i => i.2.2) (.inr (.inl rfl)) (fun H H1 i e T1 => row_ext i e T1) h h1 h2
end
end Dl

set_option Elab.async false
set_option linter.all false
set_option maxRecDepth 100000
set_option maxHeartbeats 4000000
namespace K11
open PySem PySem.Spec PyProof.Rows L2 Dl LamX StX RZ SM SD
theorem ok_rev {ps : List Pn} {ss : List Sm} (h : Ok ps ss) : Ok ps ss.reverse := by
  have hp : ss.reverse.Perm ss := List.reverse_perm ss
  have hs : (sewn ss.reverse).Perm (sewn ss) := hp.flatMap_right _
  have nd : ((sewn ss.reverse).map Prod.fst).Nodup := (hs.map Prod.fst).nodup_iff.mpr h.nd
  have ok : ∀ s ∈ ss.reverse, seamOk ps s = true := fun s hs => h.ok s (List.mem_reverse.mp hs)
  refine ⟨h.n1, h.n2, h.pn, by rw [List.length_reverse]; exact h.m, ok, nd, fun p hp => ?_⟩
  refine (rch_cg (sn_of ok nd)).mpr (Cg.mono (fun e he => ?_) ((rch_cg h.sn).mp (h.cn p hp)))
  obtain ⟨s, hs, e2⟩ := List.mem_map.mp he
  exact List.mem_map.mpr ⟨s, List.mem_reverse.mpr hs, e2⟩
theorem nd_seams' : ∀ {ss : List Sm}, ((sewn ss).map Prod.fst).Nodup → ss.Nodup
  | [], _ => List.nodup_nil
  | s :: tt, h => by
    have h : (s.1 :: s.2 :: (sewn tt).map Prod.fst).Nodup := h
    rw [List.nodup_cons, List.nodup_cons] at h
    refine List.nodup_cons.mpr ⟨fun z => h.1 (List.mem_cons_of_mem _ ?_), nd_seams' h.2.2⟩
    exact List.mem_map.mpr ⟨(s.1, s.2), sewn_mem.mpr ⟨s, z, .inl rfl⟩, rfl⟩
theorem nd_seams {ps : List Pn} {ss : List Sm} (h : Ok ps ss) : ss.Nodup := nd_seams' h.nd
theorem rev_ne {ps : List Pn} {ss : List Sm} (h : Ok ps ss) (h1 : 1 < ss.length) : ss ≠ ss.reverse := fun e => by
  have nd := nd_seams h
  have h2 : ss[0]'(by omega) = ss[ss.length - 1]'(by omega) := by
    have := List.getElem_reverse (l := ss) (i := 0) (by rw [List.length_reverse]; omega)
    simp only [Nat.sub_zero] at this
    rw [← this]
    congr 1
  have := (List.getElem_inj (h₀ := by omega) (h₁ := by omega) nd).mp h2
  omega
theorem cut_take' (ds : List D) (n : Nat) : Dl.cutD ds none (some (n : Int)) = ds.take n := by
  rcases Nat.le_total n ds.length with h | h
  · exact cut_take ds n h
  · unfold Dl.cutD
    rw [HT.sIx_none, HT.sIx_nat, Nat.sub_zero, Nat.min_eq_right h, List.take_of_length_le h]
    show (ds.drop 0).take ds.length = ds
    rw [List.drop_zero, List.take_length]
theorem cut_drop' (ds : List D) (n : Nat) : Dl.cutD ds (some (n : Int)) none = ds.drop n := by
  rcases Nat.le_total n ds.length with h | h
  · exact cut_drop ds n h
  · unfold Dl.cutD
    rw [HT.sIx_none, HT.sIx_nat, Nat.min_eq_right h, Nat.sub_self, List.drop_of_length_le h]
    simp
theorem free36 {ps : List Pn} {ss : List Sm} (h : ps.length ≤ 12) : (freeL ps.length ss).length ≤ 36 := by
  rw [free_eq]
  refine Nat.le_trans (List.length_filter_le _ _) ?_
  rw [all_len]
  omega
/-- what the law may put in place of a seam -/
def newV : List D := [.none, .tuple [.int 0, .int 0, .int 0, .int 0], .tuple [.int 0, .int 0, .int 12, .int 1], .list [.int 0, .int 0, .int 0, .int 1], .tuple [.int 0, .int 0, .int 1], .tuple [.int 0, .bool true, .int 0, .int 2], .tuple [.int 0, .int 0, .int 0, .int 3]]
theorem new_shaped : ∀ d ∈ newV, SeqAt.shaped d = true := by
  intro d hd
  simp only [newV, List.mem_cons, List.not_mem_nil, or_false] at hd
  rcases hd with rfl | rfl | rfl | rfl | rfl | rfl | rfl <;> rfl
def badV : List D := [.none, .tuple [dPt (0, 0), dPt (1, 0), dPt (2, 0)], .tuple [dPt (0, 0), dPt (0, 1), dPt (1, 0)], .tuple [dPt (0, 0), dPt (101, 0), dPt (0, 1)], .list [dPt (0, 0), dPt (1, 0), dPt (0, 1)], .tuple [dPt (0, 0), dPt (1, 0)], .tuple [dPt (0, 0), .list [.int 1, .int 0], dPt (0, 1)]]
theorem bad_not : ∀ d ∈ badV, isPn d = false := by
  intro d hd
  simp only [badV, List.mem_cons, List.not_mem_nil, or_false] at hd
  rcases hd with rfl | rfl | rfl | rfl | rfl | rfl | rfl <;> decide +kernel
theorem pns_ok {ps : List Pn} {ss : List Sm} (h : Ok ps ss) : ∀ d ∈ ps.map dPn, isPn d = true := fun d hd => by
  obtain ⟨t, ht, rfl⟩ := List.mem_map.mp hd
  exact isPn_of (h.pn t ht).2 (h.pn t ht).1
theorem pnOf_map (ps : List Pn) : (ps.map dPn).map pnOf = ps := by
  rw [List.map_map]
  exact (List.map_congr_left fun t _ => pnOf_d t).trans (List.map_id ps)
open Classical in
/-- a sail asked for with some seams -/
theorem init_wrong {C1 C2 : Addr} {ps : List Pn} {ss : List Sm} {es : List D} {r : ReN} (h : Ok ps ss) (hl : es.length ≤ 18) (q : initP C1 C2 (.list (ps.map dPn)) (.list es) r) : (wrongZ ps es = -2 ∧ ∃ fs g, r = .ok fs g) ∨ (wrongZ ps es > -2 ∧ r = .ex C2 (.int (wrongZ ps es))) := by
  have n1 := h.n1
  have n2 := h.n2
  unfold initP at q
  rw [show rows (.list (ps.map dPn)) = some (true, ps.map dPn) from rfl] at q
  simp only at q
  rw [if_pos (by rw [List.length_map]; exact ⟨n1, n2⟩), fbG_none _ 0 (pns_ok h)] at q
  simp only [show rows (.list es) = some (true, es) from rfl] at q
  rw [if_pos hl, pnOf_map, List.length_map] at q
  unfold wrongZ
  cases hf : fbS ps 0 [] es with
  | some k =>
    rw [hf] at q
    exact .inr ⟨by simp only; omega, q⟩
  | none =>
    rw [hf] at q
    simp only at q ⊢
    rcases q with ⟨ha, q⟩ | ⟨ha, q⟩
    · rw [if_pos ha]
      exact .inl ⟨rfl, _, _, q⟩
    · rw [if_neg ha]
      exact .inr ⟨by decide, q⟩
theorem init_badP {C1 C2 : Addr} {ps : List Pn} {ss : List Sm} {bad : D} {r : ReN} (h : Ok ps ss) (hb : isPn bad = false) (q : initP C1 C2 (.list ((ps.map dPn).take 11 ++ [bad])) .none r) : r = .ex C1 (.int ((ps.take 11).length : Nat)) := by
  have n2 := h.n2
  unfold initP at q
  rw [show rows (.list ((ps.map dPn).take 11 ++ [bad])) = some (true, (ps.map dPn).take 11 ++ [bad]) from rfl] at q
  simp only at q
  have hl : ((ps.map dPn).take 11).length = (ps.take 11).length := by rw [← List.map_take, List.length_map]
  have h11 : (ps.take 11).length ≤ 11 := by rw [List.length_take]; omega
  rw [if_pos (by rw [List.length_append, List.length_singleton, hl]; omega), fbG_at _ 0 (ps.take 11).length bad (fun x hx => ?_) (by rw [← hl, List.getElem?_append_right (Nat.le_refl _), Nat.sub_self]; rfl) hb] at q
  · simpa using q
  · rw [← hl, List.take_append_of_le_length (Nat.le_refl _), List.take_length] at hx
    exact pns_ok h x (List.mem_of_mem_take hx)
theorem init_noP {C1 C2 : Addr} {d1 d2 : D} {r : ReN} (h : rows d1 = none ∨ ∃ b e, rows d1 = some (b, e) ∧ ¬ (1 ≤ e.length ∧ e.length ≤ 12)) (q : initP C1 C2 d1 d2 r) : r = .ex C1 (.int (-1)) := by
  unfold initP at q
  rcases h with h | ⟨b, e, h, hn⟩
  · rw [h] at q
    exact q
  · rw [h] at q
    simp only at q
    rw [if_neg hn] at q
    exact q
theorem init_noS {C1 C2 : Addr} {ps : List Pn} {ss : List Sm} {d2 : D} {r : ReN} (h : Ok ps ss) (h2 : rows d2 = none ∨ ∃ b e, rows d2 = some (b, e) ∧ ¬ e.length ≤ 18) (q : initP C1 C2 (.list (ps.map dPn)) d2 r) : r = .ex C2 (.int (-1)) := by
  have n1 := h.n1
  have n2 := h.n2
  unfold initP at q
  rw [show rows (.list (ps.map dPn)) = some (true, ps.map dPn) from rfl] at q
  simp only at q
  rw [if_pos (by rw [List.length_map]; exact ⟨n1, n2⟩), fbG_none _ 0 (pns_ok h)] at q
  rcases h2 with h2 | ⟨b, e, h2, hn⟩
  · simp only [h2] at q
    exact q
  · simp only [h2] at q
    rw [if_neg hn] at q
    exact q
theorem ok_wn {w : Str} {k : Nat} (hw : okS (.str w) (.s k) = true) (n : Int) : okS (.tuple [.str w, .int n]) (.t [.s k, .z]) = true := by
  show (okS _ _ && (okS _ _ && true)) = true
  rw [hw]
  rfl
section
variable {P : Program} {w : World} {K : PySem.W.Frag} {mg : Str → Option Value} {base : Heap} {C1 C2 fI CS : Addr} (T : Tx P w K mg base C1 C2 fI CS)
include T
theorem c_ask {N : List Str} {sc : Scope} {fa c Tb : Addr} {A : Around} {s : Shared} {H : Hp} {E : XK} (tb : TabB base mg c Tb) :
    ∃ g, AskOk (cxOf (L2.CX P w) P w K mg base N "law" sc fa (.ref c) A [] s H E) "_law_refused" "ask" ["ask", "e"] g c Tb (TRef K [(C1, "panels"), (C2, "seams")]) := by
  refine ask_ok T.d__law_refused sc__law_refused (.inl rfl) tb (by decide) (fun _ _ _ _ _ _ us hl => match us, hl with | [_], _ => rfl) fun g cdg => ?_
  refine ref_gives (by decide) rfl fun s H => ?_
  exact HdsN.cons ⟨rfl, by decide, .inl T.e_BadPanels.gC⟩ (fun a oe cls d pn hz hf => pss_one (ps_ret (pe_tup (pa_cons pe_str (pa_cons (pe_xf T.e_BadPanels.xf T.e_BadPanels.nv hz hf (pv 1)) pa_nil))))) (HdsN.cons ⟨rfl, by decide, .inl T.e_BadSeams.gC⟩ (fun a oe cls d pn hz hf => pss_one (ps_ret (pe_tup (pa_cons pe_str (pa_cons (pe_xf T.e_BadSeams.xf T.e_BadSeams.nv hz hf (pv 1)) pa_nil))))) .nil)
open Classical in
theorem law_body {fa c Tb a : Addr} {s : Shared} {H : Hp} {ns : List Int} (tb : TabB base mg c Tb) (hr : Room 27 (callerA.deeper (envOfC "law" (defScope s_law) s.heap.objs.size fa (.ref c)))) (hT : H Tb = some (.tbl #[])) (naT : a ≠ Tb) (hS : SqL K H a (ns.map V.int)) :
    ∃ t, PSs (cxOf (L2.CX P w) P w K mg base ["script", "seams", "sail", "free", "spots", "left", "due", "k", "way", "j", "ahead", "turn", "at", "new", "one", "other", "wrong", "bad", "panels", "row", "some", "side"] "law" (defScope s_law) fa (.ref c) callerA [] s H (fun _ _ _ => False)) (defBody s_law) t ∧ t { nx := fun _ H' => V.non = .bl true, rt := fun v _ => v = .bl true } (L2.start ["script", "seams", "sail", "free", "spots", "left", "due", "k", "way", "j", "ahead", "turn", "at", "new", "one", "other", "wrong", "bad", "panels", "row", "some", "side"] [.ref a]) H := by
  have c__law_taken := c__law_taken T
  have c__law_pick := c__law_pick T
  have c__law_alike := c__law_alike T 6
  have c__law_sail := c__law_sail T
  have c__law_free := c__law_freeD T
  have c__law_points := c__law_points T
  have c__law_wrong := c__law_wrong T
  have c__law_ahead := c__law_ahead T
  have c_Sail := c_Sail T
  have c_Sail___eq__ := c_Sail___eq__ T
  have c_points := c_points T
  have c_rim := c_rim T
  have c_rims := c_rims T
  have c_holes := c_holes T
  obtain ⟨ga, O⟩ := c_ask T (N := ["script", "seams", "sail", "free", "spots", "left", "due", "k", "way", "j", "ahead", "turn", "at", "new", "one", "other", "wrong", "bad", "panels", "row", "some", "side"]) (sc := defScope s_law) (fa := fa) (A := callerA) (s := s) (H := H) (E := fun _ _ _ => False) tb
  have hgu : (callerA.deeper (envOfC "law" (defScope s_law) s.heap.objs.size fa (.ref c))).guards = some [] := rfl
  refine ⟨_, (pss_cons (ps_set (i := 19) sc_law.nd rfl (Or.inr rfl) (pe_lst (pa_cons (pv 0) (pa_cons pe_int (pa_cons pe_int (pa_cons pe_int pa_nil))))))
      (pss_cons (ps_asg (pe_cal c__law_sail (hr.mono (by first | decide | omega)) rfl (pa_cons (pv 19) (pa_cons (pe_op op_add pe_int (pe_cal c__law_taken (hr.mono (by first | decide | omega)) rfl (pa_cons (pv 19) (pa_cons pe_int pa_nil)))) pa_nil))) (pg_tup (by rfl) (pgs_cons (pg_name (i := 18) sc_law.nd rfl (Or.inr rfl)) (pgs_cons (pg_name (i := 1) sc_law.nd rfl (Or.inl rfl)) pgs_nil))))
      (pss_cons (ps_set (i := 2) sc_law.nd rfl (Or.inl rfl) (pe_calK c_Sail (hr.mono (by first | decide | omega)) rfl (pa_cons (pe_callTy (T := "tuple") (r := fun xs H Q => ∃ p ys, xs = [.ref p] ∧ ((SqL K H p ys ∧ ∀ l, H l = none → Q (.ref l) (upd H l (.tup ys))) ∨ (SqT K H p ys ∧ Q (.ref p) H))) call_tuple_of (by rfl) T.b_tuple (by decide +kernel) (pa_cons (pv 18) pa_nil)) (pa_cons (pe_callTy (T := "tuple") (r := fun xs H Q => ∃ p ys, xs = [.ref p] ∧ ((SqL K H p ys ∧ ∀ l, H l = none → Q (.ref l) (upd H l (.tup ys))) ∨ (SqT K H p ys ∧ Q (.ref p) H))) call_tuple_of (by rfl) T.b_tuple (by decide +kernel) (pa_cons (pv 1) pa_nil)) pa_nil))))
      (pss_cons (ps_if (PW.pt (pw_or (pt_not (pt_val (pe_cal c__law_alike (hr.mono (by first | decide | omega)) rfl (pa_cons (pe_tup (pa_cons (pe_fld' (K := K) rfl (pv 2)) (pa_cons (pe_fld' (K := K) rfl (pv 2)) pa_nil))) (pa_cons (pe_tup (pa_cons (pe_callTy (T := "tuple") (r := fun xs H Q => ∃ p ys, xs = [.ref p] ∧ ((SqL K H p ys ∧ ∀ l, H l = none → Q (.ref l) (upd H l (.tup ys))) ∨ (SqT K H p ys ∧ Q (.ref p) H))) call_tuple_of (by rfl) T.b_tuple (by decide +kernel) (pa_cons (pv 18) pa_nil)) (pa_cons (pe_callTy (T := "tuple") (r := fun xs H Q => ∃ p ys, xs = [.ref p] ∧ ((SqL K H p ys ∧ ∀ l, H l = none → Q (.ref l) (upd H l (.tup ys))) ∨ (SqT K H p ys ∧ Q (.ref p) H))) call_tuple_of (by rfl) T.b_tuple (by decide +kernel) (pa_cons (pv 1) pa_nil)) pa_nil))) pa_nil))))) (pw_or (pt_cmpR (r := rNeM K CS _) (op_neM c_Sail___eq__ T.q_Sail (hr.mono (by first | decide | omega))) (pv 2) (pe_calK c_Sail (hr.mono (by first | decide | omega)) rfl (pa_cons (pv 18) (pa_cons (pv 1) pa_nil))) (nomark _)) (pw_or1 (pt_cmpR (r := rEqM K CS _) (op_eqM c_Sail___eq__ (hr.mono (by first | decide | omega))) (pv 2) (pe_tup (pa_cons (pe_fld' (K := K) rfl (pv 2)) (pa_cons (pe_fld' (K := K) rfl (pv 2)) pa_nil))) (nomark _)))))) (pss_one (ps_ret pe_bl)) pss_nil)
      (pss_cons (ps_if (PW.pt (pw_and (pt_cmpR op_gt (pe_callB (r := fun xs H Q => ∃ p ys, xs = [.ref p] ∧ (SqL K H p ys ∨ SqT K H p ys) ∧ Q (.int ys.length) H) call_len_seq (by rfl) T.b_len (by decide +kernel) (pa_cons (pv 1) pa_nil)) pe_int (nomark _)) (pw_and1 (pt_cmpR (r := rEqM K CS _) (op_eqM c_Sail___eq__ (hr.mono (by first | decide | omega))) (pv 2) (pe_calK c_Sail (hr.mono (by first | decide | omega)) rfl (pa_cons (pv 18) (pa_cons (pe_revL' (K := K) rfl (pv 1)) pa_nil))) (nomark _))))) (pss_one (ps_ret pe_bl)) pss_nil)
      (pss_cons (ps_par (i := 3) (j := 4) (by rfl) sc_law.nd rfl rfl (by decide) rfl rfl (pa_cons (pe_cal c__law_free (hr.mono (by first | decide | omega)) rfl (pa_cons (pv 18) (pa_cons (pv 1) pa_nil))) (pa_cons (pe_cal c__law_points (hr.mono (by first | decide | omega)) rfl (pa_cons (pv 18) (pa_cons (pv 1) pa_nil))) pa_nil)) (by rfl))
      (pss_cons (ps_if (PW.pt (pw_or (pt_not (pt_val (pe_cal c__law_alike (hr.mono (by first | decide | omega)) rfl (pa_cons (pe_cal c_points (hr.mono (by first | decide | omega)) rfl (pa_cons (pv 2) pa_nil)) (pa_cons (pv 4) pa_nil))))) (pw_or1 (pt_not (pt_val (pe_cal c__law_alike (hr.mono (by first | decide | omega)) rfl (pa_cons (pe_cal c_rim (hr.mono (by first | decide | omega)) rfl (pa_cons (pv 2) pa_nil)) (pa_cons (pv 3) pa_nil)))))))) (pss_one (ps_ret pe_bl)) pss_nil)
      (pss_cons (ps_par (i := 5) (j := 6) (by rfl) sc_law.nd rfl rfl (by decide) rfl rfl (pa_cons (pe_callTy (T := "list") (r := fun xs H Q => ∃ p ys, xs = [.ref p] ∧ (SqL K H p ys ∨ SqT K H p ys) ∧ ∀ l, H l = none → Q (.ref l) (upd H l (.lst ys))) call_list_of (by rfl) T.b_list (by decide +kernel) (pa_cons (pv 3) pa_nil)) (pa_cons (pe_lst pa_nil) pa_nil)) (by rfl))
      (pss_cons (ps_for (passes_of rfl) rfl (pi_range1 (by rfl) T.b_range (pa_cons (pe_callB (r := fun xs H Q => ∃ p ys, xs = [.ref p] ∧ (SqL K H p ys ∨ SqT K H p ys) ∧ Q (.int ys.length) H) call_len_seq (by rfl) T.b_len (by decide +kernel) (pa_cons (pv 3) pa_nil)) pa_nil)) (pg_name (i := 7) sc_law.nd rfl (Or.inl rfl)) (pss_one (ps_if (pt_cmpR (r := rNeD K) (op_neD (u64 hr)) (pv 5) (pe_lst pa_nil) (nomark _)) (pss_cons (ps_set (i := 8) sc_law.nd rfl (Or.inr rfl) (pe_lst (pa_cons (pe_ix (r := rIxL K) ix_list (pv 5) pe_int (fun _ _ => rfl)) pa_nil)))
      (pss_cons (ps_for (passes_of rfl) rfl (pi_range1 (by rfl) T.b_range (pa_cons pe_int pa_nil)) (pg_name (i := 9) sc_law.nd rfl (Or.inl rfl)) (pss_cons (ps_set (i := 10) sc_law.nd rfl (Or.inl rfl) (pe_cal c__law_ahead (hr.mono (by first | decide | omega)) rfl (pa_cons (pv 18) (pa_cons (pv 1) (pa_cons (pe_ix (r := rIxL K) ix_list (pv 8) (pe_un un_neg pe_int) (fun _ _ => rfl)) pa_nil)))))
      (pss_cons (ps_if (pt_cmpR (r := rEqD K) (op_eqD (u64 hr)) (pv 10) (pe_ix (r := rIxL K) ix_list (pv 8) pe_int (fun _ _ => rfl)) (nomark _)) (pss_one ps_break) pss_nil)
      (pss_one (ps_expr (pe_bm PySem.F.plainAttrs_list PySem.F.slot_list_append PySem.F.type_list_append mt_append (pv 8) (pa_cons (pv 10) pa_nil)))))))
      (pss_cons (ps_expr (pe_bm PySem.F.plainAttrs_list PySem.F.slot_list_append PySem.F.type_list_append mt_append (pv 6) (pa_cons (pe_callTy (T := "tuple") (r := fun xs H Q => ∃ p ys, xs = [.ref p] ∧ ((SqL K H p ys ∧ ∀ l, H l = none → Q (.ref l) (upd H l (.tup ys))) ∨ (SqT K H p ys ∧ Q (.ref p) H))) call_tuple_of (by rfl) T.b_tuple (by decide +kernel) (pa_cons (pv 8) pa_nil)) pa_nil)))
      (pss_one (ps_setLc (i := 5) (own := [("side", 21)]) (by rfl) sc_law.nd rfl rfl (sw_true rfl rfl rfl (by decide +kernel)) (pi_list (pv 5)) (blkOk_by (N := ["script", "seams", "sail", "free", "spots", "left", "due", "k", "way", "j", "ahead", "turn", "at", "new", "one", "other", "wrong", "bad", "panels", "row", "some", "side"]) (sc := defScope s_law) (own := [("side", 21)]) (by decide +kernel)) (fun _ _ _ _ _ => (pg_name (i := 21) sc_law.nd rfl (by first | exact Or.inl rfl | exact Or.inr rfl))) (fun _ _ _ _ _ => (pts_one (pt_cmpR (r := rNotInS K) (op_notInS (u65 hr)) (pv 21) (pv 8) (by rfl)))) (fun _ _ _ _ _ => (pv 21))))))) pss_nil)))
      (pss_cons (ps_if (PW.pt (pw_or (pt_not (pt_val (pe_cal c__law_alike (hr.mono (by first | decide | omega)) rfl (pa_cons (pe_cal c_rims (hr.mono (by first | decide | omega)) rfl (pa_cons (pv 2) pa_nil)) (pa_cons (pv 6) pa_nil))))) (pw_or1 (pt_not (pt_val (pe_cal c__law_alike (hr.mono (by first | decide | omega)) rfl (pa_cons (pe_cal c_holes (hr.mono (by first | decide | omega)) rfl (pa_cons (pv 2) pa_nil)) (pa_cons (pe_op op_add (pe_op op_add (pe_op op_sub (pe_op op_sub pe_int (pe_callB (r := fun xs H Q => ∃ p ys, xs = [.ref p] ∧ (SqL K H p ys ∨ SqT K H p ys) ∧ Q (.int ys.length) H) call_len_seq (by rfl) T.b_len (by decide +kernel) (pa_cons (pv 4) pa_nil))) (pe_callB (r := fun xs H Q => ∃ p ys, xs = [.ref p] ∧ (SqL K H p ys ∨ SqT K H p ys) ∧ Q (.int ys.length) H) call_len_seq (by rfl) T.b_len (by decide +kernel) (pa_cons (pv 18) pa_nil))) (pe_callB (r := fun xs H Q => ∃ p ys, xs = [.ref p] ∧ (SqL K H p ys ∨ SqT K H p ys) ∧ Q (.int ys.length) H) call_len_seq (by rfl) T.b_len (by decide +kernel) (pa_cons (pv 1) pa_nil))) (pe_callB (r := fun xs H Q => ∃ p ys, xs = [.ref p] ∧ (SqL K H p ys ∨ SqT K H p ys) ∧ Q (.int ys.length) H) call_len_seq (by rfl) T.b_len (by decide +kernel) (pa_cons (pv 3) pa_nil))) pa_nil)))))))) (pss_one (ps_ret pe_bl)) pss_nil)
      (pss_cons (ps_for (passes_of rfl) rfl (pi_range1 (by rfl) T.b_range (pa_cons pe_int pa_nil)) (pg_name (i := 11) sc_law.nd rfl (Or.inl rfl)) (pss_cons (ps_asg (pe_tup (pa_cons (pe_callTy (T := "list") (r := fun xs H Q => ∃ p ys, xs = [.ref p] ∧ (SqL K H p ys ∨ SqT K H p ys) ∧ ∀ l, H l = none → Q (.ref l) (upd H l (.lst ys))) call_list_of (by rfl) T.b_list (by decide +kernel) (pa_cons (pv 1) pa_nil)) (pa_cons (pe_cal c__law_taken (hr.mono (by first | decide | omega)) rfl (pa_cons (pv 19) (pa_cons (pe_op op_add (pe_callB (r := fun xs H Q => ∃ p ys, xs = [.ref p] ∧ (SqL K H p ys ∨ SqT K H p ys) ∧ Q (.int ys.length) H) call_len_seq (by rfl) T.b_len (by decide +kernel) (pa_cons (pv 1) pa_nil)) pe_int) pa_nil))) pa_nil))) (pg_tup (by rfl) (pgs_cons (pg_name (i := 20) sc_law.nd rfl (Or.inr rfl)) (pgs_cons (pg_name (i := 12) sc_law.nd rfl (Or.inl rfl)) pgs_nil))))
      (pss_cons (ps_set (i := 13) sc_law.nd rfl (Or.inl rfl) (pe_cal c__law_pick (hr.mono (by first | decide | omega)) rfl (pa_cons (pv 19) (pa_cons (pe_lst (pa_cons pe_non (pa_cons (pe_tup (pa_cons pe_int (pa_cons pe_int (pa_cons pe_int (pa_cons pe_int pa_nil))))) (pa_cons (pe_tup (pa_cons pe_int (pa_cons pe_int (pa_cons pe_int (pa_cons pe_int pa_nil))))) (pa_cons (pe_lst (pa_cons pe_int (pa_cons pe_int (pa_cons pe_int (pa_cons pe_int pa_nil))))) (pa_cons (pe_tup (pa_cons pe_int (pa_cons pe_int (pa_cons pe_int pa_nil)))) (pa_cons (pe_tup (pa_cons pe_int (pa_cons pe_bl (pa_cons pe_int (pa_cons pe_int pa_nil))))) (pa_cons (pe_tup (pa_cons pe_int (pa_cons pe_int (pa_cons pe_int (pa_cons pe_int pa_nil))))) pa_nil)))))))) pa_nil))))
      (pss_cons (ps_if (pt_cmpR (r := rEqD K) (op_eqD (u64 hr)) (pe_cal c__law_taken (hr.mono (by first | decide | omega)) rfl (pa_cons (pv 19) (pa_cons pe_int pa_nil))) pe_int (nomark _)) (pss_cons (ps_asg (pe_callB (r := rSortD K) (cr_sortD (u64 hr)) (by rfl) T.b_sorted (by decide +kernel) (pa_cons (pe_lst (pa_cons (pe_tup (pa_cons (pe_cal c__law_taken (hr.mono (by first | decide | omega)) rfl (pa_cons (pv 19) (pa_cons (pe_callB (r := fun xs H Q => ∃ p ys, xs = [.ref p] ∧ (SqL K H p ys ∨ SqT K H p ys) ∧ Q (.int ys.length) H) call_len_seq (by rfl) T.b_len (by decide +kernel) (pa_cons (pv 18) pa_nil)) pa_nil))) (pa_cons (pe_cal c__law_taken (hr.mono (by first | decide | omega)) rfl (pa_cons (pv 19) (pa_cons pe_int pa_nil))) pa_nil))) (pa_cons (pe_tup (pa_cons (pe_cal c__law_taken (hr.mono (by first | decide | omega)) rfl (pa_cons (pv 19) (pa_cons (pe_callB (r := fun xs H Q => ∃ p ys, xs = [.ref p] ∧ (SqL K H p ys ∨ SqT K H p ys) ∧ Q (.int ys.length) H) call_len_seq (by rfl) T.b_len (by decide +kernel) (pa_cons (pv 18) pa_nil)) pa_nil))) (pa_cons (pe_cal c__law_taken (hr.mono (by first | decide | omega)) rfl (pa_cons (pv 19) (pa_cons pe_int pa_nil))) pa_nil))) pa_nil))) pa_nil)) (pg_lst (K := K) (n := 2) rfl rfl (pgs_cons (pg_name (i := 14) sc_law.nd rfl (Or.inl rfl)) (pgs_cons (pg_name (i := 15) sc_law.nd rfl (Or.inl rfl)) pgs_nil))))
      (pss_one (ps_set (i := 13) sc_law.nd rfl (Or.inl rfl) (pe_op (r := rCatA K) op_catA (pv 14) (pv 15))))) pss_nil)
      (pss_cons (ps_set (i := 20) sc_law.nd rfl (Or.inr rfl) (pe_ifExp (pt_cmpR op_gt (pe_cal c__law_taken (hr.mono (by first | decide | omega)) rfl (pa_cons (pv 19) (pa_cons pe_int pa_nil))) pe_int (nomark _)) (pe_op (r := rCatL K) op_catL (pe_op (r := rCatL K) op_catL (pe_slice (r := rSlL K) sl_list (pv 20) po_none (po_some (pv 12))) (pe_lst (pa_cons (pv 13) pa_nil))) (pe_slice (r := rSlL K) sl_list (pv 20) (po_some (pe_op op_add (pv 12) (pe_cal c__law_taken (hr.mono (by first | decide | omega)) rfl (pa_cons (pv 19) (pa_cons pe_int pa_nil))))) po_none)) (pe_op (r := rCatL K) op_catL (pe_slice (r := rSlL K) sl_list (pv 20) po_none (po_some (pv 12))) (pe_slice (r := rSlL K) sl_list (pv 20) (po_some (pe_op op_add (pv 12) pe_int)) po_none))))
      (pss_cons (ps_set (i := 16) sc_law.nd rfl (Or.inl rfl) (pe_cal c__law_wrong (hr.mono (by first | decide | omega)) rfl (pa_cons (pv 18) (pa_cons (pv 20) pa_nil))))
      (pss_one (ps_if (PW.pt (pw_and (pt_cmpR op_lt (pe_callB (r := fun xs H Q => ∃ p ys, xs = [.ref p] ∧ (SqL K H p ys ∨ SqT K H p ys) ∧ Q (.int ys.length) H) call_len_seq (by rfl) T.b_len (by decide +kernel) (pa_cons (pv 20) pa_nil)) pe_int (nomark _)) (pw_and1 (pt_cmpR (r := rNeD K) (op_neD (u64 hr)) (pe_lam (k := 25) O rfl (hr.mono (by first | decide | omega)) (lamS_by (sc := defScope s_law) (by decide +kernel)) rfl (fun _ _ _ _ _ => rfl) (fun A2 outer2 s2 H2 E2 f2 c2 hr => (pe_calKX c_Sail (hr.mono (by first | decide | omega)) rfl (pa_cons (pv 18) (pa_cons (pv 20) pa_nil)) (takes_of rfl rfl rfl rfl)))) (pe_ifExp (pt_cmpR op_gt (pv 16) (pe_un un_neg pe_int) (nomark _)) (pe_tup (pa_cons pe_str (pa_cons (pv 16) pa_nil))) (pe_tup (pa_cons pe_str (pa_cons pe_non pa_nil)))) (nomark _))))) (pss_one (ps_ret pe_bl)) pss_nil))))))))
      (pss_cons (ps_set (i := 17) sc_law.nd rfl (Or.inr rfl) (pe_cal c__law_pick (hr.mono (by first | decide | omega)) rfl (pa_cons (pv 19) (pa_cons (pe_lst (pa_cons pe_non (pa_cons (pe_tup (pa_cons (pe_tup (pa_cons pe_int (pa_cons pe_int pa_nil))) (pa_cons (pe_tup (pa_cons pe_int (pa_cons pe_int pa_nil))) (pa_cons (pe_tup (pa_cons pe_int (pa_cons pe_int pa_nil))) pa_nil)))) (pa_cons (pe_tup (pa_cons (pe_tup (pa_cons pe_int (pa_cons pe_int pa_nil))) (pa_cons (pe_tup (pa_cons pe_int (pa_cons pe_int pa_nil))) (pa_cons (pe_tup (pa_cons pe_int (pa_cons pe_int pa_nil))) pa_nil)))) (pa_cons (pe_tup (pa_cons (pe_tup (pa_cons pe_int (pa_cons pe_int pa_nil))) (pa_cons (pe_tup (pa_cons pe_int (pa_cons pe_int pa_nil))) (pa_cons (pe_tup (pa_cons pe_int (pa_cons pe_int pa_nil))) pa_nil)))) (pa_cons (pe_lst (pa_cons (pe_tup (pa_cons pe_int (pa_cons pe_int pa_nil))) (pa_cons (pe_tup (pa_cons pe_int (pa_cons pe_int pa_nil))) (pa_cons (pe_tup (pa_cons pe_int (pa_cons pe_int pa_nil))) pa_nil)))) (pa_cons (pe_tup (pa_cons (pe_tup (pa_cons pe_int (pa_cons pe_int pa_nil))) (pa_cons (pe_tup (pa_cons pe_int (pa_cons pe_int pa_nil))) pa_nil))) (pa_cons (pe_tup (pa_cons (pe_tup (pa_cons pe_int (pa_cons pe_int pa_nil))) (pa_cons (pe_lst (pa_cons pe_int (pa_cons pe_int pa_nil))) (pa_cons (pe_tup (pa_cons pe_int (pa_cons pe_int pa_nil))) pa_nil)))) pa_nil)))))))) pa_nil))))
      (pss_cons (ps_if (pt_cmpR (r := rNeD K) (op_neD (u64 hr)) (pe_lam (k := 25) O rfl (hr.mono (by first | decide | omega)) (lamS_by (sc := defScope s_law) (by decide +kernel)) rfl (fun _ _ _ _ _ => rfl) (fun A2 outer2 s2 H2 E2 f2 c2 hr => (pe_calKX c_Sail (hr.mono (by first | decide | omega)) rfl (pa_cons (pe_op (r := rCatL K) op_catL (pe_slice (r := rSlL K) sl_list (pv 18) po_none (po_some pe_int)) (pe_lst (pa_cons (pv 17) pa_nil))) (pa_cons pe_non pa_nil)) (takes_of rfl rfl rfl rfl)))) (pe_tup (pa_cons pe_str (pa_cons (pe_callB (r := fun xs H Q => ∃ p ys, xs = [.ref p] ∧ (SqL K H p ys ∨ SqT K H p ys) ∧ Q (.int ys.length) H) call_len_seq (by rfl) T.b_len (by decide +kernel) (pa_cons (pe_slice (r := rSlL K) sl_list (pv 18) po_none (po_some pe_int)) pa_nil)) pa_nil))) (nomark _)) (pss_one (ps_ret pe_bl)) pss_nil)
      (pss_cons (ps_if (pt_cmpR (r := rNeD K) (op_neD (u64 hr)) (pe_lam (k := 25) O rfl (hr.mono (by first | decide | omega)) (lamS_by (sc := defScope s_law) (by decide +kernel)) rfl (fun _ _ _ _ _ => rfl) (fun A2 outer2 s2 H2 E2 f2 c2 hr => (pe_calKX c_Sail (hr.mono (by first | decide | omega)) rfl (pa_cons (pe_cal c__law_pick (hr.mono (by first | decide | omega)) rfl (pa_cons (pv 19) (pa_cons (pe_lst (pa_cons pe_non (pa_cons (pe_lst pa_nil) (pa_cons (pe_op op_rep (pe_lst (pa_cons (pe_ix (r := rIxL K) ix_list (pv 18) pe_int (fun _ _ => rfl)) pa_nil)) pe_int) (pa_cons pe_int pa_nil))))) pa_nil))) (pa_cons pe_non pa_nil)) (takes_of rfl rfl rfl rfl)))) (pe_tup (pa_cons pe_str (pa_cons (pe_un un_neg pe_int) pa_nil))) (nomark _)) (pss_one (ps_ret pe_bl)) pss_nil)
      (pss_one (ps_ret (pe_cmpR (r := rEqD K) (op_eqD (u64 hr)) (pe_lam (k := 25) O rfl (hr.mono (by first | decide | omega)) (lamS_by (sc := defScope s_law) (by decide +kernel)) rfl (fun _ _ _ _ _ => rfl) (fun A2 outer2 s2 H2 E2 f2 c2 hr => (pe_calKX c_Sail (hr.mono (by first | decide | omega)) rfl (pa_cons (pv 18) (pa_cons (pe_cal c__law_pick (hr.mono (by first | decide | omega)) rfl (pa_cons (pv 19) (pa_cons (pe_lst (pa_cons pe_non (pa_cons pe_int (pa_cons (pe_op op_rep (pe_lst (pa_cons pe_non pa_nil)) pe_int) pa_nil)))) pa_nil))) pa_nil)) (takes_of rfl rfl rfl rfl)))) (pe_tup (pa_cons pe_str (pa_cons (pe_un un_neg pe_int) pa_nil))) (nomark _)))))))))))))))))), ?_⟩
  refine xs_row rfl fun p hp => ?_
  obtain ⟨t, k0⟩ := law_start (q := (cxOf (L2.CX P w) P w K mg base ["script", "seams", "sail", "free", "spots", "left", "due", "k", "way", "j", "ahead", "turn", "at", "new", "one", "other", "wrong", "bad", "panels", "row", "some", "side"] "law" (defScope s_law) fa (.ref c) callerA [] s H (fun _ _ _ => False)).env.qual ++ "<lambda>") hT hS hp 0 111 (by omega) (by omega) (by omega) 0
  have env0 : Env ⟨K, rowFx K ⟨p, a, Tb, (cxOf (L2.CX P w) P w K mg base ["script", "seams", "sail", "free", "spots", "left", "due", "k", "way", "j", "ahead", "turn", "at", "new", "one", "other", "wrong", "bad", "panels", "row", "some", "side"] "law" (defScope s_law) fa (.ref c) callerA [] s H (fun _ _ _ => False)).env.qual ++ "<lambda>", ns, t⟩, fun _ => none, upd H p (rowHO a 0 111 0), fun _ _ _ => False⟩ (fun _ => none) (upd H p (rowHO a 0 111 0)) ((L2.start ["script", "seams", "sail", "free", "spots", "left", "due", "k", "way", "j", "ahead", "turn", "at", "new", "one", "other", "wrong", "bad", "panels", "row", "some", "side"] [.ref a]).set 19 (some (.ref p))) [.raw (.ref a), .no, .no, .no, .no, .no, .no, .no, .no, .no, .no, .no, .no, .no, .no, .no, .no, .no, .no, .raw (.ref p), .no, .no] :=
    (env_start (vs := [.ref a]) (ss := [.raw (.ref a)]) 21 (.cons rfl .nil)).set 19 (s := .raw (.ref p)) rfl
  refine xc_start k0 env0 ?_
  clear env0 k0
  generalize (cxOf (L2.CX P w) P w K mg base ["script", "seams", "sail", "free", "spots", "left", "due", "k", "way", "j", "ahead", "turn", "at", "new", "one", "other", "wrong", "bad", "panels", "row", "some", "side"] "law" (defScope s_law) fa (.ref c) callerA [] s H (fun _ _ _ => False)).env.qual ++ "<lambda>" = q
  generalize upd H p (rowHO a 0 111 0) = B
  have tkI : ∀ {ρ : Rho} {te : TE} {q' : Int → Prop}, ρ[19]? = some (.raw (.ref p)) → EvI ⟨K, rowFx K ⟨p, a, Tb, q, ns, t⟩, fun _ => none, B, fun _ _ _ => False⟩ te ρ q' → (∀ m, q' m → 0 < m ∧ m < 1073741824) → EvI ⟨K, rowFx K ⟨p, a, Tb, q, ns, t⟩, fun _ => none, B, fun _ _ _ => False⟩ (tCall (spTaken K) [] E0 (tCons (tVar 19) (tCons te tNil))) ρ (fun x => 0 ≤ x ∧ ∃ m, q' m ∧ x < m) := fun h he hq => ev_takenI (z := ⟨p, a, Tb, q, ns, t⟩) (ev_varR h) he hq
  refine xs_asgTP (p := fun d => ∃ (ps : List Pn) (ss : List Sm), Ok ps ss ∧ (∀ t ∈ ps, GoodP t) ∧ d = .tuple [.list (ps.map dPn), .list (ss.map dSm)]) (ev_callZ (fx := rowFx K) ⟨p, a, Tb, q, ns, t⟩ (ea_two (Pa := Eq (.raw (.ref p))) (Pb := fun s => ∃ i : Int, s = .dat (.int i) ∧ (1 ≤ i ∧ i ≤ 12)) (ev_varR rfl) (evI_0 (p := fun i => i = 1) (s := fun i => 1 ≤ i ∧ i ≤ 12) (ev_int.toI rfl) (tkI rfl (ev_int.toI (p := fun i => i = 12) rfl) fun m e => by omega) fun i j hi ⟨h0, m, hm, hj⟩ => by omega)) fun sl ⟨x, y, e, ex, i, ey, h1, h2⟩ => ⟨i.toNat, by rw [e, ← ex, ey]; show [Sl.raw _, Sl.dat (.int i)] = [Sl.raw _, Sl.dat (.int ((i.toNat : Nat) : Int))]; rw [Int.toNat_of_nonneg (by omega)], ⟨by omega, by omega⟩, fun s ⟨ps, ss, ok, hg, hl, e⟩ => ⟨_, Re.ok.inj e, ps, ss, ok, hg, rfl⟩, fun C d ⟨_, _, _, _, _, e⟩ => by cases e⟩) ?_
  rintro _ ⟨ps, ss, ok, hgood, rfl⟩
  refine ⟨_, _, tg_two, ?_⟩
  have h18 := ok.m
  have h12 := ok.n2
  have h1 := ok.n1
  have ho := ok.sn
  have szs : szS (ps, ss) := ⟨h12, h18⟩
  refine xs_asgP (p := fun s => s = obS CS ps ss) (ev_make (ea_cons (ev_tupL (el_of (ds := ps.map dPn) (ev_var rfl))) (ea_cons (ev_tupL (el_of (ds := ss.map dSm) (ev_var rfl))) ea_nil)) fun sl e => ⟨(.tuple (ps.map dPn), .tuple (ss.map dSm)), e.symm, True.intro, fun fs g h => by
    have := init_ok false false ok _ h
    cases this
    rfl, fun C' d h => by
    have := init_ok false false ok _ h
    cases this⟩) ?_
  rintro _ rfl
  have mkS : ∀ {ρ : Rho} {ta tb : TE} {tt : List Sm}, Ok ps tt → Ev ⟨K, rowFx K ⟨p, a, Tb, q, ns, t⟩, fun _ => none, B, fun _ _ _ => False⟩ ta ρ (Eq (.dat (.list (ps.map dPn)))) → Ev ⟨K, rowFx K ⟨p, a, Tb, q, ns, t⟩, fun _ => none, B, fun _ _ _ => False⟩ tb ρ (Eq (.dat (.list (tt.map dSm)))) → Ev ⟨K, rowFx K ⟨p, a, Tb, q, ns, t⟩, fun _ => none, B, fun _ _ _ => False⟩ (tMake CS (SpSail K C1 C2 CS) [] E0 (tCons ta (tCons tb tNil))) ρ (Eq (obS CS ps tt)) := fun {ρ ta tb tt} hok h1 h2 => ev_make (ea_cons h1 (ea_cons h2 ea_nil)) fun sl e => ⟨(.list (ps.map dPn), .list (tt.map dSm)), e.symm, True.intro, fun fs g h => by
    have := init_ok true true hok _ h
    cases this
    rfl, fun C' d h => by
    have := init_ok true true hok _ h
    cases this⟩
  have fldP : ∀ {ρ : Rho}, ρ[2]? = some (obS CS ps ss) → Ev ⟨K, rowFx K ⟨p, a, Tb, q, ns, t⟩, fun _ => none, B, fun _ _ _ => False⟩ (tTup (tCons (tFld K (tVar 2) "panels") (tCons (tFld K (tVar 2) "seams") tNil))) ρ (Eq (.dat (.tuple [.tuple (ps.map dPn), .tuple (ss.map dSm)]))) := fun h => ev_tup2 (ev_fldKX (x := .d (.tuple (ps.map dPn))) (ev_varOb h) T.m_beside.cls T.a_panels sailFs_panels) (ev_fldKX (x := .d (.tuple (ss.map dSm))) (ev_varOb h) T.m_beside.cls T.a_seams sailFs_seams)
  have k0 : okS (.tuple [.tuple (ps.map dPn), .tuple (ss.map dSm)]) (.t [.u 12 kPn, .u 18 kSm]) = true := by
    show (okS _ _ && (okS _ _ && true)) = true
    rw [sc_pns h12, sc_sms h18]
    rfl
  refine xs_when (b := false) (et_or (a := false) (b := false) (et_is (et_not (et_B (ev_callE (PyData.tuple [.tuple (ps.map dPn), .tuple (ss.map dSm)]) (ea_cons (fldP rfl) (ea_cons (ev_tup2 (ev_tupL (el_of (ds := ps.map dPn) (ev_var rfl))) (ev_tupL (el_of (ds := ss.map dSm) (ev_var rfl)))) ea_nil)) (flp_sc 6 k0 (by decide) (by decide))))) rfl) fun _ => et_or (a := false) (b := false) (et_is (et_B (ev_neM (b := true) (y := obS CS ps ss) ((ps, ss), .inl (ps, ss)) (ev_varOb rfl) (by exact mkS ok (ev_var rfl) (ev_var rfl)) rfl rfl ⟨szs, fun j e => by cases e; exact szs⟩ (fun s e => by
    cases e
    show Sl.dat (.bool (decide ((ps, ss) = (ps, ss)))) = _
    rw [decide_eq_true rfl]) (fun C d h => by cases h))) rfl) fun _ => et_B (ev_eqM (b := false) (y := .dat (.tuple [.tuple (ps.map dPn), .tuple (ss.map dSm)])) ((ps, ss), .inr [.tuple (ps.map dPn), .tuple (ss.map dSm)]) (ev_varOb rfl) (fldP rfl) True.intro rfl ⟨szs, fun j e => by cases e⟩ (fun s e => by cases e; rfl) (fun C d h => by cases h))) (fun z => by cases z) fun _ => ?_
  have lenS : ∀ {ρ : Rho}, ρ[1]? = some (.dat (.list (ss.map dSm))) → Ev ⟨K, rowFx K ⟨p, a, Tb, q, ns, t⟩, fun _ => none, B, fun _ _ _ => False⟩ (tCB (fun xs H Q => ∃ p ys, xs = [.ref p] ∧ (SqL K H p ys ∨ SqT K H p ys) ∧ Q (.int ys.length) H) (tCons (tVar 1) tNil)) ρ (Eq (.dat (.int (ss.length : Nat)))) := fun h => (ev_lenL (ds := ss.map dSm) (el_of (ev_var h))).cast (by rw [List.length_map])
  have lenP : ∀ {ρ : Rho}, ρ[18]? = some (.dat (.list (ps.map dPn))) → Ev ⟨K, rowFx K ⟨p, a, Tb, q, ns, t⟩, fun _ => none, B, fun _ _ _ => False⟩ (tCB (fun xs H Q => ∃ p ys, xs = [.ref p] ∧ (SqL K H p ys ∨ SqT K H p ys) ∧ Q (.int ys.length) H) (tCons (tVar 18) tNil)) ρ (Eq (.dat (.int (ps.length : Nat)))) := fun h => (ev_lenL (ds := ps.map dPn) (el_of (ev_var h))).cast (by rw [List.length_map])
  refine xs_when (b := false) (et_is (et_and (a := decide ((ss.length : Int) > 1)) (b := false) (et_test (ev_C0 (lenS rfl) ev_int)) fun z => et_B (ev_eqM (b := false) (y := obS CS ps ss.reverse) ((ps, ss), .inl (ps, ss.reverse)) (ev_varOb rfl) (by exact mkS (ok_rev ok) (ev_var rfl) (Ev.cast (EvF.evE (ef_rev (el_of (ds := ss.map dSm) (ev_var rfl)))) (by rw [List.map_reverse]))) rfl rfl ⟨szs, fun j e => by cases e; exact ⟨h12, by show ss.reverse.length ≤ 18; rw [List.length_reverse]; exact h18⟩⟩ (fun s e => by
    cases e
    show Sl.dat (.bool (decide ((ps, ss) = (ps, ss.reverse)))) = _
    rw [decide_eq_false fun e => rev_ne ok (by have := of_decide_eq_true z; omega) (Prod.mk.inj e).2]) (fun C d h => by cases h))) (Bool.and_false _)) (fun z => by cases z) fun _ => ?_
  have hf36 := free36 (ss := ss) h12
  refine xs_par (x := .dat (.list ((freeL ps.length ss).map dSd))) (y := .dat (.list ((pts ss ps.length).map dPo))) (ea_cons (ev_callE (ps, ss) (ea_cons (ev_var rfl) (ea_cons (ev_var rfl) ea_nil)) ⟨by show ps.length ≤ 1000; omega, by show ss.length ≤ 1000; omega⟩) (ea_cons (ev_callE (ps, ss) (ea_cons (ev_var rfl) (ea_cons (ev_var rfl) ea_nil)) ⟨ho, h12⟩) ea_nil)) ?_
  have kF : okS (.list ((freeL ps.length ss).map dSd)) (.l 36 kSd) = true := okS_lm hf36 fun x _ => sc_sd x
  refine xs_when (b := false) (et_or (a := false) (b := false) (et_is (et_not (et_B (ev_callE (PyData.list ((pts ss ps.length).map dPo)) (ea_cons (ev_callE (ps, ss) (ea_cons (ev_varOb rfl) ea_nil) ⟨ho, h12⟩) (ea_cons (ev_var rfl) ea_nil)) (flp_sc 6 (pts_sc h12) (by decide) (by decide))))) rfl) fun _ => et_is (et_not (et_B (ev_callE (PyData.list ((freeL ps.length ss).map dSd)) (ea_cons (ev_callE (ps, ss) (ea_cons (ev_varOb rfl) ea_nil) (by show ps.length ≤ 1000; omega)) (ea_cons (ev_var rfl) ea_nil)) (flp_sc 6 kF (by decide) (by decide))))) rfl) (fun z => by cases z) fun _ => ?_
  refine xs_parPQ (m := fun _ => .lst []) (ev_listL (el_of (ds := (freeL ps.length ss).map dSd) (ev_var rfl))) (EvF.toQ ef_nil) fun sl ad e => ?_
  subst e
  refine xs_for (im_rng1E (n := (freeL ps.length ss).length) ((ev_lenL (el_of (ds := (freeL ps.length ss).map dSd) (ev_var rfl))).cast (by rw [List.length_map])) (by omega)) (fun k ρ => ∃ (left : List Sd) (found : List (List Sd)) (s7 s8 s9 s10 : Sl), found.length ≤ k ∧ (∀ w ∈ found, w.length ≤ 36) ∧ (left.length + k ≤ (freeL ps.length ss).length ∨ left = []) ∧ (∀ x ∈ left, x ∈ freeL ps.length ss) ∧ found ++ rimsF ss left.length left = rimsL ps.length ss ∧ ρ = [.raw (.ref a), .dat (.list (ss.map dSm)), obS CS ps ss, .dat (.list ((freeL ps.length ss).map dSd)), .dat (.list ((pts ss ps.length).map dPo)), .dat (.list (left.map dSd)), .own ad (.lst (found.map dPo)), s7, s8, s9, s10, .no, .no, .no, .no, .no, .no, .no, .dat (.list (ps.map dPn)), .raw (.ref p), .no, .no]) ⟨freeL ps.length ss, [], .no, .no, .no, .no, Nat.le_refl _, fun w hw => (by cases hw), .inl (Nat.le_refl _), fun _ h => h, rfl, rfl⟩ (fun k d ρ1 hd hI => ?_) fun ρ1 hI => ?_
  · obtain ⟨left, found, s7, s8, s9, s10, hfk, hw36, hlk, hle, hrm, rfl⟩ := hI
    obtain ⟨hk, rfl⟩ := rngD_get hd
    refine ⟨_, _, tg_name, ?_⟩
    have hll : left.length ≤ 36 := by
      rcases hlk with h | h
      · omega
      · rw [h]
        exact Nat.zero_le _
    refine xc_if (b := !decide (left.map dSd = [])) (et_is (et_test (ev_neD (d := .list (left.map dSd)) (d' := .list []) (ev_var rfl) ev_lst0 (shaped_sc (t := .l 36 kSd) (okS_lm hll fun x _ => sc_sd x)) rfl)) (by rw [eqv_nilL])) (fun z => ?_) fun z => ?_
    · cases left with
      | nil => simp at z
      | cons x l =>
        have hx : x ∈ freeL ps.length ss := hle x List.mem_cons_self
        obtain ⟨hpl, hpe, hpn⟩ := per_at ho h12 hx
        refine xs_asgF (ef_lst (ds := [dSd x]) (ea_cons (ev_ixL (el_of (ds := (x :: l).map dSd) (ev_var rfl)) ev_int (at_nat (i := 0) rfl)) ea_nil) (by simp)) fun aw ds e => ?_
        subst e
        refine xs_cut (Q := fun ρ => ∃ s9 s10 : Sl, ρ = [.raw (.ref a), .dat (.list (ss.map dSm)), obS CS ps ss, .dat (.list ((freeL ps.length ss).map dSd)), .dat (.list ((pts ss ps.length).map dPo)), .dat (.list ((x :: l).map dSd)), .own ad (.lst (found.map dPo)), .dat (.int (0 + (k : Nat))), .own aw (.lst ((wayK ss x (per ss x)).map dSd)), s9, s10, .no, .no, .no, .no, .no, .no, .no, .dat (.list (ps.map dPn)), .raw (.ref p), .no, .no]) (xc_forE (im_rng1E (n := 40) ev_int (by omega)) (fun j ρ => ∃ s9 s10 : Sl, j ≤ per ss x ∧ ρ = [.raw (.ref a), .dat (.list (ss.map dSm)), obS CS ps ss, .dat (.list ((freeL ps.length ss).map dSd)), .dat (.list ((pts ss ps.length).map dPo)), .dat (.list ((x :: l).map dSd)), .own ad (.lst (found.map dPo)), .dat (.int (0 + (k : Nat))), .own aw (.lst ((wayK ss x j).map dSd)), s9, s10, .no, .no, .no, .no, .no, .no, .no, .dat (.list (ps.map dPn)), .raw (.ref p), .no, .no]) ⟨s9, s10, Nat.zero_le _, rfl⟩ (fun j d ρ1 hd hI => ?_) fun ρ1 hI => ?_) fun ρ' hQ => ?_
        · obtain ⟨s9, s10, hj, rfl⟩ := hI
          refine ⟨_, _, tg_name, ?_⟩
          have hlast : atI ((wayK ss x j).map dSd) (-1) = some (dSd (itr (SM.ahead ss) j x)) := at_last (by rw [List.getElem?_map, List.length_map, wayK_len, Nat.add_sub_cancel, wayK_last]; rfl)
          have hhead : ((wayK ss x j).map dSd)[0]? = some (dSd x) := by
            obtain ⟨r, hr⟩ := wayK_head ss x j
            rw [hr]
            rfl
          have hjf := rim_free ho h12 hx j
          refine xs_asg (s := .dat (dSd (SM.ahead ss (itr (SM.ahead ss) j x)))) (ev_callE ((ps, ss), itr (SM.ahead ss) j x) (ea_cons (ev_var rfl) (ea_cons (ev_var rfl) (ea_cons (ev_ixL (el_own (i := 8) rfl) (ev_neg ev_int) hlast) ea_nil))) ⟨ho, by show ss.length ≤ 1000; omega, (mem_free.mp hjf).2.1⟩) ?_
          refine xs_when (b := decide (dSd (SM.ahead ss (itr (SM.ahead ss) j x)) = dSd x)) (et_test (ev_eqSc kSd (ev_var rfl) (ev_ixL (el_own (i := 8) rfl) ev_int (at_nat (i := 0) hhead)) (sc_sd _) (sc_sd _))) (fun z => ?_) fun z => ?_
          · have he := dSd_inj.mp (of_decide_eq_true z)
            have hjp : j = per ss x := by
              rcases Nat.lt_or_ge j (per ss x) with h | h
              · exact absurd he (hpn j h)
              · omega
            subst hjp
            exact xc_break ⟨.dat d, _, rfl⟩
          · have he : ¬ SM.ahead ss (itr (SM.ahead ss) j x) = x := fun e => of_decide_eq_false z (by rw [e])
            have hjp : j < per ss x := by
              rcases Nat.lt_or_ge j (per ss x) with h | h
              · exact h
              · have : j = per ss x := by omega
                subst this
                exact absurd hpe he
            refine xc_append (i := 8) (ds := (wayK ss x j).map dSd) (p := Eq (dSd (SM.ahead ss (itr (SM.ahead ss) j x)))) rfl ((ev_var (d := dSd (SM.ahead ss (itr (SM.ahead ss) j x))) rfl).imp fun s e => ⟨_, e.symm, rfl⟩) (by rw [List.length_map, wayK_len]; omega) fun d' e => ?_
            subst e
            refine ⟨.dat d, .dat (dSd (SM.ahead ss (itr (SM.ahead ss) j x))), hjp, ?_⟩
            rw [wayK_succ, List.map_append]
            rfl
        · obtain ⟨s9, s10, hj, rfl⟩ := hI
          rw [rngD_length] at hj
          exact absurd hj (by omega)
        obtain ⟨s9, s10, rfl⟩ := hQ
        refine xs_append (i := 6) (ds := found.map dPo) (p := Eq (dPo (cyc ss x))) rfl ((ev_tupL (el_own (i := 8) (ds := (wayK ss x (per ss x)).map dSd) rfl)).imp fun s e => ⟨_, e.symm, rfl⟩) (by rw [List.length_map]; omega) fun d e => ?_
        subst e
        refine xc_asg (s := .dat (.list (((x :: l).filter fun y => !(cyc ss x).contains y).map dSd))) ((ef_filterL (l := x :: l) (dα := dSd) (c := fun y => !(cyc ss x).contains y) (f := dSd) (im_listE (ev_var rfl)) (by omega) fun y _ => ⟨[21], _, by simp, tg_name, et_is (et_test (ev_notInL (d := dSd y) (ds := (cyc ss x).map dSd) (ev_var rfl) (el_own (i := 8) rfl) (shaped_sd _) (canLay_sds _))) (by rw [inD_sd]), fun _ => ev_var rfl⟩).evE) ?_
        have hl1 := left_less ss x l
        have hlk' : l.length + 1 + k ≤ (freeL ps.length ss).length := by
          rcases hlk with h | h
          · simpa using h
          · cases h
        refine ⟨(x :: l).filter fun y => !(cyc ss x).contains y, found ++ [cyc ss x], .dat (.int (0 + (k : Nat))), .own aw (.lst ((wayK ss x (per ss x)).map dSd)), s9, s10, by rw [List.length_append, List.length_singleton]; omega, fun w hw => ?_, .inl (by omega), fun y hy => hle y (List.mem_filter.mp hy).1, ?_, ?_⟩
        · rcases List.mem_append.mp hw with h | h
          · exact hw36 w h
          · rw [List.mem_singleton.mp h]
            show (wayK ss x (per ss x)).length ≤ 36
            rw [wayK_len]
            omega
        · rw [← hrm, List.append_assoc]
          show found ++ ([cyc ss x] ++ _) = found ++ rimsF ss (l.length + 1) (x :: l)
          rw [rimsF, rimsF_fuel ss l.length _ _ hl1 (Nat.le_refl _)]
          rfl
        · rw [List.map_append]
          rfl
    · have hnil : left = [] := by
        cases left with
        | nil => rfl
        | cons x l => simp at z
      exact xc_next ⟨left, found, .dat (.int (0 + (k : Nat))), s8, s9, s10, by omega, hw36, .inr hnil, hle, hrm, rfl⟩
  obtain ⟨left, found, s7, s8, s9, s10, hfk, hw36, hlk, hle, hrm, rfl⟩ := hI
  rw [rngD_length] at hlk hfk
  have hnil : left = [] := by
    rcases hlk with h | h
    · exact List.length_eq_zero_iff.mp (by omega)
    · exact h
  subst hnil
  have hrm : found = rimsL ps.length ss := by
    rw [← hrm]
    simp [rimsF]
  subst hrm
  refine xs_freeze (i := 6) rfl ?_
  refine xs_when (b := false) (et_or (a := false) (b := false) (et_is (et_not (et_B (ev_callE (PyData.list ((rimsL ps.length ss).map dPo)) (ea_cons (ev_callE (ps, ss) (ea_cons (ev_varOb rfl) ea_nil) ⟨ho, h12⟩) (ea_cons (ev_var rfl) ea_nil)) (flp_sc 6 (t := .l 36 kPo) (okS_lm (by omega) fun w hw => sc_po (hw36 w hw)) (by decide) (by decide))))) rfl) fun _ => et_is (et_not (et_B (ev_callE (PyData.int (2 - ((pts ss ps.length).length : Int) - (ps.length : Int) + (ss.length : Int) + ((freeL ps.length ss).length : Int))) (ea_cons (ev_callE (ps, ss) (ea_cons (ev_varOb rfl) ea_nil) ⟨ho, h12⟩) (ea_cons (ev_I0 (ev_I0 (ev_I0 (ev_I0 ev_int ((ev_lenL (el_of (ds := (pts ss ps.length).map dPo) (ev_var rfl))).cast (by rw [List.length_map]))) (lenP rfl)) (lenS rfl)) ((ev_lenL (el_of (ds := (freeL ps.length ss).map dSd) (ev_var rfl))).cast (by rw [List.length_map]))) ea_nil)) (flp_sc 6 (t := .z) rfl (by decide) (by decide))))) rfl) (fun z => by cases z) fun _ => ?_
  have told1 := T.told1
  have told2 := T.told2
  have asks : ∀ {ρ : Rho} {i18 i20 : Nat} {es : List D}, ρ[18]? = some (.dat (.list (ps.map dPn))) → ρ[20]? = some (.dat (.list es)) → es.length ≤ 18 → EvX ⟨K, rowFx K ⟨p, a, Tb, q, ns, t⟩, fun _ => none, B, fun _ _ _ => False⟩ (fun E => tMake CS (SpSail K C1 C2 CS) [] E (tCons (tVar 18) (tCons (tVar 20) tNil))) ρ (fun _ => wrongZ ps es = -2) (fun C d => wrongZ ps es > -2 ∧ C = C2 ∧ d = .int (wrongZ ps es)) := fun {ρ i18 i20 es} h1 h2 hl => evx_make (ea_cons (ev_var h1) (ea_cons (ev_var h2) ea_nil)) fun sl e => ⟨(.list (ps.map dPn), .list es), e.symm, True.intro, fun fs g h => (init_wrong ok hl h).elim (fun h => h.1) (fun h => (by cases h.2)), fun C' d h => (init_wrong ok hl h).elim (fun ⟨_, _, _, h⟩ => (by cases h)) (fun ⟨h1, h⟩ => (by cases h; exact ⟨h1, rfl, rfl⟩))⟩
  refine xs_cut (Q := fun ρ => ∃ s11 s12 s13 s14 s15 s16 s20 : Sl, ρ = [.raw (.ref a), .dat (.list (ss.map dSm)), obS CS ps ss, .dat (.list ((freeL ps.length ss).map dSd)), .dat (.list ((pts ss ps.length).map dPo)), .dat (.list []), .dat (.list ((rimsL ps.length ss).map dPo)), s7, s8, s9, s10, s11, s12, s13, s14, s15, s16, .no, .dat (.list (ps.map dPn)), .raw (.ref p), s20, .no]) (xc_forE (im_rng1E (n := 6) ev_int (by omega)) (fun k ρ => ∃ s11 s12 s13 s14 s15 s16 s20 : Sl, ρ = [.raw (.ref a), .dat (.list (ss.map dSm)), obS CS ps ss, .dat (.list ((freeL ps.length ss).map dSd)), .dat (.list ((pts ss ps.length).map dPo)), .dat (.list []), .dat (.list ((rimsL ps.length ss).map dPo)), s7, s8, s9, s10, s11, s12, s13, s14, s15, s16, .no, .dat (.list (ps.map dPn)), .raw (.ref p), s20, .no]) ⟨_, _, _, _, _, _, _, rfl⟩ (fun k d ρ1 hd hI => ?_) fun ρ1 hI => hI) fun ρ' hQ => ?_
  · obtain ⟨s11, s12, s13, s14, s15, s16, s20, rfl⟩ := hI
    refine ⟨_, _, tg_name, ?_⟩
    refine xs_asgTP (p := fun d => ∃ ds, d = .tuple ds ∧ ∃ x y, ds = [x, y] ∧ x = .list (ss.map dSm) ∧ ∃ i : Nat, i ≤ ss.length ∧ y = .int (i : Nat)) (ev_tup2P (p := fun d => d = .list (ss.map dSm)) (q := fun d => ∃ i : Nat, i ≤ ss.length ∧ d = .int (i : Nat)) ((ev_listL (el_of (ds := ss.map dSm) (ev_var rfl))).toP rfl) ((tkI rfl (evI_0 (p := fun i => i = (ss.length : Int)) (q := fun i => i = 1) (s := fun i => i = (ss.length : Int) + 1) ((lenS rfl).toI rfl) (ev_int.toI rfl) fun i j hi hj => by omega) fun m e => by omega).imp fun s ⟨i, e, h0, m, hm, hi⟩ => ⟨.int i, e, i.toNat, by omega, by rw [Int.toNat_of_nonneg h0]⟩) |>.imp fun s ⟨ds, e, h⟩ => ⟨.tuple ds, e, ds, rfl, h⟩) ?_
    rintro _ ⟨_, rfl, _, _, rfl, rfl, at', hat, rfl⟩
    refine ⟨_, _, tg_two, ?_⟩
    refine xs_asgP (ev_pick (z := ⟨p, a, Tb, q, ns, t⟩) (l := newV) (ev_varR rfl) (ev_lst (ds := newV) (ea_cons ev_non (ea_cons (ev_tup4 ev_int ev_int ev_int ev_int) (ea_cons (ev_tup4 ev_int ev_int ev_int ev_int) (ea_cons (ev_lst (ds := [.int 0, .int 0, .int 0, .int 1]) (ea_cons ev_int (ea_cons ev_int (ea_cons ev_int (ea_cons ev_int ea_nil)))) (by simp)) (ea_cons (ev_tup3 ev_int ev_int ev_int) (ea_cons (ev_tup4 ev_int ev_bl ev_int ev_int) (ea_cons (ev_tup4 ev_int ev_int ev_int ev_int) ea_nil))))))) (by simp [newV])) (by simp [newV]) (by simp [newV])) ?_
    rintro _ ⟨new, rfl, hnew⟩
    refine xs_cut (Q := fun ρ => ∃ (new : D) (s14 s15 : Sl), SeqAt.shaped new = true ∧ ρ = [.raw (.ref a), .dat (.list (ss.map dSm)), obS CS ps ss, .dat (.list ((freeL ps.length ss).map dSd)), .dat (.list ((pts ss ps.length).map dPo)), .dat (.list []), .dat (.list ((rimsL ps.length ss).map dPo)), s7, s8, s9, s10, .dat d, .dat (.int (at' : Nat)), .dat new, s14, s15, s16, .no, .dat (.list (ps.map dPn)), .raw (.ref p), .dat (.list (ss.map dSm)), .no]) ?_ fun ρ' hQ => ?_
    · refine xc_ifP (p := fun _ => True) (et_testP ((ev_eqIP (tkI rfl (ev_int.toI (p := fun i => i = 2) rfl) fun m e => by omega) (ev_int.toI (p := fun i => i = 0) rfl)))) (fun _ => ?_) fun _ => xc_next ⟨new, s14, s15, new_shaped new hnew, rfl⟩
      have side : ∀ {ρ : Rho}, ρ[19]? = some (.raw (.ref p)) → ρ[18]? = some (.dat (.list (ps.map dPn))) → Ev ⟨K, rowFx K ⟨p, a, Tb, q, ns, t⟩, fun _ => none, B, fun _ _ _ => False⟩ (tTup (tCons (tCall (spTaken K) [] E0 (tCons (tVar 19) (tCons (tCB (fun xs H Q => ∃ p ys, xs = [.ref p] ∧ (SqL K H p ys ∨ SqT K H p ys) ∧ Q (.int ys.length) H) (tCons (tVar 18) tNil)) tNil))) (tCons (tCall (spTaken K) [] E0 (tCons (tVar 19) (tCons (tC (.int 3)) tNil))) tNil))) ρ (fun s => ∃ d, s = .dat d ∧ ∃ u : Sd, d = dSd u) := fun h19 h18 => (ev_tup2P (p := fun d => ∃ i : Nat, d = .int (i : Nat)) (q := fun d => ∃ i : Nat, d = .int (i : Nat)) ((tkI h19 ((lenP h18).toI (p := fun i => i = (ps.length : Int)) rfl) fun m e => by omega).imp fun s ⟨i, e, h0, _⟩ => ⟨.int i, e, i.toNat, by rw [Int.toNat_of_nonneg h0]⟩) ((tkI h19 (ev_int.toI (p := fun i => i = 3) rfl) fun m e => by omega).imp fun s ⟨i, e, h0, _⟩ => ⟨.int i, e, i.toNat, by rw [Int.toNat_of_nonneg h0]⟩)).imp fun s ⟨ds, e, x, y, e2, ⟨i, ei⟩, j, ej⟩ => ⟨.tuple ds, e, (i, j), by rw [e2, ei, ej]; rfl⟩
      refine xs_asgTP (ev_sortP (p := fun ds => ∃ u v : Sd, ds = [u, v].map dSd) ((ev_lst2P (p := fun d => ∃ u : Sd, d = dSd u) (q := fun d => ∃ u : Sd, d = dSd u) (by exact side rfl rfl) (by exact side rfl rfl)).imp fun s ⟨ds, e, x, y, e2, ⟨u, hu⟩, v, hv⟩ => ⟨ds, e, u, v, by rw [e2, hu, hv]; rfl⟩) fun ds ⟨u, v, e⟩ => by rw [e]; exact sortOk_sds [u, v] (by simp)) ?_
      rintro _ ⟨_, rfl, u, v, rfl⟩
      obtain ⟨x, y, es⟩ : ∃ x y : Sd, srtD ([u, v].map dSd) = [dSd x, dSd y] := by
        have hp := srtD_perm ([u, v].map dSd)
        have hl := hp.length_eq
        have hm : ∀ z ∈ srtD ([u, v].map dSd), ∃ x : Sd, z = dSd x := fun z hz => by
          obtain ⟨x, _, e⟩ := List.mem_map.mp (hp.mem_iff.mp hz)
          exact ⟨x, e.symm⟩
        match srtD ([u, v].map dSd), hl, hm with
        | [z, w], _, hm =>
          obtain ⟨x, rfl⟩ := hm z (by simp)
          obtain ⟨y, rfl⟩ := hm w (by simp)
          exact ⟨x, y, rfl⟩
      rw [es]
      refine ⟨_, _, tg_two', ?_⟩
      exact xc_asg (s := .dat (dSm (x, y))) (ev_catA (ds := [.int (x.1 : Nat), .int (x.2 : Nat)]) (es := [.int (y.1 : Nat), .int (y.2 : Nat)]) (ev_var rfl) (ev_var rfl) (by simp)) ⟨dSm (x, y), _, _, rfl, rfl⟩
    obtain ⟨new, s14, s15, hns, rfl⟩ := hQ
    have msh : ∀ x ∈ ss.map dSm, SeqAt.shaped x = true := fun x hx => by
      obtain ⟨m, _, rfl⟩ := List.mem_map.mp hx
      rfl
    refine xs_asgP (p := fun s => ∃ es : List D, s = .dat (.list es) ∧ es.length ≤ 19 ∧ ∀ x ∈ es, SeqAt.shaped x = true) (ev_ifP (p := fun _ => True) (et_testP (evT_C0 (P := fun _ => True) (tkI rfl (ev_int.toI (p := fun i => i = 3) rfl) fun m e => by omega) (ev_int.toI (p := fun i => i = 0) rfl) fun _ _ _ _ => True.intro)) (fun _ => ?_) fun _ => ?_) ?_
    · refine (ev_catLP (p := fun xs => xs.length ≤ at' + 1 ∧ ∀ x ∈ xs, SeqAt.shaped x = true) (q := fun ys => ys.length + at' ≤ 18 ∧ ∀ x ∈ ys, SeqAt.shaped x = true) (Ev.toL (ds := (ss.map dSm).take at' ++ [new]) ((ef_catL (ds := (ss.map dSm).take at') (es := [new]) (el_of (Ev.cast (EvF.evE (ef_cut (ds := ss.map dSm) (el_of (ev_var rfl)) eo_none (eo_some (ev_var rfl)))) (by rw [cut_take']))) (el_of (ev_lst (ds := [new]) (ea_cons (ev_var rfl) ea_nil) (by simp))) (by simp; omega)).evE) ⟨by rw [List.length_append, List.length_take]; simp; omega, fun x hx => ?_⟩) ((ev_cutLP (ds := ss.map dSm) (ph := Eq none) (pl := fun o => ∃ i, o = some i ∧ ∃ n : Nat, i = (at' : Int) + (n : Int)) (el_of (ev_var rfl)) (eoP_some (evI_0 (p := fun i => i = (at' : Int)) (q := fun j => 0 ≤ j) (s := fun i => ∃ n : Nat, i = (at' : Int) + (n : Int)) ((ev_var rfl).toI rfl) ((tkI rfl (ev_int.toI (p := fun i => i = 2) rfl) fun m e => by omega).imp fun s ⟨i, e, h0, _⟩ => ⟨i, e, h0⟩) fun i j hi hj => ⟨j.toNat, by omega⟩)) eo_none.toP).imp fun s ⟨es, e, lo, hi, ⟨i, ei, n, en⟩, eh, ees⟩ => ⟨es, e, ?_⟩) fun ds es h1 h2 => by omega).imp fun s ⟨ds, e, xs, ys, e2, ⟨hx1, hx2⟩, hy1, hy2⟩ => ⟨ds, e, by rw [e2, List.length_append]; omega, fun x hx => ?_⟩
      · rcases List.mem_append.mp hx with h | h
        · exact msh x (List.mem_of_mem_take h)
        · rw [List.mem_singleton.mp h]
          exact hns
      · rw [ees, ei, ← eh, en, show (at' : Int) + (n : Int) = ((at' + n : Nat) : Int) by omega, cut_drop']
        exact ⟨by rw [List.length_drop, List.length_map]; omega, fun x hx => msh x (List.mem_of_mem_drop hx)⟩
      · rw [e2] at hx
        rcases List.mem_append.mp hx with h | h
        · exact hx2 x h
        · exact hy2 x h
    · exact (ef_catL (ds := (ss.map dSm).take at') (es := (ss.map dSm).drop (at' + 1)) (el_of (Ev.cast (EvF.evE (ef_cut (ds := ss.map dSm) (el_of (ev_var rfl)) eo_none (eo_some (ev_var rfl)))) (by rw [cut_take']))) (el_of (Ev.cast (EvF.evE (ef_cut (ds := ss.map dSm) (lo := some ((at' + 1 : Nat) : Int)) (el_of (ev_var rfl)) (eo_some (Ev.cast (ev_I0 (ev_var rfl) ev_int) (by show Sl.dat (.int _) = .dat (.int _); congr 2 <;> omega))) eo_none)) (by rw [cut_drop']))) (by simp; omega)).evE.imp fun s e => ⟨_, e.symm, by rw [List.length_append, List.length_take, List.length_drop, List.length_map]; omega, fun x hx => (List.mem_append.mp hx).elim (fun h => msh x (List.mem_of_mem_take h)) fun h => msh x (List.mem_of_mem_drop h)⟩
    rintro _ ⟨es, rfl, hes19, hes⟩
    refine xs_asg (s := .dat (.int (wrongZ ps es))) (ev_callE (ps, es) (ea_cons (ev_var rfl) (ea_cons (ev_var rfl) ea_nil)) ⟨h1, h12, fun t ht => (ok.pn t ht).2, by show es.length ≤ 1000; omega, hes⟩) ?_
    refine xc_if (b := false) (et_is (et_and (a := decide ((es.length : Int) < 19)) (b := false) (et_test (ev_C0 (ev_lenL (el_of (ds := es) (ev_var rfl))) ev_int)) fun z => ?_) (Bool.and_false _)) (fun z => by cases z) fun _ => xc_next ⟨_, _, _, _, _, _, _, rfl⟩
    have hes18 : es.length ≤ 18 := by
      have := of_decide_eq_true z
      omega
    by_cases hw : wrongZ ps es > -2
    · refine et_is (et_test (ev_neSc (d := .tuple [.str "seams", .int (wrongZ ps es)]) (e := .tuple [.str "seams", .int (wrongZ ps es)]) (.t [.s 5, .z]) (ev_refP (Pok := fun _ => wrongZ ps es = -2) (Pex := fun C d => wrongZ ps es > -2 ∧ C = C2 ∧ d = .int (wrongZ ps es)) (by exact asks (i18 := 0) (i20 := 0) rfl rfl hes18) (fun s h => absurd h (by omega)) fun C d ⟨_, e1, e2⟩ => ⟨"seams", by rw [e1]; exact told2, by rw [e2]⟩) (ev_if (b := true) (et_is (et_test (ev_C0 (ev_var rfl) (ev_neg ev_int))) (decide_eq_true hw)) (fun _ => ev_tup2 ev_str (ev_var rfl)) fun z => by cases z) (ok_wn (by decide +kernel) _) (ok_wn (by decide +kernel) _))) (by simp)
    · refine et_is (et_test (ev_neSc (d := .tuple [.str "", .none]) (e := .tuple [.str "", .none]) (.t [.s 5, .n]) (ev_refP (Pok := fun _ => wrongZ ps es = -2) (Pex := fun C d => wrongZ ps es > -2 ∧ C = C2 ∧ d = .int (wrongZ ps es)) (by exact asks (i18 := 0) (i20 := 0) rfl rfl hes18) (fun s h => rfl) fun C d ⟨h, _⟩ => absurd h hw) (ev_if (b := false) (et_is (et_test (ev_C0 (ev_var rfl) (ev_neg ev_int))) (decide_eq_false hw)) (fun z => by cases z) fun _ => ev_tup2 ev_str ev_non) (by decide +kernel) (by decide +kernel))) (by simp)
  obtain ⟨s11, s12, s13, s14, s15, s16, s20, rfl⟩ := hQ
  have ptE : ∀ {ρ : Rho} {x y : Int}, Ev ⟨K, rowFx K ⟨p, a, Tb, q, ns, t⟩, fun _ => none, B, fun _ _ _ => False⟩ (tTup (tCons (tC (.int x)) (tCons (tC (.int y)) tNil))) ρ (Eq (.dat (dPt (x, y)))) := ev_tup2 ev_int ev_int
  refine xs_asgP (ev_pick (z := ⟨p, a, Tb, q, ns, t⟩) (l := badV) (ev_varR rfl) (ev_lst (ds := badV) (ea_cons ev_non (ea_cons (ev_tup3 ptE ptE ptE) (ea_cons (ev_tup3 ptE ptE ptE) (ea_cons (ev_tup3 ptE ptE ptE) (ea_cons (ev_lst (ds := [dPt (0, 0), dPt (1, 0), dPt (0, 1)]) (ea_cons ptE (ea_cons ptE (ea_cons ptE ea_nil))) (by simp)) (ea_cons (ev_tup2 ptE ptE) (ea_cons (ev_tup3 ptE (ev_lst (ds := [.int 1, .int 0]) (ea_cons ev_int (ea_cons ev_int ea_nil)) (by simp)) ptE) ea_nil))))))) (by simp [badV])) (by simp [badV]) (by simp [badV])) ?_
  rintro _ ⟨bad, rfl, hbad⟩
  have hbn := bad_not bad hbad
  have cut11 : ∀ {ρ : Rho}, ρ[18]? = some (.dat (.list (ps.map dPn))) → EvF ⟨K, rowFx K ⟨p, a, Tb, q, ns, t⟩, fun _ => none, B, fun _ _ _ => False⟩ (tSl (rSlL K) (tVar 18) (fun _ H Q => Q none H) (tPart (tC (.int 11)))) ρ (Eq ((ps.map dPn).take 11)) := fun h => by
    have := ef_cut (S := ⟨K, rowFx K ⟨p, a, Tb, q, ns, t⟩, fun _ => none, B, fun _ _ _ => False⟩) (ds := ps.map dPn) (el_of (ev_var h)) eo_none (eo_some (ev_int (i := 11)))
    rw [show (11 : Int) = ((11 : Nat) : Int) from rfl, cut_take'] at this
    exact this
  refine xs_when (b := false) (et_is (et_test (ev_neSc (d := .tuple [.str "panels", .int ((ps.take 11).length : Nat)]) (e := .tuple [.str "panels", .int ((ps.take 11).length : Nat)]) (.t [.s 6, .z]) (ev_ref told1 (evx_make (ea_cons (EvF.evE (ef_catL (ds := (ps.map dPn).take 11) (es := [bad]) (el_of (EvF.evE (by exact cut11 rfl))) (el_of (ev_lst (ds := [bad]) (ea_cons (ev_var rfl) ea_nil) (by simp))) (by simp; omega))) (ea_cons ev_non ea_nil)) fun sl e => ⟨(.list ((ps.map dPn).take 11 ++ [bad]), .none), e.symm, True.intro, fun fs g h => (by cases init_badP ok hbn h), fun C' d h => (by cases init_badP ok hbn h; exact ⟨rfl, rfl⟩)⟩)) (ev_tup2 ev_str ((ev_lenL (el_of (EvF.evE (by exact cut11 rfl)))).cast (by rw [← List.map_take, List.length_map]))) (ok_wn (by decide +kernel) _) (ok_wn (by decide +kernel) _))) (by simp)) (fun z => by cases z) fun _ => ?_
  have no4 : ∀ d ∈ [PyData.none, .list [], .list (List.replicate 13 [dPn (ps[0]'(by omega))]).flatten, .int 5], rows d = none ∨ ∃ b e, rows d = some (b, e) ∧ ¬ (1 ≤ e.length ∧ e.length ≤ 12) := fun d hd => by
    simp only [List.mem_cons, List.not_mem_nil, or_false] at hd
    rcases hd with rfl | rfl | rfl | rfl
    · exact .inl rfl
    · exact .inr ⟨_, _, rfl, by simp⟩
    · exact .inr ⟨_, _, rfl, by simp⟩
    · exact .inl rfl
  have no3 : ∀ d ∈ [PyData.none, .int 5, .list (List.replicate 19 [PyData.none]).flatten], rows d = none ∨ ∃ b e, rows d = some (b, e) ∧ ¬ e.length ≤ 18 := fun d hd => by
    simp only [List.mem_cons, List.not_mem_nil, or_false] at hd
    rcases hd with rfl | rfl | rfl
    · exact .inl rfl
    · exact .inl rfl
    · exact .inr ⟨_, _, rfl, by simp⟩
  have at0 : atI (ps.map dPn) 0 = some (dPn (ps[0]'(by omega))) := at_nat (i := 0) (by rw [List.getElem?_map, List.getElem?_eq_getElem (by omega)]; rfl)
  refine xs_when (b := false) (et_is (et_test (ev_neSc (d := .tuple [.str "panels", .int (-1)]) (e := .tuple [.str "panels", .int (-1)]) (.t [.s 6, .z]) (ev_ref told1 (evx_make (Pa := fun ss => ∃ d, ss = [.dat d, .dat .none] ∧ d ∈ [PyData.none, .list [], .list (List.replicate 13 [dPn (ps[0]'(by omega))]).flatten, .int 5]) (ea_consP (ev_pick (z := ⟨p, a, Tb, q, ns, t⟩) (l := [PyData.none, .list [], .list (List.replicate 13 [dPn (ps[0]'(by omega))]).flatten, .int 5]) (ev_varR rfl) (ev_lst (ds := [PyData.none, .list [], .list (List.replicate 13 [dPn (ps[0]'(by omega))]).flatten, .int 5]) (ea_cons ev_non (ea_cons ev_lst0 (ea_cons (EvF.evE (ef_rep (n := 13) (ef_lst (ds := [dPn (ps[0]'(by omega))]) (ea_cons (ev_ixL (el_of (ds := ps.map dPn) (ev_var rfl)) ev_int at0) ea_nil) (by simp)) ev_int (by omega) (by simp))) (ea_cons ev_int ea_nil)))) (by simp)) (by simp) (by simp)) (ea_cons ev_non ea_nil) fun x xs ⟨d, e, hd⟩ e2 => ⟨d, by rw [e, ← e2], hd⟩) fun sl ⟨d, e, hd⟩ => ⟨(d, .none), e, True.intro, fun fs g h => (by cases init_noP (no4 d hd) h), fun C' d' h => (by cases init_noP (no4 d hd) h; exact ⟨rfl, rfl⟩)⟩)) (ev_tup2 ev_str (ev_neg ev_int)) (by decide +kernel) (by decide +kernel))) (by simp)) (fun z => by cases z) fun _ => ?_
  refine xc_ret (Ev.cast (ev_eqSc (d := .tuple [.str "seams", .int (-1)]) (e := .tuple [.str "seams", .int (-1)]) (.t [.s 5, .z]) (ev_ref told2 (evx_make (Pa := fun ss => ∃ d, ss = [.dat (.list (ps.map dPn)), .dat d] ∧ d ∈ [PyData.none, .int 5, .list (List.replicate 19 [PyData.none]).flatten]) (ea_consP (ev_var (d := .list (ps.map dPn)) rfl) (ea_consP (Pr := Eq []) (P := fun ss => ∃ d, ss = [.dat d] ∧ d ∈ [PyData.none, .int 5, .list (List.replicate 19 [PyData.none]).flatten]) (ev_pick (z := ⟨p, a, Tb, q, ns, t⟩) (l := [PyData.none, .int 5, .list (List.replicate 19 [PyData.none]).flatten]) (ev_varR rfl) (ev_lst (ds := [PyData.none, .int 5, .list (List.replicate 19 [PyData.none]).flatten]) (ea_cons ev_non (ea_cons ev_int (ea_cons (EvF.evE (ef_rep (n := 19) (ef_lst (ds := [PyData.none]) (ea_cons ev_non ea_nil) (by simp)) ev_int (by omega) (by simp))) ea_nil))) (by simp)) (by simp) (by simp)) ea_nil fun x xs ⟨d, e, hd⟩ e2 => ⟨d, by rw [e, ← e2], hd⟩) fun x xs e ⟨d, e2, hd⟩ => ⟨d, by rw [← e, e2], hd⟩) fun sl ⟨d, e, hd⟩ => ⟨(.list (ps.map dPn), d), e, True.intro, fun fs g h => (by cases init_noS ok (no3 d hd) h), fun C' d' h => (by cases init_noS ok (no3 d hd) h; exact ⟨rfl, rfl⟩)⟩)) (ev_tup2 ev_str (ev_neg ev_int)) (by decide +kernel) (by decide +kernel)) (by rw [decide_eq_true rfl])) rfl
end
end K11

set_option Elab.async false
set_option linter.all false
set_option maxRecDepth 100000
set_option maxHeartbeats 4000000
namespace K11
open PySem PySem.Spec PyProof.Rows L2 Dl LamX StX
theorem all_mk {P : Program} {w : World} {K : PySem.W.Frag} {h : Heap} {mg : Str → Option Value} {fa : Addr} (X : K.In h) (G : h.Ns mainGlobals mg) (hfa : mg "law" = some (.ref fa))
    {f_is_integer : Addr} {oc_is_integer kV_is_integer dc_is_integer pm_is_integer ct_is_integer cd_is_integer : Value} {od_is_integer an_is_integer : Option Addr} {sl_is_integer : Array (Option Value)}
    {f_is_within : Addr} {oc_is_within kV_is_within dc_is_within pm_is_within ct_is_within cd_is_within : Value} {od_is_within an_is_within : Option Addr} {sl_is_within : Array (Option Value)}
    {f_is_row : Addr} {oc_is_row kV_is_row dc_is_row pm_is_row ct_is_row cd_is_row : Value} {od_is_row an_is_row : Option Addr} {sl_is_row : Array (Option Value)}
    {f_is_tuple_of : Addr} {oc_is_tuple_of kV_is_tuple_of dc_is_tuple_of pm_is_tuple_of ct_is_tuple_of cd_is_tuple_of : Value} {od_is_tuple_of an_is_tuple_of : Option Addr} {sl_is_tuple_of : Array (Option Value)}
    {f_is_point : Addr} {oc_is_point kV_is_point dc_is_point pm_is_point ct_is_point cd_is_point : Value} {od_is_point an_is_point : Option Addr} {sl_is_point : Array (Option Value)}
    {f_crossed : Addr} {oc_crossed kV_crossed dc_crossed pm_crossed ct_crossed cd_crossed : Value} {od_crossed an_crossed : Option Addr} {sl_crossed : Array (Option Value)}
    {f_is_panel : Addr} {oc_is_panel kV_is_panel dc_is_panel pm_is_panel ct_is_panel cd_is_panel : Value} {od_is_panel an_is_panel : Option Addr} {sl_is_panel : Array (Option Value)}
    {f_long_of : Addr} {oc_long_of kV_long_of dc_long_of pm_long_of ct_long_of cd_long_of : Value} {od_long_of an_long_of : Option Addr} {sl_long_of : Array (Option Value)}
    {f_is_seam : Addr} {oc_is_seam kV_is_seam dc_is_seam pm_is_seam ct_is_seam cd_is_seam : Value} {od_is_seam an_is_seam : Option Addr} {sl_is_seam : Array (Option Value)}
    {f_points : Addr} {oc_points kV_points dc_points pm_points ct_points cd_points : Value} {od_points an_points : Option Addr} {sl_points : Array (Option Value)}
    {f_rim : Addr} {oc_rim kV_rim dc_rim pm_rim ct_rim cd_rim : Value} {od_rim an_rim : Option Addr} {sl_rim : Array (Option Value)}
    {f_rim_ahead : Addr} {oc_rim_ahead kV_rim_ahead dc_rim_ahead pm_rim_ahead ct_rim_ahead cd_rim_ahead : Value} {od_rim_ahead an_rim_ahead : Option Addr} {sl_rim_ahead : Array (Option Value)}
    {f_rims : Addr} {oc_rims kV_rims dc_rims pm_rims ct_rims cd_rims : Value} {od_rims an_rims : Option Addr} {sl_rims : Array (Option Value)}
    {f_holes : Addr} {oc_holes kV_holes dc_holes pm_holes ct_holes cd_holes : Value} {od_holes an_holes : Option Addr} {sl_holes : Array (Option Value)}
    {f__law_taken : Addr} {oc__law_taken kV__law_taken dc__law_taken pm__law_taken ct__law_taken cd__law_taken : Value} {od__law_taken an__law_taken : Option Addr} {sl__law_taken : Array (Option Value)}
    {f__law_pick : Addr} {oc__law_pick kV__law_pick dc__law_pick pm__law_pick ct__law_pick cd__law_pick : Value} {od__law_pick an__law_pick : Option Addr} {sl__law_pick : Array (Option Value)}
    {f__law_alike : Addr} {oc__law_alike kV__law_alike dc__law_alike pm__law_alike ct__law_alike cd__law_alike : Value} {od__law_alike an__law_alike : Option Addr} {sl__law_alike : Array (Option Value)}
    {f__law_long : Addr} {oc__law_long kV__law_long dc__law_long pm__law_long ct__law_long cd__law_long : Value} {od__law_long an__law_long : Option Addr} {sl__law_long : Array (Option Value)}
    {f__law_area : Addr} {oc__law_area kV__law_area dc__law_area pm__law_area ct__law_area cd__law_area : Value} {od__law_area an__law_area : Option Addr} {sl__law_area : Array (Option Value)}
    {f__law_free : Addr} {oc__law_free kV__law_free dc__law_free pm__law_free ct__law_free cd__law_free : Value} {od__law_free an__law_free : Option Addr} {sl__law_free : Array (Option Value)}
    {f__law_drawn_panel : Addr} {oc__law_drawn_panel kV__law_drawn_panel dc__law_drawn_panel pm__law_drawn_panel ct__law_drawn_panel cd__law_drawn_panel : Value} {od__law_drawn_panel an__law_drawn_panel : Option Addr} {sl__law_drawn_panel : Array (Option Value)}
    {f__law_sail : Addr} {oc__law_sail kV__law_sail dc__law_sail pm__law_sail ct__law_sail cd__law_sail : Value} {od__law_sail an__law_sail : Option Addr} {sl__law_sail : Array (Option Value)}
    {f__law_points : Addr} {oc__law_points kV__law_points dc__law_points pm__law_points ct__law_points cd__law_points : Value} {od__law_points an__law_points : Option Addr} {sl__law_points : Array (Option Value)}
    {f__law_wrong : Addr} {oc__law_wrong kV__law_wrong dc__law_wrong pm__law_wrong ct__law_wrong cd__law_wrong : Value} {od__law_wrong an__law_wrong : Option Addr} {sl__law_wrong : Array (Option Value)}
    {f__law_ahead : Addr} {oc__law_ahead kV__law_ahead dc__law_ahead pm__law_ahead ct__law_ahead cd__law_ahead : Value} {od__law_ahead an__law_ahead : Option Addr} {sl__law_ahead : Array (Option Value)}
    {f__law_refused : Addr} {oc__law_refused kV__law_refused dc__law_refused pm__law_refused ct__law_refused cd__law_refused : Value} {od__law_refused an__law_refused : Option Addr} {sl__law_refused : Array (Option Value)}
    {f_law : Addr} {oc_law kV_law dc_law pm_law ct_law : Value} {od_law an_law : Option Addr} {sl_law : Array (Option Value)} {cL TL : Addr}
    {oe18 : Option Addr} {vs18 : Array Value} {sl18 : Array (Option Value)} {x18 : Str} {t18 t7 t10 : Tok} {i7 i10 : Int} {b9 : Bool}
    {t_MOST_PLACE : Tok}
    {t_MOST_PANELS : Tok}
    {t_MOST_SEAMS : Tok}
    {fI TI : Addr} {ocI kVI dcI pmI cdI ctI : Value} {odI anI odT : Option Addr} {slI slT : Array (Option Value)} {ocT : Value} {nT : Nat}
    {C1 N_C1 : Addr} {nm_C1 q_C1 : Str} {bs_C1 bm_C1 sub_C1 : List Value} {sn_C1 : List Str} {ab_C1 : Bool} {col_C1 : Option Bool} {dd_C1 : Option Addr} {m0_C1 m1_C1 m2_C1 m3_C1 m5_C1 : Option Value}
    {C2 N_C2 : Addr} {nm_C2 q_C2 : Str} {bs_C2 bm_C2 sub_C2 : List Value} {sn_C2 : List Str} {ab_C2 : Bool} {col_C2 : Option Bool} {dd_C2 : Option Addr} {m0_C2 m1_C2 m2_C2 m3_C2 m5_C2 : Option Value}
    {CS : Addr}
    {f_Sail___init__ : Addr} {oc_Sail___init__ kV_Sail___init__ dc_Sail___init__ pm_Sail___init__ ct_Sail___init__ cd_Sail___init__ : Value} {od_Sail___init__ an_Sail___init__ : Option Addr} {sl_Sail___init__ : Array (Option Value)}
    {f_Sail___eq__ : Addr} {oc_Sail___eq__ kV_Sail___eq__ dc_Sail___eq__ pm_Sail___eq__ ct_Sail___eq__ cd_Sail___eq__ : Value} {od_Sail___eq__ an_Sail___eq__ : Option Addr} {sl_Sail___eq__ : Array (Option Value)}
    {f_Sail_beside : Addr} {oc_Sail_beside kV_Sail_beside dc_Sail_beside pm_Sail_beside ct_Sail_beside cd_Sail_beside : Value} {od_Sail_beside an_Sail_beside : Option Addr} {sl_Sail_beside : Array (Option Value)}
    {f_Sail_reached : Addr} {oc_Sail_reached kV_Sail_reached dc_Sail_reached pm_Sail_reached ct_Sail_reached cd_Sail_reached : Value} {od_Sail_reached an_Sail_reached : Option Addr} {sl_Sail_reached : Array (Option Value)}
    {f_Sail_sides : Addr} {oc_Sail_sides kV_Sail_sides dc_Sail_sides pm_Sail_sides ct_Sail_sides cd_Sail_sides : Value} {od_Sail_sides an_Sail_sides : Option Addr} {sl_Sail_sides : Array (Option Value)}
    {f_Sail_near_corners : Addr} {oc_Sail_near_corners kV_Sail_near_corners dc_Sail_near_corners pm_Sail_near_corners ct_Sail_near_corners cd_Sail_near_corners : Value} {od_Sail_near_corners an_Sail_near_corners : Option Addr} {sl_Sail_near_corners : Array (Option Value)}
    {f_Sail_point_of : Addr} {oc_Sail_point_of kV_Sail_point_of dc_Sail_point_of pm_Sail_point_of ct_Sail_point_of cd_Sail_point_of : Value} {od_Sail_point_of an_Sail_point_of : Option Addr} {sl_Sail_point_of : Array (Option Value)}
    (a_is_integer : PySem.W.nsIn K mainGlobals "is_integer" = some (some (.ref f_is_integer)))
    (l_is_integer : K.lookup f_is_integer = some ⟨oc_is_integer, od_is_integer, .func (PySem.W.fnOf "is_integer" "is_integer" (defArgs s_is_integer) (defBody s_is_integer) (defScope s_is_integer) .none kV_is_integer dc_is_integer pm_is_integer an_is_integer cd_is_integer ct_is_integer), sl_is_integer⟩)
    (c_is_integer : PySem.W.codeIn K cd_is_integer "is_integer" = true)
    (k_is_integer : PySem.W.keepIn K (.ref f_is_integer) = true)
    (a_is_within : PySem.W.nsIn K mainGlobals "is_within" = some (some (.ref f_is_within)))
    (l_is_within : K.lookup f_is_within = some ⟨oc_is_within, od_is_within, .func (PySem.W.fnOf "is_within" "is_within" (defArgs s_is_within) (defBody s_is_within) (defScope s_is_within) .none kV_is_within dc_is_within pm_is_within an_is_within cd_is_within ct_is_within), sl_is_within⟩)
    (c_is_within : PySem.W.codeIn K cd_is_within "is_within" = true)
    (k_is_within : PySem.W.keepIn K (.ref f_is_within) = true)
    (a_is_row : PySem.W.nsIn K mainGlobals "is_row" = some (some (.ref f_is_row)))
    (l_is_row : K.lookup f_is_row = some ⟨oc_is_row, od_is_row, .func (PySem.W.fnOf "is_row" "is_row" (defArgs s_is_row) (defBody s_is_row) (defScope s_is_row) .none kV_is_row dc_is_row pm_is_row an_is_row cd_is_row ct_is_row), sl_is_row⟩)
    (c_is_row : PySem.W.codeIn K cd_is_row "is_row" = true)
    (k_is_row : PySem.W.keepIn K (.ref f_is_row) = true)
    (a_is_tuple_of : PySem.W.nsIn K mainGlobals "is_tuple_of" = some (some (.ref f_is_tuple_of)))
    (l_is_tuple_of : K.lookup f_is_tuple_of = some ⟨oc_is_tuple_of, od_is_tuple_of, .func (PySem.W.fnOf "is_tuple_of" "is_tuple_of" (defArgs s_is_tuple_of) (defBody s_is_tuple_of) (defScope s_is_tuple_of) .none kV_is_tuple_of dc_is_tuple_of pm_is_tuple_of an_is_tuple_of cd_is_tuple_of ct_is_tuple_of), sl_is_tuple_of⟩)
    (c_is_tuple_of : PySem.W.codeIn K cd_is_tuple_of "is_tuple_of" = true)
    (k_is_tuple_of : PySem.W.keepIn K (.ref f_is_tuple_of) = true)
    (a_is_point : PySem.W.nsIn K mainGlobals "is_point" = some (some (.ref f_is_point)))
    (l_is_point : K.lookup f_is_point = some ⟨oc_is_point, od_is_point, .func (PySem.W.fnOf "is_point" "is_point" (defArgs s_is_point) (defBody s_is_point) (defScope s_is_point) .none kV_is_point dc_is_point pm_is_point an_is_point cd_is_point ct_is_point), sl_is_point⟩)
    (c_is_point : PySem.W.codeIn K cd_is_point "is_point" = true)
    (k_is_point : PySem.W.keepIn K (.ref f_is_point) = true)
    (a_crossed : PySem.W.nsIn K mainGlobals "crossed" = some (some (.ref f_crossed)))
    (l_crossed : K.lookup f_crossed = some ⟨oc_crossed, od_crossed, .func (PySem.W.fnOf "crossed" "crossed" (defArgs s_crossed) (defBody s_crossed) (defScope s_crossed) .none kV_crossed dc_crossed pm_crossed an_crossed cd_crossed ct_crossed), sl_crossed⟩)
    (c_crossed : PySem.W.codeIn K cd_crossed "crossed" = true)
    (k_crossed : PySem.W.keepIn K (.ref f_crossed) = true)
    (a_is_panel : PySem.W.nsIn K mainGlobals "is_panel" = some (some (.ref f_is_panel)))
    (l_is_panel : K.lookup f_is_panel = some ⟨oc_is_panel, od_is_panel, .func (PySem.W.fnOf "is_panel" "is_panel" (defArgs s_is_panel) (defBody s_is_panel) (defScope s_is_panel) .none kV_is_panel dc_is_panel pm_is_panel an_is_panel cd_is_panel ct_is_panel), sl_is_panel⟩)
    (c_is_panel : PySem.W.codeIn K cd_is_panel "is_panel" = true)
    (k_is_panel : PySem.W.keepIn K (.ref f_is_panel) = true)
    (a_long_of : PySem.W.nsIn K mainGlobals "long_of" = some (some (.ref f_long_of)))
    (l_long_of : K.lookup f_long_of = some ⟨oc_long_of, od_long_of, .func (PySem.W.fnOf "long_of" "long_of" (defArgs s_long_of) (defBody s_long_of) (defScope s_long_of) .none kV_long_of dc_long_of pm_long_of an_long_of cd_long_of ct_long_of), sl_long_of⟩)
    (c_long_of : PySem.W.codeIn K cd_long_of "long_of" = true)
    (k_long_of : PySem.W.keepIn K (.ref f_long_of) = true)
    (a_is_seam : PySem.W.nsIn K mainGlobals "is_seam" = some (some (.ref f_is_seam)))
    (l_is_seam : K.lookup f_is_seam = some ⟨oc_is_seam, od_is_seam, .func (PySem.W.fnOf "is_seam" "is_seam" (defArgs s_is_seam) (defBody s_is_seam) (defScope s_is_seam) .none kV_is_seam dc_is_seam pm_is_seam an_is_seam cd_is_seam ct_is_seam), sl_is_seam⟩)
    (c_is_seam : PySem.W.codeIn K cd_is_seam "is_seam" = true)
    (k_is_seam : PySem.W.keepIn K (.ref f_is_seam) = true)
    (a_points : PySem.W.nsIn K mainGlobals "points" = some (some (.ref f_points)))
    (l_points : K.lookup f_points = some ⟨oc_points, od_points, .func (PySem.W.fnOf "points" "points" (defArgs s_points) (defBody s_points) (defScope s_points) .none kV_points dc_points pm_points an_points cd_points ct_points), sl_points⟩)
    (c_points : PySem.W.codeIn K cd_points "points" = true)
    (k_points : PySem.W.keepIn K (.ref f_points) = true)
    (a_rim : PySem.W.nsIn K mainGlobals "rim" = some (some (.ref f_rim)))
    (l_rim : K.lookup f_rim = some ⟨oc_rim, od_rim, .func (PySem.W.fnOf "rim" "rim" (defArgs s_rim) (defBody s_rim) (defScope s_rim) .none kV_rim dc_rim pm_rim an_rim cd_rim ct_rim), sl_rim⟩)
    (c_rim : PySem.W.codeIn K cd_rim "rim" = true)
    (k_rim : PySem.W.keepIn K (.ref f_rim) = true)
    (a_rim_ahead : PySem.W.nsIn K mainGlobals "rim_ahead" = some (some (.ref f_rim_ahead)))
    (l_rim_ahead : K.lookup f_rim_ahead = some ⟨oc_rim_ahead, od_rim_ahead, .func (PySem.W.fnOf "rim_ahead" "rim_ahead" (defArgs s_rim_ahead) (defBody s_rim_ahead) (defScope s_rim_ahead) .none kV_rim_ahead dc_rim_ahead pm_rim_ahead an_rim_ahead cd_rim_ahead ct_rim_ahead), sl_rim_ahead⟩)
    (c_rim_ahead : PySem.W.codeIn K cd_rim_ahead "rim_ahead" = true)
    (k_rim_ahead : PySem.W.keepIn K (.ref f_rim_ahead) = true)
    (a_rims : PySem.W.nsIn K mainGlobals "rims" = some (some (.ref f_rims)))
    (l_rims : K.lookup f_rims = some ⟨oc_rims, od_rims, .func (PySem.W.fnOf "rims" "rims" (defArgs s_rims) (defBody s_rims) (defScope s_rims) .none kV_rims dc_rims pm_rims an_rims cd_rims ct_rims), sl_rims⟩)
    (c_rims : PySem.W.codeIn K cd_rims "rims" = true)
    (k_rims : PySem.W.keepIn K (.ref f_rims) = true)
    (a_holes : PySem.W.nsIn K mainGlobals "holes" = some (some (.ref f_holes)))
    (l_holes : K.lookup f_holes = some ⟨oc_holes, od_holes, .func (PySem.W.fnOf "holes" "holes" (defArgs s_holes) (defBody s_holes) (defScope s_holes) .none kV_holes dc_holes pm_holes an_holes cd_holes ct_holes), sl_holes⟩)
    (c_holes : PySem.W.codeIn K cd_holes "holes" = true)
    (k_holes : PySem.W.keepIn K (.ref f_holes) = true)
    (a__law_taken : PySem.W.nsIn K mainGlobals "_law_taken" = some (some (.ref f__law_taken)))
    (l__law_taken : K.lookup f__law_taken = some ⟨oc__law_taken, od__law_taken, .func (PySem.W.fnOf "_law_taken" "_law_taken" (defArgs s__law_taken) (defBody s__law_taken) (defScope s__law_taken) .none kV__law_taken dc__law_taken pm__law_taken an__law_taken cd__law_taken ct__law_taken), sl__law_taken⟩)
    (c__law_taken : PySem.W.codeIn K cd__law_taken "_law_taken" = true)
    (k__law_taken : PySem.W.keepIn K (.ref f__law_taken) = true)
    (a__law_pick : PySem.W.nsIn K mainGlobals "_law_pick" = some (some (.ref f__law_pick)))
    (l__law_pick : K.lookup f__law_pick = some ⟨oc__law_pick, od__law_pick, .func (PySem.W.fnOf "_law_pick" "_law_pick" (defArgs s__law_pick) (defBody s__law_pick) (defScope s__law_pick) .none kV__law_pick dc__law_pick pm__law_pick an__law_pick cd__law_pick ct__law_pick), sl__law_pick⟩)
    (c__law_pick : PySem.W.codeIn K cd__law_pick "_law_pick" = true)
    (k__law_pick : PySem.W.keepIn K (.ref f__law_pick) = true)
    (a__law_alike : PySem.W.nsIn K mainGlobals "_law_alike" = some (some (.ref f__law_alike)))
    (l__law_alike : K.lookup f__law_alike = some ⟨oc__law_alike, od__law_alike, .func (PySem.W.fnOf "_law_alike" "_law_alike" (defArgs s__law_alike) (defBody s__law_alike) (defScope s__law_alike) .none kV__law_alike dc__law_alike pm__law_alike an__law_alike cd__law_alike ct__law_alike), sl__law_alike⟩)
    (c__law_alike : PySem.W.codeIn K cd__law_alike "_law_alike" = true)
    (k__law_alike : PySem.W.keepIn K (.ref f__law_alike) = true)
    (a__law_long : PySem.W.nsIn K mainGlobals "_law_long" = some (some (.ref f__law_long)))
    (l__law_long : K.lookup f__law_long = some ⟨oc__law_long, od__law_long, .func (PySem.W.fnOf "_law_long" "_law_long" (defArgs s__law_long) (defBody s__law_long) (defScope s__law_long) .none kV__law_long dc__law_long pm__law_long an__law_long cd__law_long ct__law_long), sl__law_long⟩)
    (c__law_long : PySem.W.codeIn K cd__law_long "_law_long" = true)
    (k__law_long : PySem.W.keepIn K (.ref f__law_long) = true)
    (a__law_area : PySem.W.nsIn K mainGlobals "_law_area" = some (some (.ref f__law_area)))
    (l__law_area : K.lookup f__law_area = some ⟨oc__law_area, od__law_area, .func (PySem.W.fnOf "_law_area" "_law_area" (defArgs s__law_area) (defBody s__law_area) (defScope s__law_area) .none kV__law_area dc__law_area pm__law_area an__law_area cd__law_area ct__law_area), sl__law_area⟩)
    (c__law_area : PySem.W.codeIn K cd__law_area "_law_area" = true)
    (k__law_area : PySem.W.keepIn K (.ref f__law_area) = true)
    (a__law_free : PySem.W.nsIn K mainGlobals "_law_free" = some (some (.ref f__law_free)))
    (l__law_free : K.lookup f__law_free = some ⟨oc__law_free, od__law_free, .func (PySem.W.fnOf "_law_free" "_law_free" (defArgs s__law_free) (defBody s__law_free) (defScope s__law_free) .none kV__law_free dc__law_free pm__law_free an__law_free cd__law_free ct__law_free), sl__law_free⟩)
    (c__law_free : PySem.W.codeIn K cd__law_free "_law_free" = true)
    (k__law_free : PySem.W.keepIn K (.ref f__law_free) = true)
    (a__law_drawn_panel : PySem.W.nsIn K mainGlobals "_law_drawn_panel" = some (some (.ref f__law_drawn_panel)))
    (l__law_drawn_panel : K.lookup f__law_drawn_panel = some ⟨oc__law_drawn_panel, od__law_drawn_panel, .func (PySem.W.fnOf "_law_drawn_panel" "_law_drawn_panel" (defArgs s__law_drawn_panel) (defBody s__law_drawn_panel) (defScope s__law_drawn_panel) .none kV__law_drawn_panel dc__law_drawn_panel pm__law_drawn_panel an__law_drawn_panel cd__law_drawn_panel ct__law_drawn_panel), sl__law_drawn_panel⟩)
    (c__law_drawn_panel : PySem.W.codeIn K cd__law_drawn_panel "_law_drawn_panel" = true)
    (k__law_drawn_panel : PySem.W.keepIn K (.ref f__law_drawn_panel) = true)
    (a__law_sail : PySem.W.nsIn K mainGlobals "_law_sail" = some (some (.ref f__law_sail)))
    (l__law_sail : K.lookup f__law_sail = some ⟨oc__law_sail, od__law_sail, .func (PySem.W.fnOf "_law_sail" "_law_sail" (defArgs s__law_sail) (defBody s__law_sail) (defScope s__law_sail) .none kV__law_sail dc__law_sail pm__law_sail an__law_sail cd__law_sail ct__law_sail), sl__law_sail⟩)
    (c__law_sail : PySem.W.codeIn K cd__law_sail "_law_sail" = true)
    (k__law_sail : PySem.W.keepIn K (.ref f__law_sail) = true)
    (a__law_points : PySem.W.nsIn K mainGlobals "_law_points" = some (some (.ref f__law_points)))
    (l__law_points : K.lookup f__law_points = some ⟨oc__law_points, od__law_points, .func (PySem.W.fnOf "_law_points" "_law_points" (defArgs s__law_points) (defBody s__law_points) (defScope s__law_points) .none kV__law_points dc__law_points pm__law_points an__law_points cd__law_points ct__law_points), sl__law_points⟩)
    (c__law_points : PySem.W.codeIn K cd__law_points "_law_points" = true)
    (k__law_points : PySem.W.keepIn K (.ref f__law_points) = true)
    (a__law_wrong : PySem.W.nsIn K mainGlobals "_law_wrong" = some (some (.ref f__law_wrong)))
    (l__law_wrong : K.lookup f__law_wrong = some ⟨oc__law_wrong, od__law_wrong, .func (PySem.W.fnOf "_law_wrong" "_law_wrong" (defArgs s__law_wrong) (defBody s__law_wrong) (defScope s__law_wrong) .none kV__law_wrong dc__law_wrong pm__law_wrong an__law_wrong cd__law_wrong ct__law_wrong), sl__law_wrong⟩)
    (c__law_wrong : PySem.W.codeIn K cd__law_wrong "_law_wrong" = true)
    (k__law_wrong : PySem.W.keepIn K (.ref f__law_wrong) = true)
    (a__law_ahead : PySem.W.nsIn K mainGlobals "_law_ahead" = some (some (.ref f__law_ahead)))
    (l__law_ahead : K.lookup f__law_ahead = some ⟨oc__law_ahead, od__law_ahead, .func (PySem.W.fnOf "_law_ahead" "_law_ahead" (defArgs s__law_ahead) (defBody s__law_ahead) (defScope s__law_ahead) .none kV__law_ahead dc__law_ahead pm__law_ahead an__law_ahead cd__law_ahead ct__law_ahead), sl__law_ahead⟩)
    (c__law_ahead : PySem.W.codeIn K cd__law_ahead "_law_ahead" = true)
    (k__law_ahead : PySem.W.keepIn K (.ref f__law_ahead) = true)
    (a__law_refused : PySem.W.nsIn K mainGlobals "_law_refused" = some (some (.ref f__law_refused)))
    (l__law_refused : K.lookup f__law_refused = some ⟨oc__law_refused, od__law_refused, .func (PySem.W.fnOf "_law_refused" "_law_refused" (defArgs s__law_refused) (defBody s__law_refused) (defScope s__law_refused) .none kV__law_refused dc__law_refused pm__law_refused an__law_refused cd__law_refused ct__law_refused), sl__law_refused⟩)
    (c__law_refused : PySem.W.codeIn K cd__law_refused "_law_refused" = true)
    (k__law_refused : PySem.W.keepIn K (.ref f__law_refused) = true)
    (a_law : PySem.W.nsIn K mainGlobals "law" = some (some (.ref f_law)))
    (l_law : K.lookup f_law = some ⟨oc_law, od_law, .func (PySem.W.fnOf "law" "law" (defArgs s_law) (defBody s_law) (defScope s_law) .none kV_law dc_law pm_law an_law (.ref cL) ct_law), sl_law⟩)
    (c_law : PySem.W.codeIn K (.ref cL) "law" = true)
    (k_law : PySem.W.keepIn K (.ref f_law) = true)
    (lc : K.lookup cL = some ⟨.type "code", oe18, .fields vs18, sl18⟩)
    (v11 : vs18[11]? = some (.ref TL))
    (v18 : vs18.getD 18 .none = .str x18 t18)
    (v7 : vs18.getD 7 .none = .int i7 t7)
    (v9 : vs18.getD 9 .none = .bool b9)
    (v10 : vs18.getD 10 .none = .int i10 t10)
    (nCT : (cL != TL) = true)
    (noT : K.lookup TL = none)
    (n_isinstance : PySem.W.nsIn K mainGlobals "isinstance" = some none)
    (n_len : PySem.W.nsIn K mainGlobals "len" = some none)
    (n_all : PySem.W.nsIn K mainGlobals "all" = some none)
    (n_any : PySem.W.nsIn K mainGlobals "any" = some none)
    (n_enumerate : PySem.W.nsIn K mainGlobals "enumerate" = some none)
    (n_range : PySem.W.nsIn K mainGlobals "range" = some none)
    (n_int : PySem.W.nsIn K mainGlobals "int" = some none)
    (n_bool : PySem.W.nsIn K mainGlobals "bool" = some none)
    (n_str : PySem.W.nsIn K mainGlobals "str" = some none)
    (n_list : PySem.W.nsIn K mainGlobals "list" = some none)
    (n_tuple : PySem.W.nsIn K mainGlobals "tuple" = some none)
    (n_dict : PySem.W.nsIn K mainGlobals "dict" = some none)
    (n_repr : PySem.W.nsIn K mainGlobals "repr" = some none)
    (n_max : PySem.W.nsIn K mainGlobals "max" = some none)
    (n_min : PySem.W.nsIn K mainGlobals "min" = some none)
    (n_sum : PySem.W.nsIn K mainGlobals "sum" = some none)
    (n_sorted : PySem.W.nsIn K mainGlobals "sorted" = some none)
    (i_MOST_PLACE : PySem.W.nsIn K mainGlobals "MOST_PLACE" = some (some (.int 100 t_MOST_PLACE)))
    (i_MOST_PANELS : PySem.W.nsIn K mainGlobals "MOST_PANELS" = some (some (.int 12 t_MOST_PANELS)))
    (i_MOST_SEAMS : PySem.W.nsIn K mainGlobals "MOST_SEAMS" = some (some (.int 18 t_MOST_SEAMS)))
    (x_C1 : PySem.W.nsIn K mainGlobals "BadPanels" = some (some (.ref C1)))
    (xl_C1 : K.lookup C1 = some (excClassObj nm_C1 q_C1 C1 N_C1 bs_C1 bm_C1 true sn_C1 sub_C1 ab_C1 col_C1 dd_C1 m0_C1 m1_C1 m2_C1 m3_C1 m5_C1 "ValueError.__new__"))
    (xr_C1 : PySem.HandSPX.refsVE bm_C1 = true)
    (xs_C1 : PySem.W.findIn K (.ref C1) "__setattr__" = some (some (.builtin "object.__setattr__")))
    (xe_C1 : PySem.W.subIn K (.ref C1) (.type "BaseException") = some true)
    (xt_C1 : PySem.W.typeIn K (.ref C1) = some (.type "type"))
    (xk_C1 : PySem.W.keepIn K (.ref C1) = true)
    (xv_C1 : PySem.W.findIn K (.ref C1) "value" = some none)
    (xi_C1 : PySem.W.findIn K (.ref C1) "__init__" = some (some (.ref fI)))
    (tI : PySem.W.typeIn K (.ref fI) = some (.type "function"))
    (xa_C1 : PySem.W.findIn K (.ref C1) "__getattribute__" = some (some (.builtin "BaseException.__getattribute__")))
    (xg_C1 : PySem.W.findIn K (.ref C1) "__getattr__" = some none)
    (xh_C1 : PySem.W.hasDictIn K C1 = true)
    (xc_C1 : PySem.W.isClsIn K C1 = true)
    (xx_C1_C1 : PySem.W.subIn K (.ref C1) (.ref C1) = some true)
    (x_C2 : PySem.W.nsIn K mainGlobals "BadSeams" = some (some (.ref C2)))
    (xl_C2 : K.lookup C2 = some (excClassObj nm_C2 q_C2 C2 N_C2 bs_C2 bm_C2 true sn_C2 sub_C2 ab_C2 col_C2 dd_C2 m0_C2 m1_C2 m2_C2 m3_C2 m5_C2 "ValueError.__new__"))
    (xr_C2 : PySem.HandSPX.refsVE bm_C2 = true)
    (xs_C2 : PySem.W.findIn K (.ref C2) "__setattr__" = some (some (.builtin "object.__setattr__")))
    (xe_C2 : PySem.W.subIn K (.ref C2) (.type "BaseException") = some true)
    (xt_C2 : PySem.W.typeIn K (.ref C2) = some (.type "type"))
    (xk_C2 : PySem.W.keepIn K (.ref C2) = true)
    (xv_C2 : PySem.W.findIn K (.ref C2) "value" = some none)
    (xi_C2 : PySem.W.findIn K (.ref C2) "__init__" = some (some (.ref fI)))
    (xa_C2 : PySem.W.findIn K (.ref C2) "__getattribute__" = some (some (.builtin "BaseException.__getattribute__")))
    (xg_C2 : PySem.W.findIn K (.ref C2) "__getattr__" = some none)
    (xh_C2 : PySem.W.hasDictIn K C2 = true)
    (xc_C2 : PySem.W.isClsIn K C2 = true)
    (xx_C2_C1 : PySem.W.subIn K (.ref C2) (.ref C1) = some false)
    (xx_C2_C2 : PySem.W.subIn K (.ref C2) (.ref C2) = some true)
    (lI : K.lookup fI = some ⟨ocI, odI, .func (PySem.W.fnOf "__init__" "SailError.__init__" (defArgs s_SailError___init__) (defBody s_SailError___init__) (defScope s_SailError___init__) (.ref TI) kVI dcI pmI anI cdI ctI), slI⟩)
    (cI : PySem.W.codeIn K cdI "SailError.__init__" = true)
    (kI : PySem.W.keepIn K (.ref fI) = true)
    (lT : K.lookup TI = some ⟨ocT, odT, .seq #[.none] nT, slT⟩)
    (g_CS : PySem.W.nsIn K mainGlobals "Sail" = some (some (.ref CS)))
    (pg_CS : PySem.W.plainGet K CS Str.empty = true)
    (hd_CS : PySem.W.hasDictIn K CS = true)
    (po_CS : PySem.W.plainOver K CS = true)
    (sa_CS : PySem.W.findIn K (.ref CS) "__setattr__" = some (some (.builtin "object.__setattr__")))
    (mk_CS : PySem.W.makesIn K CS = true)
    (kp_CS : PySem.W.keepIn K (.ref CS) = true)
    (qa_CS : PySem.W.findIn K (.ref CS) "__class__" = some (some (.builtin "object.__class__")))
    (qn_CS : PySem.W.specialIn K (.builtin "object.__class__") "__get__" = some (some (.builtin "getset_descriptor.__get__")))
    (qt_CS : PySem.W.takesIn K (.builtin "object.__class__") = some true)
    (qm_CS : PySem.W.mroIn K CS (.type "object") = some true)
    (qc_CS : PySem.W.isClsIn K CS = true)
    (qy_CS : PySem.W.typeIn K (.ref CS) = some (.type "type"))
    (qe_CS : PySem.W.findIn K (.ref CS) "__ne__" = some (some (.builtin "object.__ne__")))
    (na_CS_sewn : PySem.W.findIn K (.ref CS) "sewn" = some none)
    (na_CS_panels : PySem.W.findIn K (.ref CS) "panels" = some none)
    (na_CS_seams : PySem.W.findIn K (.ref CS) "seams" = some none)
    (at_Sail___init__ : PySem.W.findIn K (.ref CS) "__init__" = some (some (.ref f_Sail___init__)))
    (fn_Sail___init__ : PySem.W.isFn K (.ref f_Sail___init__) = true)
    (l_Sail___init__ : K.lookup f_Sail___init__ = some ⟨oc_Sail___init__, od_Sail___init__, .func (PySem.W.fnOf "__init__" "Sail.__init__" (defArgs s_Sail___init__) (defBody s_Sail___init__) (defScope s_Sail___init__) .none kV_Sail___init__ dc_Sail___init__ pm_Sail___init__ an_Sail___init__ cd_Sail___init__ ct_Sail___init__), sl_Sail___init__⟩)
    (c_Sail___init__ : PySem.W.codeIn K cd_Sail___init__ "Sail.__init__" = true)
    (k_Sail___init__ : PySem.W.keepIn K (.ref f_Sail___init__) = true)
    (at_Sail___eq__ : PySem.W.findIn K (.ref CS) "__eq__" = some (some (.ref f_Sail___eq__)))
    (fn_Sail___eq__ : PySem.W.isFn K (.ref f_Sail___eq__) = true)
    (l_Sail___eq__ : K.lookup f_Sail___eq__ = some ⟨oc_Sail___eq__, od_Sail___eq__, .func (PySem.W.fnOf "__eq__" "Sail.__eq__" (defArgs s_Sail___eq__) (defBody s_Sail___eq__) (defScope s_Sail___eq__) .none kV_Sail___eq__ dc_Sail___eq__ pm_Sail___eq__ an_Sail___eq__ cd_Sail___eq__ ct_Sail___eq__), sl_Sail___eq__⟩)
    (c_Sail___eq__ : PySem.W.codeIn K cd_Sail___eq__ "Sail.__eq__" = true)
    (k_Sail___eq__ : PySem.W.keepIn K (.ref f_Sail___eq__) = true)
    (at_Sail_beside : PySem.W.findIn K (.ref CS) "beside" = some (some (.ref f_Sail_beside)))
    (fn_Sail_beside : PySem.W.isFn K (.ref f_Sail_beside) = true)
    (l_Sail_beside : K.lookup f_Sail_beside = some ⟨oc_Sail_beside, od_Sail_beside, .func (PySem.W.fnOf "beside" "Sail.beside" (defArgs s_Sail_beside) (defBody s_Sail_beside) (defScope s_Sail_beside) .none kV_Sail_beside dc_Sail_beside pm_Sail_beside an_Sail_beside cd_Sail_beside ct_Sail_beside), sl_Sail_beside⟩)
    (c_Sail_beside : PySem.W.codeIn K cd_Sail_beside "Sail.beside" = true)
    (k_Sail_beside : PySem.W.keepIn K (.ref f_Sail_beside) = true)
    (at_Sail_reached : PySem.W.findIn K (.ref CS) "reached" = some (some (.ref f_Sail_reached)))
    (fn_Sail_reached : PySem.W.isFn K (.ref f_Sail_reached) = true)
    (l_Sail_reached : K.lookup f_Sail_reached = some ⟨oc_Sail_reached, od_Sail_reached, .func (PySem.W.fnOf "reached" "Sail.reached" (defArgs s_Sail_reached) (defBody s_Sail_reached) (defScope s_Sail_reached) .none kV_Sail_reached dc_Sail_reached pm_Sail_reached an_Sail_reached cd_Sail_reached ct_Sail_reached), sl_Sail_reached⟩)
    (c_Sail_reached : PySem.W.codeIn K cd_Sail_reached "Sail.reached" = true)
    (k_Sail_reached : PySem.W.keepIn K (.ref f_Sail_reached) = true)
    (at_Sail_sides : PySem.W.findIn K (.ref CS) "sides" = some (some (.ref f_Sail_sides)))
    (fn_Sail_sides : PySem.W.isFn K (.ref f_Sail_sides) = true)
    (l_Sail_sides : K.lookup f_Sail_sides = some ⟨oc_Sail_sides, od_Sail_sides, .func (PySem.W.fnOf "sides" "Sail.sides" (defArgs s_Sail_sides) (defBody s_Sail_sides) (defScope s_Sail_sides) .none kV_Sail_sides dc_Sail_sides pm_Sail_sides an_Sail_sides cd_Sail_sides ct_Sail_sides), sl_Sail_sides⟩)
    (c_Sail_sides : PySem.W.codeIn K cd_Sail_sides "Sail.sides" = true)
    (k_Sail_sides : PySem.W.keepIn K (.ref f_Sail_sides) = true)
    (at_Sail_near_corners : PySem.W.findIn K (.ref CS) "near_corners" = some (some (.ref f_Sail_near_corners)))
    (fn_Sail_near_corners : PySem.W.isFn K (.ref f_Sail_near_corners) = true)
    (l_Sail_near_corners : K.lookup f_Sail_near_corners = some ⟨oc_Sail_near_corners, od_Sail_near_corners, .func (PySem.W.fnOf "near_corners" "Sail.near_corners" (defArgs s_Sail_near_corners) (defBody s_Sail_near_corners) (defScope s_Sail_near_corners) .none kV_Sail_near_corners dc_Sail_near_corners pm_Sail_near_corners an_Sail_near_corners cd_Sail_near_corners ct_Sail_near_corners), sl_Sail_near_corners⟩)
    (c_Sail_near_corners : PySem.W.codeIn K cd_Sail_near_corners "Sail.near_corners" = true)
    (k_Sail_near_corners : PySem.W.keepIn K (.ref f_Sail_near_corners) = true)
    (at_Sail_point_of : PySem.W.findIn K (.ref CS) "point_of" = some (some (.ref f_Sail_point_of)))
    (fn_Sail_point_of : PySem.W.isFn K (.ref f_Sail_point_of) = true)
    (l_Sail_point_of : K.lookup f_Sail_point_of = some ⟨oc_Sail_point_of, od_Sail_point_of, .func (PySem.W.fnOf "point_of" "Sail.point_of" (defArgs s_Sail_point_of) (defBody s_Sail_point_of) (defScope s_Sail_point_of) .none kV_Sail_point_of dc_Sail_point_of pm_Sail_point_of an_Sail_point_of cd_Sail_point_of ct_Sail_point_of), sl_Sail_point_of⟩)
    (c_Sail_point_of : PySem.W.codeIn K cd_Sail_point_of "Sail.point_of" = true)
    (k_Sail_point_of : PySem.W.keepIn K (.ref f_Sail_point_of) = true) : ∃ c T, LawFn K fa c T ∧ LawRun P w K mg fa c T := by
  have e := hfa.symm.trans (PySem.W.mg_of X G a_law)
  cases e
  have T : ∀ base, Tx P w K mg base C1 C2 fI CS := fun base =>
    { d_is_integer := ⟨f_is_integer, _, fun_mk l_is_integer c_is_integer k_is_integer, PySem.W.mg_of X G a_is_integer⟩,
      d_is_within := ⟨f_is_within, _, fun_mk l_is_within c_is_within k_is_within, PySem.W.mg_of X G a_is_within⟩,
      d_is_row := ⟨f_is_row, _, fun_mk l_is_row c_is_row k_is_row, PySem.W.mg_of X G a_is_row⟩,
      d_is_tuple_of := ⟨f_is_tuple_of, _, fun_mk l_is_tuple_of c_is_tuple_of k_is_tuple_of, PySem.W.mg_of X G a_is_tuple_of⟩,
      d_is_point := ⟨f_is_point, _, fun_mk l_is_point c_is_point k_is_point, PySem.W.mg_of X G a_is_point⟩,
      d_crossed := ⟨f_crossed, _, fun_mk l_crossed c_crossed k_crossed, PySem.W.mg_of X G a_crossed⟩,
      d_is_panel := ⟨f_is_panel, _, fun_mk l_is_panel c_is_panel k_is_panel, PySem.W.mg_of X G a_is_panel⟩,
      d_long_of := ⟨f_long_of, _, fun_mk l_long_of c_long_of k_long_of, PySem.W.mg_of X G a_long_of⟩,
      d_is_seam := ⟨f_is_seam, _, fun_mk l_is_seam c_is_seam k_is_seam, PySem.W.mg_of X G a_is_seam⟩,
      d_points := ⟨f_points, _, fun_mk l_points c_points k_points, PySem.W.mg_of X G a_points⟩,
      d_rim := ⟨f_rim, _, fun_mk l_rim c_rim k_rim, PySem.W.mg_of X G a_rim⟩,
      d_rim_ahead := ⟨f_rim_ahead, _, fun_mk l_rim_ahead c_rim_ahead k_rim_ahead, PySem.W.mg_of X G a_rim_ahead⟩,
      d_rims := ⟨f_rims, _, fun_mk l_rims c_rims k_rims, PySem.W.mg_of X G a_rims⟩,
      d_holes := ⟨f_holes, _, fun_mk l_holes c_holes k_holes, PySem.W.mg_of X G a_holes⟩,
      d__law_taken := ⟨f__law_taken, _, fun_mk l__law_taken c__law_taken k__law_taken, PySem.W.mg_of X G a__law_taken⟩,
      d__law_pick := ⟨f__law_pick, _, fun_mk l__law_pick c__law_pick k__law_pick, PySem.W.mg_of X G a__law_pick⟩,
      d__law_alike := ⟨f__law_alike, _, fun_mk l__law_alike c__law_alike k__law_alike, PySem.W.mg_of X G a__law_alike⟩,
      d__law_long := ⟨f__law_long, _, fun_mk l__law_long c__law_long k__law_long, PySem.W.mg_of X G a__law_long⟩,
      d__law_area := ⟨f__law_area, _, fun_mk l__law_area c__law_area k__law_area, PySem.W.mg_of X G a__law_area⟩,
      d__law_free := ⟨f__law_free, _, fun_mk l__law_free c__law_free k__law_free, PySem.W.mg_of X G a__law_free⟩,
      d__law_drawn_panel := ⟨f__law_drawn_panel, _, fun_mk l__law_drawn_panel c__law_drawn_panel k__law_drawn_panel, PySem.W.mg_of X G a__law_drawn_panel⟩,
      d__law_sail := ⟨f__law_sail, _, fun_mk l__law_sail c__law_sail k__law_sail, PySem.W.mg_of X G a__law_sail⟩,
      d__law_points := ⟨f__law_points, _, fun_mk l__law_points c__law_points k__law_points, PySem.W.mg_of X G a__law_points⟩,
      d__law_wrong := ⟨f__law_wrong, _, fun_mk l__law_wrong c__law_wrong k__law_wrong, PySem.W.mg_of X G a__law_wrong⟩,
      d__law_ahead := ⟨f__law_ahead, _, fun_mk l__law_ahead c__law_ahead k__law_ahead, PySem.W.mg_of X G a__law_ahead⟩,
      d__law_refused := ⟨f__law_refused, _, fun_mk l__law_refused c__law_refused k__law_refused, PySem.W.mg_of X G a__law_refused⟩,
      b_isinstance := PySem.W.mg_none_of X G n_isinstance,
      b_len := PySem.W.mg_none_of X G n_len,
      b_all := PySem.W.mg_none_of X G n_all,
      b_any := PySem.W.mg_none_of X G n_any,
      b_enumerate := PySem.W.mg_none_of X G n_enumerate,
      b_range := PySem.W.mg_none_of X G n_range,
      b_int := PySem.W.mg_none_of X G n_int,
      b_bool := PySem.W.mg_none_of X G n_bool,
      b_str := PySem.W.mg_none_of X G n_str,
      b_list := PySem.W.mg_none_of X G n_list,
      b_tuple := PySem.W.mg_none_of X G n_tuple,
      b_dict := PySem.W.mg_none_of X G n_dict,
      b_repr := PySem.W.mg_none_of X G n_repr,
      b_max := PySem.W.mg_none_of X G n_max,
      b_min := PySem.W.mg_none_of X G n_min,
      b_sum := PySem.W.mg_none_of X G n_sum,
      b_sorted := PySem.W.mg_none_of X G n_sorted,
      k_MOST_PLACE := ⟨_, PySem.W.mg_of X G i_MOST_PLACE⟩,
      k_MOST_PANELS := ⟨_, PySem.W.mg_of X G i_MOST_PANELS⟩,
      k_MOST_SEAMS := ⟨_, PySem.W.mg_of X G i_MOST_SEAMS⟩,
      e_BadPanels := ⟨PySem.W.mg_of X G x_C1, ⟨⟨_, _, _, _, _, _, _, _, _, _, _, _, _, _, _, xl_C1, xr_C1⟩, xs_C1, xe_C1, xt_C1, xk_C1⟩, xv_C1, xi_C1, tI, ⟨xa_C1, xg_C1, xe_C1, xh_C1⟩⟩,
      told1 := ⟨true, exm_of xe_C1 xc_C1 xt_C1 xx_C1_C1, fun _ => ⟨rfl, rfl⟩, fun z => by cases z⟩,
      e_BadSeams := ⟨PySem.W.mg_of X G x_C2, ⟨⟨_, _, _, _, _, _, _, _, _, _, _, _, _, _, _, xl_C2, xr_C2⟩, xs_C2, xe_C2, xt_C2, xk_C2⟩, xv_C2, xi_C2, tI, ⟨xa_C2, xg_C2, xe_C2, xh_C2⟩⟩,
      told2 := ⟨false, exm_of xe_C1 xc_C1 xt_C1 xx_C2_C1, (fun z => by cases z), fun _ => ⟨true, exm_of xe_C2 xc_C2 xt_C2 xx_C2_C2, fun _ => ⟨rfl, rfl⟩, fun z => by cases z⟩⟩,
      ini := iniF_mk (st := s_SailError___init__) ⟨⟨_, _, _, _, _, _, _, _, _, _, rfl, lI, cI, .inr ⟨by simp, _, _, [.none], _, rfl, lT, rfl, .cons rfl .nil⟩, .inl rfl⟩, kI⟩ sc_SailError___init__ rfl rfl (fun _ _ _ _ _ _ _ us its h1 h2 => match us, its, h1, h2 with | [_, _], [_], _, _ => ⟨_, rfl, rfl⟩),
      q_Sail := ⟨⟨pg_CS, hd_CS, po_CS, sa_CS⟩, qa_CS, qn_CS, qt_CS, qm_CS, qc_CS, qy_CS, qe_CS⟩,
      a_sewn := na_CS_sewn,
      a_panels := na_CS_panels,
      a_seams := na_CS_seams,
      k_Sail := ⟨⟨f_Sail___init__, _, fun_mk l_Sail___init__ c_Sail___init__ k_Sail___init__, ⟨mk_CS, at_Sail___init__, fn_Sail___init__, kp_CS⟩⟩, PySem.W.mg_of X G g_CS⟩,
      m___eq__ := ⟨⟨f_Sail___eq__, _, fun_mk l_Sail___eq__ c_Sail___eq__ k_Sail___eq__, ⟨at_Sail___eq__, fn_Sail___eq__, k_Sail___eq__⟩⟩, ⟨pg_CS, hd_CS, po_CS, sa_CS⟩⟩,
      m_beside := ⟨⟨f_Sail_beside, _, fun_mk l_Sail_beside c_Sail_beside k_Sail_beside, ⟨at_Sail_beside, fn_Sail_beside, k_Sail_beside⟩⟩, ⟨pg_CS, hd_CS, po_CS, sa_CS⟩⟩,
      m_reached := ⟨⟨f_Sail_reached, _, fun_mk l_Sail_reached c_Sail_reached k_Sail_reached, ⟨at_Sail_reached, fn_Sail_reached, k_Sail_reached⟩⟩, ⟨pg_CS, hd_CS, po_CS, sa_CS⟩⟩,
      m_sides := ⟨⟨f_Sail_sides, _, fun_mk l_Sail_sides c_Sail_sides k_Sail_sides, ⟨at_Sail_sides, fn_Sail_sides, k_Sail_sides⟩⟩, ⟨pg_CS, hd_CS, po_CS, sa_CS⟩⟩,
      m_near_corners := ⟨⟨f_Sail_near_corners, _, fun_mk l_Sail_near_corners c_Sail_near_corners k_Sail_near_corners, ⟨at_Sail_near_corners, fn_Sail_near_corners, k_Sail_near_corners⟩⟩, ⟨pg_CS, hd_CS, po_CS, sa_CS⟩⟩,
      m_point_of := ⟨⟨f_Sail_point_of, _, fun_mk l_Sail_point_of c_Sail_point_of k_Sail_point_of, ⟨at_Sail_point_of, fn_Sail_point_of, k_Sail_point_of⟩⟩, ⟨pg_CS, hd_CS, po_CS, sa_CS⟩⟩ }
  have F := fun_mk (st := s_law) l_law c_law k_law
  refine ⟨cL, TL, lawFn_mk l_law rfl lc v11 v18 v7 v9 v10 nCT noT, law_run (k := 27) F rfl sc_law (F.binds (ps := ["script"]) fun _ _ _ _ _ _ us hl => match us, hl with | [_], _ => rfl) ⟨rfl, by decide, by decide⟩ fun base s H a ns KB hG tb hr hT naT hS hl hz => ?_⟩
  exact law_body (T base) tb hr hT naT hS
end K11

set_option Elab.async false
set_option linter.all false
open PySem PySem.W PyProof.Rows
set_option maxRecDepth 100000 in
set_option maxHeartbeats 0 in
theorem PySem.Challenge.cw_sailcut_k11_whole_sails_holds : PySem.Challenge.rw_sailcut_k11_whole_sails.Holds := by
  w_on; o_law; k_head; (case hw => w_witness2)
  k_fill
  refine Dl.walk_end rfl rfl (by decide +kernel) (fun w h Y => PySem.W.km_in_of Y) ?F
  case F =>
    intro w mg fa h KX G hmg
    refine' K11.all_mk KX G hmg ?a_is_integer ?l_is_integer ?c_is_integer ?k_is_integer ?a_is_within ?l_is_within ?c_is_within ?k_is_within ?a_is_row ?l_is_row ?c_is_row ?k_is_row ?a_is_tuple_of ?l_is_tuple_of ?c_is_tuple_of ?k_is_tuple_of ?a_is_point ?l_is_point ?c_is_point ?k_is_point ?a_crossed ?l_crossed ?c_crossed ?k_crossed ?a_is_panel ?l_is_panel ?c_is_panel ?k_is_panel ?a_long_of ?l_long_of ?c_long_of ?k_long_of ?a_is_seam ?l_is_seam ?c_is_seam ?k_is_seam ?a_points ?l_points ?c_points ?k_points ?a_rim ?l_rim ?c_rim ?k_rim ?a_rim_ahead ?l_rim_ahead ?c_rim_ahead ?k_rim_ahead ?a_rims ?l_rims ?c_rims ?k_rims ?a_holes ?l_holes ?c_holes ?k_holes ?a__law_taken ?l__law_taken ?c__law_taken ?k__law_taken ?a__law_pick ?l__law_pick ?c__law_pick ?k__law_pick ?a__law_alike ?l__law_alike ?c__law_alike ?k__law_alike ?a__law_long ?l__law_long ?c__law_long ?k__law_long ?a__law_area ?l__law_area ?c__law_area ?k__law_area ?a__law_free ?l__law_free ?c__law_free ?k__law_free ?a__law_drawn_panel ?l__law_drawn_panel ?c__law_drawn_panel ?k__law_drawn_panel ?a__law_sail ?l__law_sail ?c__law_sail ?k__law_sail ?a__law_points ?l__law_points ?c__law_points ?k__law_points ?a__law_wrong ?l__law_wrong ?c__law_wrong ?k__law_wrong ?a__law_ahead ?l__law_ahead ?c__law_ahead ?k__law_ahead ?a__law_refused ?l__law_refused ?c__law_refused ?k__law_refused ?a_law ?l_law ?c_law ?k_law ?lc ?v11 ?v18 ?v7 ?v9 ?v10 ?nCT ?noT ?n_isinstance ?n_len ?n_all ?n_any ?n_enumerate ?n_range ?n_int ?n_bool ?n_str ?n_list ?n_tuple ?n_dict ?n_repr ?n_max ?n_min ?n_sum ?n_sorted ?i_MOST_PLACE ?i_MOST_PANELS ?i_MOST_SEAMS ?x_C1 ?xl_C1 ?xr_C1 ?xs_C1 ?xe_C1 ?xt_C1 ?xk_C1 ?xv_C1 ?xi_C1 ?tI ?xa_C1 ?xg_C1 ?xh_C1 ?xc_C1 ?xx_C1_C1 ?x_C2 ?xl_C2 ?xr_C2 ?xs_C2 ?xe_C2 ?xt_C2 ?xk_C2 ?xv_C2 ?xi_C2 ?xa_C2 ?xg_C2 ?xh_C2 ?xc_C2 ?xx_C2_C1 ?xx_C2_C2 ?lI ?cI ?kI ?lT ?g_CS ?pg_CS ?hd_CS ?po_CS ?sa_CS ?mk_CS ?kp_CS ?qa_CS ?qn_CS ?qt_CS ?qm_CS ?qc_CS ?qy_CS ?qe_CS ?na_CS_sewn ?na_CS_panels ?na_CS_seams ?at_Sail___init__ ?fn_Sail___init__ ?l_Sail___init__ ?c_Sail___init__ ?k_Sail___init__ ?at_Sail___eq__ ?fn_Sail___eq__ ?l_Sail___eq__ ?c_Sail___eq__ ?k_Sail___eq__ ?at_Sail_beside ?fn_Sail_beside ?l_Sail_beside ?c_Sail_beside ?k_Sail_beside ?at_Sail_reached ?fn_Sail_reached ?l_Sail_reached ?c_Sail_reached ?k_Sail_reached ?at_Sail_sides ?fn_Sail_sides ?l_Sail_sides ?c_Sail_sides ?k_Sail_sides ?at_Sail_near_corners ?fn_Sail_near_corners ?l_Sail_near_corners ?c_Sail_near_corners ?k_Sail_near_corners ?at_Sail_point_of ?fn_Sail_point_of ?l_Sail_point_of ?c_Sail_point_of ?k_Sail_point_of
    (case a_is_integer => k_is)
    (case l_is_integer => k_is)
    (case c_is_integer => k_is)
    (case k_is_integer => k_is)
    (case a_is_within => k_is)
    (case l_is_within => k_is)
    (case c_is_within => k_is)
    (case k_is_within => k_is)
    (case a_is_row => k_is)
    (case l_is_row => k_is)
    (case c_is_row => k_is)
    (case k_is_row => k_is)
    (case a_is_tuple_of => k_is)
    (case l_is_tuple_of => k_is)
    (case c_is_tuple_of => k_is)
    (case k_is_tuple_of => k_is)
    (case a_is_point => k_is)
    (case l_is_point => k_is)
    (case c_is_point => k_is)
    (case k_is_point => k_is)
    (case a_crossed => k_is)
    (case l_crossed => k_is)
    (case c_crossed => k_is)
    (case k_crossed => k_is)
    (case a_is_panel => k_is)
    (case l_is_panel => k_is)
    (case c_is_panel => k_is)
    (case k_is_panel => k_is)
    (case a_long_of => k_is)
    (case l_long_of => k_is)
    (case c_long_of => k_is)
    (case k_long_of => k_is)
    (case a_is_seam => k_is)
    (case l_is_seam => k_is)
    (case c_is_seam => k_is)
    (case k_is_seam => k_is)
    (case a_points => k_is)
    (case l_points => k_is)
    (case c_points => k_is)
    (case k_points => k_is)
    (case a_rim => k_is)
    (case l_rim => k_is)
    (case c_rim => k_is)
    (case k_rim => k_is)
    (case a_rim_ahead => k_is)
    (case l_rim_ahead => k_is)
    (case c_rim_ahead => k_is)
    (case k_rim_ahead => k_is)
    (case a_rims => k_is)
    (case l_rims => k_is)
    (case c_rims => k_is)
    (case k_rims => k_is)
    (case a_holes => k_is)
    (case l_holes => k_is)
    (case c_holes => k_is)
    (case k_holes => k_is)
    (case a__law_taken => k_is)
    (case l__law_taken => k_is)
    (case c__law_taken => k_is)
    (case k__law_taken => k_is)
    (case a__law_pick => k_is)
    (case l__law_pick => k_is)
    (case c__law_pick => k_is)
    (case k__law_pick => k_is)
    (case a__law_alike => k_is)
    (case l__law_alike => k_is)
    (case c__law_alike => k_is)
    (case k__law_alike => k_is)
    (case a__law_long => k_is)
    (case l__law_long => k_is)
    (case c__law_long => k_is)
    (case k__law_long => k_is)
    (case a__law_area => k_is)
    (case l__law_area => k_is)
    (case c__law_area => k_is)
    (case k__law_area => k_is)
    (case a__law_free => k_is)
    (case l__law_free => k_is)
    (case c__law_free => k_is)
    (case k__law_free => k_is)
    (case a__law_drawn_panel => k_is)
    (case l__law_drawn_panel => k_is)
    (case c__law_drawn_panel => k_is)
    (case k__law_drawn_panel => k_is)
    (case a__law_sail => k_is)
    (case l__law_sail => k_is)
    (case c__law_sail => k_is)
    (case k__law_sail => k_is)
    (case a__law_points => k_is)
    (case l__law_points => k_is)
    (case c__law_points => k_is)
    (case k__law_points => k_is)
    (case a__law_wrong => k_is)
    (case l__law_wrong => k_is)
    (case c__law_wrong => k_is)
    (case k__law_wrong => k_is)
    (case a__law_ahead => k_is)
    (case l__law_ahead => k_is)
    (case c__law_ahead => k_is)
    (case k__law_ahead => k_is)
    (case a__law_refused => k_is)
    (case l__law_refused => k_is)
    (case c__law_refused => k_is)
    (case k__law_refused => k_is)
    (case a_law => k_is)
    (case l_law => k_is)
    (case c_law => k_is)
    (case k_law => k_is)
    (case lc => k_is)
    (case v11 => rfl)
    (case v18 => rfl)
    (case v7 => rfl)
    (case v9 => rfl)
    (case v10 => rfl)
    (case nCT => decide)
    (case noT => kernel_rfl)
    (case n_isinstance => k_is)
    (case n_len => k_is)
    (case n_all => k_is)
    (case n_any => k_is)
    (case n_enumerate => k_is)
    (case n_range => k_is)
    (case n_int => k_is)
    (case n_bool => k_is)
    (case n_str => k_is)
    (case n_list => k_is)
    (case n_tuple => k_is)
    (case n_dict => k_is)
    (case n_repr => k_is)
    (case n_max => k_is)
    (case n_min => k_is)
    (case n_sum => k_is)
    (case n_sorted => k_is)
    (case i_MOST_PLACE => k_is)
    (case i_MOST_PANELS => k_is)
    (case i_MOST_SEAMS => k_is)
    (case x_C1 => k_is)
    (case xl_C1 => k_is)
    (case xr_C1 => decide +kernel)
    (case xs_C1 => k_is)
    (case xe_C1 => k_is)
    (case xt_C1 => k_is)
    (case xk_C1 => k_is)
    (case xv_C1 => k_is)
    (case xi_C1 => k_is)
    (case tI => k_is)
    (case xa_C1 => k_is)
    (case xg_C1 => k_is)
    (case xh_C1 => k_is)
    (case xc_C1 => k_is)
    (case xx_C1_C1 => k_is)
    (case x_C2 => k_is)
    (case xl_C2 => k_is)
    (case xr_C2 => decide +kernel)
    (case xs_C2 => k_is)
    (case xe_C2 => k_is)
    (case xt_C2 => k_is)
    (case xk_C2 => k_is)
    (case xv_C2 => k_is)
    (case xi_C2 => k_is)
    (case xa_C2 => k_is)
    (case xg_C2 => k_is)
    (case xh_C2 => k_is)
    (case xc_C2 => k_is)
    (case xx_C2_C1 => k_is)
    (case xx_C2_C2 => k_is)
    (case lI => k_is)
    (case cI => k_is)
    (case kI => k_is)
    (case lT => k_is)
    (case g_CS => k_is)
    (case pg_CS => k_is)
    (case hd_CS => k_is)
    (case po_CS => k_is)
    (case sa_CS => k_is)
    (case mk_CS => k_is)
    (case kp_CS => k_is)
    (case qa_CS => k_is)
    (case qn_CS => k_is)
    (case qt_CS => k_is)
    (case qm_CS => k_is)
    (case qc_CS => k_is)
    (case qy_CS => k_is)
    (case qe_CS => k_is)
    (case na_CS_sewn => k_is)
    (case na_CS_panels => k_is)
    (case na_CS_seams => k_is)
    (case at_Sail___init__ => k_is)
    (case fn_Sail___init__ => k_is)
    (case l_Sail___init__ => k_is)
    (case c_Sail___init__ => k_is)
    (case k_Sail___init__ => k_is)
    (case at_Sail___eq__ => k_is)
    (case fn_Sail___eq__ => k_is)
    (case l_Sail___eq__ => k_is)
    (case c_Sail___eq__ => k_is)
    (case k_Sail___eq__ => k_is)
    (case at_Sail_beside => k_is)
    (case fn_Sail_beside => k_is)
    (case l_Sail_beside => k_is)
    (case c_Sail_beside => k_is)
    (case k_Sail_beside => k_is)
    (case at_Sail_reached => k_is)
    (case fn_Sail_reached => k_is)
    (case l_Sail_reached => k_is)
    (case c_Sail_reached => k_is)
    (case k_Sail_reached => k_is)
    (case at_Sail_sides => k_is)
    (case fn_Sail_sides => k_is)
    (case l_Sail_sides => k_is)
    (case c_Sail_sides => k_is)
    (case k_Sail_sides => k_is)
    (case at_Sail_near_corners => k_is)
    (case fn_Sail_near_corners => k_is)
    (case l_Sail_near_corners => k_is)
    (case c_Sail_near_corners => k_is)
    (case k_Sail_near_corners => k_is)
    (case at_Sail_point_of => k_is)
    (case fn_Sail_point_of => k_is)
    (case l_Sail_point_of => k_is)
    (case c_Sail_point_of => k_is)
    (case k_Sail_point_of => k_is)
